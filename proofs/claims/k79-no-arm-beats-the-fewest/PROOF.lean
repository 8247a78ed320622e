import PyProof.Rows.All
import Wide.All
import OpenK.AllK
import Wide.FinOn
import HandS.Base
import HandS.Call
import HandS.List
import HandS.Comp
import HandS.Ends
import HandS.Words
import HandS.Wide
import HandS.Lambda
import HandS.SetIn
import HandS.Gcd
import HandS.IsInst
import HandS.Conv
import HandS.TupAny
import HandS.WideBits
import HandS.Iter
import HandS.RaiseMore
import HandS.Deep
import HandS.ForMost
import HandS.Zip
import HandS.Style
import HandS.Star
import KE.GoesEnum
import HandS.NoneIn
import HandS.Dict
import HandS.TupSets
import KE.KSortTupG
import KE.KStateDown
import HandS.Exc
import HandS.ExcIs
import KE.KTryMore
import HandS.Head0
import HandS.Head1
import HandS.Head2
import HandS.Head3
import HandS.HeadHook1
import HandS.ExcOwn
import HandS.TryOnly
import HandS.TupMul
import HandS.ForExc
import HandS.SetFor
import HandS.Strs
import KE.GoesMore
import PyProof.SeqIndex
import PyProof.WalksMore
import PyProof.MinMaxWalk
import HandS.More
import HandS.RevRange
import PySem.Challenge.RW_drawarms_k79_whole_no_arm_beats_the_fewe
set_option Elab.async false
set_option linter.all false
set_option maxRecDepth 100000
set_option maxHeartbeats 0
namespace L2.G
/-- the defs that make lambdas -/
def lamNames : List PySem.Str := []
end L2.G
namespace L2.G
open PySem PySem.Spec PyProof.Rows

/-! data: what a Python value is, without the heap -/
inductive D where
  | non | bl (b : Bool) | int (i : Int) | str (x : Str) | tup (xs : List D) | lst (xs : List D)
  | obj (c : Str) (ns : List Str) (vs : List D) | ref (x : Str) | scr (xs : List D) | dct (ks : List Key) (ds : List D)

mutual
inductive Rep (K : PySem.W.Frag) (F : Hp) : D → V → Prop
  | non : Rep K F .non .non
  | bl (b : Bool) : Rep K F (.bl b) (.bl b)
  | int (i : Int) : Rep K F (.int i) (.int i)
  | str (x : Str) : Rep K F (.str x) (.str x)
  | tup {a : Addr} {xs : List V} {ds : List D} : SqT K F a xs → RepL K F ds xs → Rep K F (.tup ds) (.ref a)
  | lst {a : Addr} {xs : List V} {ds : List D} : F a = some (.lst xs) → RepL K F ds xs → Rep K F (.lst ds) (.ref a)
  | obj {a C dx : Addr} {c : Str} {fs : List (Str × V)} {ns : List Str} {ds : List D} : F a = some (.ins C dx fs) → PySem.W.nsIn K mainGlobals c = some (some (.ref C)) → fs.map (·.1) = ns → RepL K F ds (fs.map (·.2)) → Rep K F (.obj c ns ds) (.ref a)
  | ref (x : Str) {a : Addr} : PySem.W.nsIn K mainGlobals x = some (some (.ref a)) → (K.lookup a).isSome = true → Rep K F (.ref x) (.ref a)
  | scr {a : Addr} {xs : List V} {ds : List D} : SqL K F a xs → RepL K F ds xs → Rep K F (.scr ds) (.ref a)
  | dct {a : Addr} {kvs : List (Key × V)} {ks : List Key} {ds : List D} : F a = some (.dK kvs) → kvs.map (·.1) = ks → RepL K F ds (kvs.map (·.2)) → Rep K F (.dct ks ds) (.ref a)
inductive RepL (K : PySem.W.Frag) (F : Hp) : List D → List V → Prop
  | nil : RepL K F [] []
  | cons {d : D} {ds : List D} {v : V} {vs : List V} : Rep K F d v → RepL K F ds vs → RepL K F (d :: ds) (v :: vs)
end

theorem same_t {K : PySem.W.Frag} {F F' : Hp} {a : Addr} {xs : List V} (e : Same F F') (h : SqT K F a xs) : SqT K F' a xs := by
  rcases h with (h | ⟨o, h⟩) | h
  · left; left; exact e _ _ h
  · left; right; exact ⟨o, e _ _ h⟩
  · right; exact h

mutual
theorem Rep.mono {K : PySem.W.Frag} {F F' : Hp} (e : Same F F') : ∀ {d : D} {v : V}, Rep K F d v → Rep K F' d v
  | _, _, .non => .non
  | _, _, .bl b => .bl b
  | _, _, .int i => .int i
  | _, _, .str x => .str x
  | _, _, .tup h q => .tup (same_t e h) (RepL.mono e q)
  | _, _, .lst h q => .lst (e _ _ h) (RepL.mono e q)
  | _, _, .obj h m n q => .obj (e _ _ h) m n (RepL.mono e q)
  | _, _, .ref x h q => .ref x h q
  | _, _, .scr h q => .scr (e.seq h) (RepL.mono e q)
  | _, _, .dct h n q => .dct (e _ _ h) n (RepL.mono e q)
theorem RepL.mono {K : PySem.W.Frag} {F F' : Hp} (e : Same F F') : ∀ {ds : List D} {vs : List V}, RepL K F ds vs → RepL K F' ds vs
  | _, _, .nil => .nil
  | _, _, .cons h q => .cons (Rep.mono e h) (RepL.mono e q)
end
theorem RepL.len {K : PySem.W.Frag} {F : Hp} : ∀ {ds : List D} {vs : List V}, RepL K F ds vs → ds.length = vs.length
  | _, _, .nil => rfl
  | _, _, .cons _ q => by simp [RepL.len q]
theorem RepL.get {K : PySem.W.Frag} {F : Hp} : ∀ {ds : List D} {vs : List V} {i : Nat} {d : D}, RepL K F ds vs → ds[i]? = some d → ∃ v, vs[i]? = some v ∧ Rep K F d v
  | _, _, _, _, .nil, e => by simp at e
  | _, _, 0, _, .cons h _, e => by simp at e; subst e; exact ⟨_, rfl, h⟩
  | _, _, i + 1, _, .cons _ q, e => by
    obtain ⟨v, h1, h2⟩ := RepL.get (i := i) q (by simpa using e)
    exact ⟨v, by simpa using h1, h2⟩
theorem RepL.getV {K : PySem.W.Frag} {F : Hp} : ∀ {ds : List D} {vs : List V} {i : Nat} {v : V}, RepL K F ds vs → vs[i]? = some v → ∃ d, ds[i]? = some d ∧ Rep K F d v
  | _, _, _, _, .nil, e => by simp at e
  | _, _, 0, _, .cons h _, e => by simp at e; subst e; exact ⟨_, rfl, h⟩
  | _, _, i + 1, _, .cons _ q, e => by
    obtain ⟨v, h1, h2⟩ := RepL.getV (i := i) q (by simpa using e)
    exact ⟨v, by simpa using h1, h2⟩
theorem RepL.app {K : PySem.W.Frag} {F : Hp} : ∀ {ds es : List D} {vs ws : List V}, RepL K F ds vs → RepL K F es ws → RepL K F (ds ++ es) (vs ++ ws)
  | _, _, _, _, .nil, q => q
  | _, _, _, _, .cons h t, q => .cons h (RepL.app t q)
theorem RepL.take {K : PySem.W.Frag} {F : Hp} : ∀ {ds : List D} {vs : List V} (n : Nat), RepL K F ds vs → RepL K F (ds.take n) (vs.take n)
  | _, _, 0, _ => .nil
  | _, _, _ + 1, .nil => .nil
  | _, _, n + 1, .cons h t => .cons h (RepL.take n t)
theorem RepL.drop {K : PySem.W.Frag} {F : Hp} : ∀ {ds : List D} {vs : List V} (n : Nat), RepL K F ds vs → RepL K F (ds.drop n) (vs.drop n)
  | _, _, 0, q => q
  | _, _, _ + 1, .nil => .nil
  | _, _, n + 1, .cons _ t => RepL.drop n t
theorem RepL.set {K : PySem.W.Frag} {F : Hp} {d : D} {v : V} (r : Rep K F d v) : ∀ {ds : List D} {vs : List V} (n : Nat), RepL K F ds vs → RepL K F (ds.set n d) (vs.set n v)
  | _, _, _, .nil => .nil
  | _, _, 0, .cons _ t => .cons r t
  | _, _, n + 1, .cons h t => .cons h (RepL.set r n t)

/-! slots, worlds -/
/-- what instances of own classes keep, in order -/
def flds (c : Str) : List Str := if c = "Parts" then ["goal", "source", "stretch", "way"] else if c = "Lot" then ["_tree", "_rounds"] else if c = "Stand" then ["arms", "asked", "past"] else []
abbrev Tk := List D
inductive SV where
  | val (d : D) | own (xs : List D) | tank | exc (a : Addr) (g : Option (Addr × Str × D)) | fn (f c : Addr) (q : Str) | ptup (ds : List D) | me (a : Addr) (c : Str) (ds : List D)
/-- what this def alone has in its hands -/
def SV.mine : SV → Bool
  | .own _ => true | .me _ _ _ => true | _ => false
abbrev En := List (Option SV)
abbrev KD := D → Tk → Prop
abbrev dE := En → Tk → KD → Prop
abbrev dT := En → Tk → (Bool → Tk → Prop) → Prop
abbrev dA := En → Tk → (List SV → Tk → Prop) → Prop
structure dEnds where
  nx : En → Tk → Prop
  rt : KD
  bk : En → Tk → Prop
  ct : En → Tk → Prop
abbrev dS := dEnds → En → Tk → Prop

/-- the table of the code objects that the def x makes -/
def tabOf (K : PySem.W.Frag) (x : Str) : Option (Addr × Str) := match PySem.W.nsIn K mainGlobals x with
  | some (some (.ref f)) => (match K.lookup f with
    | some ⟨_, _, .func fd, _⟩ => (match fd.code with
      | .ref c => (match K.lookup c with
        | some ⟨_, _, .fields vs, _⟩ => (match (vs[11]? : Option Value) with
          | some (.ref P) => some (P, x ++ ".<locals>." ++ "<lambda>")
          | _ => none)
        | _ => none)
      | _ => none)
    | _ => none)
  | _ => none
def tabsOf (K : PySem.W.Frag) : List (Addr × Str) := lamNames.filterMap (tabOf K)
/-- no table -/
def noTb (o : HO) : Prop := ∀ ps, o ≠ .tbl ps
structure TabsK (K : PySem.W.Frag) (F H : Hp) : Prop where
  none : ∀ p ∈ tabsOf K, F p.1 = none
  tab : LamX.Tabs (tabsOf K) H
  no : ∀ b o, F b = some o → noTb o
  only : ∀ b ps, H b = some (.tbl ps) → ∃ q, (b, q) ∈ tabsOf K
theorem TabsK.ext {K : PySem.W.Frag} {F H F' H' : Hp} (w : TabsK K F H) (s : ∀ p ∈ tabsOf K, F p.1 = .none → F' p.1 = .none) (e : ∀ b o, H b = some o → (∃ ps, o = .tbl ps) ∨ (∃ q, o = LamX.CodeO b q) → H' b = some o) (n : ∀ b o, F' b = some o → noTb o) (y : ∀ b ps, H' b = some (.tbl ps) → H b = some (.tbl ps)) : TabsK K F' H' :=
  ⟨fun p hp => s p hp (w.none p hp), fun p hp => by
    obtain ⟨ps, h1, h2, h3⟩ := w.tab p hp
    refine ⟨ps, e _ _ h1 (.inl ⟨_, rfl⟩), h2, fun pos cv hc => ?_⟩
    obtain ⟨c, e1, e2⟩ := h3 pos cv hc
    exact ⟨c, e1, e _ _ e2 (.inr ⟨_, rfl⟩)⟩, n, fun b ps q => w.only b ps (y b ps q)⟩
theorem upd_tb {H : Hp} {p : Addr} {o : HO} (n : noTb o) : ∀ b ps, upd H p o b = some (.tbl ps) → H b = some (.tbl ps) := fun b ps q => by
  by_cases hb : b = p
  · subst hb; rw [upd_same] at q; cases q; exact absurd rfl (n ps)
  · rw [upd_ne hb] at q; exact q
/-- a new object -/
theorem TabsK.new {K : PySem.W.Frag} {F H : Hp} {p : Addr} {o : HO} (w : TabsK K F H) (h : H p = .none) (n : noTb o) : TabsK K (upd F p o) (upd H p o) :=
  w.ext (fun q hq e => by
    obtain ⟨ps, h1, _⟩ := w.tab q hq
    rw [upd_ne (ne_of_none h1 h)]
    exact e) (fun b u q _ => by rw [upd_ne (ne_of_none q h)]; exact q) (fun b u q => by
    by_cases hb : b = p
    · subst hb; rw [upd_same] at q; cases q; exact n
    · rw [upd_ne hb] at q; exact w.no b u q) (upd_tb n)
theorem TabsK.own {K : PySem.W.Frag} {F H : Hp} {p : Addr} {o : HO} (w : TabsK K F H) (h : H p = .none) (n : noTb o) : TabsK K F (upd H p o) :=
  w.ext (fun _ _ e => e) (fun b u q _ => by rw [upd_ne (ne_of_none q h)]; exact q) w.no (upd_tb n)
/-- a list that is changed -/
theorem TabsK.chg {K : PySem.W.Frag} {F H : Hp} {p : Addr} {xs : List V} {o : HO} (w : TabsK K F H) (h : H p = some (.lst xs)) (n : noTb o := by exact fun _ z => nomatch z) : TabsK K F (upd H p o) :=
  w.ext (fun _ _ e => e) (fun b u q m => by
    rw [upd_ne (fun z => by
      rw [z, h] at q
      cases q
      rcases m with ⟨_, m⟩ | ⟨_, m⟩
      · cases m
      · unfold LamX.CodeO at m; cases m)]
    exact q) w.no (upd_tb n)
/-- a list of one's own is a value from now on -/
theorem TabsK.frz {K : PySem.W.Frag} {F H : Hp} {p : Addr} {xs : List V} (w : TabsK K F H) (h : H p = some (.lst xs)) : TabsK K (upd F p (.lst xs)) H :=
  w.ext (fun q hq e => by
    obtain ⟨ps, h1, _⟩ := w.tab q hq
    rw [upd_ne (fun z => by rw [z, h] at h1; cases h1)]
    exact e) (fun _ _ q _ => q) (fun b u q => by
    by_cases hb : b = p
    · subst hb; rw [upd_same] at q; cases q; exact fun _ z => nomatch z
    · rw [upd_ne hb] at q; exact w.no b u q) fun _ _ q => q
structure Wt (K : PySem.W.Frag) (T : Tk) (t : Option Addr) (F H : Hp) : Prop where
  sub : Same F H
  tank : ∀ a, t = some a → F a = none ∧ ∃ vs, H a = some (.lst vs) ∧ RepL K F T vs
  tabs : TabsK K F H
structure Grow (t : Option Addr) (F H F' H' : Hp) : Prop where
  sub : Same F F'
  keepT : ∀ a o, H a = some o → t ≠ some a → noTb o → H' a = some o
  new : ∀ a o, H a = some o → F a = none → F' a = none
  there : ∀ a o, H a = some o → ∃ o', H' a = some o'
theorem Grow.keep {t : Option Addr} {F H F' H' : Hp} (g : Grow t F H F' H') (a : Addr) (o : HO) (h : H a = some o) (n : t ≠ some a) (z : noTb o := by exact fun _ z => nomatch z) : H' a = some o := g.keepT a o h n z
theorem Grow.refl (t : Option Addr) (F H : Hp) : Grow t F H F H := ⟨Same.refl _, fun _ _ h _ _ => h, fun _ _ _ h => h, fun _ o h => ⟨o, h⟩⟩
theorem Grow.trans {t : Option Addr} {F H F1 H1 F2 H2 : Hp} (a : Grow t F H F1 H1) (b : Grow t F1 H1 F2 H2) : Grow t F H F2 H2 :=
  ⟨a.sub.trans b.sub, fun c o h n z => b.keep c o (a.keep c o h n z) n z, fun c o h n => let ⟨o', h'⟩ := a.there c o h; b.new c o' h' (a.new c o h n),
    fun c o h => let ⟨o', h'⟩ := a.there c o h; b.there c o' h'⟩

def SlotR (K : PySem.W.Frag) (t : Option Addr) (F H : Hp) : SV → V → Prop
  | .val d, v => Rep K F d v
  | .own xs, v => ∃ l vs, v = .ref l ∧ F l = none ∧ H l = some (.lst vs) ∧ RepL K F xs vs ∧ t ≠ some l
  | .tank, v => ∃ a, t = some a ∧ v = .ref a
  | .exc a g, v => v = .ref a ∧ ∀ dd fl x, g = some (dd, fl, x) → t ≠ some dd ∧ ∃ u, H dd = some (.xd [(fl, u)]) ∧ Rep K F x u
  | .fn f c q, v => v = .ref f ∧ H c = some (LamX.CodeO c q) ∧ t ≠ some c
  | .ptup ds, v => ∃ a o vs, v = .ref a ∧ F a = some (.frz o (.tup vs)) ∧ o.cls = .type "tuple" ∧ o.dict = none ∧ RepL K F ds vs
  | .me a c ds, v => v = .ref a ∧ ∃ C dx us, F a = none ∧ H a = some (.ins C dx us) ∧ us.map (·.1) = (flds c).take ds.length ∧ RepL K F ds (us.map (·.2)) ∧ t ≠ some a ∧ PySem.W.nsIn K mainGlobals c = some (some (.ref C))
structure Wd (K : PySem.W.Frag) (ρ : En) (T : Tk) (t : Option Addr) (σ : L2.St) (F H : Hp) : Prop where
  wt : Wt K T t F H
  len : ρ.length = σ.length
  slot : ∀ (i : Nat) s, ρ[i]? = some (some s) → ∃ v, σ[i]? = some (some v) ∧ SlotR K t F H s v
  apart : ∀ (i j : Nat) xs ys l, ρ[i]? = some (some (.own xs)) → ρ[j]? = some (some (.own ys)) → σ[i]? = some (some (.ref l)) → σ[j]? = some (some (.ref l)) → i = j
theorem SlotR.grow {K : PySem.W.Frag} {t : Option Addr} {F H F' H' : Hp} (g : Grow t F H F' H') : ∀ {s : SV} {v : V}, SlotR K t F H s v → SlotR K t F' H' s v
  | .val _, _, h => Rep.mono g.sub h
  | .own _, _, ⟨l, vs, e, n, h, r, ne⟩ => ⟨l, vs, e, g.new _ _ h n, g.keep _ _ h ne, r.mono g.sub, ne⟩
  | .tank, _, h => h
  | .exc _ _, _, ⟨e, h⟩ => ⟨e, fun dd fl x q => let ⟨n, u, h1, r⟩ := h dd fl x q; ⟨n, u, g.keep _ _ h1 n, r.mono g.sub⟩⟩
  | .fn _ _ _, _, ⟨e, h, n⟩ => ⟨e, g.keepT _ _ h n (fun _ z => LamX.codeO_ne _ z), n⟩
  | .ptup _, _, ⟨a, o, vs, e, h, c1, c2, r⟩ => ⟨a, o, vs, e, g.sub _ _ h, c1, c2, r.mono g.sub⟩
  | .me _ _ _, _, ⟨e, C, dx, us, n, h, q, r, ne, z⟩ => ⟨e, C, dx, us, g.new _ _ h n, g.keep _ _ h ne, q, r.mono g.sub, ne, z⟩
theorem Wd.grow {K : PySem.W.Frag} {ρ : En} {T T' : Tk} {t : Option Addr} {σ : L2.St} {F H F' H' : Hp} (w : Wd K ρ T t σ F H) (g : Grow t F H F' H') (w' : Wt K T' t F' H') : Wd K ρ T' t σ F' H' :=
  ⟨w', w.len, fun i s e => let ⟨v, h1, h2⟩ := w.slot i s e; ⟨v, h1, h2.grow g⟩, w.apart⟩

/-! readings -/
def Fin (K : PySem.W.Frag) (t : Option Addr) (F H : Hp) (k : KD) (Q : VK) : Prop := ∀ v H' F' d T', Wt K T' t F' H' → Grow t F H F' H' → Rep K F' d v → k d T' → Q v H'
def tD (K : PySem.W.Frag) (f : dE) : TE := fun σ H Q => ∃ ρ T t F k, Wd K ρ T t σ F H ∧ f ρ T k ∧ Fin K t F H k Q
def tDT (K : PySem.W.Frag) (f : dT) : TT := fun σ H Q => ∃ ρ T t F k, Wd K ρ T t σ F H ∧ f ρ T k ∧ ∀ b H' F' T', Wt K T' t F' H' → Grow t F H F' H' → k b T' → Q b H'
inductive ArgL (K : PySem.W.Frag) (t : Option Addr) (F : Hp) : List SV → List V → Prop
  | nil : ArgL K t F [] []
  | val {d : D} {v : V} {as : List SV} {vs : List V} : Rep K F d v → ArgL K t F as vs → ArgL K t F (.val d :: as) (v :: vs)
  | tank {a : Addr} {as : List SV} {vs : List V} : t = some a → ArgL K t F as vs → ArgL K t F (.tank :: as) (.ref a :: vs)
theorem ArgL.mono {K : PySem.W.Frag} {t : Option Addr} {F F' : Hp} (e : Same F F') : ∀ {as : List SV} {vs : List V}, ArgL K t F as vs → ArgL K t F' as vs
  | _, _, .nil => .nil
  | _, _, .val r q => .val (r.mono e) (q.mono e)
  | _, _, .tank h q => .tank h (q.mono e)
theorem ArgL.len {K : PySem.W.Frag} {t : Option Addr} {F : Hp} : ∀ {as : List SV} {vs : List V}, ArgL K t F as vs → as.length = vs.length
  | _, _, .nil => rfl
  | _, _, .val _ q => by simp [q.len]
  | _, _, .tank _ q => by simp [q.len]
def tDA (K : PySem.W.Frag) (f : dA) : TA := fun σ H Q => ∃ ρ T t F k, Wd K ρ T t σ F H ∧ f ρ T k ∧ ∀ vs H' F' as T', Wt K T' t F' H' → Grow t F H F' H' → ArgL K t F' as vs → k as T' → Q vs H'
abbrev PEd (X : Cx) (e : Expr) (f : dE) : Prop := PE X e (tD X.K f)
abbrev PTd (X : Cx) (e : Expr) (f : dT) : Prop := PT X e (tDT X.K f)
abbrev PAd (X : Cx) (es : List Expr) (f : dA) : Prop := PA X es (tDA X.K f)
theorem pe_imp {X : Cx} {e : Expr} {t u : TE} (h : PE X e t) (i : ∀ σ H Q, u σ H Q → t σ H Q) : PE X e u := ⟨fun pins s σ H Q I q => h.run pins s σ H Q I (i _ _ _ q)⟩
theorem pt_imp {X : Cx} {e : Expr} {t u : TT} (h : PT X e t) (i : ∀ σ H Q, u σ H Q → t σ H Q) : PT X e u := ⟨fun pins s σ H Q I q => h.run pins s σ H Q I (i _ _ _ q)⟩
theorem pw_imp {X : Cx} {e : Expr} {t u : TT} (h : PW X e t) (i : ∀ σ H Q, u σ H Q → t σ H Q) : PW X e u := ⟨fun wh pins s σ H Q I q => h.run wh pins s σ H Q I (i _ _ _ q)⟩
theorem pa_imp {X : Cx} {e : List Expr} {t u : TA} (h : PA X e t) (i : ∀ σ H Q, u σ H Q → t σ H Q) : PA X e u := ⟨fun pos pins s σ H Q I q => h.run pos pins s σ H Q I (i _ _ _ q)⟩
theorem ps_imp {X : Cx} {e : Stmt} {t u : TS} (h : PS X e t) (i : ∀ K σ H, u K σ H → t K σ H) : PS X e u := ⟨fun pins s σ H K I q => h.run pins s σ H K I (i _ _ _ q)⟩
theorem pss_imp {X : Cx} {e : List Stmt} {t u : TS} (h : PSs X e t) (i : ∀ K σ H, u K σ H → t K σ H) : PSs X e u := ⟨fun pins s σ H K I q => h.run pins s σ H K I (i _ _ _ q)⟩

theorem Fin.then {K : PySem.W.Frag} {t : Option Addr} {F H F' H' : Hp} {k : KD} {Q : VK} (f : Fin K t F H k Q) (g : Grow t F H F' H') : Fin K t F' H' k Q :=
  fun v H2 F2 d T2 w g2 r q => f v H2 F2 d T2 w (g.trans g2) r q
/-- a value that needs nothing new -/
theorem Fin.val {K : PySem.W.Frag} {t : Option Addr} {F H : Hp} {k : KD} {Q : VK} {T : Tk} {d : D} {v : V} (f : Fin K t F H k Q) (w : Wt K T t F H) (r : Rep K F d v) (q : k d T) : Q v H :=
  f v H F d T w (Grow.refl _ _ _) r q
theorem same_upd {F : Hp} {p : Addr} {o : HO} (h : F p = none) : Same F (upd F p o) := fun b u e => by rw [upd_ne (ne_of_none e h)]; exact e
theorem grow_new {t : Option Addr} {F H : Hp} {p : Addr} {o : HO} (s : Same F H) (h : H p = none) : Grow t F H (upd F p o) (upd H p o) := by
  have hF : F p = none := s.free h
  refine ⟨same_upd hF, fun a u e _ _ => same_upd h a u e, fun a u e n => ?_, fun a u e => ⟨u, same_upd h a u e⟩⟩
  rw [upd_ne (ne_of_none e h)]
  exact n
theorem grow_own {t : Option Addr} {F H : Hp} {p : Addr} {o : HO} (s : Same F H) (h : H p = none) : Grow t F H F (upd H p o) :=
  ⟨Same.refl _, fun a u e _ _ => same_upd h a u e, fun _ _ _ n => n, fun a u e => ⟨u, same_upd h a u e⟩⟩
theorem same_both {F H : Hp} {p : Addr} {o : HO} (s : Same F H) : Same (upd F p o) (upd H p o) := fun b u e => by
  by_cases hb : b = p
  · subst hb; rw [upd_same] at e ⊢; exact e
  · rw [upd_ne hb] at e ⊢; exact s b u e
theorem wt_new {K : PySem.W.Frag} {T : Tk} {t : Option Addr} {F H : Hp} {p : Addr} {o : HO} (w : Wt K T t F H) (h : H p = none) (nt : noTb o := by exact fun _ z => nomatch z) : Wt K T t (upd F p o) (upd H p o) := by
  refine ⟨same_both w.sub, fun a e => ?_, w.tabs.new h nt⟩
  obtain ⟨n, vs, hv, r⟩ := w.tank a e
  have na : a ≠ p := ne_of_none hv h
  exact ⟨by rw [upd_ne na]; exact n, vs, by rw [upd_ne na]; exact hv, r.mono (same_upd (w.sub.free h))⟩
theorem wt_own {K : PySem.W.Frag} {T : Tk} {t : Option Addr} {F H : Hp} {p : Addr} {o : HO} (w : Wt K T t F H) (h : H p = none) (nt : noTb o := by exact fun _ z => nomatch z) : Wt K T t F (upd H p o) := by
  refine ⟨w.sub.trans (same_upd h), fun a e => ?_, w.tabs.own h nt⟩
  obtain ⟨n, vs, hv, r⟩ := w.tank a e
  exact ⟨n, vs, same_upd h a _ hv, r⟩
theorem Fin.tup {K : PySem.W.Frag} {t : Option Addr} {F H : Hp} {k : KD} {Q : VK} {T : Tk} {ds : List D} {vs : List V} {p : Addr} (f : Fin K t F H k Q) (w : Wt K T t F H) (r : RepL K F ds vs) (h : H p = none) (q : k (.tup ds) T) : Q (.ref p) (upd H p (.tup vs)) :=
  f _ _ (upd F p (.tup vs)) _ T (wt_new w h) (grow_new w.sub h) (.tup (.of upd_same) (r.mono (same_upd (w.sub.free h)))) q
theorem Fin.lst {K : PySem.W.Frag} {t : Option Addr} {F H : Hp} {k : KD} {Q : VK} {T : Tk} {ds : List D} {vs : List V} {p : Addr} (f : Fin K t F H k Q) (w : Wt K T t F H) (r : RepL K F ds vs) (h : H p = none) (q : k (.lst ds) T) : Q (.ref p) (upd H p (.lst vs)) :=
  f _ _ (upd F p (.lst vs)) _ T (wt_new w h) (grow_new w.sub h) (.lst upd_same (r.mono (same_upd (w.sub.free h)))) q
theorem rep_int {K : PySem.W.Frag} {F : Hp} {i : Int} {v : V} (r : Rep K F (.int i) v) : v = .int i := by cases r; rfl
theorem rep_bl {K : PySem.W.Frag} {F : Hp} {i : Bool} {v : V} (r : Rep K F (.bl i) v) : v = .bl i := by cases r; rfl
theorem rep_tup {K : PySem.W.Frag} {F : Hp} {ds : List D} {v : V} (r : Rep K F (.tup ds) v) : ∃ a vs, v = .ref a ∧ SqT K F a vs ∧ RepL K F ds vs := by cases r with | tup h q => exact ⟨_, _, rfl, h, q⟩
theorem rep_lst {K : PySem.W.Frag} {F : Hp} {ds : List D} {v : V} (r : Rep K F (.lst ds) v) : ∃ a vs, v = .ref a ∧ F a = some (.lst vs) ∧ RepL K F ds vs := by cases r with | lst h q => exact ⟨_, _, rfl, h, q⟩
theorem rep_scr {K : PySem.W.Frag} {F : Hp} {ds : List D} {v : V} (r : Rep K F (.scr ds) v) : ∃ a vs, v = .ref a ∧ SqL K F a vs ∧ RepL K F ds vs := by cases r with | scr h q => exact ⟨_, _, rfl, h, q⟩
end L2.G

namespace L2.G
open PySem PySem.Spec PyProof.Rows

section
variable {X : Cx}
/-! names, constants -/
def dVar (i : Nat) : dE := fun ρ T k => match ρ[i]? with | some (some (.val d)) => k d T | some (some (.ptup ds)) => k (.tup ds) T | _ => False
theorem d_var (i : Nat) {x : Str} {pos : Pos} (hN : X.N[i]? = some x := by rfl) (hv : Vis X.env.scope x := by first | exact Or.inl rfl | exact Or.inr (Or.inl rfl) | exact Or.inr (Or.inr rfl))
    (hd : (x == ("__debug__" : Str)) = false := by decide) (hc : (x == ("__classdict__" : Str)) = false := by decide) : PEd X (.Name x pos) (dVar i) := by
  refine pe_imp (pe_var hN hv hd hc) fun σ H Q h => ?_
  obtain ⟨ρ, T, t, F, k, w, h, f⟩ := h
  unfold dVar at h
  split at h
  · rename_i d e
    obtain ⟨v, e1, r⟩ := w.slot i _ e
    exact ⟨v, e1, f.val w.wt r h⟩
  · rename_i ds e
    obtain ⟨v, e1, a, o, vs, ev, hF, _, _, r⟩ := w.slot i _ e
    subst ev
    exact ⟨_, e1, f.val w.wt (.tup (.inl (.inr ⟨o, hF⟩)) r) h⟩
  · exact h.elim
def dC (d : D) : dE := fun _ T k => k d T
theorem d_const {e : Expr} {v : V} {d : D} (h : PE X e (tC v)) (r : ∀ F, Rep X.K F d v) : PEd X e (dC d) := by
  refine pe_imp h fun σ H Q h => ?_
  obtain ⟨ρ, T, t, F, k, w, h, f⟩ := h
  exact f.val w.wt (r F) h
theorem d_int {i : Int} {j pos} : PEd X (.Constant (.int i) j pos) (dC (.int i)) := d_const pe_int fun _ => .int i
theorem d_bl {i : Bool} {j pos} : PEd X (.Constant (.bool i) j pos) (dC (.bl i)) := d_const pe_bl fun _ => .bl i
theorem d_non {j pos} : PEd X (.Constant .none j pos) (dC .non) := d_const pe_non fun _ => .non
theorem d_str {x : Str} {j pos} : PEd X (.Constant (.str x) j pos) (dC (.str x)) := d_const pe_str fun _ => .str x
/-- a constant of the module -/
theorem d_glob {x : Str} {v : V} {u : Value} {d : D} {pos : Pos} (hg : Gl X x) (hm : X.mg x = some u) (q : RelV v u) (r : ∀ F, Rep X.K F d v) (hd : (x == ("__debug__" : Str)) = false := by decide) : PEd X (.Name x pos) (dC d) :=
  d_const (pe_glob hg hm q hd) r

/-! two places -/
abbrev Op2 := D → D → (D → Prop) → Prop
def dOp (o : Op2) (fa fb : dE) : dE := fun ρ T k => fa ρ T fun x T1 => fb ρ T1 fun y T2 => o x y fun d => k d T2
def OpS (K : PySem.W.Frag) (r : R2) (o : Op2) : Prop := ∀ {t : Option Addr} {F H : Hp} {T : Tk} {x y : D} {v w : V} {k : KD} {Q : VK}, Wt K T t F H → Rep K F x v → Rep K F y w → o x y (fun d => k d T) → Fin K t F H k Q → r v w H Q
/-- two expressions, one behind the other -/
theorem two {K : PySem.W.Frag} {fa fb : dE} {o : D → D → Tk → KD → Prop} {σ : L2.St} {H : Hp} {Q : VK} {R : V → V → Hp → VK → Prop}
    (s : ∀ {t : Option Addr} {F H : Hp} {T : Tk} {x y : D} {v w : V} {k : KD}, Wt K T t F H → Rep K F x v → Rep K F y w → o x y T k → Fin K t F H k Q → R v w H Q)
    (h : tD K (fun ρ T k => fa ρ T fun x T1 => fb ρ T1 fun y T2 => o x y T2 k) σ H Q) : tD K fa σ H fun v H1 => tD K fb σ H1 fun w H2 => R v w H2 Q := by
  obtain ⟨ρ, T, t, F, k, w, h, f⟩ := h
  refine ⟨ρ, T, t, F, _, w, h, fun v H1 F1 x T1 w1 g1 r1 h1 => ?_⟩
  refine ⟨ρ, T1, t, F1, _, w.grow g1 w1, h1, fun u H2 F2 y T2 w2 g2 r2 h2 => ?_⟩
  exact s w2 (r1.mono g2.sub) r2 h2 (f.then (g1.trans g2))
theorem d_op {op : Operator} {r : R2} {o : Op2} {a b : Expr} {fa fb : dE} {pos : Pos} (ho : OpR X (binaryOp op) r) (s : OpS X.K r o) (ha : PEd X a fa) (hb : PEd X b fb) : PEd X (.BinOp a op b pos) (dOp o fa fb) :=
  pe_imp (pe_op ho ha hb) fun σ H Q h => two (o := fun x y T k => o x y fun d => k d T) (fun w r1 r2 q f => s w r1 r2 q f) h
theorem d_cmp {op : CmpOp} {r : R2} {o : Op2} {a b : Expr} {fa fb : dE} {pos : Pos} (ho : OpR X (compareOp op) r) (s : OpS X.K r o) (ha : PEd X a fa) (hb : PEd X b fb) (hm : behindInMarks op b = false) : PEd X (.Compare a [op] [b] pos) (dOp o fa fb) :=
  pe_imp (pe_cmpR ho ha hb hm) fun σ H Q h => two (o := fun x y T k => o x y fun d => k d T) (fun w r1 r2 q f => s w r1 r2 q f) h

/-- ints -/
def oI (g : Int → Int → Int) : Op2 := fun x y k => match x, y with | .int i, .int j => k (.int (g i j)) | _, _ => False
def oIC (C : Int → Int → Prop) (g : Int → Int → Int) : Op2 := fun x y k => match x, y with | .int i, .int j => C i j ∧ k (.int (g i j)) | _, _ => False
def oB (g : Int → Int → Bool) : Op2 := fun x y k => match x, y with | .int i, .int j => k (.bl (g i j)) | _, _ => False
theorem oI_ok {K : PySem.W.Frag} {g : Int → Int → Int} : OpS K (rI0 fun i j => .int (g i j)) (oI g) := by
  intro t F H T x y v w k Q wt r1 r2 q f
  unfold oI at q
  split at q
  · cases r1; cases r2; exact ⟨_, _, rfl, rfl, f.val wt (.int _) q⟩
  · exact q.elim
theorem oIC_ok {K : PySem.W.Frag} {C : Int → Int → Prop} {g : Int → Int → Int} : OpS K (rI C fun i j => .int (g i j)) (oIC C g) := by
  intro t F H T x y v w k Q wt r1 r2 q f
  unfold oIC at q
  split at q
  · cases r1; cases r2; exact ⟨_, _, rfl, rfl, q.1, f.val wt (.int _) q.2⟩
  · exact q.elim
theorem oB_ok {K : PySem.W.Frag} {g : Int → Int → Bool} : OpS K (rI0 fun i j => .bl (g i j)) (oB g) := by
  intro t F H T x y v w k Q wt r1 r2 q f
  unfold oB at q
  split at q
  · cases r1; cases r2; exact ⟨_, _, rfl, rfl, f.val wt (.bl _) q⟩
  · exact q.elim
/-- sizes -/
def MulOk (i j : Int) : Prop := (i.natAbs < 2 ^ 64 ∨ j.natAbs < 2 ^ 64) ∨ (i.natAbs < 2 ^ 400000 ∧ j.natAbs < 2 ^ 400000)
def DivOk (_ j : Int) : Prop := 0 < j ∧ j.natAbs < 2 ^ 9000
theorem mulQ_of {i j : Int} (h : MulOk i j) : IntMulOk i j := by
  rcases h with h | h
  · exact CMul.ok (h.elim (fun h => .inl (by omega)) fun h => .inr (by omega))
  · exact (wide_mul h.1 h.2 (by decide) (by decide) (by decide)).ok
theorem divW_of {i j : Int} (h : DivOk i j) : CDivW i j := wide_div h.1 h.2 (by decide) (by decide)
theorem op_mulQ : OpR X (binaryOp .Mult) (rI MulOk fun i j => .int (i * j)) := opI fun _ _ _ _ _ _ _ hc q => mul_int q (mulQ_of hc)
theorem op_divQ : OpR X (binaryOp .FloorDiv) (rI DivOk fun i j => .int (i / j)) := fun pins s σ H x y v u Q I rx ry ⟨i, j, e1, e2, c, q⟩ => op_fdivW pins s σ H x y v u Q I rx ry ⟨i, j, e1, e2, divW_of c, q⟩
variable {a b : Expr} {fa fb : dE} {pos : Pos}
/-- -a -/
def dNeg (fa : dE) : dE := fun ρ T k => fa ρ T fun x T1 => match x with | .int i => k (.int (-i)) T1 | _ => False
theorem d_neg (ha : PEd X a fa) : PEd X (.UnaryOp .USub a pos) (dNeg fa) := by
  refine pe_imp (pe_un un_neg ha) fun σ H Q h => ?_
  obtain ⟨ρ, T, t, F, k, w, h, f⟩ := h
  refine ⟨ρ, T, t, F, _, w, h, fun v H1 F1 x T1 w1 g1 r1 h1 => ?_⟩
  split at h1
  · cases r1; exact ⟨_, rfl, (f.then g1).val w1 (.int _) h1⟩
  · exact h1.elim

/-! equality of data -/
mutual
def D.py : D → PyData
  | .non => .none | .bl b => .bool b | .int i => .int i | .str x => .str x | .tup xs => .tuple (D.pyL xs) | .lst xs => .list (D.pyL xs) | .obj _ _ _ => .dict [] | .ref _ => .dict [] | .scr _ => .dict [] | .dct _ _ => .dict []
def D.pyL : List D → List PyData
  | [] => [] | x :: r => x.py :: D.pyL r
end
mutual
def D.isPy : D → Bool
  | .non => true | .bl _ => true | .int _ => true | .str _ => true | .tup xs => D.isPyL xs | .lst xs => D.isPyL xs | .obj _ _ _ => false | .ref _ => false | .scr _ => false | .dct _ _ => false
def D.isPyL : List D → Bool
  | [] => true | x :: r => x.isPy && D.isPyL r
end
mutual
theorem Rep.dp {K : PySem.W.Frag} {F H : Hp} (s : Same F H) : ∀ {d : D} {v : V}, Rep K F d v → d.isPy = true → Dp K H v d.py
  | _, _, .non, _ => .non
  | _, _, .bl b, _ => .bl b
  | _, _, .int i, _ => .int i
  | _, _, .str x, _ => .str x
  | _, _, .tup h q, p => .tup (same_t s h) (RepL.dp s q (by simpa [D.isPy] using p))
  | _, _, .lst h q, p => .lst (.of (s _ _ h)) (RepL.dp s q (by simpa [D.isPy] using p))
  | _, _, .obj _ _ _ _, p => by simp [D.isPy] at p
  | _, _, .ref _ _ _, p => by simp [D.isPy] at p
  | _, _, .scr _ _, p => by simp [D.isPy] at p
  | _, _, .dct _ _ _, p => by simp [D.isPy] at p
theorem RepL.dp {K : PySem.W.Frag} {F H : Hp} (s : Same F H) : ∀ {ds : List D} {vs : List V}, RepL K F ds vs → D.isPyL ds = true → DpAll K H vs (D.pyL ds)
  | _, _, .nil, _ => .nil
  | _, _, .cons h q, p => by
    simp only [D.isPyL, Bool.and_eq_true] at p
    exact .cons (Rep.dp s h p.1) (RepL.dp s q p.2)
end
/-- data that == compares -/
def D.eqOk (d : D) : Prop := d.isPy = true ∧ SeqAt.shaped d.py = true
def eqD (x y : D) : Bool := PyData.eqv x.py y.py
def oEq : Op2 := fun x y k => x.eqOk ∧ y.eqOk ∧ k (.bl (eqD x y))
def oNe : Op2 := fun x y k => x.eqOk ∧ y.eqOk ∧ k (.bl (!eqD x y))
theorem oEq_ok {K : PySem.W.Frag} : OpS K (rEqD K) oEq := fun wt r1 r2 ⟨p1, p2, q⟩ f => ⟨_, _, r1.dp wt.sub p1.1, r2.dp wt.sub p2.1, p1.2, p2.2, f.val wt (.bl _) q⟩
theorem oNe_ok {K : PySem.W.Frag} : OpS K (rNeD K) oNe := fun wt r1 r2 ⟨p1, p2, q⟩ f => ⟨_, _, r1.dp wt.sub p1.1, r2.dp wt.sub p2.1, p1.2, p2.2, f.val wt (.bl _) q⟩
/-- == of two ints, two texts, None .. (scalars) -/
def oEqI : Op2 := fun x y k => match x, y with | .int i, .int j => k (.bl (decide (i = j))) | .str i, .str j => k (.bl (decide (i = j))) | .bl i, .bl j => k (.bl (decide (i = j))) | _, _ => False
def oNeI : Op2 := fun x y k => match x, y with | .int i, .int j => k (.bl (!decide (i = j))) | .str i, .str j => k (.bl (!decide (i = j))) | .bl i, .bl j => k (.bl (!decide (i = j))) | _, _ => False
theorem oEqI_ok {K : PySem.W.Frag} : OpS K rEq oEqI := by
  intro t F H T x y v w k Q wt r1 r2 q f
  unfold oEqI at q
  split at q
  · cases r1; cases r2; exact ⟨rfl, by have := f.val wt (.bl _) q; simpa using this⟩
  · cases r1; cases r2; exact ⟨rfl, by have := f.val wt (.bl _) q; simpa using this⟩
  · cases r1; cases r2; exact ⟨rfl, by have := f.val wt (.bl _) q; simpa using this⟩
  · exact q.elim
theorem oNeI_ok {K : PySem.W.Frag} : OpS K rNe oNeI := by
  intro t F H T x y v w k Q wt r1 r2 q f
  unfold oNeI at q
  split at q
  · cases r1; cases r2; exact ⟨rfl, by have := f.val wt (.bl _) q; simpa using this⟩
  · cases r1; cases r2; exact ⟨rfl, by have := f.val wt (.bl _) q; simpa using this⟩
  · cases r1; cases r2; exact ⟨rfl, by have := f.val wt (.bl _) q; simpa using this⟩
  · exact q.elim
/-- is None -/
def D.isNon : D → Bool | .non => true | _ => false
def dIsN (fa : dE) : dE := fun ρ T k => fa ρ T fun x T1 => k (.bl x.isNon) T1
def dNotN (fa : dE) : dE := fun ρ T k => fa ρ T fun x T1 => k (.bl (!x.isNon)) T1
/-! tests -/
def dTst (fa : dE) : dT := fun ρ T k => fa ρ T fun x T1 => match x with | .bl c => k c T1 | _ => False
theorem d_tst (ha : PEd X a fa) (he : ∀ whole, isTrue a X.env whole = (do let v ← whole; standAt a.pos; holding [v] (truthy v)) := by intro _; rfl) : PTd X a (dTst fa) := by
  refine pt_imp (pt_val ha he) fun σ H Q h => ?_
  obtain ⟨ρ, T, t, F, k, w, h, f⟩ := h
  refine ⟨ρ, T, t, F, _, w, h, fun v H1 F1 x T1 w1 g1 r1 h1 => ?_⟩
  split at h1
  · cases r1; exact ⟨_, rfl, f _ _ _ _ w1 g1 h1⟩
  · exact h1.elim
/-- a comparison of two, as a test -/
theorem d_tcmp {op : CmpOp} {r : R2} {o : Op2} (ho : OpR X (compareOp op) r) (s : OpS X.K r o) (ha : PEd X a fa) (hb : PEd X b fb) (hm : behindInMarks op b = false) : PTd X (.Compare a [op] [b] pos) (dTst (dOp o fa fb)) := by
  refine pt_imp (pt_cmpR ho ha hb hm) fun σ H Q h => ?_
  obtain ⟨ρ, T, t, F, k, w, h, f⟩ := h
  have h' : tD X.K (dOp o fa fb) σ H (fun x H' => ∃ c, x = .bl c ∧ Q c H') := by
    refine ⟨ρ, T, t, F, _, w, h, fun v H1 F1 x T1 w1 g1 r1 h1 => ?_⟩
    split at h1
    · cases r1; exact ⟨_, rfl, f _ _ _ _ w1 g1 h1⟩
    · exact h1.elim
  exact two (o := fun x y T k => o x y fun d => k d T) (fun w r1 r2 q f => s w r1 r2 q f) h'
abbrev PWd (X : Cx) (e : Expr) (f : dT) : Prop := PW X e (tDT X.K f)
variable {ta tb : dT} {rest : List Expr}
def dAnd (ta tb : dT) : dT := fun ρ T k => ta ρ T fun c T1 => if c = true then tb ρ T1 k else k false T1
def dOr (ta tb : dT) : dT := fun ρ T k => ta ρ T fun c T1 => if c = true then k true T1 else tb ρ T1 k
def dNot (ta : dT) : dT := fun ρ T k => ta ρ T fun c T1 => k (!c) T1
theorem d_tnot (ha : PTd X a ta) : PTd X (.UnaryOp .Not a pos) (dNot ta) := by
  refine pt_imp (pt_not ha) fun σ H Q h => ?_
  obtain ⟨ρ, T, t, F, k, w, h, f⟩ := h
  exact ⟨ρ, T, t, F, _, w, h, fun v H1 F1 T1 w1 g1 h1 => f _ _ _ _ w1 g1 h1⟩
theorem d_w1a (ha : PTd X a ta) : PWd X (.BoolOp .And [a] pos) ta := pw_and1 ha
theorem d_w1o (ha : PTd X a ta) : PWd X (.BoolOp .Or [a] pos) ta := pw_or1 ha
theorem d_wand (ha : PTd X a ta) (hb : PWd X (.BoolOp .And (b :: rest) pos) tb) : PWd X (.BoolOp .And (a :: b :: rest) pos) (dAnd ta tb) := by
  refine pw_imp (pw_and ha hb) fun σ H Q h => ?_
  obtain ⟨ρ, T, t, F, k, w, h, f⟩ := h
  refine ⟨ρ, T, t, F, _, w, h, fun c H1 F1 T1 w1 g1 h1 => ?_⟩
  cases c with
  | true => exact ⟨ρ, T1, t, F1, k, w.grow g1 w1, h1, fun b H2 F2 T2 w2 g2 h2 => f _ _ _ _ w2 (g1.trans g2) h2⟩
  | false => exact f _ _ _ _ w1 g1 h1
theorem d_wor (ha : PTd X a ta) (hb : PWd X (.BoolOp .Or (b :: rest) pos) tb) : PWd X (.BoolOp .Or (a :: b :: rest) pos) (dOr ta tb) := by
  refine pw_imp (pw_or ha hb) fun σ H Q h => ?_
  obtain ⟨ρ, T, t, F, k, w, h, f⟩ := h
  refine ⟨ρ, T, t, F, _, w, h, fun c H1 F1 T1 w1 g1 h1 => ?_⟩
  cases c with
  | false => exact ⟨ρ, T1, t, F1, k, w.grow g1 w1, h1, fun b H2 F2 T2 w2 g2 h2 => f _ _ _ _ w2 (g1.trans g2) h2⟩
  | true => exact f _ _ _ _ w1 g1 h1
/-- and, or, not as values of truth -/
def dAndV (fa fb : dE) : dE := fun ρ T k => fa ρ T fun x T1 => match x with | .bl c => if c = true then fb ρ T1 k else k (.bl false) T1 | _ => False
def dOrV (fa fb : dE) : dE := fun ρ T k => fa ρ T fun x T1 => match x with | .bl c => if c = true then k (.bl true) T1 else fb ρ T1 k | _ => False
def dNotV (fa : dE) : dE := fun ρ T k => fa ρ T fun x T1 => match x with | .bl c => k (.bl (!c)) T1 | _ => False
theorem d_v1 {op} (ha : PEd X a fa) : PEd X (.BoolOp op [a] pos) fa := pe_one ha
theorem d_andV (ha : PEd X a fa) (hb : PEd X (.BoolOp .And (b :: rest) pos) fb) : PEd X (.BoolOp .And (a :: b :: rest) pos) (dAndV fa fb) := by
  refine pe_imp (pe_and ha hb) fun σ H Q h => ?_
  obtain ⟨ρ, T, t, F, k, w, h, f⟩ := h
  refine ⟨ρ, T, t, F, _, w, h, fun v H1 F1 x T1 w1 g1 r1 h1 => ?_⟩
  split at h1
  · rename_i c
    cases r1
    refine ⟨c, rfl, ?_⟩
    cases c with
    | true => exact ⟨ρ, T1, t, F1, k, w.grow g1 w1, h1, f.then g1⟩
    | false => exact (f.then g1).val w1 (.bl _) h1
  · exact h1.elim
theorem d_notV (ha : PEd X a fa) : PEd X (.UnaryOp .Not a pos) (dNotV fa) := by
  refine pe_imp (pe_not ha) fun σ H Q h => ?_
  obtain ⟨ρ, T, t, F, k, w, h, f⟩ := h
  refine ⟨ρ, T, t, F, _, w, h, fun v H1 F1 x T1 w1 g1 r1 h1 => ?_⟩
  split at h1
  · cases r1; exact ⟨_, rfl, (f.then g1).val w1 (.bl _) h1⟩
  · exact h1.elim
def dIf (t : dT) (fa fb : dE) : dE := fun ρ T k => t ρ T fun c T1 => if c = true then fa ρ T1 k else fb ρ T1 k
theorem d_if {c : Expr} {tc : dT} (hc : PTd X c tc) (ha : PEd X a fa) (hb : PEd X b fb) : PEd X (.IfExp c a b pos) (dIf tc fa fb) := by
  refine pe_imp (pe_ifExp hc ha hb) fun σ H Q h => ?_
  obtain ⟨ρ, T, t, F, k, w, h, f⟩ := h
  refine ⟨ρ, T, t, F, _, w, h, fun c H1 F1 T1 w1 g1 h1 => ?_⟩
  cases c with
  | true => exact ⟨ρ, T1, t, F1, k, w.grow g1 w1, h1, f.then g1⟩
  | false => exact ⟨ρ, T1, t, F1, k, w.grow g1 w1, h1, f.then g1⟩

/-! arguments, displays -/
def aNil : dA := fun _ T k => k [] T
def aCons (fe : dE) (fr : dA) : dA := fun ρ T k => fe ρ T fun d T1 => fr ρ T1 fun as T2 => k (.val d :: as) T2
def aTank (i : Nat) (fr : dA) : dA := fun ρ T k => (match ρ[i]? with | some (some .tank) => True | _ => False) ∧ fr ρ T fun as T2 => k (.tank :: as) T2
variable {es : List Expr} {fr : dA}
theorem a_nil : PAd X [] aNil := by
  refine pa_imp pa_nil fun σ H Q h => ?_
  obtain ⟨ρ, T, t, F, k, w, h, f⟩ := h
  exact f _ _ _ _ _ w.wt (Grow.refl _ _ _) .nil h
theorem a_cons {e : Expr} {fe : dE} (he : PEd X e fe) (hr : PAd X es fr) (hs : starEach (e :: es) X.env = (false, eval e X.env) :: starEach es X.env := by rfl) : PAd X (e :: es) (aCons fe fr) := by
  refine pa_imp (pa_cons he hr hs) fun σ H Q h => ?_
  obtain ⟨ρ, T, t, F, k, w, h, f⟩ := h
  refine ⟨ρ, T, t, F, _, w, h, fun v H1 F1 x T1 w1 g1 r1 h1 => ?_⟩
  refine ⟨ρ, T1, t, F1, _, w.grow g1 w1, h1, fun vs H2 F2 as T2 w2 g2 r2 h2 => ?_⟩
  exact f _ _ _ _ _ w2 (g1.trans g2) (.val (r1.mono g2.sub) r2) h2
theorem a_tank (i : Nat) {x : Str} {p : Pos} (hr : PAd X es fr) (hN : X.N[i]? = some x := by rfl) (hv : Vis X.env.scope x := by first | exact Or.inl rfl | exact Or.inr (Or.inl rfl) | exact Or.inr (Or.inr rfl))
    (hd : (x == ("__debug__" : Str)) = false := by decide) (hc : (x == ("__classdict__" : Str)) = false := by decide)
    (hs : starEach (.Name x p :: es) X.env = (false, eval (.Name x p) X.env) :: starEach es X.env := by rfl) : PAd X (.Name x p :: es) (aTank i fr) := by
  refine pa_imp (pa_cons (pe_var hN hv hd hc) hr hs) fun σ H Q h => ?_
  obtain ⟨ρ, T, t, F, k, w, ⟨h0, h⟩, f⟩ := h
  split at h0
  · rename_i e
    obtain ⟨v, e1, a, e2, e3⟩ := w.slot i _ e
    subst e3
    exact ⟨_, e1, ρ, T, t, F, _, w, h, fun vs H2 F2 as T2 w2 g2 r2 h2 => f _ _ _ _ _ w2 g2 (.tank e2 r2) h2⟩
  · exact h0.elim
def vals? : List SV → Option (List D)
  | [] => some []
  | .val d :: r => (vals? r).map (d :: ·)
  | _ :: _ => none
theorem ArgL.vals {K : PySem.W.Frag} {t : Option Addr} {F : Hp} : ∀ {as : List SV} {vs : List V} {ds : List D}, ArgL K t F as vs → vals? as = some ds → RepL K F ds vs
  | _, _, _, .nil, e => by cases e; exact .nil
  | _, _, ds, .val r q, e => by
    simp only [vals?, Option.map_eq_some_iff] at e
    obtain ⟨es, h1, rfl⟩ := e
    exact .cons r (q.vals h1)
  | _, _, _, .tank _ _, e => by simp [vals?] at e
def dTup (fr : dA) : dE := fun ρ T k => fr ρ T fun as T1 => match vals? as with | some ds => ds.length ≤ 1000000 ∧ k (.tup ds) T1 | none => False
def dLst (fr : dA) : dE := fun ρ T k => fr ρ T fun as T1 => match vals? as with | some ds => ds.length ≤ 1000000 ∧ k (.lst ds) T1 | none => False
theorem small_line {n : Nat} (h : n ≤ 1000000) : n ≤ sizeLine := by rw [sizeLine_eq]; omega
theorem d_tup {x1} (h : PAd X es fr) : PEd X (.Tuple es x1 pos) (dTup fr) := by
  refine pe_imp (pe_tup h) fun σ H Q h => ?_
  obtain ⟨ρ, T, t, F, k, w, h, f⟩ := h
  refine ⟨ρ, T, t, F, _, w, h, fun vs H1 F1 as T1 w1 g1 r1 h1 => ?_⟩
  split at h1
  · rename_i ds e
    have r := r1.vals e
    exact ⟨by rw [← r.len]; exact small_line h1.1, fun p hp => (f.then g1).tup w1 r hp h1.2⟩
  · exact h1.elim
theorem d_lst (h : PAd X es fr) : PEd X (.List es pos) (dLst fr) := by
  refine pe_imp (pe_lst h) fun σ H Q h => ?_
  obtain ⟨ρ, T, t, F, k, w, h, f⟩ := h
  refine ⟨ρ, T, t, F, _, w, h, fun vs H1 F1 as T1 w1 g1 r1 h1 => ?_⟩
  split at h1
  · rename_i ds e
    have r := r1.vals e
    exact ⟨by rw [← r.len]; exact small_line h1.1, fun p hp => (f.then g1).lst w1 r hp h1.2⟩
  · exact h1.elim

/-! items, slices -/
def oIx : Op2 := fun x y k => match x, y with
  | .tup xs, .int i => (match atI xs i with | some d => k d | none => False)
  | .lst xs, .int i => (match atI xs i with | some d => k d | none => False)
  | .scr xs, .int i => (match atI xs i with | some d => k d | none => False)
  | _, _ => False
theorem atI_rep {K : PySem.W.Frag} {F : Hp} {xs : List D} {vs : List V} {i : Int} {d : D} (r : RepL K F xs vs) (h : atI xs i = some d) : ∃ v, atI vs i = some v ∧ Rep K F d v := by
  unfold atI at h ⊢
  rw [← r.len]
  cases e : ixN xs.length i with
  | none => rw [e] at h; cases h
  | some j =>
    rw [e] at h
    exact r.get h
theorem oIx_ok {K : PySem.W.Frag} : OpS K (fun x y H Q => rIxL K x y H Q ∨ rIxT K x y H Q) oIx := by
  intro t F H T x y v w k Q wt r1 r2 q f
  unfold oIx at q
  split at q
  · split at q
    · rename_i d e
      obtain ⟨a, vs, rfl, h, r⟩ := rep_tup r1
      cases r2
      obtain ⟨v, e1, rv⟩ := atI_rep r e
      exact .inr ⟨a, vs, _, v, rfl, rfl, same_t wt.sub h, e1, f.val wt rv q⟩
    · exact q.elim
  · split at q
    · rename_i d e
      obtain ⟨a, vs, rfl, h, r⟩ := rep_lst r1
      cases r2
      obtain ⟨v, e1, rv⟩ := atI_rep r e
      exact .inl ⟨a, vs, _, v, rfl, rfl, .of (wt.sub _ _ h), e1, f.val wt rv q⟩
    · exact q.elim
  · split at q
    · rename_i d e
      obtain ⟨a, vs, rfl, h, r⟩ := rep_scr r1
      cases r2
      obtain ⟨v, e1, rv⟩ := atI_rep r e
      exact .inl ⟨a, vs, _, v, rfl, rfl, wt.sub.seq h, e1, f.val wt rv q⟩
    · exact q.elim
  · exact q.elim
end
end L2.G

namespace L2.G
open PySem PySem.Spec PyProof.Rows

/-! statements: F0, H0 the entry's heaps -/
structure Ws (K : PySem.W.Frag) (ρ : En) (T : Tk) (t : Option Addr) (σ : L2.St) (F0 H0 F H : Hp) : Prop where
  w : Wd K ρ T t σ F H
  g : Grow t F0 H0 F H
  fr : ∀ (i : Nat) s l, ρ[i]? = some (some s) → s.mine = true → σ[i]? = some (some (.ref l)) → H0 l = none
theorem Ws.grow {K : PySem.W.Frag} {ρ : En} {T T' : Tk} {t : Option Addr} {σ : L2.St} {F0 H0 F H F' H' : Hp} (w : Ws K ρ T t σ F0 H0 F H) (g : Grow t F H F' H') (w' : Wt K T' t F' H') : Ws K ρ T' t σ F0 H0 F' H' :=
  ⟨w.w.grow g w', w.g.trans g, w.fr⟩
def FinS (K : PySem.W.Frag) (t : Option Addr) (F0 H0 F : Hp) (k : En → Tk → Prop) (n : L2.St → Hp → Prop) : Prop := ∀ ρ T σ F' H', Ws K ρ T t σ F0 H0 F' H' → Same F F' → k ρ T → n σ H'
def FinR (K : PySem.W.Frag) (t : Option Addr) (F0 H0 : Hp) (k : KD) (n : VK) : Prop := ∀ v H F d T, Wt K T t F H → Grow t F0 H0 F H → Rep K F d v → k d T → n v H
structure FinE (K : PySem.W.Frag) (t : Option Addr) (F0 H0 F : Hp) (k : dEnds) (E : Ends) : Prop where
  nx : FinS K t F0 H0 F k.nx E.nx
  rt : FinR K t F0 H0 k.rt E.rt
  bk : FinS K t F0 H0 F k.bk E.bk
  ct : FinS K t F0 H0 F k.ct E.ct
theorem FinS.to {K : PySem.W.Frag} {t : Option Addr} {F0 H0 F F1 : Hp} {k : En → Tk → Prop} {n : L2.St → Hp → Prop} (f : FinS K t F0 H0 F k n) (s : Same F F1) : FinS K t F0 H0 F1 k n := fun ρ T σ F' H' w e q => f ρ T σ F' H' w (s.trans e) q
theorem FinE.to {K : PySem.W.Frag} {t : Option Addr} {F0 H0 F F1 : Hp} {k : dEnds} {E : Ends} (f : FinE K t F0 H0 F k E) (s : Same F F1) : FinE K t F0 H0 F1 k E := ⟨f.nx.to s, f.rt, f.bk.to s, f.ct.to s⟩
def tDS (K : PySem.W.Frag) (f : dS) : TS := fun E σ H => ∃ ρ T t F0 H0 F k, Ws K ρ T t σ F0 H0 F H ∧ f k ρ T ∧ FinE K t F0 H0 F k E
abbrev PSd (X : Cx) (st : Stmt) (f : dS) : Prop := PS X st (tDS X.K f)
abbrev PSsd (X : Cx) (st : List Stmt) (f : dS) : Prop := PSs X st (tDS X.K f)

section
variable {X : Cx} {st : Stmt} {rest : List Stmt} {f g : dS} {e : Expr} {fe : dE} {pos : Pos}
def sSeq (f g : dS) : dS := fun k ρ T => f { k with nx := g k } ρ T
theorem ss_cons (h1 : PSd X st f) (h2 : PSsd X rest g) : PSsd X (st :: rest) (sSeq f g) := by
  refine pss_imp (pss_cons h1 h2) fun E σ H h => ?_
  obtain ⟨ρ, T, t, F0, H0, F, k, w, h, fe⟩ := h
  exact ⟨ρ, T, t, F0, H0, F, _, w, h, ⟨fun ρ' T' σ' F' H' w' s' h' => ⟨ρ', T', t, F0, H0, F', k, w', h', fe.to s'⟩, fe.rt, fe.bk, fe.ct⟩⟩
theorem ss_one (h1 : PSd X st f) : PSsd X [st] f := pss_one h1
theorem ss_nil : PSsd X [] (fun k ρ T => k.nx ρ T) := by
  refine pss_imp pss_nil fun E σ H h => ?_
  obtain ⟨ρ, T, t, F0, H0, F, k, w, h, fe⟩ := h
  exact fe.nx _ _ _ _ _ w (Same.refl _) h
theorem s_break : PSd X (.Break pos) (fun k ρ T => k.bk ρ T) := by
  refine ps_imp ps_break fun E σ H h => ?_
  obtain ⟨ρ, T, t, F0, H0, F, k, w, h, fe⟩ := h
  exact fe.bk _ _ _ _ _ w (Same.refl _) h
def sRet (fe : dE) : dS := fun k ρ T => fe ρ T k.rt
theorem s_ret (he : PEd X e fe) : PSd X (.Return (some e) pos) (sRet fe) := by
  refine ps_imp (ps_ret he) fun E σ H h => ?_
  obtain ⟨ρ, T, t, F0, H0, F, k, w, h, fe⟩ := h
  exact ⟨ρ, T, t, F, _, w.w, h, fun v H1 F1 d T1 w1 g1 r1 h1 => fe.rt _ _ _ _ _ w1 (w.g.trans g1) r1 h1⟩
def sExpr (fe : dE) : dS := fun k ρ T => fe ρ T fun _ T1 => k.nx ρ T1
theorem s_expr (he : PEd X e fe) (hs : swapsWith e none pos.line X.env = pure false := by rfl) : PSd X (.Expr e pos) (sExpr fe) := by
  refine ps_imp (ps_expr he hs) fun E σ H h => ?_
  obtain ⟨ρ, T, t, F0, H0, F, k, w, h, fe⟩ := h
  exact ⟨ρ, T, t, F, _, w.w, h, fun v H1 F1 d T1 w1 g1 r1 h1 => fe.nx _ _ _ _ _ (w.grow g1 w1) g1.sub h1⟩
def sIf (c : dT) (f g : dS) : dS := fun k ρ T => c ρ T fun b T1 => if b = true then f k ρ T1 else g k ρ T1
theorem s_if {c : Expr} {tc : dT} {a b : List Stmt} (hc : PTd X c tc) (ha : PSsd X a f) (hb : PSsd X b g) : PSd X (.If c a b pos) (sIf tc f g) := by
  refine ps_imp (ps_if hc ha hb) fun E σ H h => ?_
  obtain ⟨ρ, T, t, F0, H0, F, k, w, h, fe⟩ := h
  refine ⟨ρ, T, t, F, _, w.w, h, fun b H1 F1 T1 w1 g1 h1 => ?_⟩
  cases b with
  | true => exact ⟨ρ, T1, t, F0, H0, F1, k, w.grow g1 w1, h1, fe.to g1.sub⟩
  | false => exact ⟨ρ, T1, t, F0, H0, F1, k, w.grow g1 w1, h1, fe.to g1.sub⟩
theorem s_never : PSd X st (fun _ _ _ => False) := by
  refine ps_imp ps_never fun E σ H h => ?_
  obtain ⟨ρ, T, t, F0, H0, F, k, w, h, fe⟩ := h
  exact h.elim
/-! storing a value in a slot -/
theorem getSet {α : Type} {l : List α} {i j : Nat} {a : α} {b : α} (h : (l.set i a)[j]? = some b) : (i = j ∧ i < l.length ∧ b = a) ∨ (i ≠ j ∧ l[j]? = some b) := by
  by_cases e : i = j
  · subst e
    by_cases hl : i < l.length
    · rw [List.getElem?_set_self hl] at h; cases h; exact .inl ⟨rfl, hl, rfl⟩
    · rw [List.getElem?_eq_none (by simpa using hl)] at h; cases h
  · rw [List.getElem?_set_ne e] at h; exact .inr ⟨e, h⟩
theorem Wd.put {K : PySem.W.Frag} {ρ : En} {T : Tk} {t : Option Addr} {σ : L2.St} {F H : Hp} (w : Wd K ρ T t σ F H) {i : Nat} {d : D} {v : V} (r : Rep K F d v) : Wd K (ρ.set i (some (.val d))) T t (σ.set i (some v)) F H := by
  refine ⟨w.wt, by simpa using w.len, fun j s e => ?_, fun j j' xs ys l e1 e2 e3 e4 => ?_⟩
  · rcases getSet e with ⟨rfl, hl, e'⟩ | ⟨ne, e'⟩
    · cases e'
      exact ⟨v, by rw [List.getElem?_set_self (by rw [← w.len]; exact hl)], r⟩
    · obtain ⟨u, h1, h2⟩ := w.slot j s e'
      exact ⟨u, by rw [List.getElem?_set_ne ne]; exact h1, h2⟩
  · rcases getSet e1 with ⟨_, _, z⟩ | ⟨n1, e1⟩
    · cases z
    · rcases getSet e2 with ⟨_, _, z⟩ | ⟨n2, e2⟩
      · cases z
      · rw [List.getElem?_set_ne n1] at e3
        rw [List.getElem?_set_ne n2] at e4
        exact w.apart j j' xs ys l e1 e2 e3 e4
theorem Ws.put {K : PySem.W.Frag} {ρ : En} {T : Tk} {t : Option Addr} {σ : L2.St} {F0 H0 F H : Hp} (w : Ws K ρ T t σ F0 H0 F H) {i : Nat} {d : D} {v : V} (r : Rep K F d v) : Ws K (ρ.set i (some (.val d))) T t (σ.set i (some v)) F0 H0 F H := by
  refine ⟨w.w.put r, w.g, fun j xs l e1 m1 e2 => ?_⟩
  rcases getSet e1 with ⟨_, _, z⟩ | ⟨ne, e1⟩
  · cases z; cases m1
  · rw [List.getElem?_set_ne ne] at e2
    exact w.fr j xs l e1 m1 e2

/-! targets -/
abbrev dG := D → En → Tk → (En → Tk → Prop) → Prop
def tDG (K : PySem.W.Frag) (g : dG) : TG := fun v σ H Q => ∃ ρ T t F0 H0 F d k, Ws K ρ T t σ F0 H0 F H ∧ Rep K F d v ∧ g d ρ T k ∧ FinS K t F0 H0 F k Q
abbrev PGd (X : Cx) (tg : Expr) (g : dG) : Prop := PG X tg (tDG X.K g)
abbrev dGs := List D → En → Tk → (En → Tk → Prop) → Prop
def tDGs (K : PySem.W.Frag) (g : dGs) : TGs := fun vs σ H Q => ∃ ρ T t F0 H0 F ds k, Ws K ρ T t σ F0 H0 F H ∧ RepL K F ds vs ∧ g ds ρ T k ∧ FinS K t F0 H0 F k Q
theorem pg_imp {tg : Expr} {t u : TG} (h : PG X tg t) (i : ∀ v σ H Q, u v σ H Q → t v σ H Q) : PG X tg u := ⟨fun pins s σ H v u Q I r q => h.run pins s σ H v u Q I r (i _ _ _ _ q)⟩
theorem pgs_imp {tg : List Expr} {t u : TGs} (h : PGs X tg t) (i : ∀ v σ H Q, u v σ H Q → t v σ H Q) : PGs X tg u := ⟨fun pins s σ H v u Q I r q => h.run pins s σ H v u Q I r (i _ _ _ _ q)⟩
def gN (i : Nat) : dG := fun d ρ T k => k (ρ.set i (some (.val d))) T
theorem g_name (i : Nat) {x : Str} (hN : X.N.Nodup) (hi : X.N[i]? = some x := by rfl) (hx : Loc X.env.scope x := by first | exact Or.inl rfl | exact Or.inr rfl) (hf : X.fn x = true ∨ X.env.scope.names.lookup x = some .local := by first | exact .inl rfl | exact .inr rfl | assumption) : PGd X (.Name x pos) (gN i) := by
  refine pg_imp (pg_name hN hi hx hf) fun v σ H Q h => ?_
  obtain ⟨ρ, T, t, F0, H0, F, d, k, w, r, h, f⟩ := h
  exact f _ _ _ _ _ (w.put r) (Same.refl _) h
def gsNil : dGs := fun ds ρ T k => ds = [] ∧ k ρ T
def gsCons (g : dG) (gs : dGs) : dGs := fun ds ρ T k => match ds with | d :: r => g d ρ T fun ρ' T' => gs r ρ' T' k | [] => False
theorem gs_nil : PGs X [] (tDGs X.K gsNil) := by
  refine pgs_imp pgs_nil fun vs σ H Q h => ?_
  obtain ⟨ρ, T, t, F0, H0, F, ds, k, w, r, ⟨e, h⟩, f⟩ := h
  subst e
  cases r
  exact ⟨rfl, f _ _ _ _ _ w (Same.refl _) h⟩
theorem gs_cons {tg : Expr} {tgs : List Expr} {g : dG} {gs : dGs} (h1 : PGd X tg g) (h2 : PGs X tgs (tDGs X.K gs)) (hs : (assignEach (tg :: tgs) X.env).map (·.2) = assign tg X.env :: (assignEach tgs X.env).map (·.2) := by rfl) : PGs X (tg :: tgs) (tDGs X.K (gsCons g gs)) := by
  refine pgs_imp (pgs_cons h1 h2 hs) fun vs σ H Q h => ?_
  obtain ⟨ρ, T, t, F0, H0, F, ds, k, w, r, h, f⟩ := h
  cases r with
  | nil => exact h.elim
  | cons r1 rr => exact ⟨_, _, rfl, ρ, T, t, F0, H0, F, _, _, w, r1, h, fun ρ' T' σ' F' H' w' s' h' => ⟨ρ', T', t, F0, H0, F', _, k, w', rr.mono s', h', f.to s'⟩⟩
def gT (n : Nat) (gs : dGs) : dG := fun d ρ T k => match d with | .tup ds => ds.length = n ∧ gs ds ρ T k | _ => False
def sAsg (fe : dE) (g : dG) : dS := fun k ρ T => fe ρ T fun d T1 => g d ρ T1 k.nx
theorem asg_ok {K : PySem.W.Frag} {g : dG} {σ : L2.St} {H : Hp} {E : Ends} (h : tDS K (sAsg fe g) E σ H) : tD K fe σ H fun v H1 => tDG K g v σ H1 E.nx := by
  obtain ⟨ρ, T, t, F0, H0, F, k, w, h, fe⟩ := h
  refine ⟨ρ, T, t, F, _, w.w, h, fun v H1 F1 d T1 w1 g1 r1 h1 => ?_⟩
  exact ⟨ρ, T1, t, F0, H0, F1, d, _, w.grow g1 w1, r1, h1, fe.nx.to g1.sub⟩
theorem s_asg {tg : Expr} {g : dG} (he : PEd X e fe) (hg : PGd X tg g) (hs : swapsWithSole [tg] e pos.line X.env = pure false := by rfl) (hw : swappedStores [tg] e X.env = pure none := by rfl)
    (h1 : (assignEach [tg] X.env).map (·.2) = [assign tg X.env] := by rfl) : PSd X (.Assign [tg] e pos) (sAsg fe g) :=
  ps_imp (ps_asg he hg hs hw h1) fun _ _ _ h => asg_ok h
theorem s_set (i : Nat) {x : Str} {pos' : Pos} (hN : X.N.Nodup) (he : PEd X e fe) (hi : X.N[i]? = some x := by rfl) (hx : Loc X.env.scope x := by first | exact Or.inl rfl | exact Or.inr rfl) (hs : swapsWith e (some (.Name x pos')) pos.line X.env = pure false := by rfl)
    (hf : X.fn x = true ∨ X.env.scope.names.lookup x = some .local := by first | exact .inl rfl | exact .inr rfl | assumption) : PSd X (.Assign [.Name x pos'] e pos) (sAsg fe (gN i)) := by
  refine ps_imp (ps_set hN hi hx he hs hf) fun E σ H h => ?_
  obtain ⟨ρ, T, t, F0, H0, F, k, w, h, fe⟩ := h
  exact ⟨ρ, T, t, F, _, w.w, h, fun v H1 F1 d T1 w1 g1 r1 h1 => fe.nx _ _ _ _ _ ((w.grow g1 w1).put r1) g1.sub h1⟩
/-- a, b = x, y -/
def sPar (i j : Nat) (fr : dA) : dS := fun k ρ T => fr ρ T fun as T1 => match as with | [.val d, .val e] => k.nx ((ρ.set i (some (.val d))).set j (some (.val e))) T1 | _ => False
theorem s_par (i j : Nat) {x y : Str} {a b : Expr} {fr : dA} {px py pt : Pos} {kt k2 pt2} (hc : X.calm = true) (hN : X.N.Nodup) (ha : PAd X [a, b] fr)
    (hi : X.N[i]? = some x := by rfl) (hj : X.N[j]? = some y := by rfl) (hij : i ≠ j := by decide) (hx : X.env.scope.names.lookup x = some .local := by rfl) (hy : X.env.scope.names.lookup y = some .local := by rfl)
    (hw : swappedStores [.Tuple [.Name x px, .Name y py] kt pt] (.Tuple [a, b] k2 pt2) X.env = pure (some [x, y]) := by rfl)
    (hs : swapsWithSole [.Tuple [.Name x px, .Name y py] kt pt] (.Tuple [a, b] k2 pt2) pos.line X.env = pure false := by rfl) : PSd X (.Assign [.Tuple [.Name x px, .Name y py] kt pt] (.Tuple [a, b] k2 pt2) pos) (sPar i j fr) := by
  refine ps_imp (ps_par hc hN hi hj hij hx hy ha hw hs) fun E σ H h => ?_
  obtain ⟨ρ, T, t, F0, H0, F, k, w, h, fe⟩ := h
  refine ⟨ρ, T, t, F, _, w.w, h, fun vs H1 F1 as T1 w1 g1 r1 h1 => ?_⟩
  split at h1
  · cases r1 with
    | val r1 rr =>
      cases rr with
      | val r2 rr =>
        cases rr
        exact ⟨_, _, rfl, fe.nx _ _ _ _ _ (((w.grow g1 w1).put r1).put r2) g1.sub h1⟩
  · exact h1.elim

/-! loops -/
def sWhile (c : dT) (f : dS) : dS := fun k ρ T => ∃ W : Nat → En → Tk → Prop, (∃ m, W m ρ T) ∧ ∀ m ρ T, W m ρ T → c ρ T fun b T1 => if b = true then
  f { nx := fun ρ' T' => ∃ m', m' < m ∧ W m' ρ' T', rt := k.rt, bk := k.nx, ct := fun ρ' T' => ∃ m', m' < m ∧ W m' ρ' T' } ρ T1 else k.nx ρ T1
theorem s_while {c : Expr} {tc : dT} {body : List Stmt} (hp : PassesOwn (model X.prog X.w) X.A X.env X.xe) (hc : PTd X c tc) (hb : PSsd X body f) : PSd X (.While c body [] pos) (sWhile tc f) := by
  refine ps_imp (ps_while hp hc hb) fun E σ H h => ?_
  obtain ⟨ρ, T, t, F0, H0, F, k, w, ⟨W, ⟨m0, w0⟩, turn⟩, fe⟩ := h
  refine ⟨fun m σ H => ∃ ρ T F', Ws X.K ρ T t σ F0 H0 F' H ∧ Same F F' ∧ W m ρ T, ⟨m0, ρ, T, F, w, Same.refl _, w0⟩, fun m σ H h => ?_⟩
  obtain ⟨ρ, T, F', w, sF, hW⟩ := h
  refine ⟨ρ, T, t, F', _, w.w, turn m ρ T hW, fun b H1 F1 T1 w1 g1 h1 => ?_⟩
  have s1 : Same F F1 := sF.trans g1.sub
  cases b with
  | false => exact fe.nx _ _ _ _ _ (w.grow g1 w1) s1 h1
  | true =>
    rw [if_pos rfl] at h1
    refine iteT ⟨fun σ' H' => ∃ m', m' < m ∧ ∃ ρ T F', Ws X.K ρ T t σ' F0 H0 F' H' ∧ Same F F' ∧ W m' ρ T, fun σ' H' h => h, ρ, T1, t, F0, H0, F1, _, w.grow g1 w1, h1, ?_⟩
    exact ⟨fun ρ' T' σ' F' H' w' s' ⟨m', lt, hw'⟩ => ⟨m', lt, ρ', T', F', w', s1.trans s', hw'⟩, fe.rt, fe.nx.to s1, fun ρ' T' σ' F' H' w' s' ⟨m', lt, hw'⟩ => ⟨m', lt, ρ', T', F', w', s1.trans s', hw'⟩⟩
/-- over some items -/
def forL (g : dG) (f : dS) (k : dEnds) : List D → En → Tk → Prop
  | [], ρ, T => k.nx ρ T
  | d :: r, ρ, T => g d ρ T fun ρ1 T1 => f { nx := forL g f k r, rt := k.rt, bk := k.nx, ct := forL g f k r } ρ1 T1
def D.items : D → Option (List D) | .tup xs => some xs | .lst xs => some xs | _ => none
/-- range(lo, lo + n) -/
def intsL (lo : Int) : Nat → List D
  | 0 => [] | n + 1 => .int lo :: intsL (lo + 1) n
theorem intsL_len : ∀ (n : Nat) (lo : Int), (intsL lo n).length = n
  | 0, _ => rfl
  | n + 1, lo => by simp [intsL, intsL_len n]
theorem intsL_get : ∀ (n : Nat) (lo : Int) (i : Nat), i < n → (intsL lo n)[i]? = some (.int (lo + i))
  | 0, _, _, h => absurd h (Nat.not_lt_zero _)
  | n + 1, lo, 0, _ => by simp [intsL]
  | n + 1, lo, i + 1, h => by
    show (intsL (lo + 1) n)[i]? = _
    rw [intsL_get n (lo + 1) i (by omega)]
    congr 2
    omega
end
end L2.G

namespace L2.G
open PySem PySem.Spec PyProof.Rows

/-! a def's promise where no text is being written (for repr) -/
structure GFn (P : Program) (w : World) (K : PySem.W.Frag) (mg : Str → Option Value) (base : Heap) (CX : CXT) (n : Nat) (f : Addr) (fd : FuncData) (ps : List Str) (sp : Sp) : Prop where
  len : ∀ vs H Q E, sp vs H Q E → vs.length = ps.length
  go : ∀ (A : Around) (fs : List Env) (s : Shared) (H : Hp) (args : Args) (us : List Value) (vs : List V) (Q : VK) (E : XK),
    Room n A ∧ A.guards = some [] → Env0 P w K mg base A fs s H → BindsTo s fd args (ps.zip us) → Vals vs us → sp vs H Q E → codeAny (model P w) A (.call (.ref f) args) (CR CX fs P w H s Q E) s

section
variable {P : Program} {w : World} {K : PySem.W.Frag} {mg : Str → Option Value} {base : Heap} {CX : CXT}
theorem GFn.mono {m n : Nat} {f : Addr} {fd : FuncData} {ps : List Str} {sp : Sp} (G : GFn P w K mg base CX m f fd ps sp) (h : m ≤ n) : GFn P w K mg base CX n f fd ps sp :=
  ⟨G.len, fun A fs s H args us vs Q E r => G.go A fs s H args us vs Q E ⟨r.1.mono h, r.2⟩⟩
theorem GFn.imp {n : Nat} {f : Addr} {fd : FuncData} {ps : List Str} {sp sp' : Sp} (G : GFn P w K mg base CX n f fd ps sp) (h : ∀ vs H Q E, sp' vs H Q E → sp vs H Q E) : GFn P w K mg base CX n f fd ps sp' :=
  ⟨fun vs H Q E q => G.len vs H Q E (h _ _ _ _ q), fun A fs s H args us vs Q E r e b v q => G.go A fs s H args us vs Q E r e b v (h _ _ _ _ q)⟩
/-- by the body -/
theorem gfn_body {n : Nat} {f : Addr} {name qual : Str} {params : Arguments} {body : List Stmt} {scope : Scope} {dV kV doc pm cdv ct oc : Value} {an od : Option Addr} {osl : Array (Option Value)} {N ps : List Str} {sp : Sp}
    (lk : K.lookup f = some ⟨oc, od, .func (PySem.W.fnOf name qual params body scope dV kV doc pm an cdv ct), osl⟩) (hcd : PySem.W.codeIn K cdv qual = true) (S : FnScope N ps scope) (len : ∀ vs H Q E, sp vs H Q E → vs.length = ps.length)
    (hb : ∀ (A : Around) (fs : List Env) (s : Shared) (H : Hp) (vs : List V) (Q : VK) (E : XK), Room n (A.deeper (envOfC qual scope s.heap.objs.size f cdv)) → A.guards = some [] → sp vs H Q E →
      ∃ t, PSs (cxOf CX P w K mg base N qual scope f cdv A fs s H E) body t ∧ t { nx := fun _ H' => Q .non H', rt := Q } (start N vs) H) :
    GFn P w K mg base CX (n + 1) f (PySem.W.fnOf name qual params body scope dV kV doc pm an cdv ct) ps sp := by
  constructor
  · exact len
  intro A fs s H args us vs Q E room e0 bd r hsp
  obtain ⟨hr, hgd⟩ := room
  have hl := len _ _ _ _ hsp
  have up : ∀ b o, base.get? b = some o → s.heap.get? b = some o := fun b o e => (e0.bs b o e).1
  have KX : K.In s.heap := e0.mod.kin.keeps up
  have hk : ∀ y ∈ ps.zip us, scope.names.lookup y.1 = some .local ∨ (scope.names.lookup y.1 = some .cell ∧ ((cellsFrom (s.heap.objs.size + 1) scope.names []).lookup y.1).isSome = true) := by
    rintro ⟨m, v⟩ hy
    cases S.par m (List.of_mem_zip hy).1 with
    | inl q => exact .inl q
    | inr q => exact .inr ⟨q, PySem.W.cellsFrom_some _ _ _ (.inl q)⟩
  apply codeAny_call_function hr.depth (KX _ _ lk) rfl S.co S.gen rfl (PySem.W.codeRec_of KX hcd)
  apply bd
  apply wpAny_newFunctionEnv_cells S.kind hk
  intro env he s1 x
  subst he
  constructor
  · exact (e0.mod.nolimit.keeps up).keeps x.toInCall.keep
  apply codeAny_func
  obtain ⟨t, ht, hq⟩ := hb A fs s H vs Q E (hr.deeper _) hgd hsp
  have I := inv_start (CX := CX) (E := E) (f := f) (cd := cdv) (qual := qual) S hr.hd e0 hl r x
  have last : ∀ {σ' : L2.St} {H' : Hp} {v : V} {u : Value} {s' : Shared}, Inv (cxOf CX P w K mg base N qual scope f cdv A fs s H E) [] σ' H' s' → RelV v u → Q v H' → CE fs P w H s Q u s' :=
    fun {_ H' v u _} J rv q => ⟨v, H', J.os, J.bare, J.base, J.hok, rv, q⟩
  apply wpAny_mono (ht.run [] s1 (start N vs) H _ I hq)
  · intro fl s' hs
    cases fl with
    | next => obtain ⟨_, _, J, q⟩ := hs; exact last (v := V.non) (u := Value.none) J rfl q
    | brk => obtain ⟨_, _, _, q⟩ := hs; exact q.elim
    | cont => obtain ⟨_, _, _, q⟩ := hs; exact q.elim
    | ret u => obtain ⟨v, _, _, J, rv, q⟩ := hs; exact last J rv q
  · exact fun e s' hs => hs
end

section
variable {X : Cx} {CX : CXT} {n : Nat} {f : Addr} {fd : FuncData} {ps ks : List Str} {sp : Sp} {E : XK} {x : Str} {p pos : Pos} {e : Expr} {es : List Expr} {kws : List Keyword} {t tk : TA} {g : List Value → List Value → List Value} {gV : List V → List V → List V}
/-- the call, however the arguments are bound -/
theorem g_run (G : GFn X.prog X.w X.K X.mg X.base CX n f fd ps sp) (hr : Room n X.A) (hgd : X.A.guards = some []) (hx : Passes CX X E) {pins : List (Addr × Obj)} {σ : L2.St} {H : Hp} {s : Shared} {Q : VK} {args : Args} {us : List Value} {vs : List V}
    (I : Inv X pins σ H s) (r : Vals vs us) (b : BindsTo s fd args (ps.zip us)) (h : sp vs H Q E) : wpAny (model X.prog X.w) X.A (call (.ref f) args.pos args.kw) (EP X pins σ Q) X.xe s := by
  apply wpAny_call
  apply codeAny_mono (G.go X.A X.stack s H args us vs Q E ⟨hr, hgd⟩ I.env0 b r h)
  intro r s' hq
  match r, hq with
  | .error e, hq => exact hx pins σ H s e s' I hq
  | .ok (.ret u), hq => exact I.after hq
theorem g_call (G : GFn X.prog X.w X.K X.mg X.base CX n f fd ps sp) (hr : Room n X.A) (hgd : X.A.guards = some []) (hg : Gl X x) (hm : X.mg x = some (.ref f)) (hk : PySem.W.keepIn X.K (.ref f) = true) (hb : Binds X.K fd ps []) (hx : Passes CX X E)
    (ha : PA X (e :: es) t) (hd : (x == ("__debug__" : Str)) = false := by decide) (he : starEach (e :: es) X.env = (false, eval e X.env) :: starEach es X.env := by rfl) (hp : (backTo pos (starEach es X.env)).any (·.1) = false := by rfl) :
    PE X (.Call (.Name x p) (e :: es) [] pos) (tCall sp [] E t) := by
  constructor
  intro pins s σ H Q I h
  apply wpAny_Call_Name_kw
  apply ld_glob I hg hm _ hd
  apply PySem.W.callWith_K (h₀ := X.base) I.ok.mod.kin hk _ he hp
  apply thn (ha.run pos pins s σ H _ I h)
  rintro us s1 ⟨vs, H1, I1, r, q⟩
  refine ⟨I1.kIn, ?_⟩
  have q : sp (vs ++ []) H1 Q E := q
  rw [List.append_nil] at q
  have hl : us.length = ps.length := by rw [← r.length]; exact G.len _ _ _ _ q
  have b := hb s1 us I1.kIn (by rw [List.append_nil]; exact hl)
  rw [List.append_nil] at b
  exact g_run G hr hgd hx (args := ⟨us, []⟩) I1 r b q
theorem g_call0 (G : GFn X.prog X.w X.K X.mg X.base CX n f fd ps sp) (hr : Room n X.A) (hgd : X.A.guards = some []) (hg : Gl X x) (hm : X.mg x = some (.ref f)) (hk : PySem.W.keepIn X.K (.ref f) = true) (hb : Binds X.K fd ps []) (hx : Passes CX X E)
    (hd : (x == ("__debug__" : Str)) = false := by decide) : PE X (.Call (.Name x p) [] [] pos) (tCall sp [] E tNil) := by
  constructor
  intro pins s σ H Q I h
  apply wpAny_Call_Name_kw
  apply ld_glob I hg hm _ hd
  apply PySem.W.callWith_K0 I.kIn hk
  have q : sp [] H Q E := h
  have hl := G.len _ _ _ _ q
  exact g_run G hr hgd hx (args := ⟨[], []⟩) I .nil (hb s [] I.kIn hl) q
/-- all arguments by name -/
theorem g_callK (G : GFn X.prog X.w X.K X.mg X.base CX n f fd ps sp) (hr : Room n X.A) (hgd : X.A.guards = some []) (hg : Gl X x) (hm : X.mg x = some (.ref f)) (hk : PySem.W.keepIn X.K (.ref f) = true) (hx : Passes CX X E)
    (hb : ∀ (s : Shared) (ws : List Value), X.K.In s.heap → ws.length = ps.length → BindsTo s fd ⟨[], ks.zip ws⟩ (ps.zip ws)) (hkw : PK X kws tk) (hd : (x == ("__debug__" : Str)) = false := by decide)
    (hall : (backToKw pos (keywordEach kws X.env)).all (·.1.isSome) = true := by rfl) (hks : (backToKw pos (keywordEach kws X.env)).filterMap (·.1) = ks := by rfl)
    (hp : ((backTo pos (starEach [] X.env)).any (·.1) || (backToKw pos (keywordEach kws X.env)).any (·.1.isNone)) = false := by rfl) : PE X (.Call (.Name x p) [] kws pos) (tCall sp [] E tk) := by
  constructor
  intro pins s σ H Q I h
  apply wpAny_Call_Name_kw
  apply ld_glob I hg hm _ hd
  apply PySem.W.callWith_KW0 (h₀ := X.base) I.ok.mod.kin hk hall _ hp
  apply thn (hkw.run pos pins s σ H _ I h)
  rintro ws s1 ⟨zs, H1, I1, r, q⟩
  refine ⟨I1.kIn, ?_⟩
  rw [hks]
  have q : sp (zs ++ []) H1 Q E := q
  rw [List.append_nil] at q
  have hl : ws.length = ps.length := by rw [← r.length]; exact G.len _ _ _ _ q
  exact g_run G hr hgd hx (args := ⟨[], ks.zip ws⟩) I1 r (hb s1 ws I1.kIn hl) q
end

/-! defs over data -/
abbrev Sem := List SV → Tk → KD → Prop
def spD (K : PySem.W.Frag) (n : Nat) (sem : Sem) : Sp := fun vs H Q _ => vs.length = n ∧ ∃ F t T as k, ArgL K t F as vs ∧ Wt K T t F H ∧ sem as T k ∧ Fin K t F H k Q
/-- the def x stands in the module and does sem -/
def Ok (P : Program) (w : World) (K : PySem.W.Frag) (mg : Str → Option Value) (base : Heap) (n : Nat) (x : Str) (ps : List Str) (sem : Sem) : Prop :=
  ∃ f fd, mg x = some (.ref f) ∧ PySem.W.keepIn K (.ref f) = true ∧ Binds K fd ps [] ∧ (∀ (s : Shared) (ws : List Value), K.In s.heap → ws.length = ps.length → BindsTo s fd ⟨[], ps.zip ws⟩ (ps.zip ws)) ∧ GFn P w K mg base CX0 n f fd ps (spD K ps.length sem) ∧ ∃ oc od osl, K.lookup f = some ⟨oc, od, .func fd, osl⟩
def Df (K : PySem.W.Frag) (mg : Str → Option Value) (x : Str) (st : Stmt) : Prop := ∃ f fd, Fun K x x st f fd ∧ mg x = some (.ref f)
theorem Ok.mono {P : Program} {w : World} {K : PySem.W.Frag} {mg : Str → Option Value} {base : Heap} {m n : Nat} {x : Str} {ps : List Str} {sem : Sem} (h : Ok P w K mg base m x ps sem) (l : m ≤ n) : Ok P w K mg base n x ps sem :=
  let ⟨f, fd, h1, h2, h3, h4, h5, h6⟩ := h; ⟨f, fd, h1, h2, h3, h4, h5.mono l, h6⟩
/-- a weaker reading -/
theorem Ok.imp {P : Program} {w : World} {K : PySem.W.Frag} {mg : Str → Option Value} {base : Heap} {n : Nat} {x : Str} {ps : List Str} {sem sem' : Sem} (h : Ok P w K mg base n x ps sem) (i : ∀ as T k, sem' as T k → sem as T k) : Ok P w K mg base n x ps sem' :=
  let ⟨f, fd, h1, h2, h3, h4, h5, h6⟩ := h; ⟨f, fd, h1, h2, h3, h4, h5.imp (fun vs H Q E ⟨q1, F, t, T, as, k, a, b, c, d⟩ => ⟨q1, F, t, T, as, k, a, b, i _ _ _ c, d⟩), h6⟩
abbrev CxD (P : Program) (w : World) (K : PySem.W.Frag) (mg : Str → Option Value) (base : Heap) (N : List Str) (x : Str) (st : Stmt) (f : Addr) (cdv : Value) (A : Around) (fs : List Env) (s : Shared) (H : Hp) (E : XK) : Cx :=
  (cxOf CX0 P w K mg base N x (defScope st) f cdv A fs s H E).nox
/-- what a body does, from the arguments -/
def start' (N : List Str) (as : List SV) : En := as.map some ++ List.replicate (N.length - as.length) none
def semOf (N : List Str) (b : dS) : Sem := fun as T k => b { nx := fun _ T => k .non T, rt := k, bk := fun _ _ => False, ct := fun _ _ => False } (start' N as) T
theorem argGet {K : PySem.W.Frag} {t : Option Addr} {F H : Hp} : ∀ {as : List SV} {vs : List V} (r : ArgL K t F as vs) (i : Nat) s, as[i]? = some s → (∃ v, vs[i]? = some v ∧ SlotR K t F H s v) ∧ s.mine = false
  | _, _, .nil, _, _, e => by simp at e
  | _, _, .val r q, 0, s, e => by simp at e; subst e; exact ⟨⟨_, rfl, r⟩, rfl⟩
  | _, _, .tank r q, 0, s, e => by simp at e; subst e; exact ⟨⟨_, rfl, _, r, rfl⟩, rfl⟩
  | _, _, .val r q, i + 1, s, e => argGet q i s (by simpa using e)
  | _, _, .tank r q, i + 1, s, e => argGet q i s (by simpa using e)
theorem startGet {N : List Str} {as : List SV} {i : Nat} {s : SV} (h : (start' N as)[i]? = some (some s)) : as[i]? = some s := by
  unfold start' at h
  by_cases hi : i < as.length
  · rw [List.getElem?_append_left (by simpa using hi), List.getElem?_map] at h
    cases e : as[i]? with
    | none => rw [e] at h; cases h
    | some a => rw [e] at h; cases h; rfl
  · rw [List.getElem?_append_right (by simpa using hi), List.getElem?_replicate] at h
    split at h <;> cases h
theorem wd_start {K : PySem.W.Frag} {N : List Str} {t : Option Addr} {F H : Hp} {T : Tk} {as : List SV} {vs : List V} (r : ArgL K t F as vs) (w : Wt K T t F H) : Wd K (start' N as) T t (start N vs) F H := by
  refine ⟨w, by simp [start', start, r.len], fun i s e => ?_, fun i j xs ys l e1 _ _ _ => ?_⟩
  · have e' := startGet e
    obtain ⟨⟨v, h1, h2⟩, _⟩ := argGet (H := H) r i s e'
    refine ⟨v, ?_, h2⟩
    have hi := (List.getElem?_eq_some_iff.mp h1).1
    unfold start
    rw [List.getElem?_append_left (by simpa using hi), List.getElem?_map, h1]
    rfl
  · exact absurd (argGet (H := H) r i _ (startGet e1)).2 (fun z => nomatch z)
/-- where the def x stands, and its code object -/
def CdAt (K : PySem.W.Frag) (mg : Str → Option Value) (x : Str) (f : Addr) (cdv : Value) : Prop := mg x = some (.ref f) ∧ ∃ oc od fd osl, K.lookup f = some ⟨oc, od, .func fd, osl⟩ ∧ fd.code = cdv ∧ PySem.W.kdsCode K cdv = true
theorem ok_def {P : Program} {w : World} {K : PySem.W.Frag} {mg : Str → Option Value} {base : Heap} {n : Nat} {x : Str} {st : Stmt} {N ps : List Str} {b : dS} (h : Df K mg x st) (S : FnScope N ps (defScope st))
    (hb1 : ∀ (kV doc pm : Value) (an : Option Addr) (cdv ct : Value) (us : List Value), us.length = ps.length → bindArgs (PySem.W.fnOf x x (defArgs st) (defBody st) (defScope st) .none kV doc pm an cdv ct) ⟨us, []⟩ = pure (ps.zip us))
    (hb2 : ∀ (kV doc pm : Value) (an : Option Addr) (cdv ct : Value) (us : List Value), us.length = ps.length → bindArgs (PySem.W.fnOf x x (defArgs st) (defBody st) (defScope st) .none kV doc pm an cdv ct) ⟨[], ps.zip us⟩ = pure (ps.zip us))
    (body : ∀ (f : Addr) (cdv : Value) (A : Around) (fs : List Env) (s : Shared) (H : Hp) (E : XK), CdAt K mg x f cdv → Room n (A.deeper (envOfC x (defScope st) s.heap.objs.size f cdv)) → A.guards = some [] → PSsd (CxD P w K mg base N x st f cdv A fs s H E) (defBody st) b) :
    Ok P w K mg base (n + 1) x ps (semOf N b) := by
  obtain ⟨f, fd, Fn, hm⟩ := h
  refine ⟨f, fd, hm, Fn.kp, Fn.binds hb1, ?_, ?_, by obtain ⟨oc, od, kV, doc, pm, an, cdv, ct, osl, _, lk, _⟩ := Fn.ex; exact ⟨oc, od, osl, lk⟩⟩
  · obtain ⟨oc, od, kV, doc, pm, an, cdv, ct, osl, rfl, lk, hcd⟩ := Fn.ex
    exact fun s ws _ hl => .of_eq (hb2 kV doc pm an cdv ct ws hl)
  · obtain ⟨oc, od, kV, doc, pm, an, cdv, ct, osl, rfl, lk, hcd⟩ := Fn.ex
    refine gfn_body lk hcd S (fun vs H Q E q => q.1) fun A fs s H vs Q E hr hgd hsp => ?_
    obtain ⟨hl, F, t, T, as, k, ar, wt, h, fin⟩ := hsp
    refine ⟨_, (body f cdv A fs s H E ⟨hm, _, _, _, _, lk, rfl, kdsCode_of hcd⟩ hr hgd).nox, start' N as, T, t, F, H, F, _, ⟨wd_start ar wt, Grow.refl _ _ _, fun i s l e1 m1 _ => ?_⟩, h, ?_⟩
    · exact absurd m1 (by rw [(argGet (H := H) ar i _ (startGet e1)).2]; exact fun z => nomatch z)
    · exact ⟨fun ρ T' σ' F' H' w' _ q => fin .non H' F' .non T' w'.w.wt w'.g .non q, fun v H' F' d T' w' g' r' q => fin v H' F' d T' w' g' r' q, fun _ _ _ _ _ _ _ q => q.elim, fun _ _ _ _ _ _ _ q => q.elim⟩

section
variable {X : Cx} {n : Nat} {x : Str} {ps : List Str} {sem : Sem} {p pos : Pos} {e : Expr} {es : List Expr} {kws : List Keyword} {fr : dA}
def dCall (n : Nat) (sem : Sem) (fr : dA) : dE := fun ρ T k => fr ρ T fun as T1 => as.length = n ∧ sem as T1 k
theorem call_ok {K : PySem.W.Frag} {E : XK} {σ : L2.St} {H : Hp} {Q : VK} (h : tD K (dCall n sem fr) σ H Q) : tCall (spD K n sem) [] E (tDA K fr) σ H Q := by
  obtain ⟨ρ, T, t, F, k, w, h, f⟩ := h
  refine ⟨ρ, T, t, F, _, w, h, fun vs H1 F1 as T1 w1 g1 r1 h1 => ?_⟩
  show spD K n sem (vs ++ []) H1 Q E
  rw [List.append_nil]
  exact ⟨by rw [← r1.len]; exact h1.1, F1, t, T1, as, k, r1, w1, h1.2, f.then g1⟩
theorem d_call (G : Ok X.prog X.w X.K X.mg X.base n x ps sem) (hr : Room n X.A) (hgd : X.A.guards = some []) (ha : PAd X (e :: es) fr) (hg : Gl X x := by rfl)
    (hd : (x == ("__debug__" : Str)) = false := by decide) (he : starEach (e :: es) X.env = (false, eval e X.env) :: starEach es X.env := by rfl) (hp : (backTo pos (starEach es X.env)).any (·.1) = false := by rfl) : PEd X (.Call (.Name x p) (e :: es) [] pos) (dCall ps.length sem fr) := by
  obtain ⟨f, fd, h1, h2, h3, _, h5, _⟩ := G
  exact pe_imp (g_call (E := E0) h5 hr hgd hg h1 h2 h3 pass0 ha hd he hp) fun _ _ _ h => call_ok h
theorem d_call0 (G : Ok X.prog X.w X.K X.mg X.base n x ps sem) (hr : Room n X.A) (hgd : X.A.guards = some []) (hg : Gl X x := by rfl) (hd : (x == ("__debug__" : Str)) = false := by decide) : PEd X (.Call (.Name x p) [] [] pos) (dCall ps.length sem aNil) := by
  obtain ⟨f, fd, h1, h2, h3, _, h5, _⟩ := G
  refine pe_imp (g_call0 (E := E0) h5 hr hgd hg h1 h2 h3 pass0 hd) fun σ H Q h => ?_
  obtain ⟨ρ, T, t, F, k, w, h, f⟩ := h
  exact ⟨h.1, F, t, T, [], k, .nil, w.wt, h.2, f⟩
theorem pk_imp {t u : TA} (h : PK X kws t) (i : ∀ σ H Q, u σ H Q → t σ H Q) : PK X kws u := ⟨fun pos pins s σ H Q I q => h.run pos pins s σ H Q I (i _ _ _ q)⟩
abbrev PKd (X : Cx) (kws : List Keyword) (f : dA) : Prop := PK X kws (tDA X.K f)
theorem k_nil : PKd X [] aNil := by
  refine pk_imp pk_nil fun σ H Q h => ?_
  obtain ⟨ρ, T, t, F, k, w, h, f⟩ := h
  exact f _ _ _ _ _ w.wt (Grow.refl _ _ _) .nil h
theorem k_cons {nm : Option Str} {kp : Pos} {fe : dE} (he : PEd X e fe) (hr : PKd X kws fr) : PKd X (⟨nm, e, kp⟩ :: kws) (aCons fe fr) := by
  refine pk_imp (pk_cons he hr) fun σ H Q h => ?_
  obtain ⟨ρ, T, t, F, k, w, h, f⟩ := h
  refine ⟨ρ, T, t, F, _, w, h, fun v H1 F1 x T1 w1 g1 r1 h1 => ?_⟩
  refine ⟨ρ, T1, t, F1, _, w.grow g1 w1, h1, fun vs H2 F2 as T2 w2 g2 r2 h2 => ?_⟩
  exact f _ _ _ _ _ w2 (g1.trans g2) (.val (r1.mono g2.sub) r2) h2
theorem d_callK (G : Ok X.prog X.w X.K X.mg X.base n x ps sem) (hr : Room n X.A) (hgd : X.A.guards = some []) (hkw : PKd X kws fr) (hg : Gl X x := by rfl) (hd : (x == ("__debug__" : Str)) = false := by decide)
    (hall : (backToKw pos (keywordEach kws X.env)).all (·.1.isSome) = true := by rfl) (hks : (backToKw pos (keywordEach kws X.env)).filterMap (·.1) = ps := by rfl)
    (hp : ((backTo pos (starEach [] X.env)).any (·.1) || (backToKw pos (keywordEach kws X.env)).any (·.1.isNone)) = false := by rfl) : PEd X (.Call (.Name x p) [] kws pos) (dCall ps.length sem fr) := by
  obtain ⟨f, fd, h1, h2, _, h4, h5, _⟩ := G
  exact pe_imp (g_callK (E := E0) h5 hr hgd hg h1 h2 pass0 h4 hkw hd hall hks hp) fun _ _ _ h => call_ok h
end
end L2.G

namespace L2.G
open PySem PySem.Spec PyProof.Rows

/-! built-in functions -/
section
variable {X : Cx} {x : Str} {p pos : Pos} {e : Expr} {es : List Expr} {fr : dA} {id T : String} {r : List V → Hp → VK → Prop}
def dBlt (o : List D → (D → Prop) → Prop) (fr : dA) : dE := fun ρ T k => fr ρ T fun as T1 => match vals? as with | some ds => o ds fun d => k d T1 | none => False
def BltS (K : PySem.W.Frag) (r : List V → Hp → VK → Prop) (o : List D → (D → Prop) → Prop) : Prop := ∀ {t : Option Addr} {F H : Hp} {T : Tk} {ds : List D} {vs : List V} {k : KD} {Q : VK}, Wt K T t F H → RepL K F ds vs → o ds (fun d => k d T) → Fin K t F H k Q → r vs H Q
theorem blt_ok {K : PySem.W.Frag} {o : List D → (D → Prop) → Prop} (s : BltS K r o) {σ : L2.St} {H : Hp} {Q : VK} (h : tD K (dBlt o fr) σ H Q) : tCB r (tDA K fr) σ H Q := by
  obtain ⟨ρ, T, t, F, k, w, h, f⟩ := h
  refine ⟨ρ, T, t, F, _, w, h, fun vs H1 F1 as T1 w1 g1 r1 h1 => ?_⟩
  split at h1
  · rename_i ds e
    exact s w1 (r1.vals e) h1 (f.then g1)
  · exact h1.elim
theorem d_blt {o : List D → (D → Prop) → Prop} (hc : CallR X (.builtin id) r) (s : BltS X.K r o) (hm : X.mg x = none) (ha : PAd X (e :: es) fr) (hv : bootBuiltins x = some (.builtin id) := by decide +kernel) (hg : Gl X x := by rfl) (hn : x ≠ "__name__" := by decide) (hd : (x == ("__debug__" : Str)) = false := by decide)
    (he : starEach (e :: es) X.env = (false, eval e X.env) :: starEach es X.env := by rfl) (hp : (backTo pos (starEach es X.env)).any (·.1) = false := by rfl) : PEd X (.Call (.Name x p) (e :: es) [] pos) (dBlt o fr) :=
  pe_imp (pe_callB hc hg hm hv ha hn hd he hp) fun _ _ _ h => blt_ok s h
theorem d_blty {o : List D → (D → Prop) → Prop} (hc : CallR X (.type T) r) (s : BltS X.K r o) (hm : X.mg x = none) (ha : PAd X (e :: es) fr) (hv : bootBuiltins x = some (.type T) := by decide +kernel) (hg : Gl X x := by rfl) (hn : x ≠ "__name__" := by decide) (hd : (x == ("__debug__" : Str)) = false := by decide)
    (he : starEach (e :: es) X.env = (false, eval e X.env) :: starEach es X.env := by rfl) (hp : (backTo pos (starEach es X.env)).any (·.1) = false := by rfl) : PEd X (.Call (.Name x p) (e :: es) [] pos) (dBlt o fr) :=
  pe_imp (pe_callTy hc hg hm hv ha hn hd he hp) fun _ _ _ h => blt_ok s h
/-- a name of the module for a built-in function (gcd of math) -/
theorem d_bfun {o : List D → (D → Prop) → Prop} (hc : CallR X (.builtin id) r) (s : BltS X.K r o) (hm : X.mg x = some (.builtin id)) (ha : PAd X (e :: es) fr) (hg : Gl X x := by rfl) (hd : (x == ("__debug__" : Str)) = false := by decide)
    (he : starEach (e :: es) X.env = (false, eval e X.env) :: starEach es X.env := by rfl) (hp : (backTo pos (starEach es X.env)).any (·.1) = false := by rfl) : PEd X (.Call (.Name x p) (e :: es) [] pos) (dBlt o fr) :=
  pe_imp (pe_callBfun hc hg hm ha hd he hp) fun _ _ _ h => blt_ok s h

/-! len -/
def oLen (ds : List D) (k : D → Prop) : Prop := match ds with | [.tup xs] => k (.int xs.length) | [.lst xs] => k (.int xs.length) | [.scr xs] => k (.int xs.length) | _ => False
theorem oLen_ok {K : PySem.W.Frag} : BltS K (fun xs H Q => ∃ p ys, xs = [.ref p] ∧ (SqL K H p ys ∨ SqT K H p ys) ∧ Q (.int ys.length) H) oLen := by
  intro t F H T ds vs k Q wt r q f
  unfold oLen at q
  split at q
  · cases r with
    | cons r rr =>
      cases rr
      obtain ⟨a, ws, rfl, h, r⟩ := rep_tup r
      rw [r.len] at q
      exact ⟨a, ws, rfl, .inr (same_t wt.sub h), f.val wt (.int _) q⟩
  · cases r with
    | cons r rr =>
      cases rr
      obtain ⟨a, ws, rfl, h, r⟩ := rep_lst r
      rw [r.len] at q
      exact ⟨a, ws, rfl, .inl (.of (wt.sub _ _ h)), f.val wt (.int _) q⟩
  · cases r with
    | cons r rr =>
      cases rr
      obtain ⟨a, ws, rfl, h, r⟩ := rep_scr r
      rw [r.len] at q
      exact ⟨a, ws, rfl, .inl (wt.sub.seq h), f.val wt (.int _) q⟩
  · exact q.elim
/-! functions of ints -/
def o1 (g : Int → Int) (ds : List D) (k : D → Prop) : Prop := match ds with | [.int i] => k (.int (g i)) | _ => False
def o2 (g : Int → Int → Int) (ds : List D) (k : D → Prop) : Prop := match ds with | [.int i, .int j] => k (.int (g i j)) | _ => False
theorem o1_ok {K : PySem.W.Frag} {g : Int → Int} : BltS K (fun xs H Q => ∃ i, xs = [.int i] ∧ Q (.int (g i)) H) (o1 g) := by
  intro t F H T ds vs k Q wt r q f
  unfold o1 at q
  split at q
  · cases r with
    | cons r rr => cases rr; cases r; exact ⟨_, rfl, f.val wt (.int _) q⟩
  · exact q.elim
theorem o2_ok {K : PySem.W.Frag} {g : Int → Int → Int} : BltS K (fun xs H Q => ∃ i j, xs = [.int i, .int j] ∧ Q (.int (g i j)) H) (o2 g) := by
  intro t F H T ds vs k Q wt r q f
  unfold o2 at q
  split at q
  · cases r with
    | cons r rr => cases rr with | cons r2 rr => cases rr; cases r; cases r2; exact ⟨_, _, rfl, f.val wt (.int _) q⟩
  · exact q.elim
/-- int(e) of an int, of a truth value -/
def oIntB (ds : List D) (k : D → Prop) : Prop := match ds with | [.int i] => k (.int i) | [.bl b] => k (.int (if b then 1 else 0)) | _ => False
theorem oIntB_ok {K : PySem.W.Frag} : BltS K (fun xs H Q => (∃ i, xs = [.int i] ∧ Q (.int i) H) ∨ ∃ k, xs = [.bl k] ∧ Q (.int (if k then 1 else 0)) H) oIntB := by
  intro t F H T ds vs k Q wt r q f
  unfold oIntB at q
  split at q
  · cases r with
    | cons r rr => cases rr; cases r; exact .inl ⟨_, rfl, f.val wt (.int _) q⟩
  · cases r with
    | cons r rr => cases rr; cases r; exact .inr ⟨_, rfl, f.val wt (.int _) q⟩
  · exact q.elim
/-! isqrt -/
theorem cr_isqrt : CallR X (.builtin "math.isqrt") (fun xs H Q => ∃ i : Int, xs = [.int i] ∧ (0 ≤ i ∧ i.natAbs < 2 ^ 13000) ∧ Q (.int ((Float64.isqrt i.toNat : Nat) : Int)) H) := by
  intro pins s σ H vs us Q I r h
  obtain ⟨i, rfl, ⟨h0, h1⟩, q⟩ := h
  obtain ⟨u, rfl, t, rfl⟩ := vals1 r
  have hl : i.toNat.log2 < 13000 := by
    have : i.toNat = i.natAbs := by omega
    rw [this]
    exact PySem.Flt.log2_lt_of (by decide) h1
  have h2 := PySem.W.mg_run_isqrt i t (by omega) (by omega) (by omega)
  exact call_function_meets PySem.W.MGF.kind_isqrt PySem.W.MGF.plain_isqrt PySem.W.MGF.entry_isqrt (PySem.W.MGF.args_isqrt _) h2.meets ⟨.int _, H, I.tok _, ⟨_, rfl⟩, q⟩
def oSqrt (ds : List D) (k : D → Prop) : Prop := match ds with | [.int i] => (0 ≤ i ∧ i.natAbs < 2 ^ 13000) ∧ k (.int ((Float64.isqrt i.toNat : Nat) : Int)) | _ => False
theorem oSqrt_ok {K : PySem.W.Frag} : BltS K (fun xs H Q => ∃ i : Int, xs = [.int i] ∧ (0 ≤ i ∧ i.natAbs < 2 ^ 13000) ∧ Q (.int ((Float64.isqrt i.toNat : Nat) : Int)) H) oSqrt := by
  intro t F H T ds vs k Q wt r q f
  unfold oSqrt at q
  split at q
  · cases r with
    | cons r rr => cases rr; cases r; exact ⟨_, rfl, q.1, f.val wt (.int _) q.2⟩
  · exact q.elim
/-! divmod -/
def DmOk (i j : Int) : Prop := 0 < j ∧ j.natAbs < 2 ^ 9000
def oDivmod (ds : List D) (k : D → Prop) : Prop := match ds with | [.int i, .int j] => DmOk i j ∧ k (.tup [.int (i / j), .int (i % j)]) | _ => False
theorem call_divmodQ : CallR X (.builtin "divmod") (fun xs H Q => ∃ i j, xs = [.int i, .int j] ∧ DmOk i j ∧ ∀ p, H p = none → Q (.ref p) (upd H p (.tup [.int (i / j), .int (i % j)]))) :=
  fun pins s σ H xs us Q I r ⟨i, j, e, c, q⟩ => call_divmodW pins s σ H xs us Q I r ⟨i, j, e, ⟨c.1, PyProof.noPylong_of_log2 (PySem.Flt.log2_lt_of (by decide) c.2)⟩, q⟩
theorem oDivmod_ok {K : PySem.W.Frag} : BltS K (fun xs H Q => ∃ i j, xs = [.int i, .int j] ∧ DmOk i j ∧ ∀ p, H p = none → Q (.ref p) (upd H p (.tup [.int (i / j), .int (i % j)]))) oDivmod := by
  intro t F H T ds vs k Q wt r q f
  unfold oDivmod at q
  split at q
  · cases r with
    | cons r rr => cases rr with | cons r2 rr => cases rr; cases r; cases r2; exact ⟨_, _, rfl, q.1, fun p hp => f.tup wt (.cons (.int _) (.cons (.int _) .nil)) hp q.2⟩
  · exact q.elim
/-! all, any, sum of a list -/
def bls? : List D → Option (List Bool)
  | [] => some [] | .bl b :: r => (bls? r).map (b :: ·) | _ :: _ => none
def nums? : List D → Option (List Int)
  | [] => some [] | .int b :: r => (nums? r).map (b :: ·) | _ :: _ => none
theorem bls_some : ∀ {ds : List D} {bs : List Bool}, bls? ds = some bs → ds = bs.map D.bl
  | [], bs, e => by cases e; rfl
  | d :: ds, bs, e => by
    have ih := fun cs => bls_some (ds := ds) (bs := cs)
    cases d with
    | bl b =>
      simp only [bls?, Option.map_eq_some_iff] at e
      obtain ⟨cs, h1, rfl⟩ := e
      rw [ih cs h1]
      rfl
    | _ => exact absurd e (by simp [bls?])
theorem bls_inv {K : PySem.W.Frag} {F : Hp} : ∀ {bs : List Bool} {vs : List V}, RepL K F (bs.map D.bl) vs → vs = bs.map V.bl
  | [], _, r => by cases r; rfl
  | b :: bs, _, r => by
    cases r with
    | cons r q => rw [rep_bl r, bls_inv q]; rfl
theorem bls_rep {K : PySem.W.Frag} {F : Hp} {ds : List D} {vs : List V} {bs : List Bool} (r : RepL K F ds vs) (e : bls? ds = some bs) : vs = bs.map V.bl := by
  rw [bls_some e] at r
  exact bls_inv r
theorem nums_some : ∀ {ds : List D} {bs : List Int}, nums? ds = some bs → ds = bs.map D.int
  | [], bs, e => by cases e; rfl
  | d :: ds, bs, e => by
    have ih := fun cs => nums_some (ds := ds) (bs := cs)
    cases d with
    | int b =>
      simp only [nums?, Option.map_eq_some_iff] at e
      obtain ⟨cs, h1, rfl⟩ := e
      rw [ih cs h1]
      rfl
    | _ => exact absurd e (by simp [nums?])
theorem nums_inv {K : PySem.W.Frag} {F : Hp} : ∀ {bs : List Int} {vs : List V}, RepL K F (bs.map D.int) vs → vs = bs.map V.int
  | [], _, r => by cases r; rfl
  | b :: bs, _, r => by
    cases r with
    | cons r q => rw [rep_int r, nums_inv q]; rfl
theorem nums_rep {K : PySem.W.Frag} {F : Hp} {ds : List D} {vs : List V} {bs : List Int} (r : RepL K F ds vs) (e : nums? ds = some bs) : vs = bs.map V.int := by
  rw [nums_some e] at r
  exact nums_inv r
def oAll (ds : List D) (k : D → Prop) : Prop := match ds with | [.lst xs] => (match bls? xs with | some bs => k (.bl (bs.all _root_.id)) | none => False) | _ => False
def oSum (ds : List D) (k : D → Prop) : Prop := match ds with | [.lst xs] => (match nums? xs with | some bs => k (.int bs.sum) | none => False) | _ => False
theorem oAll_ok {K : PySem.W.Frag} : BltS K (rAll K) oAll := by
  intro t F H T ds vs k Q wt r q f
  unfold oAll at q
  split at q
  · split at q
    · rename_i e
      cases r with
      | cons r rr =>
        cases rr
        obtain ⟨a, ws, rfl, h, r⟩ := rep_lst r
        have e2 := bls_rep r e
        subst e2
        exact ⟨a, _, rfl, .of (wt.sub _ _ h), f.val wt (.bl _) q⟩
    · exact q.elim
  · exact q.elim
theorem oSum_ok {K : PySem.W.Frag} : BltS K (rSum K) oSum := by
  intro t F H T ds vs k Q wt r q f
  unfold oSum at q
  split at q
  · split at q
    · rename_i e
      cases r with
      | cons r rr =>
        cases rr
        obtain ⟨a, ws, rfl, h, r⟩ := rep_lst r
        have e2 := nums_rep r e
        subst e2
        exact ⟨a, _, rfl, .of (wt.sub _ _ h), f.val wt (.int _) q⟩
    · exact q.elim
  · exact q.elim
/-! tuple(xs), list(xs) -/
def oTuple (ds : List D) (k : D → Prop) : Prop := match ds with | [.lst xs] => k (.tup xs) | [.tup xs] => k (.tup xs) | _ => False
def oList (ds : List D) (k : D → Prop) : Prop := match ds with | [.lst xs] => k (.lst xs) | [.tup xs] => k (.lst xs) | [.scr xs] => k (.lst xs) | _ => False
theorem oTuple_ok {K : PySem.W.Frag} : BltS K (fun xs H Q => ∃ p ys, xs = [.ref p] ∧ ((SqL K H p ys ∧ ∀ l, H l = none → Q (.ref l) (upd H l (.tup ys))) ∨ (SqT K H p ys ∧ Q (.ref p) H))) oTuple := by
  intro t F H T ds vs k Q wt r q f
  unfold oTuple at q
  split at q
  · cases r with
    | cons r rr =>
      cases rr
      obtain ⟨a, ws, rfl, h, r⟩ := rep_lst r
      exact ⟨a, ws, rfl, .inl ⟨.of (wt.sub _ _ h), fun l hl => f.tup wt r hl q⟩⟩
  · cases r with
    | cons r rr =>
      cases rr
      have r0 := r
      obtain ⟨a, ws, rfl, h, r⟩ := rep_tup r
      exact ⟨a, ws, rfl, .inr ⟨same_t wt.sub h, f.val wt r0 q⟩⟩
  · exact q.elim
theorem oList_ok {K : PySem.W.Frag} : BltS K (fun xs H Q => ∃ p ys, xs = [.ref p] ∧ (SqL K H p ys ∨ SqT K H p ys) ∧ ∀ l, H l = none → Q (.ref l) (upd H l (.lst ys))) oList := by
  intro t F H T ds vs k Q wt r q f
  unfold oList at q
  split at q
  · cases r with
    | cons r rr =>
      cases rr
      obtain ⟨a, ws, rfl, h, r⟩ := rep_lst r
      exact ⟨a, ws, rfl, .inl (.of (wt.sub _ _ h)), fun l hl => f.lst wt r hl q⟩
  · cases r with
    | cons r rr =>
      cases rr
      obtain ⟨a, ws, rfl, h, r⟩ := rep_tup r
      exact ⟨a, ws, rfl, .inr (same_t wt.sub h), fun l hl => f.lst wt r hl q⟩
  · cases r with
    | cons r rr =>
      cases rr
      obtain ⟨a, ws, rfl, h, r⟩ := rep_scr r
      exact ⟨a, ws, rfl, .inl (wt.sub.seq h), fun l hl => f.lst wt r hl q⟩
  · exact q.elim
/-! repr -/
def D.shOk (d : D) : Prop := d.eqOk ∧ d.py.showable = true ∧ d.py.shown.length ≤ sizeLine
end
end L2.G

namespace L2.G
open PySem PySem.Spec PyProof.Rows

section
variable {X : Cx} {a b e : Expr} {fa fb fe : dE} {pos : Pos}
/-! slices -/
abbrev dP := En → Tk → (Option Int → Tk → Prop) → Prop
def tDO (K : PySem.W.Frag) (f : dP) : TO := fun σ H Q => ∃ ρ T t F k, Wd K ρ T t σ F H ∧ f ρ T k ∧ ∀ o H' F' T', Wt K T' t F' H' → Grow t F H F' H' → k o T' → Q o H'
abbrev POd (X : Cx) (e : Option Expr) (f : dP) : Prop := PO X e (tDO X.K f)
theorem po_imp {e : Option Expr} {t u : TO} (h : PO X e t) (i : ∀ σ H Q, u σ H Q → t σ H Q) : PO X e u := ⟨fun pins s σ H Q I q => h.run pins s σ H Q I (i _ _ _ q)⟩
theorem p_none : POd X none (fun _ T k => k none T) := by
  refine po_imp po_none fun σ H Q h => ?_
  obtain ⟨ρ, T, t, F, k, w, h, f⟩ := h
  exact f _ _ _ _ w.wt (Grow.refl _ _ _) h
def pSome (fe : dE) : dP := fun ρ T k => fe ρ T fun d T1 => match d with | .int i => k (some i) T1 | _ => False
theorem p_some (he : PEd X e fe) : POd X (some e) (pSome fe) := by
  refine po_imp (po_some he) fun σ H Q h => ?_
  obtain ⟨ρ, T, t, F, k, w, h, f⟩ := h
  refine ⟨ρ, T, t, F, _, w, h, fun v H1 F1 x T1 w1 g1 r1 h1 => ?_⟩
  split at h1
  · cases r1; exact ⟨_, rfl, f _ _ _ _ w1 g1 h1⟩
  · exact h1.elim
def cutD (xs : List D) (lo hi : Option Int) : List D := (xs.drop (HT.sIx xs.length 0 lo)).take (HT.sIx xs.length xs.length hi - HT.sIx xs.length 0 lo)
theorem cut_rep {K : PySem.W.Frag} {F : Hp} {ds : List D} {vs : List V} (r : RepL K F ds vs) (lo hi : Option Int) : RepL K F (cutD ds lo hi) (cutV vs lo hi) := by
  unfold cutD cutV
  rw [r.len]
  exact (r.drop _).take _
def dSl (fe : dE) (lo hi : dP) : dE := fun ρ T k => fe ρ T fun x T1 => lo ρ T1 fun l T2 => hi ρ T2 fun h T3 => match x with | .lst xs => k (.lst (cutD xs l h)) T3 | .scr xs => k (.lst (cutD xs l h)) T3 | .tup xs => k (.tup (cutD xs l h)) T3 | _ => False
theorem d_slice {lo hi : Option Expr} {fl fh : dP} {p2 : Pos} (he : PEd X e fe) (hl : POd X lo fl) (hh : POd X hi fh) : PEd X (.Subscript e (.Slice lo hi none p2) pos) (dSl fe fl fh) := by
  refine pe_imp (pe_slice (sl_list.or sl_tupA) he hl hh) fun σ H Q h => ?_
  obtain ⟨ρ, T, t, F, k, w, h, f⟩ := h
  refine ⟨ρ, T, t, F, _, w, h, fun v H1 F1 x T1 w1 g1 r1 h1 => ?_⟩
  refine ⟨ρ, T1, t, F1, _, w.grow g1 w1, h1, fun l H2 F2 T2 w2 g2 h2 => ?_⟩
  refine ⟨ρ, T2, t, F2, _, (w.grow g1 w1).grow g2 w2, h2, fun u H3 F3 T3 w3 g3 h3 => ?_⟩
  have r3 := (r1.mono g2.sub).mono g3.sub
  have f3 := f.then ((g1.trans g2).trans g3)
  split at h3
  · obtain ⟨p, vs, rfl, h, r⟩ := rep_lst r3
    exact .inl ⟨p, vs, rfl, .of (w3.sub _ _ h), fun q hq => f3.lst w3 (cut_rep r l u) hq h3⟩
  · obtain ⟨p, vs, rfl, h, r⟩ := rep_scr r3
    exact .inl ⟨p, vs, rfl, w3.sub.seq h, fun q hq => f3.lst w3 (cut_rep r l u) hq h3⟩
  · have r0 := r3
    obtain ⟨p, vs, rfl, h, r⟩ := rep_tup r3
    refine .inr ⟨p, vs, rfl, same_t w3.sub h, fun hw => ?_, fun _ q hq => f3.tup w3 (cut_rep r l u) hq h3⟩
    rename_i xs
    have e : cutD xs l u = xs := by
      unfold cutD
      rw [r.len, hw.1, hw.2, Nat.sub_zero, List.drop_zero, ← r.len, List.take_length]
    rw [e] at h3
    exact f3.val w3 r0 h3
  · exact h3.elim

/-! xs + ys, xs * n -/
def oCat : Op2 := fun x y k => match x, y with
  | .lst xs, .lst ys => xs.length + ys.length ≤ 1000000 ∧ k (.lst (xs ++ ys))
  | .tup xs, .tup ys => xs.length + ys.length ≤ 1000000 ∧ k (.tup (xs ++ ys))
  | .str s, .str u => s.length + u.length ≤ 1000000 ∧ k (.str (s ++ u))
  | _, _ => False
theorem oCat_ok {K : PySem.W.Frag} : OpS K (fun x y H Q => (rCat x y H Q ∨ rCatA K x y H Q) ∨ ∃ i j, x = .str i ∧ y = .str j ∧ i.length + j.length ≤ sizeLine ∧ Q (.str (i ++ j)) H) oCat := by
  intro t F H T x y v w k Q wt r1 r2 q f
  unfold oCat at q
  split at q
  · obtain ⟨a, vs, rfl, h1, r1⟩ := rep_lst r1
    obtain ⟨b, ws, rfl, h2, r2⟩ := rep_lst r2
    exact .inl (.inl ⟨a, b, vs, ws, rfl, rfl, wt.sub _ _ h1, wt.sub _ _ h2, by rw [← r1.len, ← r2.len]; exact small_line q.1, fun p hp => f.lst wt (r1.app r2) hp q.2⟩)
  · have p1 := r1
    have p2 := r2
    obtain ⟨a, vs, rfl, h1, r1⟩ := rep_tup r1
    obtain ⟨b, ws, rfl, h2, r2⟩ := rep_tup r2
    refine .inl (.inr ⟨a, b, vs, ws, rfl, rfl, same_t wt.sub h1, same_t wt.sub h2, by rw [← r1.len, ← r2.len]; exact small_line q.1, fun e => ?_, fun _ e => ?_, fun _ _ p hp => f.tup wt (r1.app r2) hp q.2⟩)
    · subst e
      cases r1
      exact f.val wt p2 q.2
    · subst e
      cases r2
      rw [List.append_nil] at q
      exact f.val wt p1 q.2
  · cases r1
    cases r2
    exact .inr ⟨_, _, rfl, rfl, small_line q.1, f.val wt (.str _) q.2⟩
  · exact q.elim
/-! in -/
theorem pyL_any {p : PyData → Bool} : ∀ ys : List D, (D.pyL ys).any p = ys.any fun z => p z.py
  | [] => rfl
  | y :: ys => by simp [D.pyL, pyL_any ys]
/-! isinstance(e, T), T a built-in type -/
def D.ty : D → String
  | .non => "NoneType" | .bl _ => "bool" | .int _ => "int" | .str _ => "str" | .tup _ => "tuple" | .lst _ => "list" | .scr _ => "list" | .obj _ _ _ => "" | .ref _ => "" | .dct _ _ => "dict"
inductive Ty where | int | bool | str | tuple | list
def Ty.name : Ty → String | .int => "int" | .bool => "bool" | .str => "str" | .tuple => "tuple" | .list => "list"
def isTy : Ty → D → Option Bool
  | _, .obj _ _ _ => none
  | _, .ref _ => none
  | .int, .int _ => some true
  | .int, .bl _ => some true
  | .bool, .bl _ => some true
  | .str, .str _ => some true
  | .tuple, .tup _ => some true
  | .list, .lst _ => some true
  | .list, .scr _ => some true
  | _, _ => some false
theorem isTy_kit {T : Ty} {d : D} {r : Bool} (h : isTy T d = some r) : kitB d.ty T.name = some r := by
  cases T <;> cases d <;> simp [isTy] at h <;> subst h <;> simp only [D.ty, Ty.name] <;> decide +kernel
theorem rep_ty {K : PySem.W.Frag} {F H : Hp} (s : Same F H) {d : D} {v : V} (r : Rep K F d v) (h1 : ∀ C ns vs, d ≠ .obj C ns vs) (h2 : ∀ a, d ≠ .ref a) : TyX K H v (.type d.ty) := by
  cases r with
  | non => exact .base .non
  | bl b => exact .base (.bl b)
  | int i => exact .base (.int i)
  | str x => exact .base (.str x)
  | tup h _ =>
    rcases h with (h | ⟨o, h⟩) | ⟨o, its, n, h, c, _⟩
    · exact .base (.tup (s _ _ h))
    · exact .fTuple (s _ _ h)
    · exact .kTuple h c
  | lst h _ => exact .base (.lst (s _ _ h))
  | scr h _ =>
    rcases h with (h | ⟨o, h⟩) | ⟨o, its, n, h, c, _⟩
    · exact .base (.lst (s _ _ h))
    · exact .base (.frz (s _ _ h))
    · exact .kList h c
  | dct h _ _ => exact .base (.dK (s _ _ h))
  | obj _ _ _ => exact absurd rfl (h1 _ _ _)
  | ref a _ => exact absurd rfl (h2 a)
def dIsi (T : Ty) (fe : dE) : dE := fun ρ S k => fe ρ S fun d S1 => match isTy T d with | some r => k (.bl r) S1 | none => False
theorem d_isi (T' : Ty) {T : Str} {p p2 : Pos} (he : PEd X e fe) (hm : X.mg "isinstance" = none) (hmT : X.mg T = none) (hv : bootBuiltins T = some (.type T'.name) := by decide +kernel) (hg : Gl X "isinstance" := by rfl) (hgT : Gl X T := by rfl) (hn : T ≠ "__name__" := by decide) (hd : (T == ("__debug__" : Str)) = false := by decide)
    (hs : starEach [e, .Name T p2] X.env = (false, eval e X.env) :: starEach [.Name T p2] X.env := by rfl) (hp : (backTo pos (starEach [.Name T p2] X.env)).any (·.1) = false := by rfl) :
    PEd X (.Call (.Name "isinstance" p) [e, .Name T p2] [] pos) (dIsi T' fe) := by
  refine pe_imp (pe_callB call_isi hg hm (by decide +kernel) (pa_cons he (pa_cons (pe_bltn (v := .ty T'.name) hgT hmT hv rfl hn hd) pa_nil) hs) (by decide) (by decide) hs hp) fun σ H Q h => ?_
  obtain ⟨ρ, S, t, F, k, w, h, f⟩ := h
  refine ⟨ρ, S, t, F, _, w, h, fun v H1 F1 d S1 w1 g1 r1 h1 => ?_⟩
  split at h1
  · rename_i r e
    refine ⟨v, .ty T'.name, _, _, r, rfl, .ty T'.name, rep_ty w1.sub r1 (fun C ns vs z => ?_) (fun a z => ?_), kit_ty (isTy_kit e), (f.then g1).val w1 (.bl _) h1⟩
    · subst z; simp [isTy] at e
    · subst z; simp [isTy] at e
  · exact h1.elim
end

/-! lists of the def's own -/
section
variable {X : Cx} {e : Expr} {es : List Expr} {fe : dE} {fr : dA} {pos : Pos} {st : Stmt} {f : dS}
theorem Ws.own {K : PySem.W.Frag} {ρ : En} {T : Tk} {t : Option Addr} {σ : L2.St} {F0 H0 F H : Hp} (w : Ws K ρ T t σ F0 H0 F H) {i : Nat} {l : Addr} {xs : List D} {vs : List V} (hn : H l = none) (r : RepL K F xs vs) :
    Ws K (ρ.set i (some (.own xs))) T t (σ.set i (some (.ref l))) F0 H0 F (upd H l (.lst vs)) := by
  have hF : F l = none := w.w.wt.sub.free hn
  have g : Grow t F H F (upd H l (.lst vs)) := grow_own w.w.wt.sub hn
  have w1 := w.grow g (wt_own w.w.wt hn)
  have hl0 : H0 l = none := by
    cases q : H0 l with
    | none => rfl
    | some o => obtain ⟨o', h'⟩ := w.g.there l o q; rw [hn] at h'; cases h'
  have old : ∀ (j : Nat) (ys : List D) (m : Addr), ρ[j]? = some (some (SV.own ys)) → σ[j]? = some (some (V.ref m)) → m ≠ l := fun j ys m e1 e2 => by
    obtain ⟨v, h1, l', ws, rfl, _, h3, _, _⟩ := w.w.slot j _ e1
    rw [e2] at h1
    cases h1
    exact ne_of_none h3 hn
  refine ⟨⟨w1.w.wt, by simpa using w.w.len, fun j s e => ?_, fun j j' ys zs m e1 e2 e3 e4 => ?_⟩, w1.g, fun j s m e1 m1 e2 => ?_⟩
  · rcases getSet e with ⟨rfl, hl, e'⟩ | ⟨ne, e'⟩
    · cases e'
      refine ⟨.ref l, by rw [List.getElem?_set_self (by rw [← w.w.len]; exact hl)], l, vs, rfl, hF, upd_same, r, fun z => ?_⟩
      obtain ⟨_, us, hu, _⟩ := w.w.wt.tank l z
      rw [hn] at hu
      cases hu
    · obtain ⟨u, h1, h2⟩ := w1.w.slot j s e'
      exact ⟨u, by rw [List.getElem?_set_ne ne]; exact h1, h2⟩
  · rcases getSet e1 with ⟨rfl, hl1, _⟩ | ⟨n1, e1⟩
    · rcases getSet e2 with ⟨rfl, _, _⟩ | ⟨n2, e2⟩
      · rfl
      · rw [List.getElem?_set_self (by rw [← w.w.len]; exact hl1)] at e3
        cases e3
        rw [List.getElem?_set_ne n2] at e4
        exact absurd rfl (old j' zs _ e2 e4)
    · rw [List.getElem?_set_ne n1] at e3
      rcases getSet e2 with ⟨rfl, hl2, _⟩ | ⟨n2, e2⟩
      · rw [List.getElem?_set_self (by rw [← w.w.len]; exact hl2)] at e4
        cases e4
        exact absurd rfl (old j ys _ e1 e3)
      · rw [List.getElem?_set_ne n2] at e4
        exact w.w.apart j j' ys zs m e1 e2 e3 e4
  · rcases getSet e1 with ⟨rfl, hl1, _⟩ | ⟨n1, e1⟩
    · rw [List.getElem?_set_self (by rw [← w.w.len]; exact hl1)] at e2
      cases e2
      exact hl0
    · rw [List.getElem?_set_ne n1] at e2
      exact w.fr j s m e1 m1 e2
/-- x = [..], x a list that this def will change -/
def sOwn (i : Nat) (fr : dA) : dS := fun k ρ T => fr ρ T fun as T1 => match vals? as with | some ds => ds.length ≤ 1000000 ∧ k.nx (ρ.set i (some (.own ds))) T1 | none => False
theorem s_own (i : Nat) {x : Str} {pos' lp : Pos} (hN : X.N.Nodup) (ha : PAd X es fr) (hi : X.N[i]? = some x := by rfl) (hx : Loc X.env.scope x := by first | exact Or.inl rfl | exact Or.inr rfl) (hs : swapsWith (.List es lp) (some (.Name x pos')) pos.line X.env = pure false := by rfl)
    (hf : X.fn x = true ∨ X.env.scope.names.lookup x = some .local := by first | exact .inl rfl | exact .inr rfl | assumption) : PSd X (.Assign [.Name x pos'] (.List es lp) pos) (sOwn i fr) := by
  refine ps_imp (ps_set hN hi hx (pe_lst ha) hs hf) fun E σ H h => ?_
  obtain ⟨ρ, T, t, F0, H0, F, k, w, h, fe⟩ := h
  refine ⟨ρ, T, t, F, _, w.w, h, fun vs H1 F1 as T1 w1 g1 r1 h1 => ?_⟩
  split at h1
  · rename_i ds e
    have r := r1.vals e
    exact ⟨by rw [← r.len]; exact small_line h1.1, fun p hp => fe.nx _ _ _ _ _ ((w.grow g1 w1).own hp r) g1.sub h1.2⟩
  · exact h1.elim
/-- it will not be changed any more -/
def sFrz (i : Nat) (f : dS) : dS := fun k ρ T => match ρ[i]? with | some (some (.own xs)) => f k (ρ.set i (some (.val (.lst xs)))) T | _ => False
theorem Ws.frz {K : PySem.W.Frag} {ρ : En} {T : Tk} {t : Option Addr} {σ : L2.St} {F0 H0 F H : Hp} (w : Ws K ρ T t σ F0 H0 F H) {i : Nat} {xs : List D} (e : ρ[i]? = some (some (.own xs))) :
    ∃ F', Same F F' ∧ Ws K (ρ.set i (some (.val (.lst xs)))) T t σ F0 H0 F' H := by
  obtain ⟨v, hv, l, vs, rfl, hF, hH, r, nt⟩ := w.w.slot i _ e
  have sm : Same F (upd F l (.lst vs)) := same_upd hF
  have sub : Same (upd F l (.lst vs)) H := fun b u q => by
    by_cases hb : b = l
    · subst hb; rw [upd_same] at q; cases q; exact hH
    · rw [upd_ne hb] at q; exact w.w.wt.sub b u q
  have wt : Wt K T t (upd F l (.lst vs)) H := ⟨sub, fun a ea => by
    obtain ⟨n, us, hu, ru⟩ := w.w.wt.tank a ea
    have ne : a ≠ l := fun z => nt (by rw [ea, z])
    exact ⟨by rw [upd_ne ne]; exact n, us, hu, ru.mono sm⟩, w.w.wt.tabs.frz hH⟩
  refine ⟨_, sm, ⟨wt, by simpa using w.w.len, fun j s ej => ?_, fun j j' ys zs m e1 e2 e3 e4 => ?_⟩, ⟨w.g.sub.trans sm, w.g.keepT, fun a o h0 n0 => ?_, w.g.there⟩, fun j s m e1 m1 e2 => ?_⟩
  · rcases getSet ej with ⟨rfl, _, e'⟩ | ⟨ne, e'⟩
    · cases e'
      exact ⟨.ref l, hv, .lst upd_same (r.mono sm)⟩
    · obtain ⟨u, h1, h2⟩ := w.w.slot j s e'
      refine ⟨u, h1, ?_⟩
      cases s with
      | val d => exact Rep.mono sm h2
      | tank => exact h2
      | exc _ _ => exact ⟨h2.1, fun dd fl x q => let ⟨n, u, f1, r1⟩ := h2.2 dd fl x q; ⟨n, u, f1, r1.mono sm⟩⟩
      | fn _ _ _ => exact h2
      | ptup _ => obtain ⟨a, o, us, e, hf, c1, c2, r⟩ := h2; exact ⟨a, o, us, e, sm _ _ hf, c1, c2, r.mono sm⟩
      | me a c fs => obtain ⟨e, C, dx, us, f1, f2, q, r, n, z⟩ := h2; exact ⟨e, C, dx, us, by rw [upd_ne (fun z => by rw [z, hH] at f2; cases f2)]; exact f1, f2, q, r.mono sm, n, z⟩
      | own ys =>
        obtain ⟨m, us, rfl, f1, f2, f3, f4⟩ := h2
        have nm : m ≠ l := fun z => ne (w.w.apart i j xs ys l e e' hv (z ▸ h1))
        exact ⟨m, us, rfl, by rw [upd_ne nm]; exact f1, f2, f3.mono sm, f4⟩
  · rcases getSet e1 with ⟨_, _, z⟩ | ⟨n1, e1⟩
    · cases z
    · rcases getSet e2 with ⟨_, _, z⟩ | ⟨n2, e2⟩
      · cases z
      · exact w.w.apart j j' ys zs m e1 e2 e3 e4
  · have ne : a ≠ l := fun z => by
      have q := w.fr i _ l e rfl hv
      rw [z, q] at h0
      cases h0
    rw [upd_ne ne]
    exact w.g.new a o h0 n0
  · rcases getSet e1 with ⟨_, _, z⟩ | ⟨n1, e1⟩
    · cases z; cases m1
    · exact w.fr j s m e1 m1 e2
theorem Ws.chg {K : PySem.W.Frag} {ρ : En} {T : Tk} {t : Option Addr} {σ : L2.St} {F0 H0 F H : Hp} (w : Ws K ρ T t σ F0 H0 F H) {i : Nat} {xs ys : List D} {l : Addr} {ws : List V} (e : ρ[i]? = some (some (.own xs))) (hv : σ[i]? = some (some (.ref l))) (r : RepL K F ys ws) :
    Ws K (ρ.set i (some (.own ys))) T t σ F0 H0 F (upd H l (.lst ws)) := by
  obtain ⟨v, hv2, l2, vs, rfl, hF, hH, r0, nt⟩ := w.w.slot i _ e
  rw [hv] at hv2
  cases hv2
  have ne_t : ∀ a, t = some a → a ≠ l := fun a ea z => nt (by rw [ea, z])
  refine ⟨⟨⟨fun b u q => ?_, fun a ea => ?_, w.w.wt.tabs.chg hH⟩, by simpa using w.w.len, fun j s ej => ?_, fun j j' ys' zs m e1 e2 e3 e4 => ?_⟩, ⟨w.g.sub, fun a o h0 n0 z0 => ?_, w.g.new, fun a o h0 => ?_⟩, fun j s m e1 m1 e2 => ?_⟩
  · have ne : b ≠ l := fun z => by rw [z, hF] at q; cases q
    rw [upd_ne ne]
    exact w.w.wt.sub b u q
  · obtain ⟨n, us, hu, ru⟩ := w.w.wt.tank a ea
    exact ⟨n, us, by rw [upd_ne (ne_t a ea)]; exact hu, ru⟩
  · rcases getSet ej with ⟨rfl, _, e'⟩ | ⟨ne, e'⟩
    · cases e'
      exact ⟨.ref l, hv, l, ws, rfl, hF, upd_same, r, nt⟩
    · obtain ⟨u, h1, h2⟩ := w.w.slot j s e'
      refine ⟨u, h1, ?_⟩
      cases s with
      | val d => exact h2
      | tank => exact h2
      | exc _ _ => exact ⟨h2.1, fun dd fl x q => let ⟨n, u, f1, r1⟩ := h2.2 dd fl x q; ⟨n, u, by rw [upd_ne (fun z => by rw [z, hH] at f1; cases f1)]; exact f1, r1⟩⟩
      | ptup _ => exact h2
      | me a c fs => obtain ⟨e, C, dx, us, f1, f2, q, r, n, z⟩ := h2; exact ⟨e, C, dx, us, f1, by rw [upd_ne (fun z => by rw [z, hH] at f2; cases f2)]; exact f2, q, r, n, z⟩
      | fn _ c _ => exact ⟨h2.1, by rw [upd_ne (fun z => by have f1 := h2.2.1; rw [z, hH] at f1; cases f1)]; exact h2.2.1, h2.2.2⟩
      | own zs =>
        obtain ⟨m, us, rfl, f1, f2, f3, f4⟩ := h2
        have nm : m ≠ l := fun z => ne (w.w.apart i j xs zs l e e' hv (z ▸ h1))
        exact ⟨m, us, rfl, f1, by rw [upd_ne nm]; exact f2, f3, f4⟩
  · have back : ∀ {j : Nat} {zs : List D}, (ρ.set i (some (.own ys)))[j]? = some (some (.own zs)) → ∃ zs', ρ[j]? = some (some (.own zs')) := fun {j zs} q => by
      rcases getSet q with ⟨rfl, _, _⟩ | ⟨_, q⟩
      · exact ⟨_, e⟩
      · exact ⟨_, q⟩
    obtain ⟨_, q1⟩ := back e1
    obtain ⟨_, q2⟩ := back e2
    exact w.w.apart j j' _ _ m q1 q2 e3 e4
  · have ne : a ≠ l := fun z => by
      have q := w.fr i _ l e rfl hv
      rw [z, q] at h0
      cases h0
    rw [upd_ne ne]
    exact w.g.keep a o h0 n0 z0
  · have ne : a ≠ l := fun z => by
      have q := w.fr i _ l e rfl hv
      rw [z, q] at h0
      cases h0
    rw [upd_ne ne]
    exact w.g.there a o h0
  · rcases getSet e1 with ⟨rfl, _, _⟩ | ⟨_, e1⟩
    · exact w.fr i _ m e rfl e2
    · exact w.fr j s m e1 m1 e2
/-- x.append(e) -/
def sApp (i : Nat) (fe : dE) : dS := fun k ρ T => match ρ[i]? with | some (some (.own xs)) => fe ρ T fun d T1 => xs.length < 1000000 ∧ k.nx (ρ.set i (some (.own (xs ++ [d])))) T1 | _ => False
theorem s_app (i : Nat) {x : Str} {p1 p2 p3 p4 : Pos} (he : PEd X e fe) (hN : X.N[i]? = some x := by rfl) (hv : Vis X.env.scope x := by first | exact Or.inl rfl | exact Or.inr (Or.inl rfl) | exact Or.inr (Or.inr rfl))
    (hd : (x == ("__debug__" : Str)) = false := by decide) (hc : (x == ("__classdict__" : Str)) = false := by decide)
    (h1 : starEach [e] X.env = (false, eval e X.env) :: starEach [] X.env := by rfl) (h2 : attributeBase (.Name x p1) "append" X.env (eval (.Name x p1) X.env) = eval (.Name x p1) X.env := by rfl) (h3 : (p2.endLine == p3.line) = true := by rfl)
    (hs : swapsWith (.Call (.Attribute (.Name x p1) "append" p2) [e] [] p3) none p4.line X.env = pure false := by rfl)
    (hfew : ((backTo p3 (starEach [e] X.env)).all (fun x => !x.1) && (backToKw p3 (keywordEach [] X.env)).all (fun x => x.1.isSome) && decide (([e] : List Expr).length + ([] : List Keyword).length + (if ([] : List Keyword).isEmpty then 0 else 1) < 30)) = true := by rfl) :
    PSd X (.Expr (.Call (.Attribute (.Name x p1) "append" p2) [e] [] p3) p4) (sApp i fe) := by
  refine ps_imp (ps_expr (pe_bm PySem.F.plainAttrs_list PySem.F.slot_list_append PySem.F.type_list_append mt_append (pe_var (i := i) hN hv hd hc) (pa_cons he pa_nil h1) h2 hfew h3 h1) hs) fun E σ H h => ?_
  obtain ⟨ρ, T, t, F0, H0, F, k, w, h, fE⟩ := h
  unfold sApp at h
  split at h
  · rename_i xs e0
    obtain ⟨v, hv, l, vs, rfl, hF, hH, r, nt⟩ := w.w.slot i _ e0
    refine ⟨_, hv, .inl ⟨rfl, _, .of hH⟩, ρ, T, t, F, _, w.w, h, fun u H1 F1 d T1 w1 g1 r1 h1 => ?_⟩
    have hH1 := g1.keep _ _ hH nt
    have r' := (r.mono g1.sub).app (.cons r1 .nil)
    refine ⟨l, vs, u, rfl, rfl, hH1, by rw [← r.len, sizeLine_eq]; omega, ?_⟩
    exact fE.nx _ _ _ _ _ ((w.grow g1 w1).chg e0 hv r') g1.sub h1.2
  · exact h.elim
end
end L2.G

namespace L2.G
open PySem PySem.Spec PyProof.Rows

/-! what is walked -/
structure Src (K : PySem.W.Frag) (t : Option Addr) (J : It) (F1 : Hp) (xs : List D) : Prop where
  go : ∀ i F H, Same F1 F → Same F H → i < xs.length → J.go i H
  yl : ∀ i T F H x H', Same F1 F → Wt K T t F H → i < xs.length → J.yld i H x H' → ∃ F' d, xs[i]? = some d ∧ Rep K F' d x ∧ Grow t F H F' H' ∧ Wt K T t F' H'
  st : ∀ F H, Same F1 F → Same F H → J.stop xs.length H
abbrev dI := En → Tk → (List D → Tk → Prop) → Prop
def tDI (K : PySem.W.Frag) (f : dI) : TI := fun σ H R => ∃ ρ T t F k, Wd K ρ T t σ F H ∧ f ρ T k ∧ ∀ J H' F' xs T', Wt K T' t F' H' → Grow t F H F' H' → Src K t J F' xs → xs.length ≤ 1000000 → k xs T' → R J H'
abbrev PId (X : Cx) (tg it : Expr) (f : dI) : Prop := PI X tg it (tDI X.K f)
theorem pi_imp {X : Cx} {tg e : Expr} {t u : TI} (h : PI X tg e t) (i : ∀ σ H Q, u σ H Q → t σ H Q) : PI X tg e u := ⟨fun pins s σ H Q I q => h.run pins s σ H Q I (i _ _ _ q)⟩

section
variable {X : Cx} {tg e e2 : Expr} {fe : dE} {fr : dA} {p pos : Pos} {f : dS}
theorem src_list {K : PySem.W.Frag} {t : Option Addr} {F1 : Hp} {a : Addr} {xs : List D} {vs : List V} (h : F1 a = some (.lst vs)) (r : RepL K F1 xs vs) : Src K t (Itl K a) F1 xs where
  go := fun i F H s1 s2 hi => by
    rw [r.len] at hi
    exact ⟨vs, vs[i], .of (s2 _ _ (s1 _ _ h)), by simp [hi]⟩
  yl := fun i T F H x H' s1 w hi y => by
    obtain ⟨rfl, y⟩ := y
    obtain ⟨d, hd, rd⟩ := r.getV (y vs (.of (w.sub _ _ (s1 _ _ h))))
    exact ⟨F, d, hd, rd.mono s1, Grow.refl _ _ _, w⟩
  st := fun F H s1 s2 => ⟨vs, .of (s2 _ _ (s1 _ _ h)), by rw [r.len]; exact Nat.le_refl _⟩
theorem src_tup {K : PySem.W.Frag} {t : Option Addr} {F1 : Hp} {a : Addr} {xs : List D} {vs : List V} (h : SqT K F1 a vs) (r : RepL K F1 xs vs) : Src K t (Itt K a) F1 xs where
  go := fun i F H s1 s2 hi => by
    rw [r.len] at hi
    exact ⟨vs, vs[i], same_t (s1.trans s2) h, by simp [hi]⟩
  yl := fun i T F H x H' s1 w hi y => by
    obtain ⟨rfl, y⟩ := y
    obtain ⟨d, hd, rd⟩ := r.getV (y vs (same_t (s1.trans w.sub) h))
    exact ⟨F, d, hd, rd.mono s1, Grow.refl _ _ _, w⟩
  st := fun F H s1 s2 => ⟨vs, same_t (s1.trans s2) h, by rw [r.len]; exact Nat.le_refl _⟩
theorem src_rng {K : PySem.W.Frag} {t : Option Addr} {F1 : Hp} {lo : Int} {n : Nat} : Src K t (Itr lo n) F1 (intsL lo n) where
  go := fun i F H s1 s2 hi => by rw [intsL_len] at hi; exact hi
  yl := fun i T F H x H' s1 w hi y => by
    rw [intsL_len] at hi
    obtain ⟨rfl, rfl⟩ := y
    exact ⟨F, _, intsL_get n lo i hi, .int _, Grow.refl _ _ _, w⟩
  st := fun F H s1 s2 => by rw [intsL_len]; exact Nat.le_refl n
def iR1 (fr : dA) : dI := fun ρ T k => fr ρ T fun as T1 => match as with | [.val (.int j)] => j ≤ 1000000 ∧ -(2 ^ 62) ≤ j ∧ k (intsL 0 j.toNat) T1 | _ => False
def iR2 (fr : dA) : dI := fun ρ T k => fr ρ T fun as T1 => match as with | [.val (.int i), .val (.int j)] => (j - i ≤ 1000000 ∧ -(2 ^ 61) ≤ i ∧ i < 2 ^ 61 ∧ -(2 ^ 61) ≤ j ∧ j < 2 ^ 61) ∧ k (intsL i (j - i).toNat) T1 | _ => False
theorem i_range1 {a : Expr} (hm : X.mg "range" = none) (ha : PAd X [a] fr) (hg : Gl X "range" := by rfl) (hs : starEach [a] X.env = [(false, eval a X.env)] := by rfl) : PId X tg (.Call (.Name "range" p) [a] [] pos) (iR1 fr) := by
  refine pi_imp (pi_range1 hg hm ha hs) fun σ H R h => ?_
  obtain ⟨ρ, T, t, F, k, w, h, f⟩ := h
  refine ⟨ρ, T, t, F, _, w, h, fun vs H1 F1 as T1 w1 g1 r1 h1 => ?_⟩
  split at h1
  · rename_i j
    cases r1 with
    | val r1 rr =>
      cases rr
      cases r1
      exact ⟨j, rfl, h1.2.1, by have := h1.1; omega, f _ _ _ _ _ w1 g1 src_rng (by rw [intsL_len]; have := h1.1; omega) h1.2.2⟩
  · exact h1.elim
/-- zip of two lists of one length -/
def zipD (xs ys : List D) : List D := List.zipWith (fun x y => D.tup [x, y]) xs ys
def iZ (fr : dA) : dI := fun ρ T k => fr ρ T fun as T1 => match as with | [.val (.lst xs), .val (.lst ys)] => (zipD xs ys).length ≤ 1000000 ∧ k (zipD xs ys) T1 | _ => False
/-! for -/
def sForI (fi : dI) (g : dG) (f : dS) : dS := fun k ρ T => fi ρ T fun xs T1 => forL g f k xs ρ T1
theorem s_forI {body : List Stmt} {g : dG} {fi : dI} (hp : PassesOwn (model X.prog X.w) X.A X.env X.xe) (hc : X.calm = true) (hi : PId X tg e fi) (hg : PGd X tg g) (hb : PSsd X body f) (hst : ∀ x, foldedSetIterable e X.env x = pure x := by intro _; rfl) : PSd X (.For tg e body [] pos) (sForI fi g f) := by
  refine ps_imp (ps_for hp hc hi hg hb hst) fun E σ H h => ?_
  obtain ⟨ρ, T, t, F0, H0, F, k, w, h, fE⟩ := h
  refine ⟨ρ, T, t, F, _, w.w, h, fun J H1 F1 xs T1 w1 g1 src hl h1 => ?_⟩
  refine ⟨fun i m σ' H' => m = xs.length - i ∧ i ≤ xs.length ∧ ∃ ρ' T' F', Ws X.K ρ' T' t σ' F0 H0 F' H' ∧ Same F1 F' ∧ forL g f k (xs.drop i) ρ' T', ⟨xs.length, by simp, Nat.zero_le _, ρ, T1, F1, w.grow g1 w1, Same.refl _, h1⟩, ?_⟩
  rintro i m σ' H' ⟨rfl, hi, ρ', T', F', w', s', hh⟩
  by_cases lt : i < xs.length
  · refine .inr ⟨src.go i F' H' s' w'.w.wt.sub lt, fun σ2 H2 => ∃ ρ' T' F', Ws X.K ρ' T' t σ2 F0 H0 F' H2 ∧ Same F1 F' ∧ forL g f k (xs.drop (i + 1)) ρ' T', fun σ2 H2 q => ⟨xs.length - (i + 1), by omega, rfl, lt, q⟩, fun x H2 y => ?_⟩
    obtain ⟨F2, d, hd, rd, g2, w2⟩ := src.yl i T' F' H' x H2 s' w'.w.wt lt y
    have hx : xs.drop i = d :: xs.drop (i + 1) := by rw [List.drop_eq_getElem_cons lt, (List.getElem?_eq_some_iff.mp hd).2]
    rw [hx] at hh
    have sF := (g1.sub.trans s').trans g2.sub
    refine ⟨ρ', T', t, F0, H0, F2, d, _, w'.grow g2 w2, rd, hh, fun ρ3 T3 σ3 F3 H3 w3 s3 h3 => ?_⟩
    have s3' := (s'.trans g2.sub).trans s3
    refine ⟨ρ3, T3, t, F0, H0, F3, _, w3, h3, ?_⟩
    exact ⟨fun ρ4 T4 σ4 F4 H4 w4 s4 q => ⟨ρ4, T4, F4, w4, s3'.trans s4, q⟩, fE.rt, fE.nx.to (sF.trans s3), fun ρ4 T4 σ4 F4 H4 w4 s4 q => ⟨ρ4, T4, F4, w4, s3'.trans s4, q⟩⟩
  · have e : i = xs.length := by omega
    subst e
    rw [List.drop_length] at hh
    exact .inl ⟨src.st F' H' s' w'.w.wt.sub, fE.nx _ _ _ _ _ w' (g1.sub.trans s') hh⟩

/-! comprehensions -/
theorem wipe_get : ∀ {vs : List Nat} {σ : L2.St} {j : Nat}, (wipe σ vs)[j]? = if j ∈ vs ∧ j < σ.length then some none else σ[j]?
  | [], σ, j => by simp [wipe]
  | v :: vs, σ, j => by
    unfold wipe
    by_cases e : v = j
    · subst e
      by_cases hl : v < σ.length
      · rw [List.getElem?_set_self (by rw [wipe_length]; exact hl), if_pos ⟨List.mem_cons_self, hl⟩]
      · rw [List.getElem?_eq_none (by rw [List.length_set, wipe_length]; omega), if_neg (fun z => hl z.2), List.getElem?_eq_none (by omega)]
    · rw [List.getElem?_set_ne e, wipe_get]
      have : (j ∈ v :: vs) ↔ j ∈ vs := by simp [Ne.symm e]
      simp only [this]
theorem wipe_set {vs : List Nat} {σ : L2.St} {i : Nat} {v : Option V} (h : i ∈ vs) : wipe (σ.set i v) vs = wipe σ vs := by
  apply List.ext_getElem?
  intro j
  rw [wipe_get, wipe_get, List.length_set]
  by_cases e : i = j
  · subst e
    by_cases hl : i < σ.length
    · rw [if_pos ⟨h, hl⟩, if_pos ⟨h, hl⟩]
    · rw [if_neg (fun z => hl z.2), if_neg (fun z => hl z.2), List.getElem?_eq_none (by simpa using hl), List.getElem?_eq_none (by simpa using hl)]
  · rw [List.getElem?_set_ne e]
theorem wipe_idem {vs : List Nat} {σ : L2.St} : wipe (wipe σ vs) vs = wipe σ vs := by
  apply List.ext_getElem?
  intro j
  rw [wipe_get, wipe_get, wipe_length]
  split
  · rfl
  · rfl
def wipeD (ρ : En) : List Nat → En
  | [] => ρ
  | v :: vs => (wipeD ρ vs).set v none
theorem wd_none {K : PySem.W.Frag} {ρ : En} {T : Tk} {t : Option Addr} {σ : L2.St} {F H : Hp} (w : Wd K ρ T t σ F H) (i : Nat) : Wd K (ρ.set i none) T t (σ.set i none) F H := by
  refine ⟨w.wt, by simpa using w.len, fun j s e => ?_, fun j j' xs ys l e1 e2 e3 e4 => ?_⟩
  · rcases getSet e with ⟨_, _, z⟩ | ⟨ne, e'⟩
    · cases z
    · obtain ⟨u, h1, h2⟩ := w.slot j s e'
      exact ⟨u, by rw [List.getElem?_set_ne ne]; exact h1, h2⟩
  · rcases getSet e1 with ⟨_, _, z⟩ | ⟨n1, e1⟩
    · cases z
    · rcases getSet e2 with ⟨_, _, z⟩ | ⟨n2, e2⟩
      · cases z
      · rw [List.getElem?_set_ne n1] at e3
        rw [List.getElem?_set_ne n2] at e4
        exact w.apart j j' xs ys l e1 e2 e3 e4
theorem wd_wipe {K : PySem.W.Frag} {ρ : En} {T : Tk} {t : Option Addr} {σ : L2.St} {F H : Hp} (w : Wd K ρ T t σ F H) : ∀ vs : List Nat, Wd K (wipeD ρ vs) T t (wipe σ vs) F H
  | [] => w
  | v :: vs => wd_none (wd_wipe w vs) v
/-- the targets of a comprehension -/
abbrev dC1 := D → En → Option En
def CG (K : PySem.W.Frag) (g : TG) (c : dC1) (vs : List Nat) : Prop := ∀ {ρ : En} {T : Tk} {t : Option Addr} {σ : L2.St} {F H : Hp} {d : D} {v : V} {ρ1 : En} {Q : L2.St → Hp → Prop}, Wd K ρ T t σ F H → Rep K F d v → c d ρ = some ρ1 → (∀ σ1, Wd K ρ1 T t σ1 F H → wipe σ1 vs = wipe σ vs → Q σ1 H) → g v σ H Q
def cN (i : Nat) : dC1 := fun d ρ => some (ρ.set i (some (.val d)))
theorem cg_name {K : PySem.W.Frag} {i : Nat} {vs : List Nat} (h : i ∈ vs := by decide) : CG K (gName i) (cN i) vs := fun w r e q => by
  cases e
  exact q _ (w.put r) (wipe_set h)
def setAll : List Nat → List D → En → Option En
  | [], [], ρ => some ρ
  | i :: is, d :: ds, ρ => setAll is ds (ρ.set i (some (.val d)))
  | _, _, _ => none
def cT (is : List Nat) : dC1 := fun d ρ => match d with | .tup ds => setAll is ds ρ | _ => none
def lcD (ρ : En) (c : dC1) (tt : dT) (el : dE) (k : List D → Tk → Prop) : List D → List D → Tk → Prop
  | [], acc, T => k acc T
  | d :: r, acc, T => match c d ρ with
    | some ρ1 => tt ρ1 T fun b T1 => if b = true then el ρ1 T1 fun y T2 => lcD ρ c tt el k r (acc ++ [y]) T2 else lcD ρ c tt el k r acc T1
    | none => False
def dLc (vs : List Nat) (fi : dI) (c : dC1) (tt : dT) (el : dE) : dE := fun ρ T k => fi ρ T fun xs T1 => lcD (wipeD ρ vs) c tt el (fun acc T2 => k (.lst acc) T2) xs [] T1
def dYes : dT := fun _ T k => k true T
theorem pts_imp {ifs : List Expr} {t u : TT} (h : PTs X ifs t) (i : ∀ σ H Q, u σ H Q → t σ H Q) : PTs X ifs u := ⟨fun pins s σ H Q I q => h.run pins s σ H Q I (i _ _ _ q)⟩
theorem ts_nil : PTs X [] (tDT X.K dYes) := pts_imp pts_nil fun σ H Q ⟨ρ, T, t, F, k, w, h, f⟩ => f _ _ _ _ w.wt (Grow.refl _ _ _) h
theorem ts_one {c : Expr} {tc : dT} (h : PTd X c tc) : PTs X [c] (tDT X.K tc) := pts_one h
theorem lc_ok {K : PySem.W.Frag} {fi : dI} {g : TG} {c : dC1} {tt : dT} {el : dE} {vs : List Nat} (cg : CG K g c vs) {σ : L2.St} {H : Hp} {Q : VK} (h : tD K (dLc vs fi c tt el) σ H Q) : tLc (tDI K fi) g (tDT K tt) (tD K el) vs σ H Q := by
  obtain ⟨ρ, T, t, F, k, w, h, f⟩ := h
  refine ⟨ρ, T, t, F, _, w, h, fun J H1 F1 xs T1 w1 g1 src hl h1 => ?_⟩
  intro L hL
  have wd1 := w.grow g1 w1
  refine ⟨fun i m H' => m = xs.length - i ∧ i ≤ xs.length ∧ ∃ acc av T' F', Wt K T' t F' H' ∧ Grow t F1 H1 F' H' ∧ F' L = none ∧ H' L = some (.lst av) ∧ RepL K F' acc av ∧ acc.length ≤ i ∧ lcD (wipeD ρ vs) c tt el (fun acc T2 => k (.lst acc) T2) (xs.drop i) acc T', ?_, ?_⟩
  · refine ⟨xs.length, by simp, Nat.zero_le _, [], [], T1, F1, wt_own w1 hL, grow_own w1.sub hL, w1.sub.free hL, upd_same, .nil, Nat.le_refl _, ?_⟩
    exact h1
  rintro i m H' ⟨rfl, hi, acc, av, T', F', wt', g', fL, hLv, ra, hal, hh⟩
  have tL : t ≠ some L := fun z => by
    obtain ⟨_, us, hu, _⟩ := w1.tank L z
    rw [hL] at hu
    cases hu
  by_cases lt : i < xs.length
  · refine .inr ⟨src.go i F' H' g'.sub wt'.sub lt, fun H2 => ∃ acc av T' F', Wt K T' t F' H2 ∧ Grow t F1 H1 F' H2 ∧ F' L = none ∧ H2 L = some (.lst av) ∧ RepL K F' acc av ∧ acc.length ≤ i + 1 ∧ lcD (wipeD ρ vs) c tt el (fun acc T2 => k (.lst acc) T2) (xs.drop (i + 1)) acc T', fun H2 q => ⟨xs.length - (i + 1), by omega, rfl, lt, q⟩, fun x H2 y => ?_⟩
    obtain ⟨F2, d, hd, rd, g2, w2⟩ := src.yl i T' F' H' x H2 g'.sub wt' lt y
    have hx : xs.drop i = d :: xs.drop (i + 1) := by rw [List.drop_eq_getElem_cons lt, (List.getElem?_eq_some_iff.mp hd).2]
    rw [hx] at hh
    unfold lcD at hh
    split at hh
    · rename_i ρ1 e1
      have wd2 : Wd K (wipeD ρ vs) T' t (wipe σ vs) F2 H2 := wd_wipe (wd1.grow (g'.trans g2) w2) vs
      refine cg wd2 rd e1 fun σ1 ws1 ew => ⟨by rw [ew, wipe_idem], ?_⟩
      refine ⟨ρ1, T', t, F2, _, ws1, hh, fun b H3 F3 T3 w3 g3 h3 => ?_⟩
      have gg := (g'.trans g2).trans g3
      have hL2 := g2.keep _ _ hLv tL
      have hL3 := g3.keep _ _ hL2 tL
      have fL2 := g2.new _ _ hLv fL
      have fL3 := g3.new _ _ hL2 fL2
      have ra3 := (ra.mono g2.sub).mono g3.sub
      cases b with
      | false => exact ⟨acc, av, T3, F3, w3, gg, fL3, hL3, ra3, by omega, h3⟩
      | true =>
        rw [if_pos rfl] at h3
        refine iteT ⟨ρ1, T3, t, F3, _, ws1.grow g3 w3, h3, fun u H4 F4 z T4 w4 g4 r4 h4 => ?_⟩
        have hL4 := g4.keep _ _ hL3 tL
        have fL4 := g4.new _ _ hL3 fL3
        have ra4 := ra3.mono g4.sub
        refine ⟨av, hL4, by rw [← ra4.len, sizeLine_eq]; omega, acc ++ [z], av ++ [u], T4, F4, ?_, ?_, fL4, upd_same, ra4.app (.cons r4 .nil), by simp; omega, h4⟩
        · refine ⟨fun b o q => ?_, fun a ea => ?_, w4.tabs.chg hL4⟩
          · have ne : b ≠ L := fun z => by rw [z, fL4] at q; cases q
            rw [upd_ne ne]
            exact w4.sub b o q
          · obtain ⟨n, us, hu, ru⟩ := w4.tank a ea
            have ne : a ≠ L := fun z => tL (by rw [ea, z])
            exact ⟨n, us, by rw [upd_ne ne]; exact hu, ru⟩
        · have gg4 := gg.trans g4
          refine ⟨gg4.sub, fun a o q n z => ?_, gg4.new, fun a o q => ?_⟩
          · rw [upd_ne (ne_of_none q hL)]
            exact gg4.keepT a o q n z
          · rw [upd_ne (ne_of_none q hL)]
            exact gg4.there a o q
    · exact hh.elim
  · have e : i = xs.length := by omega
    subst e
    rw [List.drop_length] at hh
    refine .inl ⟨src.st F' H' g'.sub wt'.sub, ?_⟩
    have sm : Same F' (upd F' L (.lst av)) := same_upd fL
    refine f (.ref L) H' (upd F' L (.lst av)) (.lst acc) T' ⟨fun b o q => ?_, fun a ea => ?_, wt'.tabs.frz hLv⟩ (g1.trans ⟨g'.sub.trans sm, g'.keepT, fun a o q n => ?_, g'.there⟩) (.lst upd_same (ra.mono sm)) hh
    · by_cases hb : b = L
      · subst hb; rw [upd_same] at q; cases q; exact hLv
      · rw [upd_ne hb] at q; exact wt'.sub b o q
    · obtain ⟨n, us, hu, ru⟩ := wt'.tank a ea
      have ne : a ≠ L := fun z => tL (by rw [ea, z])
      exact ⟨by rw [upd_ne ne]; exact n, us, hu, ru.mono sm⟩
    · rw [upd_ne (ne_of_none q hL)]
      exact g'.new a o q n
theorem d_lc {elt iter : Expr} {ifs : List Expr} {scope : Scope} {fi : dI} {g : TG} {c : dC1} {tt : dT} {el : dE} (own : List (Str × Nat)) (hc : X.calm = true) (hN : X.N.Nodup) (hi : PId X tg iter fi) (cg : CG X.K g c (own.map (·.2)))
    (hg : ∀ (s : Shared) (H : Hp) (C : Addr) (cl : List (Str × Addr)) (fp : List Addr), PG (X.blk s H scope (compEnvC scope cl C X.env) fp) tg g)
    (ht : ∀ (s : Shared) (H : Hp) (C : Addr) (cl : List (Str × Addr)) (fp : List Addr), PTs (X.blk s H scope (compEnvC scope cl C X.env) fp) ifs (tDT X.K tt))
    (he : ∀ (s : Shared) (H : Hp) (C : Addr) (cl : List (Str × Addr)) (fp : List Addr), PEd (X.blk s H scope (compEnvC scope cl C X.env) fp) elt el)
    (ok : BlkOk X.N X.env.scope scope own := by exact blkOk_by (by decide +kernel)) (hs : ∀ x, foldedSetIterable iter X.env x = pure x := by intro _; rfl) :
    PEd X (.ListComp elt [⟨tg, iter, ifs, 0⟩] scope pos) (dLc (own.map (·.2)) fi c tt el) :=
  pe_imp (pe_lc (te := tD X.K el) hc hN hi ok hg ht he hs) fun _ _ _ h => lc_ok cg h
/-- y = [..] on one line -/
theorem s_setLc (i : Nat) {y : Str} {py spos : Pos} {elt iter : Expr} {ifs : List Expr} {scope : Scope} {fi : dI} {g : TG} {c : dC1} {tt : dT} {el : dE} (own : List (Str × Nat)) (hc : X.calm = true) (hN : X.N.Nodup) (hi : PId X tg iter fi) (cg : CG X.K g c (own.map (·.2)))
    (hg : ∀ (s : Shared) (H : Hp) (C : Addr) (cl : List (Str × Addr)) (fp : List Addr), PG (X.blk s H scope (compEnvC scope cl C X.env) fp) tg g)
    (ht : ∀ (s : Shared) (H : Hp) (C : Addr) (cl : List (Str × Addr)) (fp : List Addr), PTs (X.blk s H scope (compEnvC scope cl C X.env) fp) ifs (tDT X.K tt))
    (he : ∀ (s : Shared) (H : Hp) (C : Addr) (cl : List (Str × Addr)) (fp : List Addr), PEd (X.blk s H scope (compEnvC scope cl C X.env) fp) elt el)
    (hsw : swapsWith (.ListComp elt [⟨tg, iter, ifs, 0⟩] scope pos) (some (.Name y py)) spos.line X.env = pure true)
    (ok : BlkOk X.N X.env.scope scope own := by exact blkOk_by (by decide +kernel)) (hy : X.N[i]? = some y := by rfl) (hyl : X.env.scope.names.lookup y = some .local := by rfl) (hs : ∀ x, foldedSetIterable iter X.env x = pure x := by intro _; rfl) :
    PSd X (.Assign [.Name y py] (.ListComp elt [⟨tg, iter, ifs, 0⟩] scope pos) spos) (sAsg (dLc (own.map (·.2)) fi c tt el) (gN i)) := by
  refine ps_imp (ps_setLc (te := tD X.K el) hc hN hy hyl hsw hi ok hg ht he hs) fun E σ H h => ?_
  obtain ⟨ρ, T, t, F0, H0, F, k, w, h, fe⟩ := h
  exact lc_ok cg ⟨ρ, T, t, F, _, w.w, h, fun v H1 F1 d T1 w1 g1 r1 h1 => fe.nx _ _ _ _ _ ((w.grow g1 w1).put r1) g1.sub h1⟩
end
end L2.G

namespace L2.G
open PySem PySem.Spec PyProof.Rows

/-! the list that is changed in its place -/
section
variable {X : Cx} {e : Expr} {es : List Expr} {fe : dE} {fr : dA} {p pos : Pos} {f g : dS}
def isTank (ρ : En) (i : Nat) : Prop := match ρ[i]? with | some (some .tank) => True | _ => False
def dTix (i : Nat) (fe : dE) : dE := fun ρ T k => isTank ρ i ∧ fe ρ T fun d T1 => match d with | .int j => (match atI T1 j with | some x => k x T1 | none => False) | _ => False
theorem tank_slot {K : PySem.W.Frag} {ρ : En} {T : Tk} {t : Option Addr} {σ : L2.St} {F H : Hp} (w : Wd K ρ T t σ F H) {i : Nat} (h : isTank ρ i) : ∃ a, t = some a ∧ σ[i]? = some (some (.ref a)) := by
  unfold isTank at h
  split at h
  · rename_i e
    obtain ⟨v, h1, a, h2, rfl⟩ := w.slot i _ e
    exact ⟨a, h2, h1⟩
  · exact h.elim
theorem d_tix (i : Nat) {x : Str} {p1 : Pos} (he : PEd X e fe) (hs : PlainIx e := by exact fun _ _ => rfl) (hN : X.N[i]? = some x := by rfl) (hv : Vis X.env.scope x := by first | exact Or.inl rfl | exact Or.inr (Or.inl rfl) | exact Or.inr (Or.inr rfl))
    (hd : (x == ("__debug__" : Str)) = false := by decide) (hc : (x == ("__classdict__" : Str)) = false := by decide) : PEd X (.Subscript (.Name x p1) e pos) (dTix i fe) := by
  refine pe_imp (pe_ix ix_list (pe_var hN hv hd hc) he hs) fun σ H Q h => ?_
  obtain ⟨ρ, T, t, F, k, w, ⟨ht, h⟩, f⟩ := h
  obtain ⟨a, rfl, hσ⟩ := tank_slot w ht
  refine ⟨_, hσ, ρ, T, some a, F, _, w, h, fun v H1 F1 d T1 w1 g1 r1 h1 => ?_⟩
  split at h1
  · split at h1
    · rename_i e1
      cases r1
      obtain ⟨_, vs, hH, r⟩ := w1.tank a rfl
      obtain ⟨u, e2, ru⟩ := atI_rep r e1
      exact ⟨a, vs, _, u, rfl, rfl, .of hH, e2, (f.then g1).val w1 ru h1⟩
    · exact h1.elim
  · exact h1.elim
theorem Ws.tk {K : PySem.W.Frag} {ρ : En} {T T' : Tk} {σ : L2.St} {F0 H0 F H : Hp} {a : Addr} {ws : List V} (w : Ws K ρ T (some a) σ F0 H0 F H) (r : RepL K F T' ws) : Ws K ρ T' (some a) σ F0 H0 F (upd H a (.lst ws)) := by
  obtain ⟨hF, vs0, hA0, _⟩ := w.w.wt.tank a rfl
  refine ⟨⟨⟨fun b u q => ?_, fun b eb => ?_, w.w.wt.tabs.chg hA0⟩, w.w.len, fun j s ej => ?_, w.w.apart⟩, ⟨w.g.sub, fun b o h0 n0 z0 => ?_, w.g.new, fun b o h0 => ?_⟩, w.fr⟩
  · have ne : b ≠ a := fun z => by rw [z, hF] at q; cases q
    rw [upd_ne ne]
    exact w.w.wt.sub b u q
  · cases eb
    exact ⟨hF, ws, upd_same, r⟩
  · obtain ⟨u, h1, h2⟩ := w.w.slot j s ej
    refine ⟨u, h1, ?_⟩
    cases s with
    | val d => exact h2
    | tank => exact h2
    | exc _ _ => exact ⟨h2.1, fun dd fl x q => let ⟨n, u, f1, r1⟩ := h2.2 dd fl x q; ⟨n, u, by rw [upd_ne (fun z => n (by rw [z]))]; exact f1, r1⟩⟩
    | ptup _ => exact h2
    | me m c fs => obtain ⟨e, C, dx, us, f1, f2, q, r, n, z⟩ := h2; exact ⟨e, C, dx, us, f1, by rw [upd_ne (fun z => n (by rw [z]))]; exact f2, q, r, n, z⟩
    | fn _ c _ => exact ⟨h2.1, by rw [upd_ne (fun z => h2.2.2 (by rw [z]))]; exact h2.2.1, h2.2.2⟩
    | own zs =>
      obtain ⟨m, us, rfl, f1, f2, f3, f4⟩ := h2
      have nm : m ≠ a := fun z => f4 (by rw [z])
      exact ⟨m, us, rfl, f1, by rw [upd_ne nm]; exact f2, f3, f4⟩
  · have ne : b ≠ a := fun z => n0 (by rw [z])
    rw [upd_ne ne]
    exact w.g.keepT b o h0 n0 z0
  · by_cases hb : b = a
    · subst hb; exact ⟨_, upd_same⟩
    · rw [upd_ne hb]; exact w.g.there b o h0
def gTs (i : Nat) (fe : dE) : dG := fun d ρ T k => isTank ρ i ∧ fe ρ T fun j T1 => match j with | .int j => (match ixN T1.length j with | some m => k ρ (T1.set m d) | none => False) | _ => False
theorem g_tset (i : Nat) {x : Str} {p1 : Pos} (he : PEd X e fe) (hN : X.N[i]? = some x := by rfl) (hv : Vis X.env.scope x := by first | exact Or.inl rfl | exact Or.inr (Or.inl rfl) | exact Or.inr (Or.inr rfl))
    (hd : (x == ("__debug__" : Str)) = false := by decide) (hc : (x == ("__classdict__" : Str)) = false := by decide) (ha : ∀ v, assign (.Subscript (.Name x p1) e pos) X.env v = (do
      let ov ← holding [v] (eval (.Name x p1) X.env); let iv ← holding [v, ov] (eval e X.env); standAt pos; holding [v, ov, iv] (setItem ov iv v); release [v, ov, iv] []) := by intro _; rfl) : PGd X (.Subscript (.Name x p1) e pos) (gTs i fe) := by
  refine pg_imp (pg_sub (pe_var hN hv hd hc) he set_list ha) fun v σ H Q h => ?_
  obtain ⟨ρ, T, t, F0, H0, F, d, k, w, r, ⟨ht, h⟩, f⟩ := h
  obtain ⟨a, rfl, hσ⟩ := tank_slot w.w ht
  refine ⟨_, hσ, ρ, T, some a, F, _, w.w, h, fun u H1 F1 j T1 w1 g1 r1 h1 => ?_⟩
  split at h1
  · split at h1
    · rename_i e1
      cases r1
      obtain ⟨_, vs, hH, rt⟩ := w1.tank a rfl
      rw [rt.len] at e1
      exact ⟨a, vs, _, _, rfl, rfl, hH, e1, f _ _ _ _ _ ((w.grow g1 w1).tk (rt.set (r.mono g1.sub) _)) g1.sub h1⟩
    · exact h1.elim
  · exact h1.elim

/-! a def that ends by return [..]: the list is new -/
def FinO (K : PySem.W.Frag) (t : Option Addr) (F H : Hp) (k : KD) (n : VK) : Prop := ∀ l lv H' F' xs T', Wt K T' t F' H' → Grow t F H F' H' → H l = none → F' l = none → H' l = some (.lst lv) → RepL K F' xs lv → k (.lst xs) T' → n (.ref l) H'
def tDSo (K : PySem.W.Frag) (f : En → Tk → KD → Prop) : TS := fun E σ H => ∃ ρ T t F0 H0 F k, Ws K ρ T t σ F0 H0 F H ∧ f ρ T k ∧ FinO K t F0 H0 k E.rt
abbrev PSo (X : Cx) (st : List Stmt) (f : En → Tk → KD → Prop) : Prop := PSs X st (tDSo X.K f)
def no0 : dEnds := { nx := fun _ _ => False, rt := fun _ _ => False, bk := fun _ _ => False, ct := fun _ _ => False }
theorem so_cons {st : Stmt} {rest : List Stmt} {f : dS} {g : En → Tk → KD → Prop} (h1 : PSd X st f) (h2 : PSo X rest g) : PSo X (st :: rest) (fun ρ T k => f { no0 with nx := fun ρ1 T1 => g ρ1 T1 k } ρ T) := by
  refine pss_imp (pss_cons h1 h2) fun E σ H h => ?_
  obtain ⟨ρ, T, t, F0, H0, F, k, w, h, fe⟩ := h
  exact ⟨ρ, T, t, F0, H0, F, _, w, h, ⟨fun ρ' T' σ' F' H' w' _ h' => ⟨ρ', T', t, F0, H0, F', k, w', h', fe⟩, fun _ _ _ _ _ _ _ _ q => q.elim, fun _ _ _ _ _ _ _ q => q.elim, fun _ _ _ _ _ _ _ q => q.elim⟩⟩
theorem so_ret {lp : Pos} (ha : PAd X es fr) : PSo X [.Return (some (.List es lp)) pos] (fun ρ T k => fr ρ T fun as T1 => match vals? as with | some ds => ds.length ≤ 1000000 ∧ k (.lst ds) T1 | none => False) := by
  refine pss_imp (pss_one (ps_ret (pe_lst ha))) fun E σ H h => ?_
  obtain ⟨ρ, T, t, F0, H0, F, k, w, h, fe⟩ := h
  refine ⟨ρ, T, t, F, _, w.w, h, fun vs H1 F1 as T1 w1 g1 r1 h1 => ?_⟩
  split at h1
  · rename_i ds e
    have r := r1.vals e
    refine ⟨by rw [← r.len]; exact small_line h1.1, fun l hl => ?_⟩
    have g2 := (w.g.trans g1).trans (grow_own (o := .lst vs) w1.sub hl)
    refine fe l vs _ F1 ds T1 (wt_own w1 hl) g2 ?_ (w1.sub.free hl) upd_same r h1.2
    cases q : H0 l with
    | none => rfl
    | some o =>
      obtain ⟨o', h'⟩ := (w.g.trans g1).there l o q
      rw [hl] at h'
      cases h'
  · exact h1.elim
def spO (K : PySem.W.Frag) (n : Nat) (sem : Sem) : Sp := fun vs H Q _ => vs.length = n ∧ ∃ F t T as k, ArgL K t F as vs ∧ Wt K T t F H ∧ sem as T k ∧ FinO K t F H k Q
def OkO (P : Program) (w : World) (K : PySem.W.Frag) (mg : Str → Option Value) (base : Heap) (n : Nat) (x : Str) (ps : List Str) (sem : Sem) : Prop :=
  ∃ f fd, mg x = some (.ref f) ∧ PySem.W.keepIn K (.ref f) = true ∧ Binds K fd ps [] ∧ GFn P w K mg base CX0 n f fd ps (spO K ps.length sem)
end
def semO (N : List Str) (b : En → Tk → KD → Prop) : Sem := fun as T k => b (start' N as) T k
theorem ok_defO {P : Program} {w : World} {K : PySem.W.Frag} {mg : Str → Option Value} {base : Heap} {n : Nat} {x : Str} {st : Stmt} {N ps : List Str} {b : En → Tk → KD → Prop} (h : Df K mg x st) (S : FnScope N ps (defScope st))
    (hb1 : ∀ (kV doc pm : Value) (an : Option Addr) (cdv ct : Value) (us : List Value), us.length = ps.length → bindArgs (PySem.W.fnOf x x (defArgs st) (defBody st) (defScope st) .none kV doc pm an cdv ct) ⟨us, []⟩ = pure (ps.zip us))
    (body : ∀ (f : Addr) (cdv : Value) (A : Around) (fs : List Env) (s : Shared) (H : Hp) (E : XK), CdAt K mg x f cdv → Room n (A.deeper (envOfC x (defScope st) s.heap.objs.size f cdv)) → A.guards = some [] → PSo (CxD P w K mg base N x st f cdv A fs s H E) (defBody st) b) :
    OkO P w K mg base (n + 1) x ps (semO N b) := by
  obtain ⟨f, fd, Fn, hm⟩ := h
  refine ⟨f, fd, hm, Fn.kp, Fn.binds hb1, ?_⟩
  obtain ⟨oc, od, kV, doc, pm, an, cdv, ct, osl, rfl, lk, hcd⟩ := Fn.ex
  refine gfn_body lk hcd S (fun vs H Q E q => q.1) fun A fs s H vs Q E hr hgd hsp => ?_
  obtain ⟨hl, F, t, T, as, k, ar, wt, h, fin⟩ := hsp
  refine ⟨_, (body f cdv A fs s H E ⟨hm, _, _, _, _, lk, rfl, kdsCode_of hcd⟩ hr hgd).nox, start' N as, T, t, F, H, F, _, ⟨wd_start ar wt, Grow.refl _ _ _, fun i s l e1 m1 _ => ?_⟩, h, fin⟩
  exact absurd m1 (by rw [(argGet (H := H) ar i _ (startGet e1)).2]; exact fun z => nomatch z)
theorem OkO.mono {P : Program} {w : World} {K : PySem.W.Frag} {mg : Str → Option Value} {base : Heap} {m n : Nat} {x : Str} {ps : List Str} {sem : Sem} (h : OkO P w K mg base m x ps sem) (l : m ≤ n) : OkO P w K mg base n x ps sem :=
  let ⟨f, fd, h1, h2, h3, h4⟩ := h; ⟨f, fd, h1, h2, h3, h4.mono l⟩
section
variable {X : Cx} {e : Expr} {es : List Expr} {fr : dA} {p pos q pos2 : Pos} {x y : Str} {n m : Nat} {ps qs : List Str} {sem so : Sem}
/-- f(new(..)): the new list is f's own -/
def dCallT (m : Nat) (sem so : Sem) (fr : dA) : dE := fun ρ T k => fr ρ T fun as T1 => as.length = m ∧ so as T1 fun d T2 => match d with | .lst xs => sem [.tank] xs fun r _ => k r T2 | _ => False
theorem d_callT (G : Ok X.prog X.w X.K X.mg X.base n x ps sem) (O : OkO X.prog X.w X.K X.mg X.base m y qs so) (hr : Room n X.A) (hr2 : Room m X.A) (hgd : X.A.guards = some []) (ha : PAd X (e :: es) fr) (h1 : ps.length = 1) (hg : Gl X x := by rfl) (hg2 : Gl X y := by rfl)
    (hd : (x == ("__debug__" : Str)) = false := by decide) (hd2 : (y == ("__debug__" : Str)) = false := by decide) (he : starEach (e :: es) X.env = (false, eval e X.env) :: starEach es X.env := by rfl) (hp : (backTo pos2 (starEach es X.env)).any (·.1) = false := by rfl)
    (he2 : starEach [.Call (.Name y q) (e :: es) [] pos2] X.env = (false, eval (.Call (.Name y q) (e :: es) [] pos2) X.env) :: starEach [] X.env := by rfl) (hp2 : (backTo pos (starEach [] X.env)).any (·.1) = false := by rfl) :
    PEd X (.Call (.Name x p) [.Call (.Name y q) (e :: es) [] pos2] [] pos) (dCallT qs.length sem so fr) := by
  obtain ⟨f, fd, a1, a2, a3, _, a5, _⟩ := G
  obtain ⟨f', fd', b1, b2, b3, b5⟩ := O
  refine pe_imp (g_call (E := E0) a5 hr hgd hg a1 a2 a3 pass0 (pa_cons (g_call (E := E0) b5 hr2 hgd hg2 b1 b2 b3 pass0 ha hd2 he hp) pa_nil he2) hd he2 hp2) fun σ H Q h => ?_
  obtain ⟨ρ, T, t, F, k, w, h, fin⟩ := h
  refine ⟨ρ, T, t, F, _, w, h, fun vs H1 F1 as T1 w1 g1 r1 h1' => ?_⟩
  show spO X.K qs.length so (vs ++ []) H1 _ E0
  rw [List.append_nil]
  refine ⟨by rw [← r1.len]; exact h1'.1, F1, t, T1, as, _, r1, w1, h1'.2, fun l lv H2 F2 xs T2 w2 g2 hl hF2 hH2 rx h2 => ?_⟩
  refine ⟨by rw [h1]; rfl, F2, some l, xs, [.tank], _, .tank rfl .nil, ⟨w2.sub, fun a ea => ?_, w2.tabs⟩, h2, fun v H3 F3 d T3 w3 g3 r3 h3 => ?_⟩
  · cases ea
    exact ⟨hF2, lv, hH2, rx⟩
  · have keep : ∀ a o, H1 a = some o → t ≠ some a → noTb o → H3 a = some o := fun a o q n z => g3.keepT a o (g2.keepT a o q n z) (fun z => by cases z; rw [hl] at q; cases q) z
    have tk : ∀ a, t = some a → F3 a = none ∧ ∃ vs, H3 a = some (.lst vs) ∧ RepL X.K F3 T2 vs := fun a ea => by
      obtain ⟨n, us, hu, ru⟩ := w2.tank a ea
      obtain ⟨_, us1, hu1, _⟩ := w1.tank a ea
      have ne : some l ≠ some a := fun z => by cases z; rw [hl] at hu1; cases hu1
      exact ⟨g3.new _ _ hu n, us, g3.keep _ _ hu ne, ru.mono g3.sub⟩
    refine fin v H3 F3 d T2 ⟨w3.sub, tk, w3.tabs⟩ (g1.trans ⟨g2.sub.trans g3.sub, keep, fun a o q n => ?_, fun a o q => ?_⟩) r3 h3
    · obtain ⟨o', q'⟩ := g2.there a o q
      exact g3.new a o' q' (g2.new a o q n)
    · obtain ⟨o', q'⟩ := g2.there a o q
      exact g3.there a o' q'
end

/-! the end: the law is called; cs: the code objects of the defs that make lambdas, and their tables (empty at first) -/
def OnlyT (ts : List Addr) (H : Hp) : Prop := ∀ b, H b = none ∨ b ∈ ts ∨ ∃ o xs, H b = some (.frz o (.lst xs))
theorem g_lawT {P : Program} {w : World} {K : PySem.W.Frag} {mg mb : Str → Option Value} {CX : CXT} {k : Nat} {fa a : Addr} {fd : FuncData} {x : Str} {sp : Sp} {s1 : Shared} {vs : List Value} {ns : List Int} {ts : List Addr} (KX : K.In s1.heap) (hns : s1.heap.Ns mainGlobals mg)
    (hb : s1.heap.Ns builtinsNs mb) (hbb : ∀ x : Str, x ≠ "__name__" → mb x = bootBuiltins x) (hlim : s1.heap.NoLimit) (hg : s1.gens = #[]) (hT : ∀ b ∈ ts, ∃ c, s1.heap.TableAt c b #[]) (nT : ∀ b ∈ ts, K.lookup b = none)
    (ha : s1.heap.get? a = some { cls := .type "list", data := .seq vs.toArray }) (hi : IntsAre vs ns) (hl : ns.length ≤ sizeLine)
    (hr : Room k callerA) (G : ∀ base : Heap, K.In base → base.Ns mainGlobals mg → GFn P w K mg base CX k fa fd [x] sp) (hbind : ∀ u : Value, BindsTo s1 fd ⟨[u], []⟩ [(x, u)])
    (hsp : ∀ H : Hp, OnlyT ts H → (∀ b ∈ ts, H b = some (.tbl #[])) → SqL K H a (ns.map V.int) → sp [.ref a] H (fun v _ => v = .bl true) fun _ _ _ => False) (hCX : ∀ H e s', CX [] H s1 (fun _ _ _ => False) e s' → False) :
    codeAny (model P w) callerA (.call (.ref fa) ⟨[.ref a], []⟩) (fun r s' => r = .ok (.ret (.bool true)) ∧ OldK s1.heap s'.heap ∧ s'.os = s1.os ∧ AllBare s'.gens) s1 := by
  have rv := vals_ints hi
  have lenV := hi.length
  have gT : ∀ b ∈ ts, s1.heap.get? b = some { cls := .none, data := .fields #[] } := fun b q => let ⟨_, h⟩ := hT b q; h.2
  have aT : a ∉ ts := fun z => by
    have q := gT a z
    rw [ha] at q
    exact nomatch (show Data.seq vs.toArray _ = Data.fields #[] from congrArg Obj.data (Option.some.inj q))
  have core : ∀ H : Hp, OnlyT ts H → (∀ b ∈ ts, H b = some (.tbl #[])) → SqL K H a (ns.map V.int) → HOk P w H s1.heap → (∀ b, H b ≠ none → b = a ∨ b ∈ ts) → (H a ≠ none → K.lookup a = none) →
      codeAny (model P w) callerA (.call (.ref fa) ⟨[.ref a], []⟩) (fun r s' => r = .ok (.ret (.bool true)) ∧ OldK s1.heap s'.heap ∧ s'.os = s1.os ∧ AllBare s'.gens) s1 := by
    intro H hO hH hS hok hA hK
    have free : ∀ {b : Addr}, b ≠ a → b ∉ ts → H b = none := fun {b} nb nt => Classical.byContradiction fun z => (hA b z).elim nb nt
    have dicts : ∀ {b : Addr} {o : Obj} {es : Array DictEntry} {ep : Nat}, s1.heap.get? b = some o → o.data = .dict es ep → H b = none := fun {b o es ep} e d => free (fun z => by
      subst z
      cases ha.symm.trans e
      exact nomatch (show Data.seq vs.toArray _ = Data.dict es ep from d)) fun z => by
      cases (gT b z).symm.trans e
      exact nomatch (show Data.fields #[] = Data.dict es ep from d)
    have ns' : ∀ {b : Addr} {m : Str → Option Value}, s1.heap.Ns b m → (hidT s1.heap H).Ns b m := fun {b m} ⟨o, es, ep, e, d, r⟩ => ⟨o, es, ep, hidT_get e (dicts e d), d, r⟩
    have inB : K.In (hidT s1.heap H) := fun b o e => hidT_get (KX b o e) (by
      by_cases z : H b = none
      · exact z
      · rcases hA b z with hb | hb
        · subst hb
          have q := hK z
          rw [e] at q
          cases q
        · rw [nT b hb] at e
          cases e)
    have hM : Mod K mg (hidT s1.heap H) := ⟨inB, ns' hns, ⟨mb, ns' hb, hbb⟩, by obtain ⟨mc, h1, h2⟩ := hlim; exact ⟨mc, ns' h1, h2⟩⟩
    have e0 : Env0 P w K mg (hidT s1.heap H) callerA [] s1 H := ⟨rfl, hM, fun b o e => of_hidT e, Nat.le_of_eq (hidT_size _ _), trivial, fun b z => (by cases z), hok, .of_eq hg⟩
    apply codeAny_mono ((G _ inB (ns' hns)).go callerA [] s1 H ⟨[.ref a], []⟩ [.ref a] [.ref a] _ _ ⟨hr, rfl⟩ e0 (hbind (.ref a)) (.cons rfl .nil) (hsp H hO hH hS))
    intro r s' h
    match r, h with
    | .error e, h => exact (hCX H e s' h).elim
    | .ok (.ret u), h =>
      obtain ⟨v, H', os, bare, un, hok', r', q⟩ := h
      obtain rfl : v = V.bl true := q
      obtain rfl : u = Value.bool true := r'
      have grown : ∀ b ∈ ts, ∃ more : Array Value, s'.heap.get? b = some { cls := .none, data := .fields more } := fun b hb => by
        obtain ⟨more, z⟩ := un.tbls b #[] (hH b hb)
        exact ⟨_, hok' b _ z⟩
      have kept : ∀ b o, b ∉ ts → s1.heap.get? b = some o → s'.heap.get? b = some o := fun b o nb e => by
        cases q : H b with
        | none => exact un.keep b o e q (by simp [frs]) (by simp)
        | some u =>
          rcases hO b with z | z | ⟨ob, xs, z⟩
          · cases q.symm.trans z
          · exact absurd z nb
          · have k1 := (hok b _ z).1
            have k2 := (hok' b _ (un.frzs b ob _ z)).1
            cases e.symm.trans k1
            exact k2
      refine ⟨rfl, ⟨fun b o e => ?_, fun b o e => ?_⟩, os, bare⟩
      · by_cases hb : b ∈ ts
        · obtain ⟨c, tc⟩ := hT b hb
          obtain ⟨more, hm⟩ := grown b hb
          cases (gT b hb).symm.trans e
          exact .inr (.inl ⟨tc.isCodeTable, rfl, #[], more, rfl, by rw [hm, Array.empty_append]⟩)
        · exact .inl (kept b o hb e)
      · by_cases hb : b ∈ ts
        · obtain ⟨more, hm⟩ := grown b hb
          exact ⟨_, hm⟩
        · exact ⟨o, kept b o hb e⟩
  let H0 : Hp := fun b => if b ∈ ts then some (.tbl #[]) else none
  have h0 : ∀ {b : Addr}, b ∈ ts → H0 b = some (.tbl #[]) := fun {b} q => if_pos q
  have h1 : ∀ {b : Addr}, b ∉ ts → H0 b = none := fun {b} q => if_neg q
  cases hk : K.lookup a with
  | some o =>
    cases ha.symm.trans (KX a o hk)
    refine core H0 (fun b => ?_) (fun b q => h0 q) (.inr ⟨_, vs.toArray, _, hk, rfl, rfl, rfl, ?_, by simpa using rv⟩) (fun b u z => ?_) (fun b z => ?_) fun z => absurd (h1 aT) z
    · by_cases q : b ∈ ts
      · exact .inr (.inl q)
      · exact .inl (h1 q)
    · rw [List.size_toArray, lenV]
      exact hl
    · by_cases q : b ∈ ts
      · cases (h0 q).symm.trans z
        exact gT b q
      · cases (h1 q).symm.trans z
    · by_cases q : b ∈ ts
      · exact .inr q
      · exact absurd (h1 q) z
  | none =>
    refine core (fun b => if b = a then some (.frz { cls := .type "list", data := .seq vs.toArray } (.lst (ns.map V.int))) else H0 b) (fun b => ?_) (fun b q => ?_) ?_ (fun b u z => ?_) (fun b z => ?_) fun _ => hk
    · by_cases nb : b = a
      · right; right; exact ⟨_, _, if_pos nb⟩
      · by_cases q : b ∈ ts
        · exact .inr (.inl q)
        · left; exact (if_neg nb).trans (h1 q)
    · exact (if_neg (show ¬ b = a from fun z => aT (by rw [← z]; exact q))).trans (h0 q)
    · left; right; exact ⟨{ cls := .type "list", data := .seq vs.toArray }, if_pos rfl⟩
    · by_cases nb : b = a
      · cases (if_pos nb).symm.trans z
        subst nb
        exact ⟨ha, by rw [List.length_map]; exact hl, vs, _, rv, ha⟩
      · have z := (if_neg nb).symm.trans z
        by_cases q : b ∈ ts
        · cases (h0 q).symm.trans z
          exact gT b q
        · cases (h1 q).symm.trans z
    · by_cases nb : b = a
      · exact .inl nb
      · by_cases q : b ∈ ts
        · exact .inr q
        · exact absurd ((if_neg nb).trans (h1 q)) z
/-- the script as data -/
def scrD (ns : List Int) : D := .scr (ns.map D.int)
theorem scr_rep {K : PySem.W.Frag} {F : Hp} : ∀ ns : List Int, RepL K F (ns.map D.int) (ns.map V.int)
  | [] => .nil
  | n :: ns => .cons (.int n) (scr_rep ns)
end L2.G

namespace L2.G
open PySem PySem.Spec PyProof.Rows

section
variable {X : Cx} {tg a b c e : Expr} {fa fb fc fe : dE} {fr : dA} {p pos : Pos}
/-! a list or a tuple that is walked -/
def iS (fe : dE) : dI := fun ρ T k => fe ρ T fun d T1 => match d with | .lst xs => xs.length ≤ 1000000 ∧ k xs T1 | .tup xs => xs.length ≤ 1000000 ∧ k xs T1 | _ => False
theorem i_seq (he : PEd X e fe) : PId X tg e (iS fe) := by
  constructor
  rintro pins s σ H R I ⟨ρ, T, t, F, k, w, h, f⟩
  have key := he.run pins s σ H (fun x H1 => (∃ a xs, x = .ref a ∧ SqL X.K H1 a xs ∧ R (Itl X.K a) H1) ∨ ∃ a xs, x = .ref a ∧ SqT X.K H1 a xs ∧ R (Itt X.K a) H1) I ⟨ρ, T, t, F, _, w, h, fun v H1 F1 d T1 w1 g1 r1 h1 => by
    split at h1
    · obtain ⟨a, vs, rfl, hq, hr⟩ := rep_lst r1
      exact .inl ⟨a, vs, rfl, .of (w1.sub _ _ hq), f _ _ _ _ _ w1 g1 (src_list hq hr) h1.1 h1.2⟩
    · obtain ⟨a, vs, rfl, hq, hr⟩ := rep_tup r1
      exact .inr ⟨a, vs, rfl, same_t w1.sub hq, f _ _ _ _ _ w1 g1 (src_tup hq hr) h1.1 h1.2⟩
    · exact h1.elim⟩
  refine thn key fun v s1 ⟨x, H1, I1, r1, q1⟩ => ?_
  have fr : ∀ b ∈ [s1.heap.objs.size], FpOk X pins H1 b := fun b hb => by
    rw [List.mem_singleton.mp hb]
    exact I1.fpOk (Nat.le_refl _) (I1.hok.fresh (Nat.le_refl _))
  rcases q1 with ⟨a, xs, rfl, hq, q⟩ | ⟨a, xs, rfl, hq, q⟩
  · obtain rfl : v = Value.ref a := r1
    obtain ⟨its, _, pl, _⟩ := I1.list hq
    apply wpAny_pyIter_list pl.isList
    exact ⟨s1.heap.objs.size, _, _, _, H1, rfl, I1.kept (t' := s1.toks) fun b o z => Heap.get?_push_of_some _ z, turn_list a _, ⟨_, Heap.get?_push_size _ rfl, rfl, rfl⟩, fr, q⟩
  · obtain rfl : v = Value.ref a := r1
    obtain ⟨its, _, pl, _⟩ := I1.tuple hq
    apply wpAny_pyIter_tuple pl
    exact ⟨s1.heap.objs.size, _, _, _, H1, rfl, I1.kept (t' := s1.toks) fun b o z => Heap.get?_push_of_some _ z, turn_tuple a _, ⟨_, Heap.get?_push_size _ rfl, rfl, rfl⟩, fr, q⟩

/-! +, *, ==, != of any kind -/
def oAdd : Op2 := fun x y k => match x, y with
  | .int i, .int j => k (.int (i + j))
  | .lst xs, .lst ys => xs.length + ys.length ≤ 1000000 ∧ k (.lst (xs ++ ys))
  | .tup xs, .tup ys => xs.length + ys.length ≤ 1000000 ∧ k (.tup (xs ++ ys))
  | .str s, .str u => s.length + u.length ≤ 1000000 ∧ k (.str (s ++ u))
  | _, _ => False
theorem oAdd_ok {K : PySem.W.Frag} : OpS K (fun x y H Q => (rI0 (fun i j => .int (i + j))) x y H Q ∨ ((rCat x y H Q ∨ rCatA K x y H Q) ∨ ∃ i j, x = .str i ∧ y = .str j ∧ i.length + j.length ≤ sizeLine ∧ Q (.str (i ++ j)) H)) oAdd := by
  intro t F H T x y v w k Q wt r1 r2 q f
  unfold oAdd at q
  split at q
  · exact .inl (oI_ok wt r1 r2 q f)
  · exact .inr (oCat_ok wt r1 r2 q f)
  · exact .inr (oCat_ok wt r1 r2 q f)
  · exact .inr (oCat_ok wt r1 r2 q f)
  · exact q.elim
theorem d_plus (ha : PEd X a fa) (hb : PEd X b fb) : PEd X (.BinOp a .Add b pos) (dOp oAdd fa fb) := d_op (op_add.or ((op_cat.or op_catA).or op_add_str)) oAdd_ok ha hb
def repD (xs : List D) (n : Nat) : List D := (List.replicate n xs).flatten
theorem rep_flat {K : PySem.W.Frag} {F : Hp} {ds : List D} {vs : List V} (r : RepL K F ds vs) : ∀ n : Nat, RepL K F (repD ds n) (List.replicate n vs).flatten
  | 0 => .nil
  | n + 1 => by
    show RepL K F ((List.replicate (n + 1) ds).flatten) _
    rw [List.replicate_succ, List.flatten_cons, List.replicate_succ, List.flatten_cons]
    exact r.app (rep_flat r n)
def oMul : Op2 := fun x y k => match x, y with
  | .int i, .int j => MulOk i j ∧ k (.int (i * j))
  | .lst xs, .int n => (-(2 ^ 63) ≤ n ∧ n < 2 ^ 63 ∧ xs.length * n.toNat ≤ 1000000) ∧ k (.lst (repD xs n.toNat))
  | _, _ => False
theorem oMul_ok {K : PySem.W.Frag} : OpS K (fun x y H Q => (rI MulOk (fun i j => .int (i * j))) x y H Q ∨ rRep x y H Q) oMul := by
  intro t F H T x y v w k Q wt r1 r2 q f
  unfold oMul at q
  split at q
  · exact .inl (oIC_ok wt r1 r2 q f)
  · obtain ⟨a, vs, rfl, h1, r1⟩ := rep_lst r1
    cases r2
    exact .inr ⟨a, _, vs, rfl, rfl, wt.sub _ _ h1, q.1.1, q.1.2.1, by rw [← r1.len]; exact small_line q.1.2.2, fun p hp => f.lst wt (rep_flat r1 _) hp q.2⟩
  · exact q.elim
theorem d_times (ha : PEd X a fa) (hb : PEd X b fb) : PEd X (.BinOp a .Mult b pos) (dOp oMul fa fb) := d_op (op_mulQ.or op_rep) oMul_ok ha hb
def oEqU : Op2 := fun x y k => match x, y with
  | .int i, .int j => k (.bl (decide (i = j)))
  | .str i, .str j => k (.bl (decide (i = j)))
  | .bl i, .bl j => k (.bl (decide (i = j)))
  | x, y => x.eqOk ∧ y.eqOk ∧ k (.bl (eqD x y))
def oNeU : Op2 := fun x y k => match x, y with
  | .int i, .int j => k (.bl (!decide (i = j)))
  | .str i, .str j => k (.bl (!decide (i = j)))
  | .bl i, .bl j => k (.bl (!decide (i = j)))
  | x, y => x.eqOk ∧ y.eqOk ∧ k (.bl (!eqD x y))
theorem oEqU_ok {K : PySem.W.Frag} : OpS K (fun x y H Q => rEq x y H Q ∨ rEqD K x y H Q) oEqU := by
  intro t F H T x y v w k Q wt r1 r2 q f
  unfold oEqU at q
  split at q
  · exact .inl (oEqI_ok wt r1 r2 q f)
  · exact .inl (oEqI_ok wt r1 r2 q f)
  · exact .inl (oEqI_ok wt r1 r2 q f)
  · exact .inr (oEq_ok wt r1 r2 q f)
theorem oNeU_ok {K : PySem.W.Frag} : OpS K (fun x y H Q => rNe x y H Q ∨ rNeD K x y H Q) oNeU := by
  intro t F H T x y v w k Q wt r1 r2 q f
  unfold oNeU at q
  split at q
  · exact .inl (oNeI_ok wt r1 r2 q f)
  · exact .inl (oNeI_ok wt r1 r2 q f)
  · exact .inl (oNeI_ok wt r1 r2 q f)
  · exact .inr (oNe_ok wt r1 r2 q f)
theorem room66 {n : Nat} {A : Around} (r : Room n A) : A.units + 66 < cLine := by have := r.un; omega
variable {n : Nat}
/-- a constant of the module -/
def GC (K : PySem.W.Frag) (mg : Str → Option Value) (x : Str) (d : D) : Prop := ∃ v u, mg x = some u ∧ RelV v u ∧ ∀ F, Rep K F d v
theorem d_gc {x : Str} {d : D} (h : GC X.K X.mg x d) (hg : Gl X x := by rfl) (hd : (x == ("__debug__" : Str)) = false := by decide) : PEd X (.Name x pos) (dC d) := by
  obtain ⟨v, u, h1, h2, h3⟩ := h
  exact d_glob hg h1 h2 h3 hd
mutual
inductive GRep (K : PySem.W.Frag) : D → Value → Prop
  | int (i : Int) (t : Tok) : GRep K (.int i) (.int i t)
  | str (i : Str) (t : Tok) : GRep K (.str i) (.str i t)
  | bl (b : Bool) : GRep K (.bl b) (.bool b)
  | non : GRep K .non .none
  | tup {a : Addr} {dd : Option Addr} {its : Array Value} {n : Nat} {sl : Array (Option Value)} {ds : List D} : K.lookup a = some ⟨.type "tuple", dd, .seq its n, sl⟩ → GRepL K ds its.toList → its.size ≤ 1000000 → GRep K (.tup ds) (.ref a)
inductive GRepL (K : PySem.W.Frag) : List D → List Value → Prop
  | nil : GRepL K [] []
  | cons {d : D} {u : Value} {ds : List D} {us : List Value} : GRep K d u → GRepL K ds us → GRepL K (d :: ds) (u :: us)
end
mutual
theorem GRep.rep {K : PySem.W.Frag} : ∀ {d : D} {u : Value}, GRep K d u → ∃ v, RelV v u ∧ ∀ F, Rep K F d v
  | _, _, .int i t => ⟨.int i, ⟨t, rfl⟩, fun _ => .int i⟩
  | _, _, .str i t => ⟨.str i, ⟨t, rfl⟩, fun _ => .str i⟩
  | _, _, .bl b => ⟨.bl b, rfl, fun _ => .bl b⟩
  | _, _, .non => ⟨.non, rfl, fun _ => .non⟩
  | _, _, .tup (a := a) h q z => by
    obtain ⟨vs, h1, h2⟩ := GRepL.rep q
    exact ⟨.ref a, rfl, fun F => .tup (.inr ⟨_, _, _, h, rfl, rfl, small_line z, h1⟩) (h2 F)⟩
theorem GRepL.rep {K : PySem.W.Frag} : ∀ {ds : List D} {us : List Value}, GRepL K ds us → ∃ vs, Vals vs us ∧ ∀ F, RepL K F ds vs
  | _, _, .nil => ⟨[], .nil, fun _ => .nil⟩
  | _, _, .cons h q => by
    obtain ⟨v, h1, h2⟩ := GRep.rep h
    obtain ⟨vs, h3, h4⟩ := GRepL.rep q
    exact ⟨v :: vs, .cons h1 h3, fun F => .cons (h2 F) (h4 F)⟩
end
theorem gc_of {K : PySem.W.Frag} {mg : Str → Option Value} {h : Heap} {x : Str} {d : D} {u : Value} (X : K.In h) (G : h.Ns mainGlobals mg) (a : PySem.W.nsIn K mainGlobals x = some (some u)) (r : GRep K d u) : GC K mg x d := by
  obtain ⟨v, h1, h2⟩ := r.rep
  exact ⟨v, u, PySem.W.mg_of X G a, h1, h2⟩
/-- three at once -/
def sPar3 (i j l : Nat) (fr : dA) : dS := fun k ρ T => fr ρ T fun as T1 => match as with | [.val d, .val e, .val f] => k.nx (((ρ.set i (some (.val d))).set j (some (.val e))).set l (some (.val f))) T1 | _ => False
end
end L2.G

namespace L2.G
open PySem PySem.Spec PyProof.Rows
theorem ixN_lit (l n : Nat) : ixN l (no_index (OfNat.ofNat n) : Int) = if n < l then some n else none := by
  have e : (no_index (OfNat.ofNat n) : Int) = (n : Int) := rfl
  rw [e]
  unfold ixN
  rw [if_pos (Int.natCast_nonneg n)]
  by_cases h : n < l
  · rw [if_pos h, if_pos (by omega)]; rfl
  · rw [if_neg h, if_neg (by omega)]
theorem atI_lit {α : Type} (xs : List α) (n : Nat) : atI xs (no_index (OfNat.ofNat n) : Int) = xs[n]? := by
  unfold atI
  rw [ixN_lit]
  by_cases h : n < xs.length
  · rw [if_pos h]; rfl
  · rw [if_neg h]; exact (List.getElem?_eq_none (by omega)).symm
theorem atI_nat' {α : Type} (xs : List α) (n : Nat) : atI xs (n : Int) = xs[n]? := atI_lit xs n
theorem atI_m1 {α : Type} (xs : List α) : atI xs (-1) = xs[xs.length - 1]? := by
  unfold atI ixN
  rw [if_neg (by decide)]
  by_cases h : xs = []
  · subst h; rfl
  · have : 0 < xs.length := List.length_pos_iff.mpr h
    rw [if_pos (by omega)]
    show xs[((-1 : Int) + xs.length).toNat]? = _
    congr 1
    omega
/-- sizes -/
def Sz (n : Nat) (i : Int) : Prop := i.natAbs < 2 ^ n
theorem Sz.mono {m n : Nat} {i : Int} (h : Sz m i) (l : m ≤ n) : Sz n i := Nat.lt_of_lt_of_le h (Nat.pow_le_pow_right (by decide) l)
theorem Sz.add {m n : Nat} {i j : Int} (h : Sz m i) (q : Sz n j) : Sz (max m n + 1) (i + j) := by
  have h1 := h.mono (Nat.le_max_left m n)
  have h2 := q.mono (Nat.le_max_right m n)
  unfold Sz at *
  rw [Nat.pow_succ]
  omega
theorem Sz.sub {m n : Nat} {i j : Int} (h : Sz m i) (q : Sz n j) : Sz (max m n + 1) (i - j) := by
  have h1 := h.mono (Nat.le_max_left m n)
  have h2 := q.mono (Nat.le_max_right m n)
  unfold Sz at *
  rw [Nat.pow_succ]
  omega
theorem Sz.neg {m : Nat} {i : Int} (h : Sz m i) : Sz m (-i) := by unfold Sz at *; omega
theorem Sz.mul {m n : Nat} {i j : Int} (h : Sz m i) (q : Sz n j) : Sz (m + n) (i * j) := wide_lt h q
theorem Sz.mulOk {m n : Nat} {i j : Int} (h : Sz m i) (q : Sz n j) (l : m ≤ 400000) (l' : n ≤ 400000) : MulOk i j := .inr ⟨h.mono l, q.mono l'⟩
theorem Sz.divOk {n : Nat} {i j : Int} (q : Sz n j) (l : n ≤ 9000) (h : 0 < j) : DivOk i j := ⟨h, q.mono l⟩
theorem Sz.ediv {m : Nat} {i j : Int} (h : Sz m i) : Sz m (i / j) := by
  unfold Sz at *
  exact Nat.lt_of_le_of_lt (Int.natAbs_ediv_le_natAbs i j) h
theorem sIx_lit (n d k : Nat) : HT.sIx n d (some (no_index (OfNat.ofNat k) : Int)) = min k n := HT.sIx_nat n d k
theorem cut_none {xs : List D} : cutD xs none none = xs := by
  unfold cutD
  simp [HT.sIx_none]
theorem cut_to {xs : List D} (k : Nat) : cutD xs none (some (no_index (OfNat.ofNat k) : Int)) = xs.take k := by
  unfold cutD
  rw [sIx_lit, HT.sIx_none, List.drop_zero, Nat.sub_zero]
  by_cases h : k ≤ xs.length
  · rw [Nat.min_eq_left h]
  · rw [Nat.min_eq_right (by omega), List.take_length, List.take_of_length_le (by omega)]
theorem cut_from {xs : List D} (k : Nat) : cutD xs (some (no_index (OfNat.ofNat k) : Int)) none = xs.drop k := by
  unfold cutD
  rw [sIx_lit, HT.sIx_none]
  by_cases h : k ≤ xs.length
  · rw [Nat.min_eq_left h, List.take_of_length_le (by simp)]
  · rw [Nat.min_eq_right (by omega), Nat.sub_self, List.take_zero, List.drop_eq_nil_of_le (by omega)]
theorem cut_fromto {xs : List D} (j k : Nat) : cutD xs (some (no_index (OfNat.ofNat j) : Int)) (some (no_index (OfNat.ofNat k) : Int)) = (xs.take k).drop j := by
  unfold cutD
  rw [sIx_lit, sIx_lit, List.drop_take]
  by_cases h : j ≤ xs.length
  · rw [Nat.min_eq_left h]
    by_cases h2 : k ≤ xs.length
    · rw [Nat.min_eq_left h2]
    · rw [Nat.min_eq_right (by omega), List.take_of_length_le (by simp), List.take_of_length_le (by simp; omega)]
  · rw [Nat.min_eq_right (show xs.length ≤ j by omega), List.drop_eq_nil_of_le (show xs.length ≤ xs.length from Nat.le_refl _), List.drop_eq_nil_of_le (show xs.length ≤ j by omega), List.take_nil, List.take_nil]
end L2.G

namespace L2.G
open PySem PySem.Spec PyProof.Rows
/-! the same operations as functions of data: what must hold, and the value -/
abbrev PD := Option (Prop × D)
def oF (f : D → D → PD) : Op2 := fun x y k => match f x y with | some p => p.1 ∧ k p.2 | none => False
def oG (f : List D → PD) (ds : List D) (k : D → Prop) : Prop := match f ds with | some p => p.1 ∧ k p.2 | none => False
theorem OpS.imp {K : PySem.W.Frag} {r : R2} {o o' : Op2} (h : OpS K r o) (i : ∀ x y k, o' x y k → o x y k) : OpS K r o' := fun w r1 r2 q f => h w r1 r2 (i _ _ _ q) f
theorem BltS.imp {K : PySem.W.Frag} {r : List V → Hp → VK → Prop} {o o' : List D → (D → Prop) → Prop} (h : BltS K r o) (i : ∀ ds k, o' ds k → o ds k) : BltS K r o' := fun w r1 q f => h w r1 (i _ _ q) f
def fAdd : D → D → PD
  | .int i, .int j => some (True, .int (i + j))
  | .lst xs, .lst ys => some (xs.length + ys.length ≤ 1000000, .lst (xs ++ ys))
  | .tup xs, .tup ys => some (xs.length + ys.length ≤ 1000000, .tup (xs ++ ys))
  | .str s, .str u => some (s.length + u.length ≤ 1000000, .str (s ++ u))
  | _, _ => none
def fSub : D → D → PD
  | .int i, .int j => some (True, .int (i - j))
  | .bl b, .bl c => some (True, .int (b2i b - b2i c))
  | _, _ => none
def rSubB (x y : V) (H : Hp) (Q : VK) : Prop := ∃ b c : Bool, x = .bl b ∧ y = .bl c ∧ Q (.int (b2i b - b2i c)) H
theorem op_subB {X : Cx} : OpR X (binaryOp .Sub) rSubB := by
  intro pins s σ H x y v u Q I rx ry h
  obtain ⟨b, c, rfl, rfl, q⟩ := h
  cases rx
  cases ry
  exact PyProof.Rows.sub_bool ⟨.int (b2i b - b2i c), H, I.tok _, ⟨_, rfl⟩, q⟩
def oSubB : Op2 := fun x y k => match x, y with
  | .int i, .int j => k (.int (i - j))
  | .bl b, .bl c => k (.int (b2i b - b2i c))
  | _, _ => False
theorem oSubB_ok {K : PySem.W.Frag} : OpS K (fun x y H Q => (rI0 (fun i j => .int (i - j))) x y H Q ∨ rSubB x y H Q) oSubB := by
  intro t F H T x y v w k Q wt r1 r2 q f
  unfold oSubB at q
  split at q
  · exact .inl (oI_ok wt r1 r2 q f)
  · cases r1
    cases r2
    exact .inr ⟨_, _, rfl, rfl, f.val wt (.int _) q⟩
  · exact q.elim
def fMul : D → D → PD
  | .int i, .int j => some (MulOk i j, .int (i * j))
  | .lst xs, .int n => some (-(2 ^ 63) ≤ n ∧ n < 2 ^ 63 ∧ xs.length * n.toNat ≤ 1000000, .lst (repD xs n.toNat))
  | _, _ => none
def fDiv : D → D → PD | .int i, .int j => some (DivOk i j, .int (i / j)) | _, _ => none
def fMod : D → D → PD | .int i, .int j => some (0 < j, .int (i % j)) | _, _ => none
def fPow : D → D → PD | .int i, .int j => some (CPow i j, .int (i ^ j.toNat)) | _, _ => none
def fShl : D → D → PD | .int i, .int j => some (CPow i j, .int (i * 2 ^ j.toNat)) | _, _ => none
def fLt : D → D → PD | .int i, .int j => some (True, .bl (decide (i < j))) | _, _ => none
def fLe : D → D → PD | .int i, .int j => some (True, .bl (decide (i ≤ j))) | _, _ => none
def fGt : D → D → PD | .int i, .int j => some (True, .bl (decide (j < i))) | _, _ => none
def fGe : D → D → PD | .int i, .int j => some (True, .bl (decide (j ≤ i))) | _, _ => none
def fEq (x y : D) : PD := match x, y with
  | .int i, .int j => some (True, .bl (decide (i = j)))
  | .str i, .str j => some (True, .bl (decide (i = j)))
  | .bl i, .bl j => some (True, .bl (decide (i = j)))
  | x, y => some (x.eqOk ∧ y.eqOk, .bl (eqD x y))
def fNe (x y : D) : PD := match x, y with
  | .int i, .int j => some (True, .bl (!decide (i = j)))
  | .str i, .str j => some (True, .bl (!decide (i = j)))
  | .bl i, .bl j => some (True, .bl (!decide (i = j)))
  | x, y => some (x.eqOk ∧ y.eqOk, .bl (!eqD x y))
theorem fEq_int {i j : Int} : fEq (.int i) (.int j) = some (True, .bl (decide (i = j))) := rfl
theorem fEq_str {i j : Str} : fEq (.str i) (.str j) = some (True, .bl (decide (i = j))) := rfl
theorem fEq_bl {i j : Bool} : fEq (.bl i) (.bl j) = some (True, .bl (decide (i = j))) := rfl
theorem fEq_tup {x y : List D} : fEq (.tup x) (.tup y) = some ((D.tup x).eqOk ∧ (D.tup y).eqOk, .bl (eqD (.tup x) (.tup y))) := rfl
theorem fEq_lst {x y : List D} : fEq (.lst x) (.lst y) = some ((D.lst x).eqOk ∧ (D.lst y).eqOk, .bl (eqD (.lst x) (.lst y))) := rfl
theorem fEq_tn {x : List D} : fEq (.tup x) .non = some ((D.tup x).eqOk ∧ D.non.eqOk, .bl (eqD (.tup x) .non)) := rfl
theorem fEq_nt {x : List D} : fEq .non (.tup x) = some (D.non.eqOk ∧ (D.tup x).eqOk, .bl (eqD .non (.tup x))) := rfl
theorem fEq_nn : fEq .non .non = some (D.non.eqOk ∧ D.non.eqOk, .bl (eqD .non .non)) := rfl
theorem fNe_int {i j : Int} : fNe (.int i) (.int j) = some (True, .bl (!decide (i = j))) := rfl
theorem fNe_str {i j : Str} : fNe (.str i) (.str j) = some (True, .bl (!decide (i = j))) := rfl
theorem fNe_bl {i j : Bool} : fNe (.bl i) (.bl j) = some (True, .bl (!decide (i = j))) := rfl
theorem fNe_tup {x y : List D} : fNe (.tup x) (.tup y) = some ((D.tup x).eqOk ∧ (D.tup y).eqOk, .bl (!eqD (.tup x) (.tup y))) := rfl
theorem fNe_lst {x y : List D} : fNe (.lst x) (.lst y) = some ((D.lst x).eqOk ∧ (D.lst y).eqOk, .bl (!eqD (.lst x) (.lst y))) := rfl
theorem fNe_tn {x : List D} : fNe (.tup x) .non = some ((D.tup x).eqOk ∧ D.non.eqOk, .bl (!eqD (.tup x) .non)) := rfl
theorem fNe_nt {x : List D} : fNe .non (.tup x) = some (D.non.eqOk ∧ (D.tup x).eqOk, .bl (!eqD .non (.tup x))) := rfl
theorem fNe_nn : fNe .non .non = some (D.non.eqOk ∧ D.non.eqOk, .bl (!eqD .non .non)) := rfl
def fIn (x y : D) : PD := match y with | .lst ys => some (x.eqOk ∧ D.eqOk (.lst ys), .bl (ys.any fun z => eqD z x)) | _ => none
def fNotIn (x y : D) : PD := match y with | .lst ys => some (x.eqOk ∧ D.eqOk (.lst ys), .bl (!ys.any fun z => eqD z x)) | _ => none
def D.seq? : D → Option (List D) | .tup xs => some xs | .lst xs => some xs | .scr xs => some xs | _ => none
def fIx (x y : D) : PD := match y with | .int i => (match x.seq? with | some xs => (match atI xs i with | some d => some (True, d) | none => none) | none => none) | _ => none
theorem fAdd_ok {x y : D} {k : D → Prop} (h : oF fAdd x y k) : oAdd x y k := by cases x <;> cases y <;> first | exact h.elim | (obtain ⟨h1, h2⟩ := h; first | exact h2 | exact ⟨h1, h2⟩)
theorem fSub_ok {x y : D} {k : D → Prop} (h : oF fSub x y k) : oSubB x y k := by cases x <;> cases y <;> first | exact h.elim | exact h.2
theorem fMul_ok {x y : D} {k : D → Prop} (h : oF fMul x y k) : oMul x y k := by cases x <;> cases y <;> first | exact h.elim | exact h
theorem fDiv_ok {x y : D} {k : D → Prop} (h : oF fDiv x y k) : oIC DivOk (fun i j => i / j) x y k := by cases x <;> cases y <;> first | exact h.elim | exact h
theorem fMod_ok {x y : D} {k : D → Prop} (h : oF fMod x y k) : oIC (fun _ j => 0 < j) (fun i j => i % j) x y k := by cases x <;> cases y <;> first | exact h.elim | exact h
theorem fPow_ok {x y : D} {k : D → Prop} (h : oF fPow x y k) : oIC CPow (fun i j => i ^ j.toNat) x y k := by cases x <;> cases y <;> first | exact h.elim | exact h
theorem fLt_ok {x y : D} {k : D → Prop} (h : oF fLt x y k) : oB (fun i j => decide (i < j)) x y k := by cases x <;> cases y <;> first | exact h.elim | exact h.2
theorem fLe_ok {x y : D} {k : D → Prop} (h : oF fLe x y k) : oB (fun i j => decide (i ≤ j)) x y k := by cases x <;> cases y <;> first | exact h.elim | exact h.2
theorem fGt_ok {x y : D} {k : D → Prop} (h : oF fGt x y k) : oB (fun i j => decide (j < i)) x y k := by cases x <;> cases y <;> first | exact h.elim | exact h.2
theorem fGe_ok {x y : D} {k : D → Prop} (h : oF fGe x y k) : oB (fun i j => decide (j ≤ i)) x y k := by cases x <;> cases y <;> first | exact h.elim | exact h.2
theorem fEq_ok {x y : D} {k : D → Prop} (h : oF fEq x y k) : oEqU x y k := by cases x <;> cases y <;> first | exact h.2 | exact ⟨h.1.1, h.1.2, h.2⟩
theorem fNe_ok {x y : D} {k : D → Prop} (h : oF fNe x y k) : oNeU x y k := by cases x <;> cases y <;> first | exact h.2 | exact ⟨h.1.1, h.1.2, h.2⟩
theorem fIx_ok {x y : D} {k : D → Prop} (h : oF fIx x y k) : oIx x y k := by
  cases y <;> first | exact h.elim | skip
  rename_i i
  cases x <;> first | exact h.elim | skip
  all_goals
    rename_i xs
    unfold oF fIx D.seq? at h
    unfold oIx
    simp only at h ⊢
    cases e : atI xs i with
    | none => rw [e] at h; exact h.elim
    | some d => rw [e] at h; exact h.2
section
variable {X : Cx} {a b e : Expr} {fa fb fe : dE} {fr : dA} {p pos : Pos} {n : Nat} {es : List Expr} {tg : Expr}
theorem f_add (ha : PEd X a fa) (hb : PEd X b fb) : PEd X (.BinOp a .Add b pos) (dOp (oF fAdd) fa fb) := d_op (op_add.or ((op_cat.or op_catA).or op_add_str)) (oAdd_ok.imp fun _ _ _ => fAdd_ok) ha hb
theorem f_sub (ha : PEd X a fa) (hb : PEd X b fb) : PEd X (.BinOp a .Sub b pos) (dOp (oF fSub) fa fb) := d_op (op_sub.or op_subB) (oSubB_ok.imp fun _ _ _ => fSub_ok) ha hb
theorem f_mul (ha : PEd X a fa) (hb : PEd X b fb) : PEd X (.BinOp a .Mult b pos) (dOp (oF fMul) fa fb) := d_op (op_mulQ.or op_rep) (oMul_ok.imp fun _ _ _ => fMul_ok) ha hb
theorem f_div (ha : PEd X a fa) (hb : PEd X b fb) : PEd X (.BinOp a .FloorDiv b pos) (dOp (oF fDiv) fa fb) := d_op op_divQ (oIC_ok.imp fun _ _ _ => fDiv_ok) ha hb
theorem f_mod (ha : PEd X a fa) (hb : PEd X b fb) : PEd X (.BinOp a .Mod b pos) (dOp (oF fMod) fa fb) := d_op op_mod (oIC_ok.imp fun _ _ _ => fMod_ok) ha hb
theorem f_pow (ha : PEd X a fa) (hb : PEd X b fb) : PEd X (.BinOp a .Pow b pos) (dOp (oF fPow) fa fb) := d_op op_pow (oIC_ok.imp fun _ _ _ => fPow_ok) ha hb
theorem f_ix (ha : PEd X a fa) (hb : PEd X b fb) (hs : PlainIx b := by exact fun _ _ => rfl) : PEd X (.Subscript a b pos) (dOp (oF fIx) fa fb) :=
  pe_imp (pe_ix (ix_list.or ix_tup) ha hb hs) fun σ H Q h => two (o := fun x y T k => oF fIx x y fun d => k d T) (R := fun x y H Q => rIxL X.K x y H Q ∨ rIxT X.K x y H Q) (fun w r1 r2 q f => oIx_ok w r1 r2 (fIx_ok q) f) h
theorem d_fle (ha : PEd X a fa) (hb : PEd X b fb) : PEd X (.Compare a [.LtE] [b] pos) (dOp (oF fLe) fa fb) := d_cmp op_le (oB_ok.imp fun _ _ _ => fLe_ok) ha hb (nomark _)
theorem t_flt (ha : PEd X a fa) (hb : PEd X b fb) : PTd X (.Compare a [.Lt] [b] pos) (dTst (dOp (oF fLt) fa fb)) := d_tcmp op_lt (oB_ok.imp fun _ _ _ => fLt_ok) ha hb (nomark _)
theorem t_fgt (ha : PEd X a fa) (hb : PEd X b fb) : PTd X (.Compare a [.Gt] [b] pos) (dTst (dOp (oF fGt) fa fb)) := d_tcmp op_gt (oB_ok.imp fun _ _ _ => fGt_ok) ha hb (nomark _)
theorem t_fge (ha : PEd X a fa) (hb : PEd X b fb) : PTd X (.Compare a [.GtE] [b] pos) (dTst (dOp (oF fGe) fa fb)) := d_tcmp op_ge (oB_ok.imp fun _ _ _ => fGe_ok) ha hb (nomark _)
theorem d_feq (hr : Room n X.A) (ha : PEd X a fa) (hb : PEd X b fb) : PEd X (.Compare a [.Eq] [b] pos) (dOp (oF fEq) fa fb) := d_cmp (op_eq.or (op_eqD (by have := room66 hr; omega))) (oEqU_ok.imp fun _ _ _ => fEq_ok) ha hb (nomark _)
theorem t_feq (hr : Room n X.A) (ha : PEd X a fa) (hb : PEd X b fb) : PTd X (.Compare a [.Eq] [b] pos) (dTst (dOp (oF fEq) fa fb)) := d_tcmp (op_eq.or (op_eqD (by have := room66 hr; omega))) (oEqU_ok.imp fun _ _ _ => fEq_ok) ha hb (nomark _)
theorem t_fne (hr : Room n X.A) (ha : PEd X a fa) (hb : PEd X b fb) : PTd X (.Compare a [.NotEq] [b] pos) (dTst (dOp (oF fNe) fa fb)) := d_tcmp (op_ne.or (op_neD (by have := room66 hr; omega))) (oNeU_ok.imp fun _ _ _ => fNe_ok) ha hb (nomark _)
/-! built-ins -/
def fLen : List D → PD | [d] => (match d.seq? with | some xs => some (True, .int xs.length) | none => none) | _ => none
def fI1 (g : Int → Int) : List D → PD | [.int i] => some (True, .int (g i)) | _ => none
def fI2 (g : Int → Int → Int) : List D → PD | [.int i, .int j] => some (True, .int (g i j)) | _ => none
def fInt : List D → PD | [.int i] => some (True, .int i) | [.bl b] => some (True, .int (if b then 1 else 0)) | _ => none
def fSqrt : List D → PD | [.int i] => some (0 ≤ i ∧ i.natAbs < 2 ^ 13000, .int ((Float64.isqrt i.toNat : Nat) : Int)) | _ => none
def fDivmod : List D → PD | [.int i, .int j] => some (DmOk i j, .tup [.int (i / j), .int (i % j)]) | _ => none
def fAll : List D → PD | [.lst xs] => (match bls? xs with | some bs => some (True, .bl (bs.all fun b => b)) | none => none) | _ => none
def fAny : List D → PD | [.lst xs] => (match bls? xs with | some bs => some (True, .bl (bs.any fun b => b)) | none => none) | _ => none
def fSum : List D → PD | [.lst xs] => (match nums? xs with | some bs => some (True, .int bs.sum) | none => none) | _ => none
def fTuple : List D → PD | [.lst xs] => some (True, .tup xs) | [.tup xs] => some (True, .tup xs) | _ => none
def fList : List D → PD | [d] => (match d.seq? with | some xs => some (True, .lst xs) | none => none) | _ => none
def fRepr : List D → PD | [.int i] => some (i.natAbs.log2 < 1920, .str (toString i)) | [.tup xs] => some (D.shOk (.tup xs), .str (D.py (.tup xs)).shown) | [.lst xs] => some (D.shOk (.lst xs), .str (D.py (.lst xs)).shown) | [.bl b] => some (True, .str (if b then "True" else "False")) | [.non] => some (True, .str "None") | _ => none
theorem fLen_ok {ds : List D} {k : D → Prop} (h : oG fLen ds k) : oLen ds k := by
  cases ds with
  | nil => exact h.elim
  | cons d r => cases r with
    | nil => cases d <;> first | exact h.elim | exact h.2
    | cons _ _ => cases d <;> exact h.elim
theorem one_ok {f : List D → PD} {o : List D → (D → Prop) → Prop} (h0 : ∀ k, oG f [] k → o [] k) (h1 : ∀ d k, oG f [d] k → o [d] k) (h2 : ∀ d e r k, oG f (d :: e :: r) k → o (d :: e :: r) k) {ds : List D} {k : D → Prop} (h : oG f ds k) : o ds k := by
  match ds with
  | [] => exact h0 k h
  | [d] => exact h1 d k h
  | d :: e :: r => exact h2 d e r k h
theorem fI1_ok {g : Int → Int} {ds : List D} {k : D → Prop} (h : oG (fI1 g) ds k) : o1 g ds k := by
  refine one_ok (f := fI1 g) (o := o1 g) ?_ ?_ ?_ h
  · intro k h; exact h.elim
  · intro d k h; cases d <;> first | exact h.elim | exact h.2
  · intro d e r k h; cases d <;> exact h.elim
theorem fI2_ok {g : Int → Int → Int} {ds : List D} {k : D → Prop} (h : oG (fI2 g) ds k) : o2 g ds k := by
  refine one_ok (f := fI2 g) (o := o2 g) ?_ ?_ ?_ h
  · intro k h; exact h.elim
  · intro d k h; cases d <;> exact h.elim
  · intro d e r k h
    cases r with
    | nil => cases d <;> cases e <;> first | exact h.elim | exact h.2
    | cons _ _ => cases d <;> cases e <;> exact h.elim
theorem fInt_ok {ds : List D} {k : D → Prop} (h : oG fInt ds k) : oIntB ds k := by
  refine one_ok (f := fInt) (o := oIntB) ?_ ?_ ?_ h
  · intro k h; exact h.elim
  · intro d k h; cases d <;> first | exact h.elim | exact h.2
  · intro d e r k h; cases d <;> exact h.elim
theorem fSqrt_ok {ds : List D} {k : D → Prop} (h : oG fSqrt ds k) : oSqrt ds k := by
  refine one_ok (f := fSqrt) (o := oSqrt) ?_ ?_ ?_ h
  · intro k h; exact h.elim
  · intro d k h; cases d <;> first | exact h.elim | exact h
  · intro d e r k h; cases d <;> exact h.elim
theorem fDivmod_ok {ds : List D} {k : D → Prop} (h : oG fDivmod ds k) : oDivmod ds k := by
  refine one_ok (f := fDivmod) (o := oDivmod) ?_ ?_ ?_ h
  · intro k h; exact h.elim
  · intro d k h; cases d <;> exact h.elim
  · intro d e r k h
    cases r with
    | nil => cases d <;> cases e <;> first | exact h.elim | exact h
    | cons _ _ => cases d <;> cases e <;> exact h.elim
theorem fAll_ok {ds : List D} {k : D → Prop} (h : oG fAll ds k) : oAll ds k := by
  refine one_ok (f := fAll) (o := oAll) ?_ ?_ ?_ h
  · intro k h; exact h.elim
  · intro d k h
    cases d <;> first | exact h.elim | skip
    rename_i xs
    unfold oG fAll at h
    unfold oAll
    simp only at h ⊢
    cases q : bls? xs with
    | none => rw [q] at h; exact h.elim
    | some bs => rw [q] at h; exact h.2
  · intro d e r k h; cases d <;> exact h.elim
theorem fSum_ok {ds : List D} {k : D → Prop} (h : oG fSum ds k) : oSum ds k := by
  refine one_ok (f := fSum) (o := oSum) ?_ ?_ ?_ h
  · intro k h; exact h.elim
  · intro d k h
    cases d <;> first | exact h.elim | skip
    rename_i xs
    unfold oG fSum at h
    unfold oSum
    simp only at h ⊢
    cases q : nums? xs with
    | none => rw [q] at h; exact h.elim
    | some bs => rw [q] at h; exact h.2
  · intro d e r k h; cases d <;> exact h.elim
theorem fTuple_ok {ds : List D} {k : D → Prop} (h : oG fTuple ds k) : oTuple ds k := by
  refine one_ok (f := fTuple) (o := oTuple) ?_ ?_ ?_ h
  · intro k h; exact h.elim
  · intro d k h; cases d <;> first | exact h.elim | exact h.2
  · intro d e r k h; cases d <;> exact h.elim
theorem fList_ok {ds : List D} {k : D → Prop} (h : oG fList ds k) : oList ds k := by
  refine one_ok (f := fList) (o := oList) ?_ ?_ ?_ h
  · intro k h; exact h.elim
  · intro d k h; cases d <;> first | exact h.elim | exact h.2
  · intro d e r k h; cases d <;> exact h.elim
theorem g_len (hm : X.mg "len" = none) (ha : PAd X (e :: es) fr) (hg : Gl X "len" := by rfl)
    (he : starEach (e :: es) X.env = (false, eval e X.env) :: starEach es X.env := by rfl) (hp : (backTo pos (starEach es X.env)).any (·.1) = false := by rfl) : PEd X (.Call (.Name "len" p) (e :: es) [] pos) (dBlt (oG fLen) fr) := d_blt call_len_seq (oLen_ok.imp fun _ _ => fLen_ok) hm ha boot_len hg (by decide) (by decide) he hp
abbrev iAbs : Int → Int := fun i => if i < 0 then -i else i
abbrev iGcd : Int → Int → Int := fun a b => ((Nat.gcd a.natAbs b.natAbs : Nat) : Int)
theorem boot_abs' : bootBuiltins "abs" = some (.builtin "abs") := by decide +kernel
theorem boot_int' : bootBuiltins "int" = some (.type "int") := by decide +kernel
theorem boot_divmod' : bootBuiltins "divmod" = some (.builtin "divmod") := by decide +kernel
theorem boot_all' : bootBuiltins "all" = some (.builtin "all") := by decide +kernel
theorem boot_sum' : bootBuiltins "sum" = some (.builtin "sum") := by decide +kernel
theorem boot_tuple' : bootBuiltins "tuple" = some (.type "tuple") := by decide +kernel
theorem boot_list' : bootBuiltins "list" = some (.type "list") := by decide +kernel
theorem g_abs (hm : X.mg "abs" = none) (ha : PAd X (e :: es) fr) (hg : Gl X "abs" := by rfl)
    (he : starEach (e :: es) X.env = (false, eval e X.env) :: starEach es X.env := by rfl) (hp : (backTo pos (starEach es X.env)).any (·.1) = false := by rfl) : PEd X (.Call (.Name "abs" p) (e :: es) [] pos) (dBlt (oG (fI1 iAbs)) fr) := d_blt call_abs (o1_ok.imp fun _ _ => fI1_ok) hm ha boot_abs' hg (by decide) (by decide) he hp
theorem g_gcd (hm : X.mg "gcd" = some (.builtin "math.gcd")) (ha : PAd X (e :: es) fr) (hg : Gl X "gcd" := by rfl)
    (he : starEach (e :: es) X.env = (false, eval e X.env) :: starEach es X.env := by rfl) (hp : (backTo pos (starEach es X.env)).any (·.1) = false := by rfl) : PEd X (.Call (.Name "gcd" p) (e :: es) [] pos) (dBlt (oG (fI2 iGcd)) fr) := d_bfun cr_gcd (o2_ok.imp fun _ _ => fI2_ok) hm ha hg (by decide) he hp
theorem g_toint (hm : X.mg "int" = none) (ha : PAd X (e :: es) fr) (hg : Gl X "int" := by rfl)
    (he : starEach (e :: es) X.env = (false, eval e X.env) :: starEach es X.env := by rfl) (hp : (backTo pos (starEach es X.env)).any (·.1) = false := by rfl) : PEd X (.Call (.Name "int" p) (e :: es) [] pos) (dBlt (oG fInt) fr) := d_blty call_int1 (oIntB_ok.imp fun _ _ => fInt_ok) hm ha boot_int' hg (by decide) (by decide) he hp
theorem g_isqrt (hm : X.mg "isqrt" = some (.builtin "math.isqrt")) (ha : PAd X (e :: es) fr) (hg : Gl X "isqrt" := by rfl)
    (he : starEach (e :: es) X.env = (false, eval e X.env) :: starEach es X.env := by rfl) (hp : (backTo pos (starEach es X.env)).any (·.1) = false := by rfl) : PEd X (.Call (.Name "isqrt" p) (e :: es) [] pos) (dBlt (oG fSqrt) fr) := d_bfun cr_isqrt (oSqrt_ok.imp fun _ _ => fSqrt_ok) hm ha hg (by decide) he hp
theorem g_divmod (hm : X.mg "divmod" = none) (ha : PAd X (e :: es) fr) (hg : Gl X "divmod" := by rfl)
    (he : starEach (e :: es) X.env = (false, eval e X.env) :: starEach es X.env := by rfl) (hp : (backTo pos (starEach es X.env)).any (·.1) = false := by rfl) : PEd X (.Call (.Name "divmod" p) (e :: es) [] pos) (dBlt (oG fDivmod) fr) := d_blt call_divmodQ (oDivmod_ok.imp fun _ _ => fDivmod_ok) hm ha boot_divmod' hg (by decide) (by decide) he hp
theorem g_all (hc : X.calm = true) (hm : X.mg "all" = none) (ha : PAd X (e :: es) fr) (hg : Gl X "all" := by rfl)
    (he : starEach (e :: es) X.env = (false, eval e X.env) :: starEach es X.env := by rfl) (hp : (backTo pos (starEach es X.env)).any (·.1) = false := by rfl) : PEd X (.Call (.Name "all" p) (e :: es) [] pos) (dBlt (oG fAll) fr) := d_blt (cr_all hc) (oAll_ok.imp fun _ _ => fAll_ok) hm ha boot_all' hg (by decide) (by decide) he hp
theorem g_sum (hc : X.calm = true) (hm : X.mg "sum" = none) (ha : PAd X (e :: es) fr) (hg : Gl X "sum" := by rfl)
    (he : starEach (e :: es) X.env = (false, eval e X.env) :: starEach es X.env := by rfl) (hp : (backTo pos (starEach es X.env)).any (·.1) = false := by rfl) : PEd X (.Call (.Name "sum" p) (e :: es) [] pos) (dBlt (oG fSum) fr) := d_blt (cr_sum hc) (oSum_ok.imp fun _ _ => fSum_ok) hm ha boot_sum' hg (by decide) (by decide) he hp
theorem g_totup (hm : X.mg "tuple" = none) (ha : PAd X (e :: es) fr) (hg : Gl X "tuple" := by rfl)
    (he : starEach (e :: es) X.env = (false, eval e X.env) :: starEach es X.env := by rfl) (hp : (backTo pos (starEach es X.env)).any (·.1) = false := by rfl) : PEd X (.Call (.Name "tuple" p) (e :: es) [] pos) (dBlt (oG fTuple) fr) := d_blty call_tuple_of (oTuple_ok.imp fun _ _ => fTuple_ok) hm ha boot_tuple' hg (by decide) (by decide) he hp
theorem g_tolist (hm : X.mg "list" = none) (ha : PAd X (e :: es) fr) (hg : Gl X "list" := by rfl)
    (he : starEach (e :: es) X.env = (false, eval e X.env) :: starEach es X.env := by rfl) (hp : (backTo pos (starEach es X.env)).any (·.1) = false := by rfl) : PEd X (.Call (.Name "list" p) (e :: es) [] pos) (dBlt (oG fList) fr) := d_blty call_list_of (oList_ok.imp fun _ _ => fList_ok) hm ha boot_list' hg (by decide) (by decide) he hp
/-! walks, slices -/
def D.it? : D → Option (List D) | .tup xs => some xs | .lst xs => some xs | _ => none
def iQ (fe : dE) : dI := fun ρ T k => fe ρ T fun d T1 => match d.it? with | some xs => xs.length ≤ 1000000 ∧ k xs T1 | none => False
theorem iQ_eq (fe : dE) : iQ fe = iS fe := by
  funext ρ T k
  unfold iQ iS
  congr 1
  funext d T1
  cases d <;> rfl
theorem g_seq (he : PEd X e fe) : PId X tg e (iQ fe) := by
  rw [iQ_eq]
  exact i_seq he
def D.cut? (d : D) (l h : Option Int) : Option D := match d with | .lst xs => some (.lst (cutD xs l h)) | .scr xs => some (.lst (cutD xs l h)) | .tup xs => some (.tup (cutD xs l h)) | _ => none
def dSlQ (fe : dE) (lo hi : dP) : dE := fun ρ T k => fe ρ T fun x T1 => lo ρ T1 fun l T2 => hi ρ T2 fun h T3 => match x.cut? l h with | some d => k d T3 | none => False
theorem dSlQ_eq (fe : dE) (lo hi : dP) : dSlQ fe lo hi = dSl fe lo hi := by
  funext ρ T k
  unfold dSlQ dSl
  congr 1
  funext x T1
  congr 1
  funext l T2
  congr 1
  funext h T3
  cases x <;> rfl
theorem g_slice {lo hi : Option Expr} {fl fh : dP} {p2 : Pos} (he : PEd X e fe) (hl : POd X lo fl) (hh : POd X hi fh) : PEd X (.Subscript e (.Slice lo hi none p2) pos) (dSlQ fe fl fh) := by
  rw [dSlQ_eq]
  exact d_slice he hl hh
end
end L2.G

namespace L2.G
open PySem PySem.Spec PyProof.Rows
section
variable {i j : Int} {b c : Bool} {s u : Str} {xs ys : List D} {d : D}
theorem fAdd_int : fAdd (.int i) (.int j) = some (True, .int (i + j)) := rfl
theorem fAdd_lst : fAdd (.lst xs) (.lst ys) = some (xs.length + ys.length ≤ 1000000, .lst (xs ++ ys)) := rfl
theorem fAdd_tup : fAdd (.tup xs) (.tup ys) = some (xs.length + ys.length ≤ 1000000, .tup (xs ++ ys)) := rfl
theorem fAdd_str : fAdd (.str s) (.str u) = some (s.length + u.length ≤ 1000000, .str (s ++ u)) := rfl
theorem fSub_int : fSub (.int i) (.int j) = some (True, .int (i - j)) := rfl
theorem fSub_bl : fSub (.bl b) (.bl c) = some (True, .int (b2i b - b2i c)) := rfl
theorem fMul_int : fMul (.int i) (.int j) = some (MulOk i j, .int (i * j)) := rfl
theorem fMul_lst : fMul (.lst xs) (.int i) = some (-(2 ^ 63) ≤ i ∧ i < 2 ^ 63 ∧ xs.length * i.toNat ≤ 1000000, .lst (repD xs i.toNat)) := rfl
theorem fDiv_int : fDiv (.int i) (.int j) = some (DivOk i j, .int (i / j)) := rfl
theorem fMod_int : fMod (.int i) (.int j) = some (0 < j, .int (i % j)) := rfl
theorem fPow_int : fPow (.int i) (.int j) = some (CPow i j, .int (i ^ j.toNat)) := rfl
theorem fShl_int : fShl (.int i) (.int j) = some (CPow i j, .int (i * 2 ^ j.toNat)) := rfl
theorem fLt_int : fLt (.int i) (.int j) = some (True, .bl (decide (i < j))) := rfl
theorem fLe_int : fLe (.int i) (.int j) = some (True, .bl (decide (i ≤ j))) := rfl
theorem fGt_int : fGt (.int i) (.int j) = some (True, .bl (decide (j < i))) := rfl
theorem fGe_int : fGe (.int i) (.int j) = some (True, .bl (decide (j ≤ i))) := rfl
theorem fIn_lst : fIn d (.lst ys) = some (d.eqOk ∧ D.eqOk (.lst ys), .bl (ys.any fun z => eqD z d)) := rfl
theorem fNotIn_lst : fNotIn d (.lst ys) = some (d.eqOk ∧ D.eqOk (.lst ys), .bl (!ys.any fun z => eqD z d)) := rfl
def ixR : Option D → PD | some d => some (True, d) | none => none
theorem ixR_some : ixR (some d) = some (True, d) := rfl
theorem fIx_tup : fIx (.tup xs) (.int i) = ixR (atI xs i) := by show (match atI xs i with | some d => some (True, d) | none => none) = ixR (atI xs i); cases atI xs i <;> rfl
theorem fIx_lst : fIx (.lst xs) (.int i) = ixR (atI xs i) := by show (match atI xs i with | some d => some (True, d) | none => none) = ixR (atI xs i); cases atI xs i <;> rfl
theorem fIx_scr : fIx (.scr xs) (.int i) = ixR (atI xs i) := by show (match atI xs i with | some d => some (True, d) | none => none) = ixR (atI xs i); cases atI xs i <;> rfl
theorem fLen_tup : fLen [.tup xs] = some (True, .int xs.length) := rfl
theorem fLen_lst : fLen [.lst xs] = some (True, .int xs.length) := rfl
theorem fLen_scr : fLen [.scr xs] = some (True, .int xs.length) := rfl
theorem fI1_int {g : Int → Int} : fI1 g [.int i] = some (True, .int (g i)) := rfl
theorem fI2_int {g : Int → Int → Int} : fI2 g [.int i, .int j] = some (True, .int (g i j)) := rfl
theorem fInt_int : fInt [.int i] = some (True, .int i) := rfl
theorem fInt_bl : fInt [.bl b] = some (True, .int (if b then 1 else 0)) := rfl
theorem fDivmod_int : fDivmod [.int i, .int j] = some (DmOk i j, .tup [.int (i / j), .int (i % j)]) := rfl
def blR (f : List Bool → Bool) : Option (List Bool) → PD | some bs => some (True, .bl (f bs)) | none => none
theorem blR_some {f : List Bool → Bool} {bs : List Bool} : blR f (some bs) = some (True, .bl (f bs)) := rfl
theorem fAll_lst : fAll [.lst xs] = blR (fun bs => bs.all fun b => b) (bls? xs) := by show (match bls? xs with | some bs => some (True, D.bl (bs.all fun b => b)) | none => none) = blR (fun bs => bs.all fun b => b) (bls? xs); cases bls? xs <;> rfl
theorem fAny_lst : fAny [.lst xs] = blR (fun bs => bs.any fun b => b) (bls? xs) := by show (match bls? xs with | some bs => some (True, D.bl (bs.any fun b => b)) | none => none) = blR (fun bs => bs.any fun b => b) (bls? xs); cases bls? xs <;> rfl
def nuR : Option (List Int) → PD | some bs => some (True, .int bs.sum) | none => none
theorem nuR_some {bs : List Int} : nuR (some bs) = some (True, .int bs.sum) := rfl
theorem fSum_lst : fSum [.lst xs] = nuR (nums? xs) := by show (match nums? xs with | some bs => some (True, D.int bs.sum) | none => none) = nuR (nums? xs); cases nums? xs <;> rfl
theorem fTuple_lst : fTuple [.lst xs] = some (True, .tup xs) := rfl
theorem fTuple_tup : fTuple [.tup xs] = some (True, .tup xs) := rfl
theorem fList_lst : fList [.lst xs] = some (True, .lst xs) := rfl
theorem fList_tup : fList [.tup xs] = some (True, .lst xs) := rfl
theorem fList_scr : fList [.scr xs] = some (True, .lst xs) := rfl
theorem fRepr_int : fRepr [.int i] = some (i.natAbs.log2 < 1920, .str (toString i)) := rfl
theorem fRepr_tup : fRepr [.tup xs] = some (D.shOk (.tup xs), .str (D.py (.tup xs)).shown) := rfl
theorem fRepr_lst : fRepr [.lst xs] = some (D.shOk (.lst xs), .str (D.py (.lst xs)).shown) := rfl
theorem fRepr_bl : fRepr [.bl b] = some (True, .str (if b then "True" else "False")) := rfl
theorem fRepr_non : fRepr [.non] = some (True, .str "None") := rfl
theorem it_tup : (D.tup xs).it? = some xs := rfl
theorem it_lst : (D.lst xs).it? = some xs := rfl
theorem cutq_lst {l h : Option Int} : (D.lst xs).cut? l h = some (.lst (cutD xs l h)) := rfl
theorem cutq_scr {l h : Option Int} : (D.scr xs).cut? l h = some (.lst (cutD xs l h)) := rfl
theorem cutq_tup {l h : Option Int} : (D.tup xs).cut? l h = some (.tup (cutD xs l h)) := rfl
theorem isNon_non : D.non.isNon = true := rfl
theorem isNon_int : (D.int i).isNon = false := rfl
theorem isNon_bl : (D.bl b).isNon = false := rfl
theorem isNon_str : (D.str s).isNon = false := rfl
theorem isNon_tup : (D.tup xs).isNon = false := rfl
theorem isNon_lst : (D.lst xs).isNon = false := rfl
theorem bls_nil : bls? [] = some [] := rfl
theorem bls_cons : bls? (.bl b :: xs) = (bls? xs).map (b :: ·) := rfl
theorem nums_nil : nums? [] = some [] := rfl
theorem nums_cons : nums? (.int i :: xs) = (nums? xs).map (i :: ·) := rfl
theorem all_nil' : ([] : List Bool).all (fun b => b) = true := rfl
theorem all_cons' {bs : List Bool} : (b :: bs).all (fun b => b) = (b && bs.all fun b => b) := rfl
theorem any_nil' : ([] : List Bool).any (fun b => b) = false := rfl
theorem any_cons' {bs : List Bool} : (b :: bs).any (fun b => b) = (b || bs.any fun b => b) := rfl
end
/-- a test's answer that hangs on nothing -/
theorem ifT {A B : Prop} : (if True then A else B) = A := if_pos trivial
theorem ifF {A B : Prop} : (if False then A else B) = B := if_neg (fun h => h)

theorem ifA {A B X Y : Prop} [Decidable A] [Decidable B] : (if A then (if B then X else Y) else Y) = (if A ∧ B then X else Y) := by
  by_cases a : A <;> by_cases b : B <;> simp [a, b]
theorem ifO {A B X Y : Prop} [Decidable A] [Decidable B] : (if A then X else (if B then X else Y)) = (if A ∨ B then X else Y) := by
  by_cases a : A <;> by_cases b : B <;> simp [a, b]
/-! texts of data -/
end L2.G

namespace L2.G
open PySem PySem.Spec PyProof.Rows
/-! == of data, piece by piece -/
def eqDL (xs ys : List D) : Bool := PyData.eqvAll (D.pyL xs) (D.pyL ys)
section
variable {i j : Int} {b c : Bool} {s u : Str} {xs ys : List D} {d e : D}
theorem eqD_int : eqD (.int i) (.int j) = decide (i = j) := by unfold eqD; simp only [D.py, PyData.eqv]; by_cases h : i = j <;> simp [h]
theorem eqD_str : eqD (.str s) (.str u) = decide (s = u) := by unfold eqD; simp only [D.py, PyData.eqv]; by_cases h : s = u <;> simp [h]
theorem eqD_bl : eqD (.bl b) (.bl c) = decide (b = c) := by unfold eqD; simp only [D.py, PyData.eqv]; cases b <;> cases c <;> rfl
theorem eqD_nn : eqD .non .non = true := by unfold eqD; simp only [D.py, PyData.eqv]
theorem eqD_ni : eqD .non (.int i) = false := by unfold eqD; simp only [D.py, PyData.eqv]
theorem eqD_in : eqD (.int i) .non = false := by unfold eqD; simp only [D.py, PyData.eqv]
theorem eqD_nt : eqD .non (.tup xs) = false := by unfold eqD; simp only [D.py, PyData.eqv]
theorem eqD_tn : eqD (.tup xs) .non = false := by unfold eqD; simp only [D.py, PyData.eqv]
theorem eqD_tup : eqD (.tup xs) (.tup ys) = eqDL xs ys := by unfold eqD eqDL; simp only [D.py, PyData.eqv]
theorem eqD_lst : eqD (.lst xs) (.lst ys) = eqDL xs ys := by unfold eqD eqDL; simp only [D.py, PyData.eqv]
theorem eqDL_nil : eqDL [] [] = true := rfl
theorem eqDL_nc : eqDL [] (d :: xs) = false := rfl
theorem eqDL_cn : eqDL (d :: xs) [] = false := rfl
theorem eqDL_cons : eqDL (d :: xs) (e :: ys) = (eqD d e && eqDL xs ys) := rfl
end
theorem ok_cx {a b : Int} : (D.tup [.int a, .int b]).eqOk := ⟨rfl, rfl⟩
theorem ok_int {a : Int} : (D.int a).eqOk := ⟨rfl, rfl⟩
end L2.G

namespace L2.G
open PySem PySem.Spec PyProof.Rows
/-- lo, lo - 1, .. : n of them -/
def downL (lo : Int) : Nat → List D
  | 0 => [] | n + 1 => .int lo :: downL (lo - 1) n
def iR3 (fr : dA) : dI := fun ρ T k => fr ρ T fun as T1 => match as with
  | [.val (.int i), .val (.int j), .val (.int c)] => (c = -1 ∧ i - j ≤ 1000000 ∧ -(2 ^ 61) ≤ i ∧ i < 2 ^ 61 ∧ -(2 ^ 61) ≤ j ∧ j < 2 ^ 61) ∧ k (downL i (i - j).toNat) T1 | _ => False
section
variable {X : Cx} {tg : Expr} {fr : dA} {p pos : Pos}
end
/-- the whole root -/
def isq (n : Int) : Int := ((Float64.isqrt n.toNat : Nat) : Int)
theorem fSqrt_isq {i : Int} : fSqrt [.int i] = some (0 ≤ i ∧ i.natAbs < 2 ^ 13000, .int (isq i)) := rfl
end L2.G

namespace L2.G
open PySem PySem.Spec PyProof.Rows
section
variable {X : Cx} {a : Expr} {es : List Expr} {fa : dE} {fr : dA} {pos : Pos}
/-- x, y = a, [..] where y's list is its own -/
def sParO (i j : Nat) (fa : dE) (fr : dA) : dS := fun k ρ T => fa ρ T fun d T1 => fr ρ T1 fun as T2 => match vals? as with | some ds => ds.length ≤ 1000000 ∧ k.nx ((ρ.set i (some (.val d))).set j (some (.own ds))) T2 | none => False
theorem s_parO (i j : Nat) {x y : Str} {px py pt lp : Pos} {kt k2 pt2} (hc : X.calm = true) (hN : X.N.Nodup) (ha : PEd X a fa) (hr : PAd X es fr)
    (hi : X.N[i]? = some x := by rfl) (hj : X.N[j]? = some y := by rfl) (hij : i ≠ j := by decide) (hx : X.env.scope.names.lookup x = some .local := by rfl) (hy : X.env.scope.names.lookup y = some .local := by rfl)
    (h1 : starEach [a, .List es lp] X.env = (false, eval a X.env) :: starEach [.List es lp] X.env := by rfl) (h2 : starEach [.List es lp] X.env = (false, eval (.List es lp) X.env) :: starEach [] X.env := by rfl)
    (hw : swappedStores [.Tuple [.Name x px, .Name y py] kt pt] (.Tuple [a, .List es lp] k2 pt2) X.env = pure (some [x, y]) := by rfl)
    (hs : swapsWithSole [.Tuple [.Name x px, .Name y py] kt pt] (.Tuple [a, .List es lp] k2 pt2) pos.line X.env = pure false := by rfl) : PSd X (.Assign [.Tuple [.Name x px, .Name y py] kt pt] (.Tuple [a, .List es lp] k2 pt2) pos) (sParO i j fa fr) := by
  refine ps_imp (ps_par hc hN hi hj hij hx hy (pa_cons ha (pa_cons (pe_lst hr) pa_nil h2) h1) hw hs) fun E σ H h => ?_
  obtain ⟨ρ, T, t, F0, H0, F, k, w, h, fe⟩ := h
  refine ⟨ρ, T, t, F, _, w.w, h, fun v H1 F1 d T1 w1 g1 r1 h1 => ?_⟩
  refine ⟨ρ, T1, t, F1, _, w.w.grow g1 w1, h1, fun vs H2 F2 as T2 w2 g2 r2 h2 => ?_⟩
  split at h2
  · rename_i ds e
    have r := r2.vals e
    refine ⟨by rw [← r.len]; exact small_line h2.1, fun p hp => ⟨v, .ref p, rfl, ?_⟩⟩
    exact fe.nx _ _ _ _ _ ((((w.grow g1 w1).put r1).grow g2 w2).own hp r) (g1.sub.trans g2.sub) h2.2
  · exact h2.elim
/-- *e among arguments -/
theorem ArgL.app {K : PySem.W.Frag} {t : Option Addr} {F : Hp} {as : List SV} {ws : List V} (q : ArgL K t F as ws) : ∀ {xs : List D} {vs : List V}, RepL K F xs vs → ArgL K t F (xs.map SV.val ++ as) (vs ++ ws)
  | _, _, .nil => q
  | _, _, .cons r rr => .val r (ArgL.app q rr)
def aStar (fe : dE) (fr : dA) : dA := fun ρ T k => fe ρ T fun d T1 => match d.it? with | some xs => fr ρ T1 fun as T2 => k (xs.map SV.val ++ as) T2 | none => False
theorem a_star {e : Expr} {fe : dE} {p : Pos} (he : PEd X e fe) (hr : PAd X es fr) (hs : starEach (.Starred e p :: es) X.env = (true, eval e X.env) :: starEach es X.env := by rfl) : PAd X (.Starred e p :: es) (aStar fe fr) := by
  refine pa_imp (StX.pa_star he hr hs) fun σ H Q h => ?_
  obtain ⟨ρ, T, t, F, k, w, h, f⟩ := h
  refine ⟨ρ, T, t, F, _, w, h, fun v H1 F1 d T1 w1 g1 r1 h1 => ?_⟩
  cases d <;> first | exact h1.elim | skip
  · rename_i xs
    obtain ⟨a, vs, rfl, hq, hr⟩ := rep_tup r1
    exact ⟨a, vs, rfl, .inl (same_t w1.sub hq), ρ, T1, t, F1, _, w.grow g1 w1, h1, fun ys H2 F2 as T2 w2 g2 r2 h2 => f _ _ _ _ _ w2 (g1.trans g2) (r2.app (hr.mono g2.sub)) h2⟩
  · rename_i xs
    obtain ⟨a, vs, rfl, hq, hr⟩ := rep_lst r1
    exact ⟨a, vs, rfl, .inr (.of (w1.sub _ _ hq)), ρ, T1, t, F1, _, w.grow g1 w1, h1, fun ys H2 F2 as T2 w2 g2 r2 h2 => f _ _ _ _ _ w2 (g1.trans g2) (r2.app (hr.mono g2.sub)) h2⟩
end
end L2.G

namespace L2.G
open PySem PySem.Spec PyProof.Rows
set_option maxHeartbeats 1000000 in
/-- enumerate(v) with no start: its two cells -/
theorem en_new {v : Value} {o : Obj} {C : Heap → Prop} (B : Begins v o C) :
    Meets (Builtin.«enumerate.__new__» ⟨[.type "enumerate", v], []⟩) (fun _ R s => C s.heap ∧
      R (.ok (.ret (.ref (s.heap.push o).objs.size))) { s with heap := (s.heap.push o).push { cls := .type "enumerate", data := .fields #[.none, .bool false, .ref s.heap.objs.size, rawInt 0, .none, .none] } }) :=
  .of_wp fun pr wo A R s h => by
    rcases s with ⟨hp, gl, dd, tk, os⟩
    rcases h with ⟨c0, h⟩
    have sube := sub_enumerate
    have it1 : ∀ {A1 : Around} {E1 : Value → Shared → Prop} {Q1 : Value → Shared → Prop}, Q1 (.ref hp.objs.size) ⟨hp.push o, gl, dd, tk, os⟩ → wpAny (model pr wo) A1 (pyIter v) Q1 E1 ⟨hp, gl, dd, tk, os⟩ :=
      fun q => B.iter pr wo _ _ ⟨hp, gl, dd, tk, os⟩ _ c0 q
    wp_walk using it1
    refine wpAny_stack_any fun st => wpAny_pure ?_
    split
    · rename_i cc _ _ _ _ _
      cases (cc == Value.type "enumerate") <;> (wp_walk using it1; exact ⟨_, rfl, h⟩)
    · wp_walk using it1
      exact ⟨_, rfl, h⟩
theorem en_call {prog : Program} {w : World} {A : Around} {E : Value → Shared → Prop} {s : Shared} {v : Value} {o : Obj} {C : Heap → Prop} {Q : Value → Shared → Prop} (B : Begins v o C) (h1 : C s.heap)
    (h : ∀ h', IsEnum h' (s.heap.objs.size + 1) s.heap.objs.size 0 .none → h'.get? s.heap.objs.size = some o → (∀ b o, s.heap.get? b = some o → h'.get? b = some o) → Q (.ref (s.heap.objs.size + 1)) { s with heap := h' }) :
    wpAny (model prog w) A (call (.type "enumerate") [v]) Q E s := by
  refine callType_new F.called_enumerate (by decide) (F.typeCall_enumerate_1 _) (F.newCall_enumerate_1 _) (fun ob => F.args_object_init_2 ob _) F.entry_enumerate_new (en_new B) ⟨h1, ?_⟩
  have z : (s.heap.push o).objs.size = s.heap.objs.size + 1 := Heap.size_push ..
  show _ ∧ _
  rw [z]
  have e0 := Heap.get?_push_size (s.heap.push o) (o := { cls := .type "enumerate", data := .fields #[.none, .bool false, .ref s.heap.objs.size, rawInt 0, .none, .none] }) rfl
  rw [z] at e0
  exact ⟨⟨_, e0, rfl⟩, h _ e0 (Heap.get?_push_of_some _ (Heap.get?_push_size _ B.free)) fun b ob x => Heap.get?_push_of_some _ (Heap.get?_push_of_some _ x)⟩
theorem tup_ne_it {h : Heap} {a it t : Addr} {i : Nat} {items : Array Value} (p : h.IsTuple a items) (q : h.IsTupleIter it t i) : a ≠ it := fun z => by
  obtain ⟨ob, h1, c1, _⟩ := p
  obtain ⟨ob2, h2, c2, _⟩ := q
  subst z
  rw [h1] at h2
  cases h2
  rw [c1] at c2
  exact absurd c2 (by decide)
theorem tup_ne_en {h : Heap} {a e t : Addr} {i : Int} {old : Value} {items : Array Value} (p : h.IsTuple a items) (q : IsEnum h e t i old) : a ≠ e := fun z => by
  obtain ⟨ob, h1, c1, _⟩ := p
  subst z
  have h2 : h.get? a = some _ := q
  rw [h1] at h2
  cases h2
  exact absurd (show Value.type "enumerate" = Value.type "tuple" from c1) (by decide)
/-- the tuple at a as it stands at each turn, each item in a new pair -/
def Itf (K : PySem.W.Frag) (a : Addr) : It where
  go := fun i H => ∃ (ys : List V) (y : V), SqT K H a ys ∧ ys[i]? = some y
  yld := fun i H v H' => ∃ T y, v = .ref T ∧ H T = none ∧ H' = upd H T (.tup [.int (i : Nat), y]) ∧ ∀ ys, SqT K H a ys → ys[i]? = some y
  stop := fun i H => ∃ ys : List V, SqT K H a ys ∧ ys.length = i
theorem turn_enT {P : Program} {w : World} {K : PySem.W.Frag} {elts : List Expr} {kk : Nat} {tpos : Pos} (a e it : Addr) :
    Turn P w K (.Tuple elts kk tpos) (Itf K a) [e, it] e (fun i h => (∃ old, IsEnum h e it ((i : Nat) : Int) old) ∧ h.IsTupleIter it a i ∧ e ≠ it) where
  mem := by simp
  obj := fun i h st b hb => by
    obtain ⟨⟨old, he⟩, ⟨ob, ho, hc, hd⟩, _⟩ := st
    have eb : b = e ∨ b = it := by simpa using hb
    rcases eb with z | z
    · rw [z]; exact ⟨_, he, fun v q => nomatch q⟩
    · rw [z]; exact ⟨ob, ho, fun v q => by rw [hd] at q; cases q⟩
  keep := fun i h h1 st k => let ⟨⟨old, he⟩, hi, hne⟩ := st; ⟨⟨old, k e (by simp) _ he⟩, hi.at fun ob q => k it (by simp) ob q, hne⟩
  item := by
    intro X hP hw hK hc i pins s σ H E I hf st hg
    subst hP hw hK
    obtain ⟨⟨old, he⟩, hit, hne⟩ := st
    obtain ⟨ys, y, hq, hy⟩ := hg
    obtain ⟨vals, rv, p, hz⟩ := I.tuple hq
    obtain ⟨u, hu, ru⟩ := rv.get hy
    have hel : e < s.heap.objs.size := Heap.lt_size he
    have hil : it < s.heap.objs.size := by obtain ⟨_, q, _⟩ := hit; exact Heap.lt_size q
    have p0 : s.heap.IsTuple a vals.toArray := p
    have ha : ∀ b ∈ [e, it], a ≠ b := fun b hb => by
      have eb : b = e ∨ b = it := by simpa using hb
      rcases eb with z | z
      · rw [z]; exact tup_ne_en p0 he
      · rw [z]; exact tup_ne_it p0 hit
    have hlt : i < vals.toArray.size := by
      have := rv.length
      have := (List.getElem?_eq_some_iff.mp hy).1
      rw [List.size_toArray]
      omega
    refine wpAny_pyNext_enum_itemD (Draws.tuple (A := X.A.in1) (I.ok.hd hc) it a (ha it (by simp)) vals.toArray) he ⟨hit, p⟩ hlt hne (by simp only [List.mem_cons, List.not_mem_nil, or_false, not_or]; exact ⟨hne, fun z => ha e (by simp) z.symm⟩) fun x h1 tk px ho st1 hT hsz hk => ?_
    obtain ⟨hit1, p1⟩ := st1
    have ex : x = u := by
      have q1 : vals[i]? = some x := by simpa using px
      rw [hu] at q1
      exact (Option.some.inj q1).symm
    subst ex
    refine ⟨_, rfl, wpAny_letOwnedTupleGo_enum (s := { s with heap := h1, toks := tk + 1 }) ho fun h2 he2 sb => ?_⟩
    have hT2 : h2.get? s.heap.objs.size = some { cls := .type "tuple", data := .seq #[.int i tk, x] } := (sb.2 _ (Nat.ne_of_gt hel)).trans hT
    have fresh : ObjOk X.prog X.w (upd H s.heap.objs.size (.tup [.int (i : Nat), y])) h2 s.heap.objs.size (.tup [.int (i : Nat), y]) :=
      ⟨by show 2 ≤ sizeLine; decide, [.int i tk, x], .cons ⟨_, rfl⟩ (.cons ru .nil), ⟨_, hT2, rfl, _, rfl⟩⟩
    have J1 : Inv X pins σ (upd H s.heap.objs.size (.tup [.int (i : Nat), y])) { s with heap := h2, toks := tk + 1 } :=
      I.turnedNew (ch := [e, it]) (fun b ob hb q => (sb.2 b (fun z => hb (by simp [z]))).trans (hk b ob (fun z => hb (by simp [z])) (fun z => hb (by simp [z])) q)) hf (Nat.le_refl _) fresh
    refine ⟨.ref s.heap.objs.size, _, J1, rfl, ⟨_, y, rfl, I.hok.fresh (Nat.le_refl _), rfl, fun zs hzs => by rw [I.tuple_inj hzs hq]; exact hy⟩, ⟨⟨x, ?_⟩, hit1.at fun ob q => (sb.2 it (Ne.symm hne)).trans q, hne⟩, fun b hb => ?_⟩
    · have e1 : ((i + 1 : Nat) : Int) = (i : Int) + 1 := by omega
      rw [e1]; exact he2
    · have bl : b < s.heap.objs.size := by
        have eb : b = e ∨ b = it := by simpa using hb
        rcases eb with z | z
        · rw [z]; exact hel
        · rw [z]; exact hil
      rw [upd_ne (Nat.ne_of_lt bl)]
      exact (hf b hb).1
  done := by
    intro X hP hw hK hc i pins s σ H E I hf st hg
    subst hP hw hK
    obtain ⟨⟨old, he⟩, hit, hne⟩ := st
    obtain ⟨ys, hq, hy⟩ := hg
    obtain ⟨vals, rv, p, hz⟩ := I.tuple hq
    have ha : a ≠ it := tup_ne_it (show s.heap.IsTuple a vals.toArray from p) hit
    have en : i = vals.toArray.size := by
      have := rv.length
      rw [List.size_toArray]
      omega
    obtain ⟨f0, f1, f2, f3, f4, f5⟩ := hf it (by simp)
    refine wpAny_pyNext_enum_endD (Draws.tuple (A := X.A.in1) (I.ok.hd hc) it a ha vals.toArray) he ⟨en ▸ hit, p⟩ fun h1 eb => ⟨rfl, I.turned (t' := s.toks) (fun b ob hb q => eb b ob hb q) f0 f1 f3 f4 f5⟩
  self := fun A i s Q E st h => let ⟨⟨_, he⟩, _⟩ := st; wpAny_pyIter_enum he h
/-! enumerate(e) over a list or a tuple -/
section
variable {X : Cx} {e : Expr} {fe : dE} {p pos tpos : Pos} {elts : List Expr} {kk : Nat}
def enD : Int → List D → List D
  | _, [] => [] | i, d :: r => .tup [.int i, d] :: enD (i + 1) r
theorem enD_len : ∀ (xs : List D) (i : Int), (enD i xs).length = xs.length
  | [], _ => rfl
  | _ :: r, i => by simp [enD, enD_len r]
theorem enD_get : ∀ (xs : List D) (i : Int) (j : Nat) (d : D), xs[j]? = some d → (enD i xs)[j]? = some (.tup [.int (i + j), d])
  | [], _, _, _, h => by simp at h
  | x :: r, i, 0, d, h => by simp at h; subst h; simp [enD]
  | x :: r, i, j + 1, d, h => by
    rw [enD, List.getElem?_cons_succ, enD_get r (i + 1) j d (by simpa using h)]
    congr 3
    simp only [D.int.injEq]
    omega
theorem src_enL {K : PySem.W.Frag} {t : Option Addr} {F1 : Hp} {a : Addr} {xs : List D} {vs : List V} (h : F1 a = some (.lst vs)) (r : RepL K F1 xs vs) : Src K t (Ite K a) F1 (enD 0 xs) where
  go := fun i F H s1 s2 hi => by
    rw [enD_len, r.len] at hi
    exact ⟨vs, vs[i], .of (s2 _ _ (s1 _ _ h)), by simp [hi]⟩
  yl := fun i T F H x H' s1 w hi y => by
    obtain ⟨tt, u, rfl, hn, rfl, y⟩ := y
    obtain ⟨d, hd, rd⟩ := r.getV (y vs (.of (w.sub _ _ (s1 _ _ h))))
    have sm := same_upd (o := .tup [.int (i : Nat), u]) (w.sub.free hn)
    have e := enD_get xs 0 i d hd
    rw [Int.zero_add] at e
    exact ⟨upd F tt (.tup [.int (i : Nat), u]), .tup [.int (i : Nat), d], e, .tup (.of upd_same) ((RepL.cons (.int _) (.cons (rd.mono s1) .nil)).mono sm), grow_new w.sub hn, wt_new w hn⟩
  st := fun F H s1 s2 => ⟨vs, .of (s2 _ _ (s1 _ _ h)), by rw [enD_len, r.len]; exact Nat.le_refl _⟩
theorem src_enT {K : PySem.W.Frag} {t : Option Addr} {F1 : Hp} {a : Addr} {xs : List D} {vs : List V} (h : SqT K F1 a vs) (r : RepL K F1 xs vs) : Src K t (Itf K a) F1 (enD 0 xs) where
  go := fun i F H s1 s2 hi => by
    rw [enD_len, r.len] at hi
    exact ⟨vs, vs[i], same_t (s1.trans s2) h, by simp [hi]⟩
  yl := fun i T F H x H' s1 w hi y => by
    obtain ⟨tt, u, rfl, hn, rfl, y⟩ := y
    obtain ⟨d, hd, rd⟩ := r.getV (y vs (same_t (s1.trans w.sub) h))
    have sm := same_upd (o := .tup [.int (i : Nat), u]) (w.sub.free hn)
    have e := enD_get xs 0 i d hd
    rw [Int.zero_add] at e
    exact ⟨upd F tt (.tup [.int (i : Nat), u]), .tup [.int (i : Nat), d], e, .tup (.of upd_same) ((RepL.cons (.int _) (.cons (rd.mono s1) .nil)).mono sm), grow_new w.sub hn, wt_new w hn⟩
  st := fun F H s1 s2 => ⟨vs, same_t (s1.trans s2) h, by rw [enD_len, r.len]⟩
def iEnumA (K : PySem.W.Frag) (ta : TA) : TI := fun σ H R => ta σ H fun vs H1 => ∃ a xs, vs = [.ref a] ∧ ((SqL K H1 a xs ∧ R (Ite K a) H1) ∨ (SqT K H1 a xs ∧ R (Itf K a) H1))
theorem pi_enumA {ta : TA} (hg : Gl X "enumerate") (hm : X.mg "enumerate" = none) (ha : PA X [e] ta) (hs : starEach [e] X.env = [(false, eval e X.env)] := by rfl) :
    PI X (.Tuple elts kk tpos) (.Call (.Name "enumerate" p) [e] [] pos) (iEnumA X.K ta) := by
  refine ⟨fun pins s σ H R I h => ?_⟩
  refine Call_ (ld_blt I hg hm boot_enumerate (PyProof.Rows.callWith_type1 (thn (ha.run pos pins s σ H _ I h) fun us s1 ⟨vs, H1, I1, r1, q1⟩ => ?_) hs rfl))
  obtain ⟨a, xs, ex, q⟩ := q1
  subst ex
  cases r1 with
  | cons r rr =>
    cases rr
    cases r
    have fp : ∀ b ∈ [s1.heap.objs.size + 1, s1.heap.objs.size], FpOk X pins H1 b := fun b hb => by
      have e' : b = s1.heap.objs.size + 1 ∨ b = s1.heap.objs.size := by simpa using hb
      have hle : s1.heap.objs.size ≤ b := by
        rcases e' with z | z
        · rw [z]; exact Nat.le_add_right _ _
        · rw [z]; exact Nat.le_refl _
      exact I1.fpOk hle (I1.hok.fresh hle)
    rcases q with ⟨hq, q⟩ | ⟨hq, q⟩
    · obtain ⟨its, rv, p', hz⟩ := I1.list hq
      refine call_enumerate_list p'.isList fun h' he hit hsz hk => wpAny_pyIter_enum he ?_
      have I2 : Inv X pins σ H1 { s1 with heap := h' } := I1.kept (t' := s1.toks) hk
      exact ⟨s1.heap.objs.size + 1, [s1.heap.objs.size + 1, s1.heap.objs.size], _, _, H1, rfl, I2, turn_enum a (s1.heap.objs.size + 1) s1.heap.objs.size, ⟨⟨.none, he⟩, hit, Nat.succ_ne_self _⟩, fp, q⟩
    · obtain ⟨its, rv, p', hz⟩ := I1.tuple hq
      refine en_call (begins_tuple a its.toArray) (show s1.heap.IsTuple a its.toArray from p') fun h' he hit hk => wpAny_pyIter_enum he ?_
      have I2 : Inv X pins σ H1 { s1 with heap := h' } := I1.kept (t' := s1.toks) hk
      exact ⟨s1.heap.objs.size + 1, [s1.heap.objs.size + 1, s1.heap.objs.size], _, _, H1, rfl, I2, turn_enT a (s1.heap.objs.size + 1) s1.heap.objs.size, ⟨⟨.none, he⟩, ⟨_, hit, rfl, rfl⟩, Nat.succ_ne_self _⟩, fp, q⟩
def iEn (fe : dE) : dI := fun ρ T k => fe ρ T fun d T1 => match d.it? with | some xs => xs.length ≤ 1000000 ∧ k (enD 0 xs) T1 | none => False
theorem i_enum (hm : X.mg "enumerate" = none) (he : PEd X e fe) (hg : Gl X "enumerate" := by rfl) (hs1 : starEach [e] X.env = (false, eval e X.env) :: starEach [] X.env := by rfl) (hs : starEach [e] X.env = [(false, eval e X.env)] := by rfl) :
    PId X (.Tuple elts kk tpos) (.Call (.Name "enumerate" p) [e] [] pos) (iEn fe) := by
  refine pi_imp (pi_enumA hg hm (pa_cons he pa_nil hs1) hs) fun σ H R h => ?_
  obtain ⟨ρ, T, t, F, k, w, h, f⟩ := h
  refine ⟨ρ, T, t, F, _, w, h, fun v H1 F1 d T1 w1 g1 r1 h1 => ?_⟩
  cases d <;> first | exact h1.elim | skip
  · obtain ⟨a, vs, rfl, hq, hr⟩ := rep_tup r1
    exact ⟨a, vs, rfl, .inr ⟨same_t w1.sub hq, f _ _ _ _ _ w1 g1 (src_enT hq hr) (by rw [enD_len]; exact h1.1) h1.2⟩⟩
  · obtain ⟨a, vs, rfl, hq, hr⟩ := rep_lst r1
    exact ⟨a, vs, rfl, .inl ⟨.of (w1.sub _ _ hq), f _ _ _ _ _ w1 g1 (src_enL hq hr) (by rw [enD_len]; exact h1.1) h1.2⟩⟩
end
end L2.G

namespace L2.G
open PySem PySem.Spec PyProof.Rows
/-! in, not in: over lists and tuples -/
def rInTD (K : PySem.W.Frag) : R2 := fun x y H Q => ∃ d ds, Dp K H x d ∧ Dp K H y (.tuple ds) ∧ SeqAt.shaped d = true ∧ SeqAt.shaped (.tuple ds) = true ∧ Q (.bl (ds.any fun z => PyData.eqv z d)) H
def rNotInTD (K : PySem.W.Frag) : R2 := fun x y H Q => ∃ d ds, Dp K H x d ∧ Dp K H y (.tuple ds) ∧ SeqAt.shaped d = true ∧ SeqAt.shaped (.tuple ds) = true ∧ Q (.bl (!ds.any fun z => PyData.eqv z d)) H
section
variable {X : Cx}
theorem op_inTD (hu : X.A.units + 65 < cLine) : OpR X (compareOp .In) (rInTD X.K) := by
  intro pins s σ H x y v u Q I rx ry h
  obtain ⟨d, ds, hd, he, sd, se, q⟩ := h
  obtain ⟨as, r1⟩ := Dp.reads I d x v hd rx
  obtain ⟨bs, r2⟩ := Dp.reads I (.tuple ds) y u he ry
  exact SeqAt.in_tuple_reads r2 r1 (SeqAt.canLay_of_shaped se) (SeqAt.canLay_of_shaped sd) (room_in_shaped sd hu) ⟨.bl _, H, I, rfl, q⟩
theorem op_notInTD (hu : X.A.units + 65 < cLine) : OpR X (compareOp .NotIn) (rNotInTD X.K) := by
  intro pins s σ H x y v u Q I rx ry h
  obtain ⟨d, ds, hd, he, sd, se, q⟩ := h
  obtain ⟨as, r1⟩ := Dp.reads I d x v hd rx
  obtain ⟨bs, r2⟩ := Dp.reads I (.tuple ds) y u he ry
  exact SeqAt.notIn_tuple_reads r2 r1 (SeqAt.canLay_of_shaped se) (SeqAt.canLay_of_shaped sd) (room_in_shaped sd hu) ⟨.bl _, H, I, rfl, q⟩
end
def fInS (x y : D) : PD := match y with | .lst ys => some (x.eqOk ∧ D.eqOk (.lst ys), .bl (ys.any fun z => eqD z x)) | .tup ys => some (x.eqOk ∧ D.eqOk (.tup ys), .bl (ys.any fun z => eqD z x)) | _ => none
def fNotInS (x y : D) : PD := match y with | .lst ys => some (x.eqOk ∧ D.eqOk (.lst ys), .bl (!ys.any fun z => eqD z x)) | .tup ys => some (x.eqOk ∧ D.eqOk (.tup ys), .bl (!ys.any fun z => eqD z x)) | _ => none
theorem fInS_lst {x : D} {ys : List D} : fInS x (.lst ys) = some (x.eqOk ∧ D.eqOk (.lst ys), .bl (ys.any fun z => eqD z x)) := rfl
theorem fInS_tup {x : D} {ys : List D} : fInS x (.tup ys) = some (x.eqOk ∧ D.eqOk (.tup ys), .bl (ys.any fun z => eqD z x)) := rfl
theorem fNotInS_lst {x : D} {ys : List D} : fNotInS x (.lst ys) = some (x.eqOk ∧ D.eqOk (.lst ys), .bl (!ys.any fun z => eqD z x)) := rfl
theorem fNotInS_tup {x : D} {ys : List D} : fNotInS x (.tup ys) = some (x.eqOk ∧ D.eqOk (.tup ys), .bl (!ys.any fun z => eqD z x)) := rfl
theorem fInS_ok {K : PySem.W.Frag} : OpS K (fun x y H Q => rInD K x y H Q ∨ rInTD K x y H Q) (oF fInS) := by
  intro t F H T x y v w k Q wt r1 r2 q f
  cases y <;> first | exact q.elim | skip
  · obtain ⟨⟨q1, q2⟩, q3⟩ := q
    refine .inr ⟨x.py, D.pyL _, r1.dp wt.sub q1.1, r2.dp wt.sub q2.1, q1.2, q2.2, ?_⟩
    rw [pyL_any]
    exact f.val wt (.bl _) q3
  · obtain ⟨⟨q1, q2⟩, q3⟩ := q
    refine .inl ⟨x.py, D.pyL _, r1.dp wt.sub q1.1, r2.dp wt.sub q2.1, q1.2, q2.2, ?_⟩
    rw [pyL_any]
    exact f.val wt (.bl _) q3
theorem fNotInS_ok {K : PySem.W.Frag} : OpS K (fun x y H Q => rNotInD K x y H Q ∨ rNotInTD K x y H Q) (oF fNotInS) := by
  intro t F H T x y v w k Q wt r1 r2 q f
  cases y <;> first | exact q.elim | skip
  · obtain ⟨⟨q1, q2⟩, q3⟩ := q
    refine .inr ⟨x.py, D.pyL _, r1.dp wt.sub q1.1, r2.dp wt.sub q2.1, q1.2, q2.2, ?_⟩
    rw [pyL_any]
    exact f.val wt (.bl _) q3
  · obtain ⟨⟨q1, q2⟩, q3⟩ := q
    refine .inl ⟨x.py, D.pyL _, r1.dp wt.sub q1.1, r2.dp wt.sub q2.1, q1.2, q2.2, ?_⟩
    rw [pyL_any]
    exact f.val wt (.bl _) q3
section
variable {X : Cx} {a b e : Expr} {fa fb fe : dE} {fr : dA} {p pos : Pos} {n : Nat} {es : List Expr} {tg : Expr}
theorem d_finS (hr : Room n X.A) (ha : PEd X a fa) (hb : PEd X b fb) (hm : behindInMarks .In b = false := by rfl) : PEd X (.Compare a [.In] [b] pos) (dOp (oF fInS) fa fb) := d_cmp ((op_inD (by have := room66 hr; omega)).or (op_inTD (by have := room66 hr; omega))) fInS_ok ha hb hm
theorem t_finS (hr : Room n X.A) (ha : PEd X a fa) (hb : PEd X b fb) (hm : behindInMarks .In b = false := by rfl) : PTd X (.Compare a [.In] [b] pos) (dTst (dOp (oF fInS) fa fb)) := d_tcmp ((op_inD (by have := room66 hr; omega)).or (op_inTD (by have := room66 hr; omega))) fInS_ok ha hb hm
theorem t_fniS (hr : Room n X.A) (ha : PEd X a fa) (hb : PEd X b fb) (hm : behindInMarks .NotIn b = false := by rfl) : PTd X (.Compare a [.NotIn] [b] pos) (dTst (dOp (oF fNotInS) fa fb)) := d_tcmp ((op_notInD (by have := room66 hr; omega)).or (op_notInTD (by have := room66 hr; omega))) fNotInS_ok ha hb hm
end

/-! own lists read for a while -/
mutual
def D.noL : D → Prop
  | .non => True | .bl _ => True | .int _ => True | .str _ => True | .tup xs => D.noLL xs | .lst _ => False | .obj _ _ _ => False | .ref _ => True | .scr _ => False | .dct _ _ => False
def D.noLL : List D → Prop
  | [] => True | x :: r => x.noL ∧ D.noLL r
end
def cutH (F : Hp) (l : Addr) : Hp := fun b => if b = l then none else F b
theorem cut_ne {F : Hp} {l b : Addr} (h : b ≠ l) : cutH F l b = F b := if_neg h
theorem cut_self {F : Hp} {l : Addr} : cutH F l l = none := if_pos rfl
theorem cut_t {K : PySem.W.Frag} {F : Hp} {l a : Addr} {lv xs : List V} (hl : F l = some (.lst lv)) (h : SqT K F a xs) : SqT K (cutH F l) a xs := by
  rcases h with (h | ⟨o, h⟩) | h
  · left; left
    rw [cut_ne (fun z => by rw [z, hl] at h; cases h)]; exact h
  · left; right
    exact ⟨o, by rw [cut_ne (fun z => by rw [z, hl] at h; cases h)]; exact h⟩
  · right; exact h
mutual
theorem noL_drop {K : PySem.W.Frag} {F : Hp} {l : Addr} {lv : List V} (hl : F l = some (.lst lv)) : ∀ {d : D} {v : V}, Rep K F d v → d.noL → Rep K (cutH F l) d v
  | _, _, .non, _ => .non
  | _, _, .bl b, _ => .bl b
  | _, _, .int i, _ => .int i
  | _, _, .str x, _ => .str x
  | _, _, .tup h q, n => .tup (cut_t hl h) (noLL_drop hl q (by simpa only [D.noL] using n))
  | _, _, .lst _ _, n => by simp only [D.noL] at n
  | _, _, .obj _ _ _ _, n => by simp only [D.noL] at n
  | _, _, .ref x h q, _ => .ref x h q
  | _, _, .scr _ _, n => by simp only [D.noL] at n
  | _, _, .dct _ _ _, n => by simp only [D.noL] at n
theorem noLL_drop {K : PySem.W.Frag} {F : Hp} {l : Addr} {lv : List V} (hl : F l = some (.lst lv)) : ∀ {ds : List D} {vs : List V}, RepL K F ds vs → D.noLL ds → RepL K (cutH F l) ds vs
  | _, _, .nil, _ => .nil
  | _, _, .cons h q, n => .cons (noL_drop hl h (by simp only [D.noLL] at n; exact n.1)) (noLL_drop hl q (by simp only [D.noLL] at n; exact n.2))
end
theorem Wd.frz {K : PySem.W.Frag} {ρ : En} {T : Tk} {t : Option Addr} {σ : L2.St} {F H : Hp} (w : Wd K ρ T t σ F H) {i : Nat} {xs : List D} (e : ρ[i]? = some (some (.own xs))) :
    ∃ l vs, F l = none ∧ Wd K (ρ.set i (some (.val (.lst xs)))) T t σ (upd F l (.lst vs)) H := by
  obtain ⟨v, hv, l, vs, rfl, hF, hH, r, nt⟩ := w.slot i _ e
  have sm : Same F (upd F l (.lst vs)) := same_upd hF
  have sub : Same (upd F l (.lst vs)) H := fun b u q => by
    by_cases hb : b = l
    · subst hb; rw [upd_same] at q; cases q; exact hH
    · rw [upd_ne hb] at q; exact w.wt.sub b u q
  have wt : Wt K T t (upd F l (.lst vs)) H := ⟨sub, fun a ea => by
    obtain ⟨n, us, hu, ru⟩ := w.wt.tank a ea
    have ne : a ≠ l := fun z => nt (by rw [ea, z])
    exact ⟨by rw [upd_ne ne]; exact n, us, hu, ru.mono sm⟩, w.wt.tabs.frz hH⟩
  refine ⟨l, vs, hF, wt, by simpa using w.len, fun j s ej => ?_, fun j j' ys zs m e1 e2 e3 e4 => ?_⟩
  · rcases getSet ej with ⟨rfl, _, e'⟩ | ⟨ne, e'⟩
    · cases e'
      exact ⟨.ref l, hv, .lst upd_same (r.mono sm)⟩
    · obtain ⟨u, h1, h2⟩ := w.slot j s e'
      refine ⟨u, h1, ?_⟩
      cases s with
      | val d => exact Rep.mono sm h2
      | tank => exact h2
      | exc _ _ => exact ⟨h2.1, fun dd fl x q => let ⟨n, u, f1, r1⟩ := h2.2 dd fl x q; ⟨n, u, f1, r1.mono sm⟩⟩
      | fn _ _ _ => exact h2
      | ptup _ => obtain ⟨a, o, us, e, hf, c1, c2, r⟩ := h2; exact ⟨a, o, us, e, sm _ _ hf, c1, c2, r.mono sm⟩
      | me a c fs => obtain ⟨e, C, dx, us, f1, f2, q, r, n, z⟩ := h2; exact ⟨e, C, dx, us, by rw [upd_ne (fun z => by rw [z, hH] at f2; cases f2)]; exact f1, f2, q, r.mono sm, n, z⟩
      | own ys =>
        obtain ⟨m, us, rfl, f1, f2, f3, f4⟩ := h2
        have nm : m ≠ l := fun z => ne (w.apart i j xs ys l e e' hv (z ▸ h1))
        exact ⟨m, us, rfl, by rw [upd_ne nm]; exact f1, f2, f3.mono sm, f4⟩
  · rcases getSet e1 with ⟨_, _, z⟩ | ⟨n1, e1⟩
    · cases z
    · rcases getSet e2 with ⟨_, _, z⟩ | ⟨n2, e2⟩
      · cases z
      · exact w.apart j j' ys zs m e1 e2 e3 e4
theorem wt_cut {K : PySem.W.Frag} {T : Tk} {t : Option Addr} {F H : Hp} {l : Addr} {lv : List V} (hl : F l = some (.lst lv)) (w : Wt K T t F H) (n : D.noLL T) : Wt K T t (cutH F l) H :=
  ⟨fun b u q => by
    by_cases hb : b = l
    · rw [hb, cut_self] at q; cases q
    · rw [cut_ne hb] at q; exact w.sub b u q, fun a ea => by
    obtain ⟨n1, us, hu, ru⟩ := w.tank a ea
    refine ⟨?_, us, hu, noLL_drop hl ru n⟩
    by_cases hb : a = l
    · rw [hb, cut_self]
    · rw [cut_ne hb]; exact n1, w.tabs.ext (fun p _ e => by
    by_cases hb : p.1 = l
    · rw [hb, cut_self]
    · rw [cut_ne hb]; exact e) (fun _ _ q _ => q) (fun b o q => by
    by_cases hb : b = l
    · rw [hb, cut_self] at q; cases q
    · rw [cut_ne hb] at q; exact w.tabs.no b o q) fun _ _ q => q⟩
theorem grow_cut {t : Option Addr} {F H F1 H1 : Hp} {l : Addr} {lv : List V} (hF : F l = none) (g : Grow t (upd F l (.lst lv)) H F1 H1) : Grow t F H (cutH F1 l) H1 :=
  ⟨fun b u q => by
    have ne : b ≠ l := fun z => by rw [z, hF] at q; cases q
    rw [cut_ne ne]
    exact g.sub b u (by rw [upd_ne ne]; exact q), g.keepT, fun a o h n => by
    by_cases hb : a = l
    · rw [hb, cut_self]
    · rw [cut_ne hb]; exact g.new a o h (by rw [upd_ne hb]; exact n), g.there⟩
def dView (i : Nat) (fe : dE) : dE := fun ρ T k => match ρ[i]? with | some (some (.own xs)) => fe (ρ.set i (some (.val (.lst xs)))) T fun d T1 => d.noL ∧ D.noLL T1 ∧ k d T1 | _ => fe ρ T k
def dViewT (i : Nat) (tc : dT) : dT := fun ρ T k => match ρ[i]? with | some (some (.own xs)) => tc (ρ.set i (some (.val (.lst xs)))) T fun d T1 => D.noLL T1 ∧ k d T1 | _ => tc ρ T k
section
variable {X : Cx} {e : Expr} {es : List Expr} {fe : dE} {fr : dA} {p pos : Pos} {st : Stmt} {f : dS}
theorem d_view (i : Nat) (he : PEd X e fe) : PEd X e (dView i fe) := by
  refine pe_imp he fun σ H Q h => ?_
  obtain ⟨ρ, T, t, F, k, w, h, f⟩ := h
  unfold dView at h
  split at h
  · rename_i xs e0
    obtain ⟨l, vs, hF, w'⟩ := w.frz e0
    refine ⟨_, T, t, _, _, w', h, fun v H1 F1 d T1 w1 g1 r1 h1 => ?_⟩
    obtain ⟨n1, n2, h1⟩ := h1
    have hl : F1 l = some (.lst vs) := g1.sub _ _ upd_same
    exact f v H1 (cutH F1 l) d T1 (wt_cut hl w1 n2) (grow_cut hF g1) (noL_drop hl r1 n1) h1
  · exact ⟨ρ, T, t, F, k, w, h, f⟩
theorem t_view (i : Nat) {tc : dT} (he : PTd X e tc) : PTd X e (dViewT i tc) := by
  refine pt_imp he fun σ H Q h => ?_
  obtain ⟨ρ, T, t, F, k, w, h, f⟩ := h
  unfold dViewT at h
  split at h
  · rename_i xs e0
    obtain ⟨l, vs, hF, w'⟩ := w.frz e0
    refine ⟨_, T, t, _, _, w', h, fun b H1 F1 T1 w1 g1 h1 => ?_⟩
    obtain ⟨n2, h1⟩ := h1
    have hl : F1 l = some (.lst vs) := g1.sub _ _ upd_same
    exact f b H1 (cutH F1 l) T1 (wt_cut hl w1 n2) (grow_cut hF g1) h1
  · exact ⟨ρ, T, t, F, k, w, h, f⟩
/-- it will not be changed any more, if it is own -/
def sFrq (i : Nat) (f : dS) : dS := fun k ρ T => match ρ[i]? with | some (some (.own xs)) => f k (ρ.set i (some (.val (.lst xs)))) T | _ => f k ρ T
theorem s_frq (i : Nat) (h : PSd X st f) : PSd X st (sFrq i f) := by
  refine ps_imp h fun E σ H h => ?_
  obtain ⟨ρ, T, t, F0, H0, F, k, w, h, fe⟩ := h
  unfold sFrq at h
  split at h
  · rename_i xs e
    obtain ⟨F', sm, w'⟩ := w.frz e
    exact ⟨_, T, t, F0, H0, F', k, w', h, fe.to sm⟩
  · exact ⟨ρ, T, t, F0, H0, F, k, w, h, fe⟩
/-- x[e] = .. in an own list -/
def gOs (i : Nat) (fe : dE) : dG := fun d ρ T k => match ρ[i]? with | some (some (.own xs)) => fe ρ T fun j T1 => (match j with | .int j => (match ixN xs.length j with | some m => k (ρ.set i (some (.own (xs.set m d)))) T1 | none => False) | _ => False) | _ => False
/-! a def that hands back a list of its own -/
def OkN (P : Program) (w : World) (K : PySem.W.Frag) (mg : Str → Option Value) (base : Heap) (n : Nat) (x : Str) (ps : List Str) (sem : Sem) : Prop :=
  ∃ f fd, mg x = some (.ref f) ∧ PySem.W.keepIn K (.ref f) = true ∧ Binds K fd ps [] ∧ (∀ (s : Shared) (ws : List Value), K.In s.heap → ws.length = ps.length → BindsTo s fd ⟨[], ps.zip ws⟩ (ps.zip ws)) ∧ GFn P w K mg base CX0 n f fd ps (spO K ps.length sem) ∧ ∃ oc od osl, K.lookup f = some ⟨oc, od, .func fd, osl⟩
theorem fin_own {K : PySem.W.Frag} {t : Option Addr} {F H : Hp} {T : Tk} {k : KD} {Q : VK} (w : Wt K T t F H) (f : Fin K t F H k Q) : FinO K t F H k Q := by
  intro l lv H' F' xs T' w' g' hl hF' hH' r' q
  have nt : ∀ a, t = some a → a ≠ l := fun a ea z => by
    obtain ⟨_, us, hu, _⟩ := w.tank a ea
    rw [z, hl] at hu
    cases hu
  have sm : Same F' (upd F' l (.lst lv)) := same_upd hF'
  refine f (.ref l) H' (upd F' l (.lst lv)) (.lst xs) T' ⟨fun b u e => ?_, fun a ea => ?_, w'.tabs.frz hH'⟩ ⟨g'.sub.trans sm, g'.keepT, fun a o h n => ?_, g'.there⟩ (.lst upd_same (r'.mono sm)) q
  · by_cases hb : b = l
    · subst hb; rw [upd_same] at e; cases e; exact hH'
    · rw [upd_ne hb] at e; exact w'.sub b u e
  · obtain ⟨n1, us, hu, ru⟩ := w'.tank a ea
    exact ⟨by rw [upd_ne (nt a ea)]; exact n1, us, hu, ru.mono sm⟩
  · have ne : a ≠ l := fun z => by rw [z, hl] at h; cases h
    rw [upd_ne ne]
    exact g'.new a o h n
theorem OkN.ok {P : Program} {w : World} {K : PySem.W.Frag} {mg : Str → Option Value} {base : Heap} {n : Nat} {x : Str} {ps : List Str} {sem : Sem} (h : OkN P w K mg base n x ps sem) : Ok P w K mg base n x ps sem :=
  let ⟨f, fd, h1, h2, h3, h4, h5, h6⟩ := h
  ⟨f, fd, h1, h2, h3, h4, h5.imp (fun vs H Q E ⟨q1, F, t, T, as, k, a, b, c, d⟩ => ⟨q1, F, t, T, as, k, a, b, c, fin_own b d⟩), h6⟩
theorem OkN.mono {P : Program} {w : World} {K : PySem.W.Frag} {mg : Str → Option Value} {base : Heap} {m n : Nat} {x : Str} {ps : List Str} {sem : Sem} (h : OkN P w K mg base m x ps sem) (l : m ≤ n) : OkN P w K mg base n x ps sem :=
  let ⟨f, fd, h1, h2, h3, h4, h5, h6⟩ := h; ⟨f, fd, h1, h2, h3, h4, h5.mono l, h6⟩
variable {y : Str} {n m : Nat} {ps qs : List Str} {so : Sem} {q pos2 : Pos} {a b : Expr} {fa fb : dE}
/-- x = f(..), f's list x's own -/
def sOwnC (i m : Nat) (so : Sem) (fr : dA) : dS := fun k ρ T => fr ρ T fun as T1 => as.length = m ∧ so as T1 fun d T2 => match d with | .lst xs => k.nx (ρ.set i (some (.own xs))) T2 | _ => False
/-- x, y = a, f(..) with y's list its own -/
def sParC (i j m : Nat) (so : Sem) (fa : dE) (fr : dA) : dS := fun k ρ T => fa ρ T fun d T1 => fr ρ T1 fun as T2 => as.length = m ∧ so as T2 fun d2 T3 => match d2 with | .lst xs => k.nx ((ρ.set i (some (.val d))).set j (some (.own xs))) T3 | _ => False
/-- x, y, z = a, b, f(..) with z's list its own -/
def sPar3C (i j l m : Nat) (so : Sem) (fa fb : dE) (fr : dA) : dS := fun k ρ T => fa ρ T fun d T1 => fb ρ T1 fun d' T1 => fr ρ T1 fun as T2 => as.length = m ∧ so as T2 fun d2 T3 => match d2 with | .lst xs => k.nx (((ρ.set i (some (.val d))).set j (some (.val d'))).set l (some (.own xs))) T3 | _ => False
end
theorem noL_int {i : Int} : (D.int i).noL = True := by simp only [D.noL]
theorem noL_bl {i : Bool} : (D.bl i).noL = True := by simp only [D.noL]
theorem noL_str {i : Str} : (D.str i).noL = True := by simp only [D.noL]
theorem noL_non : D.non.noL = True := by simp only [D.noL]
theorem noL_tup {xs : List D} : (D.tup xs).noL = D.noLL xs := by simp only [D.noL]
theorem noLL_nil : D.noLL [] = True := by simp only [D.noLL]
theorem noLL_cons {x : D} {xs : List D} : D.noLL (x :: xs) = (x.noL ∧ D.noLL xs) := by simp only [D.noLL]
/-! unpacking of a tuple or a list -/
def gTL (n : Nat) (gs : dGs) : dG := fun d ρ T k => match d.it? with | some ds => ds.length = n ∧ gs ds ρ T k | none => False
theorem g_unp {X : Cx} {pos : Pos} {tgs : List Expr} {j : Nat} {gs : dGs} {n : Nat} (hc : X.calm = true) (h : PGs X tgs (tDGs X.K gs)) (hn : (assignEach tgs X.env).length = n := by rfl) (hst : (assignEach tgs X.env).findIdx? (·.1) = none := by rfl) : PGd X (.Tuple tgs j pos) (gTL n gs) := by
  have key : PG X (.Tuple tgs j pos) (fun v σ H Q => gTup X.K n (tDGs X.K gs) v σ H Q ∨ gUnl X.K n (tDGs X.K gs) v σ H Q) := ⟨fun pins s σ H v u Q I r q => q.elim (fun q => (pg_tup hc h hn hst).run pins s σ H v u Q I r q) (fun q => (pg_unl hc h hn hst).run pins s σ H v u Q I r q)⟩
  refine pg_imp key fun v σ H Q h => ?_
  obtain ⟨ρ, T, t, F0, H0, F, d, k, w, r, h, f⟩ := h
  cases d <;> first | exact h.elim | skip
  · obtain ⟨a, vs, rfl, h1, h2⟩ := rep_tup r
    exact .inl ⟨a, vs, rfl, same_t w.w.wt.sub h1, by rw [← h2.len]; exact h.1, ρ, T, t, F0, H0, F, _, k, w, h2, h.2, f⟩
  · obtain ⟨a, vs, rfl, h1, h2⟩ := rep_lst r
    exact .inr ⟨a, vs, rfl, .of (w.w.wt.sub _ _ h1), by rw [← h2.len]; exact h.1, ρ, T, t, F0, H0, F, _, k, w, h2, h.2, f⟩
end L2.G

namespace L2.G
open PySem PySem.Spec PyProof.Rows
/-! zip of two lists or of two tuples -/
def zip2 : List SV → Option (List D × List D)
  | [.val (.lst xs), .val (.lst ys)] => some (xs, ys)
  | [.val (.tup xs), .val (.tup ys)] => some (xs, ys)
  | _ => none
theorem zip2_lst {xs ys : List D} : zip2 [.val (.lst xs), .val (.lst ys)] = some (xs, ys) := rfl
theorem zip2_tup {xs ys : List D} : zip2 [.val (.tup xs), .val (.tup ys)] = some (xs, ys) := rfl
theorem zipD_nil {ys : List D} : zipD [] ys = [] := rfl
theorem zipD_cons {x y : D} {xs ys : List D} : zipD (x :: xs) (y :: ys) = .tup [x, y] :: zipD xs ys := rfl
def iZA (fr : dA) : dI := fun ρ T k => fr ρ T fun as T1 => match zip2 as with | some p => (zipD p.1 p.2).length ≤ 1000000 ∧ k (zipD p.1 p.2) T1 | none => False
end L2.G

namespace L2.G
open PySem PySem.Spec PyProof.Rows
/-! walking at the head: what stands behind is left as it is until the head is told -/
/-- an argument whose type names what is to be left as it is -/
structure Fz {α : Type} (a : α) : Type where
def callS (s : Sem) (as : List SV) (T : Tk) (k : KD) (fz : Fz k := ⟨⟩) : Prop := s as T k
theorem callS_eq {s : Sem} {as : List SV} {T : Tk} {k : KD} : callS s as T k = s as T k := propext Iff.rfl
def iteB (c : Bool) (p q : Prop) (fz : Fz (p, q) := ⟨⟩) : Prop := if c = true then p else q
theorem iteB_t {p q : Prop} : iteB true p q = p := propext Iff.rfl
theorem iteB_f {p q : Prop} : iteB false p q = q := propext Iff.rfl
theorem iteB_of {c : Bool} {p q : Prop} (h1 : c = true → p) (h2 : c = false → q) : iteB c p q := by cases c; exact h2 rfl; exact h1 rfl
theorem iteB_p {c : Bool} {p q : Prop} (h : c = true) (h1 : p) : iteB c p q := by rw [h]; exact h1
theorem iteB_n {c : Bool} {p q : Prop} (h : c = false) (h1 : q) : iteB c p q := by rw [h]; exact h1
theorem iteB_not {c : Bool} {p q : Prop} : iteB (!c) p q = iteB c q p := by cases c <;> rfl
theorem iteB_tt {p : Prop} {c : Bool} : iteB c p p = p := by cases c <;> rfl
def setE (ρ : En) (F : En → Prop) (fz : Fz F := ⟨⟩) : Prop := F ρ
theorem setE_go {ρ : En} {F : En → Prop} : setE ρ F = F ρ := propext Iff.rfl
def pdK (r : PD) (k : D → Prop) (fz : Fz k := ⟨⟩) : Prop := match r with | some p => p.1 ∧ k p.2 | none => False
theorem pdK_t {d : D} {k : D → Prop} : pdK (some (True, d)) k = k d := propext (and_iff_right trivial)
theorem pdK_c {P : Prop} {d : D} {k : D → Prop} : pdK (some (P, d)) k = (P ∧ k d) := propext Iff.rfl
theorem oF_pd {f : D → D → PD} {x y : D} {k : D → Prop} : oF f x y k = pdK (f x y) k := propext Iff.rfl
def varK (s : Option (Option SV)) (T : Tk) (k : KD) (fz : Fz k := ⟨⟩) : Prop := match s with | some (some (.val d)) => k d T | some (some (.ptup ds)) => k (.tup ds) T | _ => False
theorem varK_pt {ds : List D} {T : Tk} {k : KD} : varK (some (some (.ptup ds))) T k = k (.tup ds) T := propext Iff.rfl
theorem varK_go {d : D} {T : Tk} {k : KD} : varK (some (some (.val d))) T k = k d T := propext Iff.rfl
section
variable {ρ : En} {T S : Tk} {k : KD} {d e : D} {o : Op2} {fa fb fe : dE} {ta tb : dT} {fr : dA} {i j l n m : Nat} {as : List SV} {xs ys : List D} {K : dEnds} {f g : dS} {tg : dG} {fi : dI}
theorem h_var : dVar i ρ T k = varK ρ[i]? T k := propext Iff.rfl
theorem h_c : dC d ρ T k = k d T := propext Iff.rfl
theorem h_op : dOp o fa fb ρ T k = fa ρ T fun x T1 => fb ρ T1 fun y T2 => o x y fun d => k d T2 := propext Iff.rfl
/-- keeps a lambda from being taken for its function -/
def wr (p : Prop) : Prop := p
def negK (x : D) (T : Tk) (k : KD) (fz : Fz k := ⟨⟩) : Prop := match x with | .int i => k (.int (-i)) T | _ => False
theorem negK_go {i : Int} : negK (.int i) T k = k (.int (-i)) T := propext Iff.rfl
theorem h_neg : dNeg fa ρ T k = fa ρ T fun x T1 => negK x T1 k := propext Iff.rfl
def bolK (b : Bool) (T : Tk) (k : Bool → Tk → Prop) (fz : Fz k := ⟨⟩) : Prop := k b T
theorem bolK_go {b : Bool} {k : Bool → Tk → Prop} : bolK b T k = k b T := propext Iff.rfl
theorem h_isN : dIsN fa ρ T k = fa ρ T fun x T1 => bolK x.isNon T1 fun b T => k (.bl b) T := propext Iff.rfl
theorem h_notN : dNotN fa ρ T k = fa ρ T fun x T1 => bolK (!x.isNon) T1 fun b T => k (.bl b) T := propext Iff.rfl
def tstK (x : D) (T : Tk) (k : Bool → Tk → Prop) (fz : Fz k := ⟨⟩) : Prop := match x with | .bl c => k c T | _ => False
theorem tstK_go {b : Bool} {k : Bool → Tk → Prop} : tstK (.bl b) T k = k b T := propext Iff.rfl
theorem h_tst {k : Bool → Tk → Prop} : dTst fa ρ T k = fa ρ T fun x T1 => tstK x T1 k := propext Iff.rfl
def andK (c : Bool) (T : Tk) (F : (Bool → Tk → Prop) → Prop) (k : Bool → Tk → Prop) (fz : Fz k := ⟨⟩) : Prop := if c = true then F k else k false T
theorem andK_t {F : (Bool → Tk → Prop) → Prop} {k : Bool → Tk → Prop} : andK true T (fun k' => wr (F k')) k = F k := propext Iff.rfl
theorem andK_f {F : (Bool → Tk → Prop) → Prop} {k : Bool → Tk → Prop} : andK false T F k = k false T := propext Iff.rfl
theorem andK_p {c c2 : Bool} {k : Bool → Tk → Prop} : andK c T (fun k' => wr (k' c2 T)) k = k (c && c2) T := by cases c <;> rfl
theorem andK_q {c c2 : Bool} {P : Prop} {k : Bool → Tk → Prop} : andK c T (fun k' => wr (P ∧ k' c2 T)) k = ((c = true → P) ∧ k (c && c2) T) := by cases c <;> simp [andK, wr]
def orK (c : Bool) (T : Tk) (F : (Bool → Tk → Prop) → Prop) (k : Bool → Tk → Prop) (fz : Fz k := ⟨⟩) : Prop := if c = true then k true T else F k
theorem orK_t {F : (Bool → Tk → Prop) → Prop} {k : Bool → Tk → Prop} : orK true T F k = k true T := propext Iff.rfl
theorem orK_f {F : (Bool → Tk → Prop) → Prop} {k : Bool → Tk → Prop} : orK false T (fun k' => wr (F k')) k = F k := propext Iff.rfl
theorem orK_p {c c2 : Bool} {k : Bool → Tk → Prop} : orK c T (fun k' => wr (k' c2 T)) k = k (c || c2) T := by cases c <;> rfl
theorem orK_q {c c2 : Bool} {P : Prop} {k : Bool → Tk → Prop} : orK c T (fun k' => wr (P ∧ k' c2 T)) k = ((c = false → P) ∧ k (c || c2) T) := by cases c <;> simp [orK, wr]
theorem h_and {k : Bool → Tk → Prop} : dAnd ta tb ρ T k = ta ρ T fun c T1 => andK c T1 (fun k' => wr (tb ρ T1 k')) k := propext Iff.rfl
theorem h_or {k : Bool → Tk → Prop} : dOr ta tb ρ T k = ta ρ T fun c T1 => orK c T1 (fun k' => wr (tb ρ T1 k')) k := propext Iff.rfl
theorem h_not {k : Bool → Tk → Prop} : dNot ta ρ T k = ta ρ T fun c T1 => bolK (!c) T1 k := propext Iff.rfl

def andVK (x : D) (T : Tk) (F : KD → Prop) (k : KD) (fz : Fz k := ⟨⟩) : Prop := match x with | .bl c => if c = true then F k else k (.bl false) T | _ => False
theorem andVK_t {F : KD → Prop} : andVK (.bl true) T (fun k' => wr (F k')) k = F k := propext Iff.rfl
theorem andVK_f {F : KD → Prop} : andVK (.bl false) T F k = k (.bl false) T := propext Iff.rfl
theorem andVK_p {c c2 : Bool} : andVK (.bl c) T (fun k' => wr (k' (.bl c2) T)) k = k (.bl (c && c2)) T := by cases c <;> rfl
theorem andVK_q {c c2 : Bool} {P : Prop} : andVK (.bl c) T (fun k' => wr (P ∧ k' (.bl c2) T)) k = ((c = true → P) ∧ k (.bl (c && c2)) T) := by cases c <;> simp [andVK, wr]
def orVK (x : D) (T : Tk) (F : KD → Prop) (k : KD) (fz : Fz k := ⟨⟩) : Prop := match x with | .bl c => if c = true then k (.bl true) T else F k | _ => False
theorem orVK_t {F : KD → Prop} : orVK (.bl true) T F k = k (.bl true) T := propext Iff.rfl
theorem orVK_f {F : KD → Prop} : orVK (.bl false) T (fun k' => wr (F k')) k = F k := propext Iff.rfl
theorem orVK_p {c c2 : Bool} : orVK (.bl c) T (fun k' => wr (k' (.bl c2) T)) k = k (.bl (c || c2)) T := by cases c <;> rfl
theorem orVK_q {c c2 : Bool} {P : Prop} : orVK (.bl c) T (fun k' => wr (P ∧ k' (.bl c2) T)) k = ((c = false → P) ∧ k (.bl (c || c2)) T) := by cases c <;> simp [orVK, wr]
theorem h_andV : dAndV fa fb ρ T k = fa ρ T fun x T1 => andVK x T1 (fun k' => wr (fb ρ T1 k')) k := propext Iff.rfl
theorem h_orV : dOrV fa fb ρ T k = fa ρ T fun x T1 => orVK x T1 (fun k' => wr (fb ρ T1 k')) k := propext Iff.rfl
def notVK (x : D) (T : Tk) (k : KD) (fz : Fz k := ⟨⟩) : Prop := match x with | .bl c => k (.bl (!c)) T | _ => False
theorem notVK_go {b : Bool} : notVK (.bl b) T k = bolK (!b) T fun b T => k (.bl b) T := propext Iff.rfl
theorem h_notV : dNotV fa ρ T k = fa ρ T fun x T1 => notVK x T1 k := propext Iff.rfl
theorem h_if : dIf ta fa fb ρ T k = ta ρ T fun c T1 => iteB c (fa ρ T1 k) (fb ρ T1 k) := propext Iff.rfl
/-! arguments -/
theorem h_anil {k : List SV → Tk → Prop} : aNil ρ T k = k [] T := propext Iff.rfl
theorem h_acons {k : List SV → Tk → Prop} : aCons fe fr ρ T k = fe ρ T fun d T1 => fr ρ T1 fun as T2 => k (.val d :: as) T2 := propext Iff.rfl
def tnkK (s : Option (Option SV)) (P : Prop) (fz : Fz P := ⟨⟩) : Prop := (match s with | some (some .tank) => True | _ => False) ∧ P
theorem tnkK_go {P : Prop} : tnkK (some (some .tank)) P = P := propext (and_iff_right trivial)
theorem h_atank {k : List SV → Tk → Prop} : aTank i fr ρ T k = tnkK ρ[i]? (fr ρ T fun as T2 => k (.tank :: as) T2) := propext Iff.rfl
def sqK (o : Option (List D)) (k : List D → Prop) (fz : Fz k := ⟨⟩) : Prop := match o with | some xs => k xs | none => False
theorem sqK_go {k : List D → Prop} : sqK (some xs) k = k xs := propext Iff.rfl
theorem h_astar {k : List SV → Tk → Prop} : aStar fe fr ρ T k = fe ρ T fun d T1 => sqK d.it? fun xs => fr ρ T1 fun as T2 => k (xs.map SV.val ++ as) T2 := propext Iff.rfl
theorem h_tup : dTup fr ρ T k = fr ρ T fun as T1 => sqK (vals? as) fun ds => ds.length ≤ 1000000 ∧ k (.tup ds) T1 := propext Iff.rfl
theorem h_lst : dLst fr ρ T k = fr ρ T fun as T1 => sqK (vals? as) fun ds => ds.length ≤ 1000000 ∧ k (.lst ds) T1 := propext Iff.rfl
theorem vals_val : vals? (.val d :: as) = (vals? as).map (d :: ·) := rfl
theorem vals_nil : vals? [] = some [] := rfl
def callN (n : Nat) (s : Sem) (as : List SV) (T : Tk) (k : KD) (fz : Fz k := ⟨⟩) : Prop := as.length = n ∧ s as T k
theorem callN_go {n : Nat} {s : Sem} : callN n s as T k = (as.length = n ∧ callS s as T k) := propext Iff.rfl
theorem h_call {s : Sem} : dCall n s fr ρ T k = fr ρ T fun as T1 => callN n s as T1 k := propext Iff.rfl
def lstK (d : D) (k : List D → Prop) (fz : Fz k := ⟨⟩) : Prop := match d with | .lst xs => k xs | _ => False
theorem lstK_go {k : List D → Prop} : lstK (.lst xs) k = k xs := propext Iff.rfl
theorem h_callT {s so : Sem} : dCallT n s so fr ρ T k = fr ρ T fun as T1 => callN n so as T1 fun d T2 => lstK d fun xs => callS s [.tank] xs fun r _ => k r T2 := propext Iff.rfl
theorem h_blt {f : List D → PD} : dBlt (oG f) fr ρ T k = fr ρ T fun as T1 => sqK (vals? as) fun ds => pdK (f ds) fun d => k d T1 := propext Iff.rfl
def opK (o : Option D) (k : D → Prop) (fz : Fz k := ⟨⟩) : Prop := match o with | some d => k d | none => False
theorem opK_go {k : D → Prop} : opK (some d) k = k d := propext Iff.rfl
def intK (d : D) (k : Int → Prop) (fz : Fz k := ⟨⟩) : Prop := match d with | .int i => k i | _ => False
theorem intK_go {i : Int} {k : Int → Prop} : intK (.int i) k = k i := propext Iff.rfl
theorem h_psome {k : Option Int → Tk → Prop} : pSome fe ρ T k = fe ρ T fun d T1 => intK d fun i => k (some i) T1 := propext Iff.rfl
theorem h_slq {lo hi : dP} : dSlQ fe lo hi ρ T k = fe ρ T fun x T1 => lo ρ T1 fun l T2 => hi ρ T2 fun h T3 => opK (x.cut? l h) fun d => k d T3 := propext Iff.rfl
def blqK (o : Option Bool) (T : Tk) (k : KD) (fz : Fz k := ⟨⟩) : Prop := match o with | some r => k (.bl r) T | none => False
theorem blqK_go {b : Bool} : blqK (some b) T k = k (.bl b) T := propext Iff.rfl
theorem h_isi {t : Ty} : dIsi t fe ρ T k = fe ρ T fun d T1 => blqK (isTy t d) T1 k := propext Iff.rfl
/-! walks -/
theorem h_iQ {k : List D → Tk → Prop} : iQ fe ρ T k = fe ρ T fun d T1 => sqK d.it? fun xs => xs.length ≤ 1000000 ∧ k xs T1 := propext Iff.rfl
def r1K (as : List SV) (T : Tk) (k : List D → Tk → Prop) (fz : Fz k := ⟨⟩) : Prop := match as with | [.val (.int j)] => (j ≤ 1000000 ∧ -(2 ^ 62) ≤ j) ∧ k (intsL 0 j.toNat) T | _ => False
theorem r1K_go {j : Int} {k : List D → Tk → Prop} : r1K [.val (.int j)] T k = ((j ≤ 1000000 ∧ -(2 ^ 62) ≤ j) ∧ k (intsL 0 j.toNat) T) := propext Iff.rfl
theorem h_iR1 {k : List D → Tk → Prop} : iR1 fr ρ T k = fr ρ T fun as T1 => r1K as T1 k := by
  unfold iR1; congr 1; funext as T1; unfold r1K; split <;> simp only [and_assoc]
def r2K (as : List SV) (T : Tk) (k : List D → Tk → Prop) (fz : Fz k := ⟨⟩) : Prop := match as with | [.val (.int i), .val (.int j)] => (j - i ≤ 1000000 ∧ -(2 ^ 61) ≤ i ∧ i < 2 ^ 61 ∧ -(2 ^ 61) ≤ j ∧ j < 2 ^ 61) ∧ k (intsL i (j - i).toNat) T | _ => False
theorem r2K_go {i j : Int} {k : List D → Tk → Prop} : r2K [.val (.int i), .val (.int j)] T k = ((j - i ≤ 1000000 ∧ -(2 ^ 61) ≤ i ∧ i < 2 ^ 61 ∧ -(2 ^ 61) ≤ j ∧ j < 2 ^ 61) ∧ k (intsL i (j - i).toNat) T) := propext Iff.rfl
theorem h_iR2 {k : List D → Tk → Prop} : iR2 fr ρ T k = fr ρ T fun as T1 => r2K as T1 k := propext Iff.rfl
def r3K (as : List SV) (T : Tk) (k : List D → Tk → Prop) (fz : Fz k := ⟨⟩) : Prop := match as with | [.val (.int i), .val (.int j), .val (.int c)] => (c = -1 ∧ i - j ≤ 1000000 ∧ -(2 ^ 61) ≤ i ∧ i < 2 ^ 61 ∧ -(2 ^ 61) ≤ j ∧ j < 2 ^ 61) ∧ k (downL i (i - j).toNat) T | _ => False
theorem r3K_go {i j c : Int} {k : List D → Tk → Prop} : r3K [.val (.int i), .val (.int j), .val (.int c)] T k = ((c = -1 ∧ i - j ≤ 1000000 ∧ -(2 ^ 61) ≤ i ∧ i < 2 ^ 61 ∧ -(2 ^ 61) ≤ j ∧ j < 2 ^ 61) ∧ k (downL i (i - j).toNat) T) := propext Iff.rfl
theorem h_iR3 {k : List D → Tk → Prop} : iR3 fr ρ T k = fr ρ T fun as T1 => r3K as T1 k := propext Iff.rfl
def zpK (o : Option (List D × List D)) (T : Tk) (k : List D → Tk → Prop) (fz : Fz k := ⟨⟩) : Prop := match o with | some p => (zipD p.1 p.2).length ≤ 1000000 ∧ k (zipD p.1 p.2) T | none => False
theorem zpK_go {k : List D → Tk → Prop} : zpK (some (xs, ys)) T k = ((zipD xs ys).length ≤ 1000000 ∧ k (zipD xs ys) T) := propext Iff.rfl
theorem h_iZA {k : List D → Tk → Prop} : iZA fr ρ T k = fr ρ T fun as T1 => zpK (zip2 as) T1 k := propext Iff.rfl
theorem h_iEn {k : List D → Tk → Prop} : iEn fe ρ T k = fe ρ T fun d T1 => sqK d.it? fun xs => xs.length ≤ 1000000 ∧ k (enD 0 xs) T1 := propext Iff.rfl
/-! statements -/
theorem h_seq : sSeq f g K ρ T = f { K with nx := g K } ρ T := propext Iff.rfl
theorem h_ret : sRet fe K ρ T = fe ρ T K.rt := propext Iff.rfl
theorem h_expr : sExpr fe K ρ T = fe ρ T fun _ T1 => K.nx ρ T1 := propext Iff.rfl
theorem h_sif : sIf ta f g K ρ T = ta ρ T fun c T1 => iteB c (f K ρ T1) (g K ρ T1) := propext Iff.rfl
theorem h_asg : sAsg fe tg K ρ T = fe ρ T fun d T1 => tg d ρ T1 K.nx := propext Iff.rfl
theorem h_gN {k : En → Tk → Prop} : gN i d ρ T k = setE (ρ.set i (some (.val d))) fun ρ => k ρ T := propext Iff.rfl
theorem h_gsnil {k : En → Tk → Prop} : gsNil [] ρ T k = k ρ T := propext (and_iff_right rfl)
theorem h_gscons {gs : dGs} {k : En → Tk → Prop} : gsCons tg gs (d :: xs) ρ T k = tg d ρ T fun ρ' T' => gs xs ρ' T' k := propext Iff.rfl
theorem h_gTL {gs : dGs} {k : En → Tk → Prop} : gTL n gs d ρ T k = sqK d.it? fun ds => ds.length = n ∧ gs ds ρ T k := propext Iff.rfl
theorem h_gT {gs : dGs} {k : En → Tk → Prop} : gT n gs (.tup xs) ρ T k = (xs.length = n ∧ gs xs ρ T k) := propext Iff.rfl
def parK (i j : Nat) (as : List SV) (ρ : En) (T : Tk) (k : En → Tk → Prop) (fz : Fz k := ⟨⟩) : Prop := match as with | [.val d, .val e] => k ((ρ.set i (some (.val d))).set j (some (.val e))) T | _ => False
theorem parK_go {k : En → Tk → Prop} : parK i j [.val d, .val e] ρ T k = setE ((ρ.set i (some (.val d))).set j (some (.val e))) fun ρ => k ρ T := propext Iff.rfl
theorem h_par : sPar i j fr K ρ T = fr ρ T fun as T1 => parK i j as ρ T1 K.nx := propext Iff.rfl
def parK3 (i j l : Nat) (as : List SV) (ρ : En) (T : Tk) (k : En → Tk → Prop) (fz : Fz k := ⟨⟩) : Prop := match as with | [.val d, .val e, .val f] => k (((ρ.set i (some (.val d))).set j (some (.val e))).set l (some (.val f))) T | _ => False
theorem parK3_go {c : D} {k : En → Tk → Prop} : parK3 i j l [.val d, .val e, .val c] ρ T k = setE (((ρ.set i (some (.val d))).set j (some (.val e))).set l (some (.val c))) fun ρ => k ρ T := propext Iff.rfl
theorem h_par3 : sPar3 i j l fr K ρ T = fr ρ T fun as T1 => parK3 i j l as ρ T1 K.nx := propext Iff.rfl
theorem h_parO : sParO i j fa fr K ρ T = fa ρ T fun d T1 => fr ρ T1 fun as T2 => sqK (vals? as) fun ds => ds.length ≤ 1000000 ∧ setE ((ρ.set i (some (.val d))).set j (some (.own ds))) fun ρ => K.nx ρ T2 := propext Iff.rfl
theorem h_parC {so : Sem} : sParC i j m so fa fr K ρ T = fa ρ T fun d T1 => fr ρ T1 fun as T2 => callN m so as T2 fun d2 T3 => lstK d2 fun xs => setE ((ρ.set i (some (.val d))).set j (some (.own xs))) fun ρ => K.nx ρ T3 := propext Iff.rfl
theorem h_par3C {so : Sem} : sPar3C i j l m so fa fb fr K ρ T = fa ρ T fun d T1 => fb ρ T1 fun d' T1 => fr ρ T1 fun as T2 => callN m so as T2 fun d2 T3 => lstK d2 fun xs => setE (((ρ.set i (some (.val d))).set j (some (.val d'))).set l (some (.own xs))) fun ρ => K.nx ρ T3 := propext Iff.rfl
theorem h_own : sOwn i fr K ρ T = fr ρ T fun as T1 => sqK (vals? as) fun ds => ds.length ≤ 1000000 ∧ setE (ρ.set i (some (.own ds))) fun ρ => K.nx ρ T1 := propext Iff.rfl
theorem h_ownC {so : Sem} : sOwnC i m so fr K ρ T = fr ρ T fun as T1 => callN m so as T1 fun d T2 => lstK d fun xs => setE (ρ.set i (some (.own xs))) fun ρ => K.nx ρ T2 := propext Iff.rfl
def ownK (s : Option (Option SV)) (k : List D → Prop) (e : Prop) (fz : Fz (k, e) := ⟨⟩) : Prop := match s with | some (some (.own xs)) => k xs | _ => e
theorem ownK_o {k : List D → Prop} {e : Prop} : ownK (some (some (.own xs))) k e = k xs := propext Iff.rfl
theorem ownK_v {k : List D → Prop} {e : Prop} : ownK (some (some (.val d))) k e = e := propext Iff.rfl
theorem ownK_n {k : List D → Prop} {e : Prop} : ownK (some none) k e = e := propext Iff.rfl
theorem h_frz : sFrz i f K ρ T = ownK ρ[i]? (fun xs => setE (ρ.set i (some (.val (.lst xs)))) fun ρ => f K ρ T) False := propext Iff.rfl
theorem h_frq : sFrq i f K ρ T = ownK ρ[i]? (fun xs => setE (ρ.set i (some (.val (.lst xs)))) fun ρ => f K ρ T) (f K ρ T) := propext Iff.rfl
theorem h_app : sApp i fe K ρ T = ownK ρ[i]? (fun xs => fe ρ T fun d T1 => xs.length < 1000000 ∧ setE (ρ.set i (some (.own (xs ++ [d])))) fun ρ => K.nx ρ T1) False := propext Iff.rfl
theorem h_view : dView i fe ρ T k = ownK ρ[i]? (fun xs => setE (ρ.set i (some (.val (.lst xs)))) fun ρ => fe ρ T fun d T1 => d.noL ∧ D.noLL T1 ∧ k d T1) (fe ρ T k) := propext Iff.rfl
theorem h_viewT {k : Bool → Tk → Prop} : dViewT i ta ρ T k = ownK ρ[i]? (fun xs => setE (ρ.set i (some (.val (.lst xs)))) fun ρ => ta ρ T fun d T1 => D.noLL T1 ∧ k d T1) (ta ρ T k) := propext Iff.rfl
def natK (o : Option Nat) (k : Nat → Prop) (fz : Fz k := ⟨⟩) : Prop := match o with | some m => k m | none => False
theorem natK_go {k : Nat → Prop} : natK (some n) k = k n := propext Iff.rfl
theorem h_gOs {k : En → Tk → Prop} : gOs i fe d ρ T k = ownK ρ[i]? (fun xs => fe ρ T fun j T1 => intK j fun j => natK (ixN xs.length j) fun m => setE (ρ.set i (some (.own (xs.set m d)))) fun ρ => k ρ T1) False := propext Iff.rfl
/-! loops -/
def forK (g : dG) (f : dS) (k : dEnds) (xs : List D) (ρ : En) (T : Tk) (fz : Fz (g, f, k) := ⟨⟩) : Prop := forL g f k xs ρ T
theorem forK_nil : forK tg f K [] ρ T = K.nx ρ T := propext Iff.rfl
theorem forK_cons : forK tg f K (d :: xs) ρ T = tg d ρ T fun ρ1 T1 => f { nx := fun ρ T => forK tg f K xs ρ T, rt := K.rt, bk := K.nx, ct := fun ρ T => forK tg f K xs ρ T } ρ1 T1 := propext Iff.rfl
theorem h_for : sForI fi tg f K ρ T = fi ρ T fun xs T1 => forK tg f K xs ρ T1 := propext Iff.rfl
def lcK (ρ : En) (c : dC1) (tt : dT) (el : dE) (k : List D → Tk → Prop) (xs acc : List D) (T : Tk) (fz : Fz (c, tt, el, k) := ⟨⟩) : Prop := lcD ρ c tt el k xs acc T
def enK (o : Option En) (k : En → Prop) (fz : Fz k := ⟨⟩) : Prop := match o with | some ρ => k ρ | none => False
theorem enK_go {k : En → Prop} : enK (some ρ) k = k ρ := propext Iff.rfl
variable {c : dC1} {el : dE} {kk : List D → Tk → Prop}
theorem lcK_nil : lcK ρ c ta el kk [] xs T = kk xs T := propext Iff.rfl
theorem lcK_cons : lcK ρ c ta el kk (d :: ys) xs T = enK (c d ρ) fun ρ1 => ta ρ1 T fun b T1 => iteB b (el ρ1 T1 fun y T2 => lcK ρ c ta el kk ys (xs ++ [y]) T2) (lcK ρ c ta el kk ys xs T1) := propext Iff.rfl
theorem h_lc {vs : List Nat} : dLc vs fi c ta el ρ T k = fi ρ T fun xs T1 => setE (wipeD ρ vs) fun ρ => lcK ρ c ta el (fun acc T2 => k (.lst acc) T2) xs [] T1 := propext Iff.rfl
theorem h_cN : cN i d ρ = some (ρ.set i (some (.val d))) := rfl
theorem h_cT {is : List Nat} : cT is (.tup xs) ρ = setAll is xs ρ := rfl
theorem h_yes {k : Bool → Tk → Prop} : dYes ρ T k = k true T := propext Iff.rfl
theorem setAll_nil : setAll [] [] ρ = some ρ := rfl
theorem setAll_cons {is : List Nat} : setAll (i :: is) (d :: xs) ρ = setAll is xs (ρ.set i (some (.val d))) := rfl
theorem wipe_nil : wipeD ρ [] = ρ := rfl
theorem wipe_cons {vs : List Nat} : wipeD ρ (i :: vs) = (wipeD ρ vs).set i none := rfl
end
/-! == of data without deep nests -/
mutual
def okN : Nat → D → Prop
  | _, .non => True | _, .bl _ => True | _, .int _ => True | _, .str x => PyData.strOk x = true
  | n, .tup xs => 0 < n ∧ okL (n - 1) xs | n, .lst xs => 0 < n ∧ okL (n - 1) xs | _, .obj _ _ _ => False | _, .ref _ => False | _, .scr _ => False | _, .dct _ _ => False
def okL : Nat → List D → Prop
  | _, [] => True
  | n, x :: r => okN n x ∧ okL n r
end
mutual
theorem okN_ok : ∀ {n : Nat} {d : D}, okN n d → d.isPy = true ∧ d.py.canLay0 = true ∧ d.py.depth ≤ n
  | n, .non, _ => ⟨rfl, rfl, Nat.zero_le _⟩
  | n, .bl _, _ => ⟨rfl, rfl, Nat.zero_le _⟩
  | n, .int _, _ => ⟨rfl, rfl, Nat.zero_le _⟩
  | n, .str x, h => by
    simp only [okN] at h
    exact ⟨rfl, by simp only [D.py, PyData.canLay0]; exact h, by simp only [D.py, PyData.depth]; exact Nat.zero_le _⟩
  | n, .tup xs, h => by
    simp only [okN] at h
    obtain ⟨h1, h2, h3⟩ := okL_ok h.2
    refine ⟨by simpa only [D.isPy] using h1, by simpa only [D.py, PyData.canLay0] using h2, ?_⟩
    simp only [D.py, PyData.depth]
    omega
  | n, .lst xs, h => by
    simp only [okN] at h
    obtain ⟨h1, h2, h3⟩ := okL_ok h.2
    refine ⟨by simpa only [D.isPy] using h1, by simpa only [D.py, PyData.canLay0] using h2, ?_⟩
    simp only [D.py, PyData.depth]
    omega
  | n, .obj _ _ _, h => by simp only [okN] at h
  | n, .ref _, h => by simp only [okN] at h
  | n, .scr _, h => by simp only [okN] at h
  | n, .dct _ _, h => by simp only [okN] at h
theorem okL_ok : ∀ {n : Nat} {xs : List D}, okL n xs → D.isPyL xs = true ∧ PyData.canLayAll0 (D.pyL xs) = true ∧ PyData.depthAll (D.pyL xs) ≤ n
  | n, [], _ => ⟨rfl, rfl, Nat.zero_le _⟩
  | n, x :: r, h => by
    simp only [okL] at h
    obtain ⟨a1, a2, a3⟩ := okN_ok h.1
    obtain ⟨b1, b2, b3⟩ := okL_ok h.2
    refine ⟨by simp only [D.isPyL, a1, b1, Bool.and_self], by simp only [D.pyL, PyData.canLayAll0, a2, b2, Bool.and_self], ?_⟩
    simp only [D.pyL, PyData.depthAll]
    omega
end
theorem okN_eqOk {d : D} (h : okN 60 d) : d.eqOk := by
  obtain ⟨h1, h2, h3⟩ := okN_ok h
  refine ⟨h1, ?_⟩
  unfold SeqAt.shaped
  simp only [h2, Bool.true_and, decide_eq_true_eq]
  omega
theorem okN_t {d : D} (h : okN 60 d) : d.eqOk = True := eq_true (okN_eqOk h)
section
variable {n : Nat} {d : D} {xs : List D} {i : Int} {b : Bool}
theorem okN_non : okN n .non = True := by simp only [okN]
theorem okN_int : okN n (.int i) = True := by simp only [okN]
theorem okN_bl : okN n (.bl b) = True := by simp only [okN]
theorem okN_tup : okN n (.tup xs) = (0 < n ∧ okL (n - 1) xs) := by simp only [okN]
theorem okN_lst : okN n (.lst xs) = (0 < n ∧ okL (n - 1) xs) := by simp only [okN]
theorem okL_nil : okL n [] = True := by simp only [okL]
theorem okL_cons : okL n (d :: xs) = (okN n d ∧ okL n xs) := by simp only [okL]
end
/-! == of unlike kinds -/
section
variable {i j : Int} {b : Bool} {s : Str} {xs ys : List D}
theorem fEq_it : fEq (.int i) (.tup xs) = some ((D.int i).eqOk ∧ (D.tup xs).eqOk, .bl (eqD (.int i) (.tup xs))) := rfl
theorem fEq_ti : fEq (.tup xs) (.int i) = some ((D.tup xs).eqOk ∧ (D.int i).eqOk, .bl (eqD (.tup xs) (.int i))) := rfl
theorem fEq_in : fEq (.int i) .non = some ((D.int i).eqOk ∧ D.non.eqOk, .bl (eqD (.int i) .non)) := rfl
theorem fEq_ni : fEq .non (.int i) = some (D.non.eqOk ∧ (D.int i).eqOk, .bl (eqD .non (.int i))) := rfl
theorem fNe_in : fNe (.int i) .non = some ((D.int i).eqOk ∧ D.non.eqOk, .bl (!eqD (.int i) .non)) := rfl
theorem fNe_ni : fNe .non (.int i) = some (D.non.eqOk ∧ (D.int i).eqOk, .bl (!eqD .non (.int i))) := rfl
end
end L2.G

namespace L2.G
open PySem PySem.Spec PyProof.Rows

/-! is, is not of truth values -/
def bIs (a b : Bool) : Bool := decide (a = b)
theorem bIs_t {a : Bool} : bIs a true = a := by cases a <;> rfl
theorem bIs_f {a : Bool} : bIs a false = !a := by cases a <;> rfl
theorem bIs_s {a : Bool} : bIs a a = true := by cases a <;> rfl
def fIs : D → D → PD | .bl i, .bl j => some (True, .bl (bIs i j)) | _, _ => none
def fIsn : D → D → PD | .bl i, .bl j => some (True, .bl (!bIs i j)) | _, _ => none
theorem fIs_bl {i j : Bool} : fIs (.bl i) (.bl j) = some (True, .bl (bIs i j)) := rfl
theorem fIsn_bl {i j : Bool} : fIsn (.bl i) (.bl j) = some (True, .bl (!bIs i j)) := rfl
section
variable {X : Cx} {a b e : Expr} {fa fb fe : dE} {pos : Pos}
end

/-! xs[::-1] of lists and tuples -/
section
variable {prog : Program} {w : World} {A : Around} {E : Value → Shared → Prop} {s : Shared}
end

section
variable {X : Cx} {e : Expr} {fe : dE}
def D.rev? : D → Option D | .lst xs => some (.lst xs.reverse) | .scr xs => some (.lst xs.reverse) | .tup xs => some (.tup xs.reverse) | _ => none
theorem rev_lst {xs : List D} : D.rev? (.lst xs) = some (.lst xs.reverse) := rfl
theorem rev_scr {xs : List D} : D.rev? (.scr xs) = some (.lst xs.reverse) := rfl
theorem rev_tup {xs : List D} : D.rev? (.tup xs) = some (.tup xs.reverse) := rfl
def dRev (fe : dE) : dE := fun ρ T k => fe ρ T fun x T1 => match x.rev? with | some d => k d T1 | none => False
theorem h_rev {ρ : En} {T : Tk} {k : KD} : dRev fe ρ T k = fe ρ T fun x T1 => opK x.rev? fun d => k d T1 := propext Iff.rfl
end

/-! x = [.. for ..], x a list that this def will change -/
section
variable {X : Cx} {tg : Expr} {pos : Pos}
theorem Ws.ownL {K : PySem.W.Frag} {ρ : En} {T : Tk} {t : Option Addr} {σ : L2.St} {F0 H0 F H : Hp} (w : Ws K ρ T t σ F0 H0 F H) {i : Nat} {l : Addr} {xs : List D} {vs : List V} (hF : F l = none) (hH : H l = some (.lst vs)) (nt : t ≠ some l) (hl0 : H0 l = none)
    (old : ∀ (j : Nat) (ys : List D) (m : Addr), ρ[j]? = some (some (SV.own ys)) → σ[j]? = some (some (V.ref m)) → m ≠ l) (r : RepL K F xs vs) : Ws K (ρ.set i (some (.own xs))) T t (σ.set i (some (.ref l))) F0 H0 F H := by
  refine ⟨⟨w.w.wt, by simpa using w.w.len, fun j s e => ?_, fun j j' ys zs m e1 e2 e3 e4 => ?_⟩, w.g, fun j s m e1 m1 e2 => ?_⟩
  · rcases getSet e with ⟨rfl, hl, e'⟩ | ⟨ne, e'⟩
    · cases e'
      exact ⟨.ref l, by rw [List.getElem?_set_self (by rw [← w.w.len]; exact hl)], l, vs, rfl, hF, hH, r, nt⟩
    · obtain ⟨u, h1, h2⟩ := w.w.slot j s e'
      exact ⟨u, by rw [List.getElem?_set_ne ne]; exact h1, h2⟩
  · rcases getSet e1 with ⟨rfl, hl1, _⟩ | ⟨n1, e1⟩
    · rcases getSet e2 with ⟨rfl, _, _⟩ | ⟨n2, e2⟩
      · rfl
      · rw [List.getElem?_set_self (by rw [← w.w.len]; exact hl1)] at e3
        cases e3
        rw [List.getElem?_set_ne n2] at e4
        exact absurd rfl (old j' zs _ e2 e4)
    · rw [List.getElem?_set_ne n1] at e3
      rcases getSet e2 with ⟨rfl, hl2, _⟩ | ⟨n2, e2⟩
      · rw [List.getElem?_set_self (by rw [← w.w.len]; exact hl2)] at e4
        cases e4
        exact absurd rfl (old j ys _ e1 e3)
      · rw [List.getElem?_set_ne n2] at e4
        exact w.w.apart j j' ys zs m e1 e2 e3 e4
  · rcases getSet e1 with ⟨rfl, hl1, _⟩ | ⟨n1, e1⟩
    · rw [List.getElem?_set_self (by rw [← w.w.len]; exact hl1)] at e2
      cases e2
      exact hl0
    · rw [List.getElem?_set_ne n1] at e2
      exact w.fr j s m e1 m1 e2
def sLcO (i : Nat) (vs : List Nat) (fi : dI) (c : dC1) (tt : dT) (el : dE) : dS := fun k ρ T => fi ρ T fun xs T1 => lcD (wipeD ρ vs) c tt el (fun acc T2 => k.nx (ρ.set i (some (.own acc))) T2) xs [] T1
theorem h_lcO {i : Nat} {vs : List Nat} {fi : dI} {c : dC1} {ta : dT} {el : dE} {K : dEnds} {ρ : En} {T : Tk} : sLcO i vs fi c ta el K ρ T = fi ρ T fun xs T1 => setE (wipeD ρ vs) fun ρ' => lcK ρ' c ta el (fun acc T2 => setE (ρ.set i (some (.own acc))) fun ρ => K.nx ρ T2) xs [] T1 := propext Iff.rfl
end

/-! {} and {"x": e}: dicts that are only handed on -/
section
variable {X : Cx} {e : Expr} {fe : dE} {pos p1 : Pos} {j : Nat}
def dDct0 : dE := fun _ T k => k (.dct [] []) T
theorem h_dct0 {ρ : En} {T : Tk} {k : KD} : dDct0 ρ T k = k (.dct [] []) T := propext Iff.rfl
def dDct1 (x : Str) (fe : dE) : dE := fun ρ T k => fe ρ T fun d T1 => k (.dct [.inr x] [d]) T1
theorem h_dct1 {x : Str} {ρ : En} {T : Tk} {k : KD} : dDct1 x fe ρ T k = fe ρ T fun d T1 => k (.dct [.inr x] [d]) T1 := propext Iff.rfl
end
theorem isTy_dct {T : Ty} {ks : List Key} {ds : List D} : isTy T (.dct ks ds) = some false := by cases T <;> rfl
theorem isNon_dct {ks : List Key} {ds : List D} : (D.dct ks ds).isNon = false := rfl
end L2.G

namespace L2.G
open PySem PySem.Spec PyProof.Rows
/-! the greatest of a list of ints -/
def mxL (n : Int) (r : List Int) : Int := r.foldl (fun a b => if b > a then b else a) n
def mxR : Option (List Int) → PD | some (n :: r) => some (True, .int (mxL n r)) | _ => none
def fMaxL : List D → PD | [.lst xs] => mxR (nums? xs) | _ => none
theorem fMaxL_lst {xs : List D} : fMaxL [.lst xs] = mxR (nums? xs) := rfl
theorem mxR_some {n : Int} {r : List Int} : mxR (some (n :: r)) = some (True, .int (mxL n r)) := rfl
section
variable {X : Cx} {a b e : Expr} {fa fb fe : dE} {fr : dA} {p pos : Pos} {n : Nat} {es : List Expr} {tg : Expr}
end
end L2.G

namespace L2.G
open PySem PySem.Spec PyProof.Rows
/-! arguments by name, in another order -/
def pmC {α : Type} (o : Option α) (r : List α) : List α := match o with | some x => x :: r | none => r
def permL {α : Type} : List Nat → List α → List α
  | [], _ => []
  | i :: is, xs => pmC xs[i]? (permL is xs)
section
variable {X : Cx} {CX : CXT} {n : Nat} {f : Addr} {fd : FuncData} {ps ks : List Str} {sp : Sp} {E : XK} {x : Str} {p pos : Pos} {kws : List Keyword} {tk : TA}
end
section
variable {X : Cx} {n : Nat} {x : Str} {ps ks : List Str} {sem : Sem} {p pos : Pos} {kws : List Keyword} {fr : dA} {st : Stmt} {is : List Nat}
def dCallP (n : Nat) (is : List Nat) (sem : Sem) (fr : dA) : dE := fun ρ T k => fr ρ T fun as T1 => as.length = n ∧ (permL is as).length = n ∧ sem (permL is as) T1 k
end
/-! the walker -/
def callP (n : Nat) (is : List Nat) (s : Sem) (as : List SV) (T : Tk) (k : KD) (fz : Fz k := ⟨⟩) : Prop := as.length = n ∧ (permL is as).length = n ∧ s (permL is as) T k
theorem h_callP {n : Nat} {is : List Nat} {s : Sem} {fr : dA} {ρ : En} {T : Tk} {k : KD} : dCallP n is s fr ρ T k = fr ρ T fun as T1 => callP n is s as T1 k := propext Iff.rfl
theorem callP_go {n : Nat} {is : List Nat} {s : Sem} {as : List SV} {T : Tk} {k : KD} : callP n is s as T k = (as.length = n ∧ (permL is as).length = n ∧ callS s (permL is as) T k) := propext Iff.rfl
theorem permL_n {α : Type} {xs : List α} : permL [] xs = [] := rfl
theorem permL_c {α : Type} {i : Nat} {is : List Nat} {xs : List α} : permL (i :: is) xs = pmC xs[i]? (permL is xs) := rfl
theorem pmC_s {α : Type} {x : α} {r : List α} : pmC (some x) r = x :: r := rfl
end L2.G

namespace L2.G
open PySem PySem.Spec PyProof.Rows
/-! sorted lists of tuples of ints, of either sign: over the library's sort of tuples by their keys -/
/-! over data -/
def tI (ns : List Int) : D := .tup (ns.map D.int)
/-- the order of tuples of one length -/
def lexLt : List Int → List Int → Bool
  | a :: r, b :: q => if a < b then true else if b < a then false else lexLt r q
  | _, _ => false
def insL (x : List Int) : List (List Int) → List (List Int)
  | [] => [x]
  | y :: r => if lexLt y x then y :: insL x r else x :: y :: r
def isort : List (List Int) → List (List Int)
  | [] => []
  | x :: r => insL x (isort r)
/-! the library's key of a tuple of ints -/
abbrev noS : Nat → Bool := fun _ => false
section
variable {X : Cx} {pins : List (Addr × Obj)} {σ : L2.St} {H : Hp} {s : Shared}
end
def tups? : List D → Option (List (List Int))
  | [] => some []
  | .tup xs :: r => match nums? xs, tups? r with | some n, some m => some (n :: m) | _, _ => none
  | _ :: _ => none
def TupsD (nss : List (List Int)) : Prop := nss.length < 64 ∧ ∃ d, 1 ≤ d ∧ ∀ n ∈ nss, n.length = d
def stR : Option (List (List Int)) → PD | some nss => some (TupsD nss, .lst ((isort nss).map tI)) | none => none
def fSortT : List D → PD | [.lst xs] => stR (tups? xs) | _ => none
theorem fSortT_lst {xs : List D} : fSortT [.lst xs] = stR (tups? xs) := rfl
theorem stR_some {n : List (List Int)} : stR (some n) = some (TupsD n, .lst ((isort n).map tI)) := rfl
section
variable {X : Cx} {e : Expr} {fr : dA} {p pos : Pos} {es : List Expr}
end
/-! bit_length -/
def bitI (i : Int) : Int := (Builtin.Int.intBits i : Nat)
def fBitL : D → D → PD | .int i, _ => some (True, .int (bitI i)) | _, _ => none
theorem fBitL_int {i : Int} {d : D} : fBitL (.int i) d = some (True, .int (bitI i)) := rfl
/-! short lists -/
theorem tups_nil : tups? [] = some [] := rfl
def tpC : Option (List Int) → Option (List (List Int)) → Option (List (List Int)) | some n, some m => some (n :: m) | _, _ => none
theorem tups_c {xs r : List D} : tups? (.tup xs :: r) = tpC (nums? xs) (tups? r) := rfl
theorem tpC_some {n : List Int} {m : List (List Int)} : tpC (some n) (some m) = some (n :: m) := rfl
end L2.G

namespace L2.G
open PySem PySem.Spec PyProof.Rows
/-! a call whose first arguments stand by place and whose later ones by name -/
def aApp (m n : Nat) (f g : dA) : dA := fun ρ T k => f ρ T fun as T1 => g ρ T1 fun bs T2 => as.length = m ∧ bs.length = n ∧ k (as ++ bs) T2
section
variable {X : Cx} {CX : CXT} {n m : Nat} {f : Addr} {fd : FuncData} {ps ks : List Str} {sp : Sp} {E : XK} {x : Str} {p pos : Pos} {e : Expr} {es : List Expr} {kws : List Keyword} {t tk : TA}
end
section
variable {X : Cx} {n m : Nat} {x : Str} {ps ks : List Str} {sem : Sem} {p pos : Pos} {e : Expr} {es : List Expr} {kws : List Keyword} {fa fr : dA} {st : Stmt} {is : List Nat}
end
/-! the walker -/
theorem h_aApp {m n : Nat} {f g : dA} {ρ : En} {T : Tk} {k : List SV → Tk → Prop} : aApp m n f g ρ T k = f ρ T fun as T1 => g ρ T1 fun bs T2 => as.length = m ∧ bs.length = n ∧ k (as ++ bs) T2 := propext Iff.rfl
end L2.G

namespace L2.G
open PySem PySem.Spec PyProof.Rows
/-! x, y = [..], a where x's list is its own -/
section
variable {X : Cx} {a : Expr} {es : List Expr} {fa : dE} {fr : dA} {pos : Pos}
def sParF (i j : Nat) (fr : dA) (fa : dE) : dS := fun k ρ T => fr ρ T fun as T1 => match vals? as with | some ds => ds.length ≤ 1000000 ∧ fa ρ T1 fun d T2 => k.nx ((ρ.set i (some (.own ds))).set j (some (.val d))) T2 | none => False
end
/-! the walker -/
theorem h_parF {i j : Nat} {fa : dE} {fr : dA} {K : dEnds} {ρ : En} {T : Tk} : sParF i j fr fa K ρ T = fr ρ T fun as T1 => sqK (vals? as) fun ds => ds.length ≤ 1000000 ∧ fa ρ T1 fun d T2 => setE ((ρ.set i (some (.own ds))).set j (some (.val d))) fun ρ => K.nx ρ T2 := propext Iff.rfl
end L2.G

namespace L2.G
open PySem PySem.Spec PyProof.Rows
/-! the head: what the top leaves, read by one run off the tree (nothing of the top is written out) -/
/-- the value u is the data d; g tells the object at an address -/
def repB (g : Addr → Option Obj) : Nat → D → Value → Bool
  | 0, _, _ => false
  | _ + 1, .int i, .int j _ => decide (i = j)
  | _ + 1, .str i, .str j _ => decide (i = j)
  | _ + 1, .bl i, .bool j => i == j
  | _ + 1, .non, .none => true
  | n + 1, .tup ds, .ref a => (match g a with
    | some ⟨.type c, _, .seq its _, _⟩ => decide (c = "tuple") && (Nat.ble its.size 1000000 && (Nat.beq ds.length its.toList.length && (ds.zip its.toList).all fun p => repB g n p.1 p.2))
    | _ => false)
  | _ + 1, _, _ => false
/-- the objects within a value -/
def inV (g : Addr → Option Obj) : Nat → Value → List Addr
  | 0, _ => []
  | n + 1, .ref a => a :: (match g a with
    | some ⟨_, _, .seq its _, _⟩ => its.toList.flatMap (inV g n)
    | _ => [])
  | _ + 1, _ => []
theorem repB_l {g : Addr → Option Obj} {K : PySem.W.Frag} {n : Nat} (ih : ∀ {d : D} {u : Value}, (∀ a ∈ inV g n u, ∀ o, g a = some o → K.lookup a = some o) → repB g n d u = true → GRep K d u) : ∀ {ds : List D} {us : List Value}, (∀ a ∈ us.flatMap (inV g n), ∀ o, g a = some o → K.lookup a = some o) → ds.length = us.length → ((ds.zip us).all fun p => repB g n p.1 p.2) = true → GRepL K ds us
  | [], [], _, _, _ => .nil
  | [], _ :: _, _, e, _ => by simp at e
  | _ :: _, [], _, e, _ => by simp at e
  | d :: ds, u :: us, k, e, h => by
    rw [List.zip_cons_cons, List.all_cons, Bool.and_eq_true] at h
    rw [List.flatMap_cons] at k
    exact .cons (ih (fun a q => k a (List.mem_append.mpr (.inl q))) h.1) (repB_l ih (fun a q => k a (List.mem_append.mpr (.inr q))) (by simpa using e) h.2)
theorem repB_ok {g : Addr → Option Obj} {K : PySem.W.Frag} : ∀ {n : Nat} {d : D} {u : Value}, (∀ a ∈ inV g n u, ∀ o, g a = some o → K.lookup a = some o) → repB g n d u = true → GRep K d u
  | 0, _, _, _, h => nomatch h
  | n + 1, d, u, k, h => by
    have ih := fun {d u} => repB_ok (g := g) (K := K) (n := n) (d := d) (u := u)
    cases d with
    | int i =>
      cases u with
      | int j t => have e : i = j := of_decide_eq_true h; subst e; exact .int _ _
      | _ => exact nomatch h
    | str i =>
      cases u with
      | str j t => have e : i = j := of_decide_eq_true h; subst e; exact .str _ _
      | _ => exact nomatch h
    | bl i =>
      cases u with
      | bool j => have e : i = j := eq_of_beq h; subst e; exact .bl _
      | _ => exact nomatch h
    | non =>
      cases u with
      | none => exact .non
      | _ => exact nomatch h
    | tup ds =>
      cases u with
      | ref a =>
        have h1 : (match g a with
          | some ⟨.type c, _, .seq its _, _⟩ => decide (c = "tuple") && (Nat.ble its.size 1000000 && (Nat.beq ds.length its.toList.length && (ds.zip its.toList).all fun p => repB g n p.1 p.2))
          | _ => false) = true := h
        have k1 : ∀ b ∈ a :: (match g a with
          | some ⟨_, _, .seq its _, _⟩ => its.toList.flatMap (inV g n)
          | _ => []), ∀ o, g b = some o → K.lookup b = some o := k
        cases q : g a with
        | none => rw [q] at h1; cases h1
        | some o =>
          have q2 := k1 a List.mem_cons_self o q
          obtain ⟨oc, od, dt, osl⟩ := o
          rw [q] at h1 k1
          cases oc with
          | type c =>
            cases dt with
            | seq its m =>
              have h2 : (decide (c = "tuple") && (Nat.ble its.size 1000000 && (Nat.beq ds.length its.toList.length && (ds.zip its.toList).all fun p => repB g n p.1 p.2))) = true := h1
              simp only [Bool.and_eq_true] at h2
              obtain ⟨a1, a2, a3, a4⟩ := h2
              have e := of_decide_eq_true a1
              subst e
              exact .tup q2 (repB_l ih (fun b qb => k1 b (List.mem_cons_of_mem _ qb)) (Nat.eq_of_beq_eq_true a3) a4) (Nat.le_of_ble_eq_true a2)
            | _ => cases h1
          | _ => cases dt <;> cases h1
      | _ => exact nomatch h
    | _ => cases u <;> exact nomatch h
/-! dicts of the module whose keys are tuples of ints, whose values are ints -/
def thI (k : List Int) : Int := reduceHash (Builtin.Tuple.tupleHashOf (k.map hashInt))
/-- an entry as it lies: key, its tuple's address, value -/
abbrev GE := List Int × Addr × Int × Tok
def geE (y : GE) : DictEntry := ⟨thI y.1, .ref y.2.1, .int y.2.2.1 y.2.2.2⟩
def entB (g : Addr → Option Obj) (c : List Int × Int) (e : DictEntry) : Bool := decide (e.hash = thI c.1) && (repB g 3 (tI c.1) e.key && (match e.val with
  | .int j _ => decide (j = c.2)
  | _ => false))
theorem entB_l {g : Addr → Option Obj} {K : PySem.W.Frag} : ∀ {kvs : List (List Int × Int)} {es : List DictEntry}, (∀ e ∈ es, ∀ a ∈ inV g 3 e.key, ∀ o, g a = some o → K.lookup a = some o) → kvs.length = es.length → ((kvs.zip es).all fun p => entB g p.1 p.2) = true →
    ∃ L : List GE, es = L.map geE ∧ (∀ y ∈ L, GRep K (tI y.1) (.ref y.2.1)) ∧ L.map (fun y => (y.1, y.2.2.1)) = kvs
  | [], [], _, _, _ => ⟨[], rfl, fun _ h => (nomatch h), rfl⟩
  | [], _ :: _, _, e, _ => by simp at e
  | _ :: _, [], _, e, _ => by simp at e
  | c :: kvs, e :: es, h, hl, hb => by
    rw [List.zip_cons_cons, List.all_cons, Bool.and_eq_true] at hb
    obtain ⟨L, h1, h2, h3⟩ := entB_l (fun e he => h e (List.mem_cons_of_mem _ he)) (by simpa using hl) hb.2
    obtain ⟨hh, key, val⟩ := e
    have b := hb.1
    unfold entB at b
    simp only [Bool.and_eq_true, decide_eq_true_eq] at b
    obtain ⟨b1, b2, b3⟩ := b
    have r := repB_ok (g := g) (K := K) (fun a ha o ho => h _ List.mem_cons_self a ha o ho) b2
    cases val with
    | int j t =>
      have b4 : j = c.2 := of_decide_eq_true b3
      unfold tI at r
      cases r with
      | tup q1 q2 q3 =>
        refine ⟨(c.1, _, j, t) :: L, by rw [h1, List.map_cons]; show _ = geE (c.1, _, j, t) :: _; unfold geE; rw [← b1], fun y hy => ?_, by rw [List.map_cons, h3, b4]⟩
        rcases List.mem_cons.mp hy with rfl | hy
        · unfold tI; exact .tup q1 q2 q3
        · exact h2 y hy
    | _ => cases b3
/-- what is read: defs, names that stand for no name of the module, built-ins that were brought in, constants -/
structure Hd where
  defs : List (Str × Stmt)
  free : List Str
  blt : List (Str × String)
  cons : List (Str × D)
  cls : List Str := []
  prs : List (Str × Str) := []
  /-- classes with an own __init__: name, field, qualified name, the def -/
  ini : List (Str × Str × Str × Stmt) := []
  /-- classes whose instances isinstance asks -/
  exs : List Str := []
  kis : List (Str × Str × Bool) := []
  kib : List (Str × String × Bool) := []
  /-- the dict of all modules stands where it does -/
  sys : Bool := false
  /-- the defs that make lambdas -/
  lam : List Str := []
  /-- dicts of tuples of ints to ints -/
  tab : List (Str × List (List Int × Int)) := []
def hdD (d : Str × Stmt) : He.FnD := ⟨(d.1, none), d.1, d.1, defArgs d.2, defBody d.2, defScope d.2⟩
def lkE (es : List DictEntry) (x : Str) : Option Value := (es.find? (·.key.isStr x)).map (·.val)
def codB (g : Addr → Option Obj) (cd : Value) (q : Str) : Bool := match cd with
  | .ref c => (match g c with
    | some ⟨_, _, .fields vs, _⟩ => (match vs.toList with
      | _ :: .str n _ :: _ => n == q
      | _ => false)
    | _ => false)
  | _ => false
/-- a def as the heap has it -/
def defV (g : Addr → Option Obj) (es : List DictEntry) (x : Str) : Bool × He.FnV := match lkE es x with
  | some (.ref f) => (match g f with
    | some ⟨_, _, .func fd, _⟩ => (codB g fd.code x, some (fd.name, fd.qualname, fd.params, fd.body, fd.scope, fd.globals, fd.closure, fd.defaults, fd.builtins))
    | _ => (false, none))
  | _ => (false, none)
def bltB (es : List DictEntry) (x : Str × String) : Bool := match lkE es x.1 with
  | some (.builtin m) => decide (m = x.2)
  | _ => false
def conB (g : Addr → Option Obj) (es : List DictEntry) (c : Str × D) : Bool := match lkE es c.1 with
  | some u => repB g 9 c.2 u
  | none => false
def adV : Value → List Addr
  | .ref a => [a]
  | _ => []
def gtB (g : Addr → Option Obj) (es : List DictEntry) (c : Str × List (List Int × Int)) : Bool := match lkE es c.1 with
  | some (.ref a) => !(a == sysModules) && (match g a with
    | some ⟨.type t, none, .dict es2 _, sl⟩ => decide (t = "dict") && (sl.toList.isEmpty && (Nat.beq c.2.length es2.toList.length && (c.2.zip es2.toList).all fun p => entB g p.1 p.2))
    | _ => false)
  | _ => false
/-- the tuples that are keys -/
def keyAs (g : Addr → Option Obj) (a : Addr) : List Addr := match g a with
  | some ⟨_, _, .dict es2 _, _⟩ => es2.toList.flatMap fun e => inV g 3 e.key
  | _ => []
/-- the addresses that the facts lean on -/
def asOf (g : Addr → Option Obj) (es : List DictEntry) : List Addr := mainGlobals :: (es.flatMap fun e => adV e.val ++ ((adV e.val).flatMap fun f => match g f with
  | some ⟨_, _, .func fd, _⟩ => adV fd.code
  | _ => []) ++ (inV g 9 e.val ++ (adV e.val).flatMap (keyAs g)))
/-- the addresses of own classes -/
def clsAs1 (g : Addr → Option Obj) (es : List DictEntry) (x : Str) : List Addr := match lkE es x with
  | some (.ref C) => (match g C with
    | some ⟨_, _, .cls cd, _⟩ => C :: cd.ns :: (cd.mro.flatMap fun v => (match v with
      | .ref A => A :: (match g A with
        | some ⟨_, _, .cls cd2, _⟩ => [cd2.ns]
        | _ => [])
      | _ => [])) ++ (match g cd.ns with
        | some ⟨_, _, .dict es2 _, _⟩ => (match lkE es2.toList "__init__" with
          | some (.ref f) => f :: (match g f with
            | some ⟨_, _, .func fd, _⟩ => adV fd.code
            | _ => [])
          | _ => [])
        | _ => [])
    | _ => [])
  | _ => []
def clsAs (g : Addr → Option Obj) (es : List DictEntry) (cls : List Str) : List Addr := cls.flatMap (clsAs1 g es)
/-- an own class without own __init__ over ValueError -/
def xcB (K : PySem.W.Frag) (C : Addr) : Bool := PySem.W.excIn K C PySem.HandSPX.veTail "ValueError.__new__" && (PySem.W.keepIn K (.ref C) && (PySem.W.subIn K (.ref C) (.type "BaseException") == some true && PySem.W.typeIn K (.ref C) == some (.type "type")))
def xcE (K : PySem.W.Frag) (es : List DictEntry) (x : Str) : Bool := match lkE es x with
  | some (.ref C) => xcB K C
  | _ => false
def prE (K : PySem.W.Frag) (es : List DictEntry) (p : Str × Str) : Bool := match lkE es p.1, lkE es p.2 with
  | some u, some (.ref C) => PySem.W.exmOne K u (.ref C) == some true
  | _, _ => false
/-- an own class with an own __init__ over ValueError -/
def xgC (K : PySem.W.Frag) (C : Addr) : Bool := match K.lookup C with
  | some ⟨.type "type", _, .cls cd, sl⟩ => (match cd.mro, sl.toList with
    | .ref C' :: bm, [_, _, _, _, some (.builtin n), _] => C' == C && n == "ValueError.__new__" && !cd.hasDel && cd.hasDict && PySem.HandSPX.refsVE bm
    | _, _ => false)
  | _ => false
/-- an own class whose instances are made -/
def mkB (K : PySem.W.Frag) (C : Addr) (c : Str) (f : Addr) : Bool := PySem.W.makesIn K C && (PySem.W.findIn K (.ref C) "__init__" == some (some (.ref f)) && (PySem.W.isFn K (.ref f) && (PySem.W.keepIn K (.ref C) && (PySem.W.keepIn K (.ref f) && (PySem.W.plainGet K C Str.empty && (PySem.W.hasDictIn K C &&
  (PySem.W.plainOver K C && (PySem.W.findIn K (.ref C) "__setattr__" == some (some (.builtin "object.__setattr__")) && (flds c).all fun n => PySem.W.findIn K (.ref C) n == some none))))))))
def isGv (fl : Str) : Bool := decide (fl = "given") || decide (fl = "index")
def xgB (K : PySem.W.Frag) (C : Addr) (fl : Str) (f : Addr) : Bool := if isGv fl = false then mkB K C fl f else xgC K C && (PySem.W.findIn K (.ref C) "__setattr__" == some (some (.builtin "object.__setattr__")) &&
  (PySem.W.findIn K (.ref C) "__getattribute__" == some (some (.builtin "BaseException.__getattribute__")) && (PySem.W.findIn K (.ref C) "__getattr__" == some none && (PySem.W.findIn K (.ref C) fl == some none &&
  (PySem.W.findIn K (.ref C) "__init__" == some (some (.ref f)) && (PySem.W.typeIn K (.ref f) == some (.type "function") && (PySem.W.keepIn K (.ref C) && (PySem.W.subIn K (.ref C) (.type "BaseException") == some true &&
  (PySem.W.typeIn K (.ref C) == some (.type "type") && (PySem.W.hasDictIn K C && PySem.W.exmOne K (.ref C) (.ref C) == some true))))))))))
/-- a class whose instances isinstance asks -/
def exB (K : PySem.W.Frag) (C : Addr) : Bool := PySem.W.findIn K (.ref C) "__getattribute__" == some (some (.builtin "BaseException.__getattribute__")) && (PySem.W.findIn K (.ref C) "__getattr__" == some none &&
  (PySem.W.subIn K (.ref C) (.type "BaseException") == some true && (PySem.W.hasDictIn K C && (PySem.W.findIn K (.ref C) "__class__" == some (some (.builtin "object.__class__")) &&
  (PySem.W.specialIn K (.builtin "object.__class__") "__get__" == some (some (.builtin "getset_descriptor.__get__")) && (PySem.W.takesIn K (.builtin "object.__class__") == some true && PySem.W.mroIn K C (.type "object") == some true))))))
def exE (K : PySem.W.Frag) (es : List DictEntry) (x : Str) : Bool := match lkE es x with
  | some (.ref C) => exB K C
  | _ => false
def kisE (K : PySem.W.Frag) (es : List DictEntry) (p : Str × Str × Bool) : Bool := match lkE es p.1, lkE es p.2.1 with
  | some u, some (.ref C) => PySem.W.kitOne K u (.ref C) == some p.2.2
  | _, _ => false
def kibE (K : PySem.W.Frag) (es : List DictEntry) (p : Str × String × Bool) : Bool := match lkE es p.1 with
  | some u => PySem.W.kitOne K u (.type p.2.1) == some p.2.2
  | _ => false
/-- the __init__ of a class as the heap has it -/
def iniV (K : PySem.W.Frag) (es : List DictEntry) (i : Str × Str × Str × Stmt) : Bool × He.FnV := match lkE es i.1 with
  | some (.ref C) => (match PySem.W.findIn K (.ref C) "__init__" with
    | some (some (.ref f)) => (match K.lookup f with
      | some ⟨_, _, .func fd, _⟩ => (xgB K C i.2.1 f && PySem.W.codeIn K fd.code i.2.2.1, some (fd.name, fd.qualname, fd.params, fd.body, fd.scope, fd.globals, fd.closure, fd.defaults, fd.builtins))
      | _ => (false, none))
    | _ => (false, none))
  | _ => (false, none)
def iniD (i : Str × Str × Str × Stmt) : He.FnV := some (("__init__" : Str), i.2.2.1, defArgs i.2.2.2, .stmts (defBody i.2.2.2), defScope i.2.2.2, mainGlobals, [], .none, builtinsNs)
abbrev HdA : Type := Bool × List (Bool × He.FnV)
def sysB (K : PySem.W.Frag) : Bool := match K.lookup sysModules with
  | some ⟨.type c, _, _, _⟩ => decide (c = "dict")
  | _ => false
def stB : Value → Bool | .str _ _ => true | _ => false
def itB : Value → Bool | .int _ _ => true | _ => false
def boB : Value → Bool | .bool _ => true | _ => false
def reB (P : Addr) : Value → Bool | .ref b => Nat.beq b P | _ => false
/-- the code object at c, whose table is at P -/
def codeB (K : PySem.W.Frag) (c P : Addr) : Bool := match K.lookup c with
  | some ⟨.type k, _, .fields vs, _⟩ => decide (k = "code") && ((match (vs[11]? : Option Value) with | some v => reB P v | none => false) && (reB P (vs.getD 11 .none) && (stB (vs.getD 18 .none) && (itB (vs.getD 7 .none) && (boB (vs.getD 9 .none) && (itB (vs.getD 10 .none) && !Nat.beq c P))))))
  | _ => false
/-- the module of the built-ins -/
def bmB (K : PySem.W.Frag) (P : Addr) : Bool := match PySem.W.nsIn K mainGlobals "__builtins__" with
  | some (some (.ref bm)) => !Nat.beq bm builtinsNs && (!Nat.beq bm mainGlobals && (!Nat.beq bm P && (match K.lookup bm with
    | some ⟨.type m, some d, .plain, _⟩ => decide (m = "module") && Nat.beq d builtinsNs
    | _ => false)))
  | _ => false
def lamB (K : PySem.W.Frag) (x : Str) : Bool := match PySem.W.nsIn K mainGlobals x with
  | some (some (.ref f)) => (match K.lookup f with
    | some ⟨_, _, .func fd, _⟩ => (match fd.code with
      | .ref c => (match tabOf K x with
        | some (P, _) => codeB K c P && (bmB K P && ((K.lookup P).isNone && !Nat.beq mainGlobals P))
        | none => false)
      | _ => false)
    | _ => false)
  | _ => false
def ndB : List Addr → Bool
  | [] => true
  | a :: r => r.all (fun b => !Nat.beq a b) && ndB r
def lamsB (z : Hd) (K : PySem.W.Frag) : Bool := z.lam.isEmpty || (z.lam.all (lamB K) && ndB ((tabsOf K).map (·.1)))
/-- an empty table -/
def tabE : Option Obj → Bool
  | some ⟨.none, none, .fields vs, sl⟩ => vs.toList.isEmpty && sl.toList.isEmpty
  | _ => false
def tabsE (z : Hd) (g : Addr → Option Obj) (K : PySem.W.Frag) : Bool := z.lam.isEmpty || (tabsOf K).all fun p => tabE (g p.1)
def Hd.obsK (z : Hd) (g : Addr → Option Obj) (es : List DictEntry) (K : PySem.W.Frag) : HdA :=
  (!es.any (·.refKey) && (z.free.all (fun x => (lkE es x).isNone) && (z.blt.all (bltB es) && (z.cons.all (conB g es) && (z.tab.all (gtB g es) && (z.cls.all (xcE K es) && (z.prs.all (prE K es) && (z.exs.all (exE K es) && (z.kis.all (kisE K es) && (z.kib.all (kibE K es) && ((!z.sys || sysB K) && (lamsB z K && tabsE z g K))))))))))), (z.defs.map fun d => defV g es d.1) ++ z.ini.map (iniV K es))
def Hd.obsE (z : Hd) (g : Addr → Option Obj) (es : List DictEntry) : HdA := z.obsK g es (He.frG g (sysModules :: clsAs g es (z.cls ++ (z.exs ++ z.ini.map (·.1))) ++ asOf g es))
def Hd.obsG (z : Hd) (g : Addr → Option Obj) : HdA := match g mainGlobals with
  | some ⟨_, _, .dict es _, _⟩ => z.obsE g es.toList
  | _ => (false, [])
def Hd.val (z : Hd) : HdA := (true, (z.defs.map fun d => (true, (hdD d).val)) ++ z.ini.map fun i => (true, iniD i))
/-- a def stands in the module -/
def DefK (K : PySem.W.Frag) (d : Str × Stmt) : Prop := ∃ (f : Addr) (oc : Value) (od : Option Addr) (osl : Array (Option Value)) (kV doc pm : Value) (an : Option Addr) (cdv ct : Value), PySem.W.nsIn K mainGlobals d.1 = some (some (.ref f)) ∧
  K.lookup f = some ⟨oc, od, .func (PySem.W.fnOf d.1 d.1 (defArgs d.2) (defBody d.2) (defScope d.2) .none kV doc pm an cdv ct), osl⟩ ∧ PySem.W.codeIn K cdv d.1 = true
structure Hd.Says (z : Hd) (K : PySem.W.Frag) : Prop where
  d : ∀ d ∈ z.defs, DefK K d
  f : ∀ x ∈ z.free, PySem.W.nsIn K mainGlobals x = some none
  b : ∀ x ∈ z.blt, PySem.W.nsIn K mainGlobals x.1 = some (some (.builtin x.2))
  c : ∀ c ∈ z.cons, ∃ u, PySem.W.nsIn K mainGlobals c.1 = some (some u) ∧ GRep K c.2 u
  g : ∀ c ∈ z.tab, ∃ (a : Addr) (es : Array DictEntry) (n : Nat) (L : List GE), PySem.W.nsIn K mainGlobals c.1 = some (some (.ref a)) ∧ (a == sysModules) = false ∧ K.lookup a = some ⟨.type "dict", none, .dict es n, #[]⟩ ∧
    es.toList = L.map geE ∧ (∀ y ∈ L, GRep K (tI y.1) (.ref y.2.1)) ∧ L.map (fun y => (y.1, y.2.2.1)) = c.2
  x : ∀ x ∈ z.cls, ∃ C, PySem.W.nsIn K mainGlobals x = some (some (.ref C)) ∧ xcB K C = true
  p : ∀ p ∈ z.prs, ∃ u C, PySem.W.nsIn K mainGlobals p.1 = some (some u) ∧ PySem.W.nsIn K mainGlobals p.2 = some (some (.ref C)) ∧ PySem.W.exmOne K u (.ref C) = some true
  i : ∀ i ∈ z.ini, ∃ (C f : Addr) (oc : Value) (od : Option Addr) (osl : Array (Option Value)) (kV doc pm : Value) (an : Option Addr) (cdv ct : Value), PySem.W.nsIn K mainGlobals i.1 = some (some (.ref C)) ∧ xgB K C i.2.1 f = true ∧
    K.lookup f = some ⟨oc, od, .func (PySem.W.fnOf "__init__" i.2.2.1 (defArgs i.2.2.2) (defBody i.2.2.2) (defScope i.2.2.2) .none kV doc pm an cdv ct), osl⟩ ∧ PySem.W.codeIn K cdv i.2.2.1 = true
  e : ∀ x ∈ z.exs, ∃ C, PySem.W.nsIn K mainGlobals x = some (some (.ref C)) ∧ exB K C = true
  ki : ∀ p ∈ z.kis, ∃ u C, PySem.W.nsIn K mainGlobals p.1 = some (some u) ∧ PySem.W.nsIn K mainGlobals p.2.1 = some (some (.ref C)) ∧ PySem.W.kitOne K u (.ref C) = some p.2.2
  sy : z.sys = true → ∃ o, K.lookup sysModules = some o ∧ o.cls = .type "dict"
  lm : lamsB z K = true
  kb : ∀ p ∈ z.kib, ∃ u, PySem.W.nsIn K mainGlobals p.1 = some (some u) ∧ PySem.W.kitOne K u (.type p.2.1) = some p.2.2
theorem frG_has {g : Addr → Option Obj} {a : Addr} {o : Obj} (h : g a = some o) : ∀ {as : List Addr}, a ∈ as → (He.frG g as).lookup a = some o
  | [], q => nomatch q
  | b :: r, q => by
    unfold He.frG
    rw [List.filterMap_cons]
    by_cases e : a = b
    · subst e
      rw [h]
      show List.lookup a ((a, o) :: _) = some o
      rw [List.lookup_cons]
      simp
    · have q2 : a ∈ r := (List.mem_cons.mp q).resolve_left e
      have ih := frG_has h q2
      cases gb : g b with
      | none => exact ih
      | some ob =>
        show List.lookup a ((b, ob) :: _) = some o
        rw [List.lookup_cons]
        have nb : (a == b) = false := by simpa using e
        rw [nb]
        exact ih
theorem map_same {α β : Type} {f g : α → β} : ∀ {l : List α}, l.map f = l.map g → ∀ x ∈ l, f x = g x
  | [], _, _, h => nomatch h
  | y :: r, e, x, h => by
    rw [List.map_cons, List.map_cons, List.cons.injEq] at e
    rcases List.mem_cons.mp h with rfl | h
    · exact e.1
    · exact map_same e.2 x h
theorem Hd.of_obs {z : Hd} {g : Addr → Option Obj} (e : z.obsG g = z.val) : ∃ as : List Addr, z.Says (He.frG g as) ∧ tabsE z g (He.frG g as) = true := by
  unfold Hd.obsG at e
  split at e
  · rename_i oc od es en osl hm
    refine ⟨sysModules :: clsAs g es.toList (z.cls ++ (z.exs ++ z.ini.map (·.1))) ++ asOf g es.toList, ?_⟩
    unfold Hd.obsE Hd.val at e
    generalize hK : He.frG g (sysModules :: clsAs g es.toList (z.cls ++ (z.exs ++ z.ini.map (·.1))) ++ asOf g es.toList) = K at e ⊢
    unfold Hd.obsK at e
    have has : ∀ {a : Addr} {o : Obj}, a ∈ asOf g es.toList → g a = some o → K.lookup a = some o := fun h q => by rw [← hK]; exact frG_has q (List.mem_append_right _ h)
    have lm : K.lookup mainGlobals = some ⟨oc, od, .dict es en, osl⟩ := has (List.mem_cons_self) hm
    obtain ⟨e1, e2⟩ := Prod.mk.inj e
    obtain ⟨e2, e4⟩ := List.append_inj e2 (by simp)
    simp only [Bool.and_eq_true, Bool.not_eq_true'] at e1
    obtain ⟨r1, r2, r3, r4, rg, r5, r6, r7, r8, r9, r10, r11, r12⟩ := e1
    have ns : ∀ x : Str, PySem.W.nsIn K mainGlobals x = some (lkE es.toList x) := fun x => by
      unfold PySem.W.nsIn lkE
      rw [lm]
      simp only
      cases q : es.toList.find? (·.key.isStr x) with
      | some v => rfl
      | none =>
        simp only
        rw [r1]
        rfl
    have inE : ∀ {x : Str} {u : Value}, lkE es.toList x = some u → ∃ en ∈ es.toList, en.val = u := fun {x u} h => by
      unfold lkE at h
      obtain ⟨en, h1, h2⟩ := Option.map_eq_some_iff.mp h
      exact ⟨en, List.mem_of_find?_eq_some h1, h2⟩
    refine ⟨⟨fun d hd => ?_, fun x hx => ?_, fun x hx => ?_, fun c hc => ?_, fun c hc => ?_, fun x hx => ?_, fun p hp => ?_, fun i hi => ?_, fun x hx => ?_, fun p hp => ?_, fun hs => ?_, r11, fun p hp => ?_⟩, r12⟩
    · have e3 := map_same e2 d hd
      unfold defV at e3
      split at e3
      · rename_i f hf
        obtain ⟨en, me, ev⟩ := inE hf
        split at e3
        · rename_i oc2 od2 fd osl2 gf
          obtain ⟨n1, n2, n3, n4, n5, n6, n7, n8, n9, n10, n11, n12, n13, n14, n15⟩ := fd
          obtain ⟨c1, c2⟩ := Prod.mk.inj e3
          have c3 : (some (n1, n2, n3, n4, n5, n6, n7, n8, n15) : He.FnV) = some (d.1, d.1, defArgs d.2, .stmts (defBody d.2), defScope d.2, mainGlobals, [], .none, builtinsNs) := c2
          simp only [Option.some.injEq, Prod.mk.injEq] at c3
          obtain ⟨h1, h2, h3, h4, h5, h6, h7, h8, h9⟩ := c3
          subst h1 h2 h3 h4 h5 h6 h7 h8 h9
          have mf : f ∈ asOf g es.toList := List.mem_cons_of_mem _ (List.mem_flatMap.mpr ⟨en, me, by rw [ev]; simp [adV]⟩)
          refine ⟨f, oc2, od2, osl2, n9, n10, n11, n12, n13, n14, by rw [ns, hf], has mf gf, ?_⟩
          have c4 : codB g n13 d.1 = true := c1
          unfold codB at c4
          unfold PySem.W.codeIn
          cases n13 with
          | ref c =>
            simp only at c4 ⊢
            have mc : c ∈ asOf g es.toList := List.mem_cons_of_mem _ (List.mem_flatMap.mpr ⟨en, me, by rw [ev]; simp [adV, gf]⟩)
            cases gc : g c with
            | none => rw [gc] at c4; cases c4
            | some o =>
              rw [gc] at c4
              rw [has mc gc]
              exact c4
          | _ => cases c4
        · exact absurd (Prod.mk.inj e3).1 (by decide)
      · exact absurd (Prod.mk.inj e3).1 (by decide)
    · have q := List.all_eq_true.mp r2 x hx
      rw [ns, Option.isNone_iff_eq_none.mp q]
    · have q := List.all_eq_true.mp r3 x hx
      unfold bltB at q
      split at q
      · rename_i m hm2
        rw [ns, hm2, of_decide_eq_true q]
      · cases q
    · have q := List.all_eq_true.mp r4 c hc
      unfold conB at q
      split at q
      · rename_i u hu
        obtain ⟨en, me, ev⟩ := inE hu
        refine ⟨u, by rw [ns, hu], repB_ok (g := g) (fun a ha o ho => has (List.mem_cons_of_mem _ (List.mem_flatMap.mpr ⟨en, me, by rw [ev]; exact List.mem_append.mpr (.inr (List.mem_append.mpr (.inl ha)))⟩)) ho) q⟩
      · cases q
    · have q := List.all_eq_true.mp rg c hc
      unfold gtB at q
      split at q
      · rename_i a hu
        obtain ⟨en, me, ev⟩ := inE hu
        rw [Bool.and_eq_true] at q
        obtain ⟨q1, q2⟩ := q
        split at q2
        · rename_i t es2 m sl ga
          simp only [Bool.and_eq_true, decide_eq_true_eq, List.isEmpty_iff] at q2
          obtain ⟨a1, a2, a3, a4⟩ := q2
          subst a1
          obtain ⟨sl⟩ := sl
          simp only at a2
          subst a2
          have ma : a ∈ asOf g es.toList := List.mem_cons_of_mem _ (List.mem_flatMap.mpr ⟨en, me, by rw [ev]; simp [adV]⟩)
          obtain ⟨L, h1, h2, h3⟩ := entB_l (K := K) (fun e he b hb o ho => has (List.mem_cons_of_mem _ (List.mem_flatMap.mpr ⟨en, me, by
            rw [ev]
            refine List.mem_append.mpr (.inr (List.mem_append.mpr (.inr (List.mem_flatMap.mpr ⟨a, List.mem_cons_self, ?_⟩))))
            unfold keyAs
            rw [ga]
            exact List.mem_flatMap.mpr ⟨e, he, hb⟩⟩)) ho) (Nat.eq_of_beq_eq_true a3) a4
          exact ⟨a, es2, m, L, by rw [ns, hu], by simpa using q1, has ma ga, h1, h2, h3⟩
        · cases q2
      · cases q
    · have q := List.all_eq_true.mp r5 x hx
      unfold xcE at q
      split at q
      · rename_i C hC
        exact ⟨C, by rw [ns, hC], q⟩
      · cases q
    · have q := List.all_eq_true.mp r6 p hp
      unfold prE at q
      split at q
      · rename_i u C h1 h2
        exact ⟨u, C, by rw [ns, h1], by rw [ns, h2], beq_iff_eq.mp q⟩
      · cases q
    · have e3 := map_same e4 i hi
      unfold iniV at e3
      split at e3
      · rename_i C hC
        split at e3
        · rename_i f hf
          split at e3
          · rename_i oc2 od2 fd osl2 gf
            obtain ⟨n1, n2, n3, n4, n5, n6, n7, n8, n9, n10, n11, n12, n13, n14, n15⟩ := fd
            obtain ⟨c1, c2⟩ := Prod.mk.inj e3
            have c3 : (some (n1, n2, n3, n4, n5, n6, n7, n8, n15) : He.FnV) = some (("__init__" : Str), i.2.2.1, defArgs i.2.2.2, .stmts (defBody i.2.2.2), defScope i.2.2.2, mainGlobals, [], .none, builtinsNs) := c2
            simp only [Option.some.injEq, Prod.mk.injEq] at c3
            obtain ⟨h1, h2, h3, h4, h5, h6, h7, h8, h9⟩ := c3
            subst h1 h2 h3 h4 h5 h6 h7 h8 h9
            rw [Bool.and_eq_true] at c1
            exact ⟨C, f, oc2, od2, osl2, n9, n10, n11, n12, n13, n14, by rw [ns, hC], c1.1, gf, c1.2⟩
          · exact absurd (Prod.mk.inj e3).1 (by decide)
        · exact absurd (Prod.mk.inj e3).1 (by decide)
      · exact absurd (Prod.mk.inj e3).1 (by decide)
    · have q := List.all_eq_true.mp r7 x hx
      unfold exE at q
      split at q
      · rename_i C hC
        exact ⟨C, by rw [ns, hC], q⟩
      · cases q
    · have q := List.all_eq_true.mp r8 p hp
      unfold kisE at q
      split at q
      · rename_i u C h1 h2
        exact ⟨u, C, by rw [ns, h1], by rw [ns, h2], beq_iff_eq.mp q⟩
      · cases q
    · rw [hs, Bool.not_true, Bool.false_or] at r10
      unfold sysB at r10
      split at r10
      · rename_i c _ _ _ hk
        exact ⟨_, hk, by rw [of_decide_eq_true r10]⟩
      · cases r10
    · have q := List.all_eq_true.mp r9 p hp
      unfold kibE at q
      split at q
      · rename_i u h1
        exact ⟨u, by rw [ns, h1], beq_iff_eq.mp q⟩
      · cases q
  · exact absurd (Prod.mk.inj e).1 (by decide)
theorem tabE_eq {o : Option Obj} (h : tabE o = true) : o = some { cls := .none, data := .fields #[] } := by
  unfold tabE at h
  split at h
  · rename_i vs sl
    simp only [Bool.and_eq_true, List.isEmpty_iff] at h
    obtain ⟨l1⟩ := vs
    obtain ⟨l2⟩ := sl
    obtain ⟨rfl, rfl⟩ := h
    rfl
  · cases h
theorem tabsE_at {z : Hd} {g : Addr → Option Obj} {K : PySem.W.Frag} (h : tabsE z g K = true) : z.lam = [] ∨ ∀ p ∈ tabsOf K, g p.1 = some { cls := .none, data := .fields #[] } := by
  unfold tabsE at h
  rw [Bool.or_eq_true] at h
  rcases h with h | h
  · exact .inl (List.isEmpty_iff.mp h)
  · exact .inr fun p hp => tabE_eq (List.all_eq_true.mp h p hp)
def Hd.hook (z : Hd) : PySem.W.Hook where
  α := HdA
  obs := fun s => z.obsG s.heap.get?
  val := fun _ => z.val
  says := fun _ h => ∃ K : PySem.W.Frag, K.In h ∧ z.Says K ∧ (z.lam = [] ∨ ∀ p ∈ tabsOf K, h.get? p.1 = some { cls := .none, data := .fields #[] })
  of := fun _ _ e => let ⟨_, c, t⟩ := Hd.of_obs e; ⟨_, He.frG_in, c, tabsE_at t⟩
  keeps := fun _ _ _ ⟨K, hK, c, t⟩ k => ⟨K, PySem.W.Frag.In.keeps hK k, c, t.imp id fun q p hp => k _ _ (q p hp)⟩
theorem Hd.obs_eq {z : Hd} {g : Addr → Option Obj} {s : Shared} (h : ∀ a, g a = s.heap.get? a) : z.obsG g = z.hook.obs s := by
  have e : g = s.heap.get? := funext h
  rw [e] <;> rfl
def initS (s : Stmt) : Stmt := match s with
  | .ClassDef _ _ _ (b :: _) _ _ _ _ _ _ _ => b
  | s => s
def topS (i : Nat) : Stmt := PySem.Challenge.pw_drawarms_k79_whole_no_arm_beats_the_fewe.main.body.getD i (.Pass ⟨0, 0, 0, 0⟩)
def k_UNITS : D := (.tup [(.tup [(.int 1), (.int 0)]), (.tup [(.int 0), (.int 1)]), (.tup [(.int (-1)), (.int 0)]), (.tup [(.int 0), (.int (-1))])])
def k_ZERO : D := (.tup [(.int 0), (.int 0)])
def k_FAR : D := (.tup [(.int 1), (.int 0), (.int 0)])
def k_WORDS : D := (.tup [(.str "carry"), (.str "grow"), (.str "turnabout"), (.str "mirror")])
def k_STAYS : D := (.tup [(.int 0), (.tup [(.int 1), (.int 0)]), (.tup [(.int 0), (.int 0)]), (.tup [(.int 0), (.int 0)]), (.tup [(.int 1), (.int 0)])])
def k_UNITY : D := (.tup [(.int 1), (.int 0), (.int 1)])
abbrev st_is_whole : Stmt := topS 6
abbrev st_are_wholes : Stmt := topS 7
abbrev st_divisor_of : Stmt := topS 8
abbrev st_lowest : Stmt := topS 9
abbrev st_is_complex : Stmt := topS 14
abbrev st_plus : Stmt := topS 15
abbrev st_minus : Stmt := topS 16
abbrev st_times : Stmt := topS 17
abbrev st_scaled : Stmt := topS 18
abbrev st_turned_over : Stmt := topS 19
abbrev st_square_size : Stmt := topS 20
abbrev st_unit_for : Stmt := topS 21
abbrev st_nearest : Stmt := topS 22
abbrev st_divisor_of_two : Stmt := topS 23
abbrev st_divisor_of_all : Stmt := topS 24
abbrev st_divided : Stmt := topS 25
abbrev st_quotient_place : Stmt := topS 28
abbrev st_determinant : Stmt := topS 31
abbrev st_form_of : Stmt := topS 32
abbrev st_is_flag : Stmt := topS 33
abbrev st_is_map : Stmt := topS 34
abbrev st_check_map : Stmt := topS 35
abbrev st_joined : Stmt := topS 36
abbrev st_trace : Stmt := topS 39
abbrev st_trace_place : Stmt := topS 40
abbrev st_gap : Stmt := topS 42
abbrev st_flipped : Stmt := topS 43
abbrev st_size_of : Stmt := topS 44
abbrev st_is_real : Stmt := topS 45
abbrev st_check_kinds : Stmt := topS 50
abbrev st_is_true_map : Stmt := topS 51
abbrev st_factor_in : Stmt := topS 52
abbrev st_is_line_mirror : Stmt := topS 53
abbrev st_fewest_plain_kept : Stmt := topS 54
abbrev st_fewest_plain_moved : Stmt := topS 55
abbrev st_fewest_mirrored_kept : Stmt := topS 56
abbrev st_Parts__init : Stmt := initS (topS 47)
abbrev st_fewest_mirrored_moved : Stmt := topS 57
abbrev st_fewest_of : Stmt := topS 58
abbrev st_fewest_cells : Stmt := topS 59
abbrev st__law_spring : Stmt := topS 61
abbrev st__law_draw : Stmt := topS 62
abbrev st__law_one_of : Stmt := topS 63
abbrev st__law_about : Stmt := topS 64
abbrev st__law_shuffled : Stmt := topS 65
abbrev st__law_gcd : Stmt := topS 66
abbrev st__law_thin : Stmt := topS 67
abbrev st__law_upright : Stmt := topS 68
abbrev st__law_times : Stmt := topS 69
abbrev st__law_plus : Stmt := topS 70
abbrev st__law_minus : Stmt := topS 71
abbrev st__law_bar : Stmt := topS 72
abbrev st__law_norm : Stmt := topS 73
abbrev st__law_over : Stmt := topS 74
abbrev st__law_common : Stmt := topS 75
abbrev st__law_quarter : Stmt := topS 76
abbrev st__law_form : Stmt := topS 77
abbrev st__law_joined : Stmt := topS 78
abbrev st__law_home : Stmt := topS 79
abbrev st__law_still : Stmt := topS 80
abbrev st__law_cell_map : Stmt := topS 81
abbrev st__law_way : Stmt := topS 82
abbrev st__law_quotient : Stmt := topS 83
abbrev st__law_spot : Stmt := topS 84
abbrev st__law_scale : Stmt := topS 85
abbrev st__law_span : Stmt := topS 86
abbrev st__law_stroke : Stmt := topS 87
abbrev st__law_power : Stmt := topS 88
abbrev st__law_box : Stmt := topS 89
abbrev st__law_boxes : Stmt := topS 90
abbrev st__law_pair : Stmt := topS 91
abbrev st__law_some_words : Stmt := topS 92
abbrev st__law_is_whole : Stmt := topS 93
abbrev st__law_right : Stmt := topS 94
abbrev st_law : Stmt := topS 95
def hdD0 : List (Str × Stmt) := [("is_whole", st_is_whole), ("are_wholes", st_are_wholes), ("divisor_of", st_divisor_of), ("lowest", st_lowest), ("is_complex", st_is_complex), ("plus", st_plus), ("minus", st_minus), ("times", st_times), ("scaled", st_scaled), ("turned_over", st_turned_over), ("square_size", st_square_size), ("unit_for", st_unit_for), ("nearest", st_nearest), ("divisor_of_two", st_divisor_of_two), ("divisor_of_all", st_divisor_of_all), ("divided", st_divided), ("quotient_place", st_quotient_place), ("determinant", st_determinant), ("form_of", st_form_of), ("is_flag", st_is_flag), ("is_map", st_is_map), ("check_map", st_check_map), ("joined", st_joined), ("trace", st_trace), ("trace_place", st_trace_place)]
def hdD1 : List (Str × Stmt) := [("gap", st_gap), ("flipped", st_flipped), ("size_of", st_size_of), ("is_real", st_is_real), ("check_kinds", st_check_kinds), ("is_true_map", st_is_true_map), ("factor_in", st_factor_in), ("is_line_mirror", st_is_line_mirror), ("fewest_plain_kept", st_fewest_plain_kept), ("fewest_plain_moved", st_fewest_plain_moved), ("fewest_mirrored_kept", st_fewest_mirrored_kept), ("fewest_mirrored_moved", st_fewest_mirrored_moved), ("fewest_of", st_fewest_of), ("fewest_cells", st_fewest_cells), ("_law_spring", st__law_spring), ("_law_draw", st__law_draw), ("_law_one_of", st__law_one_of), ("_law_about", st__law_about), ("_law_shuffled", st__law_shuffled), ("_law_gcd", st__law_gcd), ("_law_thin", st__law_thin), ("_law_upright", st__law_upright), ("_law_times", st__law_times), ("_law_plus", st__law_plus), ("_law_minus", st__law_minus)]
def hdD2 : List (Str × Stmt) := [("_law_bar", st__law_bar), ("_law_norm", st__law_norm), ("_law_over", st__law_over), ("_law_common", st__law_common), ("_law_quarter", st__law_quarter), ("_law_form", st__law_form), ("_law_joined", st__law_joined), ("_law_home", st__law_home), ("_law_still", st__law_still), ("_law_cell_map", st__law_cell_map), ("_law_way", st__law_way), ("_law_quotient", st__law_quotient), ("_law_spot", st__law_spot), ("_law_scale", st__law_scale), ("_law_span", st__law_span), ("_law_stroke", st__law_stroke), ("_law_power", st__law_power), ("_law_box", st__law_box), ("_law_boxes", st__law_boxes), ("_law_pair", st__law_pair), ("_law_some_words", st__law_some_words), ("_law_is_whole", st__law_is_whole), ("_law_right", st__law_right), ("law", st_law)]
def hdDefs : List (Str × Stmt) := hdD0 ++ hdD1 ++ hdD2
def hdFree : List Str := ["abs", "all", "bool", "divmod", "enumerate", "int", "isinstance", "len", "list", "range", "str", "sum", "tuple"]
def hdBlt : List (Str × String) := [("gcd", "math.gcd"), ("isqrt", "math.isqrt")]
def hdCons : List (Str × D) := [("UNITS", k_UNITS), ("ZERO", k_ZERO), ("FAR", k_FAR), ("WORDS", k_WORDS), ("STAYS", k_STAYS), ("UNITY", k_UNITY)]
def hdTab : List (Str × List (List Int × Int)) := []
def hdCls : List Str := []
def hdPrs : List (Str × Str) := []
def hdIni : List (Str × Str × Str × Stmt) := [("Parts", "Parts", "Parts.__init__", st_Parts__init)]
def hdExs : List Str := []
def hdKis : List (Str × Str × Bool) := []
def hdKib : List (Str × String × Bool) := []
def hd : Hd := ⟨hdDefs, hdFree, hdBlt, hdCons, hdCls, hdPrs, hdIni, hdExs, hdKis, hdKib, false, [], hdTab⟩
def hdN0 : List Str := ["ArmError", "InvalidMap", "InvalidKinds", "is_whole", "are_wholes", "divisor_of", "lowest", "ZERO", "ONE", "UNITS", "is_complex", "plus", "minus", "times", "scaled", "turned_over", "square_size", "unit_for", "nearest", "divisor_of_two", "divisor_of_all", "divided", "FAR", "quotient_place", "STAYS", "determinant", "form_of", "is_flag", "is_map", "check_map"]
def hdN1 : List Str := ["joined", "UNITY", "trace", "trace_place", "gap", "flipped", "size_of", "is_real", "Parts", "WORDS", "check_kinds", "is_true_map", "factor_in", "is_line_mirror", "fewest_plain_kept", "fewest_plain_moved", "fewest_mirrored_kept", "fewest_mirrored_moved", "fewest_of", "fewest_cells", "_law_spring", "_law_draw", "_law_one_of", "_law_about", "_law_shuffled", "_law_gcd", "_law_thin", "_law_upright", "_law_times", "_law_plus"]
def hdN2 : List Str := ["_law_minus", "_law_bar", "_law_norm", "_law_over", "_law_common", "_law_quarter", "_law_form", "_law_joined", "_law_home", "_law_still", "_law_cell_map", "_law_way", "_law_quotient", "_law_spot", "_law_scale", "_law_span", "_law_stroke", "_law_power", "_law_box", "_law_boxes", "_law_pair", "_law_some_words", "_law_is_whole", "_law_right"]
def hdNames : List Str := hdN0 ++ hdN1 ++ hdN2
abbrev hdR : PySem.W.OpenRow := PySem.W.OpenLaw.row PySem.Challenge.rw_drawarms_k79_whole_no_arm_beats_the_fewe
abbrev hdV : Program := PySem.W.view hdR.prog [0, 95]
abbrev hdK : PySem.W.Hook := hd.hook
def hdO (s : PySem.W.SharedT) : HdA := hd.obsG (HandSHeadRun.getT s)
theorem hdO_eq (s : PySem.W.SharedT) : hdO s = hdK.obs s.abs := Hd.obs_eq (HandSHeadRun.getT_eq s)
theorem hd_run (w : World) : HandSHeadRun.RunEqI hdR hdV hdK hdO 20000 hdNames w := by
  unfold HandSHeadRun.RunEqI
  kernel_rfl
section
variable {z : Hd} {K : PySem.W.Frag} {h : Heap} {mg : Str → Option Value}
theorem Hd.Says.df (X : K.In h) (G : h.Ns mainGlobals mg) (c : z.Says K) (i : Nat) {x : Str} {st : Stmt} (e : z.defs[i]? = some (x, st) := by rfl) : Df K mg x st := by
  obtain ⟨f, oc, od, osl, kV, doc, pm, an, cdv, ct, h1, l, cd⟩ := c.d _ (List.mem_of_getElem? e)
  exact ⟨_, _, fun_mk (st := st) l cd (by unfold PySem.W.keepIn; simp only at l ⊢; rw [l]), PySem.W.mg_of X G h1⟩
theorem Hd.Says.fr (X : K.In h) (G : h.Ns mainGlobals mg) (c : z.Says K) (i : Nat) {x : Str} (e : z.free[i]? = some x := by rfl) : mg x = none :=
  PySem.W.mg_none_of X G (c.f _ (List.mem_of_getElem? e))
theorem Hd.Says.bf (X : K.In h) (G : h.Ns mainGlobals mg) (c : z.Says K) (i : Nat) {x : Str} {m : String} (e : z.blt[i]? = some (x, m) := by rfl) : mg x = some (.builtin m) :=
  PySem.W.mg_of X G (c.b _ (List.mem_of_getElem? e))
theorem Hd.Says.gc (X : K.In h) (G : h.Ns mainGlobals mg) (c : z.Says K) (i : Nat) {x : Str} {d : D} (e : z.cons[i]? = some (x, d) := by rfl) : GC K mg x d := by
  obtain ⟨u, h1, h2⟩ := c.c _ (List.mem_of_getElem? e)
  exact gc_of X G h1 h2
end
/-- what is known of a def x that makes lambdas, its code object being cdv -/
def LamAt (K : PySem.W.Frag) (mg : Str → Option Value) (x : Str) (cdv : Value) : Prop := ∃ c P, cdv = .ref c ∧ (P, x ++ ".<locals>." ++ "<lambda>") ∈ tabsOf K ∧ (∀ p ∈ tabsOf K, p.1 = P → p.2 = x ++ ".<locals>." ++ "<lambda>") ∧ ∀ base : Heap, K.In base → LamX.TabB base mg c P
theorem ndB_uniq {α : Type} : ∀ {l : List (Addr × α)}, ndB (l.map (·.1)) = true → ∀ {a : Addr} {u v : α}, (a, u) ∈ l → (a, v) ∈ l → u = v
  | [], _, _, _, _, h, _ => nomatch h
  | p :: r, e, a, u, v, h1, h2 => by
    rw [List.map_cons] at e
    unfold ndB at e
    rw [Bool.and_eq_true] at e
    have no : ∀ w, (p.1, w) ∉ r := fun w hw => by
      have q := List.all_eq_true.mp e.1 p.1 (List.mem_map.mpr ⟨_, hw, rfl⟩)
      simp at q
    rcases List.mem_cons.mp h1 with q1 | q1
    · rcases List.mem_cons.mp h2 with q2 | q2
      · rw [← q1] at q2; cases q2; rfl
      · rw [← q1] at no; exact absurd q2 (no v)
    · rcases List.mem_cons.mp h2 with q2 | q2
      · rw [← q2] at no; exact absurd q1 (no u)
      · exact ndB_uniq e.2 q1 q2
theorem reB_eq {P : Addr} {v : Value} (h : reB P v = true) : v = .ref P := by
  unfold reB at h
  split at h
  · rw [Nat.eq_of_beq_eq_true h]
  · cases h
theorem codeB_hd {K : PySem.W.Frag} {c P : Addr} (h : codeB K c P = true) {base : Heap} (hK : K.In base) : PySem.W.CodeHd base c P := by
  unfold codeB at h
  split at h
  · rename_i k od vs sl e
    simp only [Bool.and_eq_true, Bool.not_eq_true', decide_eq_true_eq] at h
    obtain ⟨e0, e1, e2, e3, e4, e5, e6, e7⟩ := h
    subst e0
    have q18 : ∃ z t, vs.getD 18 .none = .str z t := by
      unfold stB at e3
      split at e3
      · rename_i z t q; exact ⟨z, t, q⟩
      · cases e3
    have q7 : ∃ z t, vs.getD 7 .none = .int z t := by
      unfold itB at e4
      split at e4
      · rename_i z t q; exact ⟨z, t, q⟩
      · cases e4
    have q9 : ∃ z, vs.getD 9 .none = .bool z := by
      unfold boB at e5
      split at e5
      · rename_i z q; exact ⟨z, q⟩
      · cases e5
    have q10 : ∃ z t, vs.getD 10 .none = .int z t := by
      unfold itB at e6
      split at e6
      · rename_i z t q; exact ⟨z, t, q⟩
      · cases e6
    obtain ⟨z18, t18, q18⟩ := q18
    obtain ⟨z7, t7, q7⟩ := q7
    obtain ⟨z9, q9⟩ := q9
    obtain ⟨z10, t10, q10⟩ := q10
    refine ⟨_, vs, z18, t18, z7, t7, z9, z10, t10, hK _ _ e, rfl, rfl, ?_, reB_eq e2, q18, q7, q9, q10, fun z => ?_⟩
    · split at e1
      · rename_i v q; rw [q, reB_eq e1]
      · cases e1
    · rw [z] at e7; simp at e7
  · cases h
theorem bmB_at {K : PySem.W.Frag} {P : Addr} (h : bmB K P = true) {h0 : Heap} {mg : Str → Option Value} (X : K.In h0) (G : h0.Ns mainGlobals mg) {base : Heap} (hK : K.In base) : base.BuiltinsAt mg P := by
  unfold bmB at h
  split at h
  · rename_i bm e
    simp only [Bool.and_eq_true, Bool.not_eq_true'] at h
    obtain ⟨e1, e2, e3, e4⟩ := h
    have ne : ∀ {a b : Addr}, Nat.beq a b = false → a ≠ b := fun q z => by rw [z] at q; simp at q
    split at e4
    · rename_i m d sl q
      simp only [Bool.and_eq_true, decide_eq_true_eq] at e4
      obtain ⟨f1, f2⟩ := e4
      subst f1
      have f2 := Nat.eq_of_beq_eq_true f2
      subst f2
      exact ⟨bm, _, PySem.W.mg_of X G e, ne e1, ne e2, ne e3, hK _ _ q, rfl, rfl, rfl⟩
    · cases e4
  · cases h
theorem tabOf_q {K : PySem.W.Frag} {x q : Str} {P : Addr} (h : tabOf K x = some (P, q)) : q = x ++ ".<locals>." ++ "<lambda>" := by
  unfold tabOf at h
  repeat' (split at h)
  all_goals (cases h)
  rfl
theorem Hd.Says.lam {z : Hd} {K : PySem.W.Frag} {h : Heap} {mg : Str → Option Value} (X : K.In h) (G : h.Ns mainGlobals mg) (c : z.Says K) {x : Str} (hx : x ∈ z.lam) (hl : x ∈ lamNames) {f : Addr} {cdv : Value} (hq : CdAt K mg x f cdv) : LamAt K mg x cdv := by
  have l := c.lm
  unfold lamsB at l
  rw [Bool.or_eq_true] at l
  rcases l with l | l
  · rw [List.isEmpty_iff] at l
    rw [l] at hx
    cases hx
  rw [Bool.and_eq_true] at l
  have l1 := List.all_eq_true.mp l.1 x hx
  obtain ⟨hm, oc, od, fd, osl, lk, ecd, hkd⟩ := hq
  clear hkd
  unfold lamB at l1
  split at l1
  · rename_i f' e
    have e' := PySem.W.mg_of X G e
    cases hm.symm.trans e'
    rw [lk] at l1
    simp only at l1
    rw [ecd] at l1
    split at l1
    · rename_i cc
      split at l1
      · rename_i P q et
        obtain rfl := tabOf_q et
        simp only [Bool.and_eq_true, Bool.not_eq_true'] at l1
        obtain ⟨a1, a2, a3, a4⟩ := l1
        have mem : (P, x ++ ".<locals>." ++ "<lambda>") ∈ tabsOf K := List.mem_filterMap.mpr ⟨x, hl, et⟩
        refine ⟨cc, P, rfl, mem, fun p hp ep => ?_, fun base hK => ⟨codeB_hd a1 hK, bmB_at a2 X G hK, fun z => by rw [z] at a4; simp at a4⟩⟩
        obtain ⟨p1, p2⟩ := p
        cases ep
        exact ndB_uniq l.2 hp mem
      · cases l1
    · cases l1
  · cases l1
theorem lam_none {z : Hd} {K : PySem.W.Frag} (c : z.Says K) (hz : lamNames = z.lam) {p : Addr × Str} (hp : p ∈ tabsOf K) : K.lookup p.1 = none ∧ ∃ c, codeB K c p.1 = true := by
  obtain ⟨x, hx, e⟩ := List.mem_filterMap.mp hp
  have l := c.lm
  unfold lamsB at l
  rw [Bool.or_eq_true] at l
  rcases l with l | l
  · rw [List.isEmpty_iff] at l
    rw [hz, l] at hx
    cases hx
  rw [Bool.and_eq_true] at l
  have l1 := List.all_eq_true.mp l.1 x (hz ▸ hx)
  unfold lamB at l1
  repeat' (split at l1)
  all_goals (try cases l1)
  rename_i P q et
  cases e.symm.trans et
  simp only [Bool.and_eq_true] at l1
  exact ⟨Option.isNone_iff_eq_none.mp l1.2.2.1, _, l1.1⟩
theorem g_walkE {l : PySem.W.OpenLaw} {n k : Nat} {q : Program} {loose : List Str} {XP : (Str → Option Value) → Heap → Prop} {YP : World → Heap → Prop} {d : DefRec} {x y : Str} {sem : Sem} (z : Hd) (hz : lamNames = z.lam) (hn : l.most = some n) (hn2 : n ≤ sizeLine) (hdf : d.params.defaults = [])
    (hr : Room k callerA) (hx : d.name = x)
    (F : ∀ (w : World) (mg : Str → Option Value) (h : Heap), YP w h → h.Ns mainGlobals mg → ∃ K : PySem.W.Frag, K.In h ∧ z.Says K ∧ (z.lam = [] ∨ ∀ p ∈ tabsOf K, h.get? p.1 = some { cls := .none, data := .fields #[] }) ∧ ∀ base : Heap, K.In base → base.Ns mainGlobals mg → Ok l.prog w K mg base k x [y] sem)
    (hs : ∀ ns : List Int, ns.length ≤ n → sem [.val (scrD ns)] [] fun r _ => r = .bl true) : PySem.W.WalkO q loose XP YP l.row.toRowW d [] (fun f vs => PySem.call f vs) := by
  refine Att.attach_call hn hdf fun w s0 s1 mg mb fa o pm cd doc a vs ns G Y ho hd hcd hmg hobj hints hlen hg => ?_
  obtain ⟨K, KX, c, hte, hF⟩ := F w mg _ Y G.T.g
  subst hx
  obtain ⟨f, fd, h1, h2, h3, h4, h5, oc, od, osl, lk⟩ := hF _ KX G.T.g
  cases hmg.symm.trans h1
  have nT : ∀ p ∈ tabsOf K, K.lookup p.1 = none := fun p hp => (lam_none c hz hp).1
  refine g_lawT (x := y) (fd := fd) (sp := spD K 1 sem) (CX := CX0) (ts := (tabsOf K).map (·.1)) KX G.T.g G.T.b G.T.builtins G.T.nolimit hg (fun b hb => ?_) (fun b hb => ?_) hobj hints (Nat.le_trans hlen hn2) hr (fun base h h' => ?_) (fun u => ?_) (fun H hO hH hS => ?_) fun H e s' z => z
  · obtain ⟨p, hp, rfl⟩ := List.mem_map.mp hb
    obtain ⟨_, c2, hc⟩ := lam_none c hz hp
    rcases hte with hte | hte
    · obtain ⟨e, he, _⟩ := List.mem_filterMap.mp hp
      rw [hz, hte] at he
      cases he
    · exact ⟨c2, (codeB_hd hc KX).tab (hte p hp)⟩
  · obtain ⟨p, hp, rfl⟩ := List.mem_map.mp hb
    exact nT p hp
  · obtain ⟨f2, fd2, k1, k2, k3, k4, k5, oc2, od2, osl2, lk2⟩ := hF base h h'
    cases hmg.symm.trans k1
    rw [lk] at lk2
    cases lk2
    exact k5
  · exact h3 s1 [u] KX rfl
  · let F0 : Hp := fun b => if b ∈ (tabsOf K).map (·.1) then none else H b
    have f1 : ∀ {b : Addr}, b ∈ (tabsOf K).map (·.1) → F0 b = none := fun {b} q => if_pos q
    have f2 : ∀ {b : Addr}, b ∉ (tabsOf K).map (·.1) → F0 b = H b := fun {b} q => if_neg q
    have sub : Same F0 H := fun b u e => by
      by_cases q : b ∈ (tabsOf K).map (·.1)
      · cases (f1 q).symm.trans e
      · exact (f2 q).symm.trans e
    have nl : ∀ {b : Addr} {o : HO}, H b = some o → noTb o → F0 b = some o := fun {b o} e n => by
      rw [f2 (fun q => n _ (Option.some.inj (e.symm.trans (hH b q))))]
      exact e
    have hS' : SqL K F0 a (ns.map V.int) := by
      rcases hS with (e | ⟨ob, e⟩) | e
      · left; left; exact nl e (fun _ z => nomatch z)
      · left; right; exact ⟨ob, nl e (fun _ z => nomatch z)⟩
      · right; exact e
    refine ⟨rfl, F0, none, [], [.val (scrD ns)], _, .val (.scr hS' (scr_rep ns)) .nil, ⟨sub, fun _ z => (nomatch z), ⟨fun p hp => f1 (List.mem_map.mpr ⟨p, hp, rfl⟩), fun p hp => LamX.TabS.nil (hH p.1 (List.mem_map.mpr ⟨p, hp, rfl⟩)), fun b o e => ?_, fun b ps e => ?_⟩⟩, hs ns hlen, fun v H' F' d T' _ _ r q => by subst q; cases r; rfl⟩
    · rcases hO b with z | z | ⟨ob, xs, z⟩
      · cases z.symm.trans (sub b o e)
      · cases (f1 z).symm.trans e
      · cases z.symm.trans (sub b o e)
        exact fun _ z => nomatch z
    · rcases hO b with z | z | ⟨ob, xs, z⟩
      · cases z.symm.trans e
      · obtain ⟨p, hp, rfl⟩ := List.mem_map.mp z
        exact ⟨p.2, hp⟩
      · cases z.symm.trans e
end L2.G

namespace L2.G
open PySem PySem.Spec PyProof.Rows
/-! sorted(set(xs)), xs a list of tuples of ints of either sign -/
def TupH (h : Heap) (p : Addr × List Int) : Prop := ∃ o xs n, h.get? p.1 = some o ∧ o.cls = .type "tuple" ∧ o.data = .seq xs n ∧ Vals (p.2.map V.int) xs.toList
theorem TupH.keep {h h' : Heap} {p : Addr × List Int} (k : ∀ b o, h.get? b = some o → h'.get? b = some o) : TupH h p → TupH h' p :=
  fun ⟨o, xs, n, g, r⟩ => ⟨o, xs, n, k _ _ g, r⟩
theorem TupH.first {h : Heap} : ∀ (L : List (Addr × List Int)), (∀ p ∈ L, TupH h p ∧ p.2 ≠ []) → ∃ fs, PyProof.Rows.TupsOf h noS (L.map fun p => Value.ref p.1) fs
  | [], _ => ⟨[], .nil⟩
  | p :: L, q => by
    obtain ⟨fs, ih⟩ := TupH.first L fun r hr => q r (List.mem_cons_of_mem _ hr)
    obtain ⟨⟨o, xs, n, g, c, d, v⟩, h2⟩ := q p List.mem_cons_self
    obtain ⟨m, r, er⟩ := List.exists_cons_of_ne_nil h2
    rw [er] at v
    obtain ⟨u, us, ex⟩ : ∃ u us, xs.toList = u :: us := by
      cases z : xs.toList with
      | nil => rw [z] at v; cases v
      | cons u us => exact ⟨u, us, rfl⟩
    rw [ex] at v
    have hu : ∃ t, u = .int m t := by
      cases v with
      | cons r _ => exact r
    obtain ⟨t, rfl⟩ := hu
    have g0 : xs[0]? = some (.int m t) := by rw [← Array.getElem?_toList, ex]; rfl
    exact ⟨_, .cons ⟨p.1, o, xs, n, rfl, g, c, d, g0, fun _ => ⟨m, t, rfl⟩, fun z => nomatch z⟩ ih⟩
section
variable {X : Cx} {e : Expr} {fr : dA} {p p2 pos pos2 : Pos} {es : List Expr}
end
/-! less than, for ints and for tuples of ints -/
section
variable {X : Cx} {a b : Expr} {fa fb : dE} {pos : Pos}
end
end L2.G

namespace L2.G
open PySem PySem.Spec PyProof.Rows
/-! {"a": 1, ..}[x]: a displayed dict of texts to ints, and what stands at x -/
end L2.G

namespace L2.G
open PySem PySem.Spec PyProof.Rows
/-! defs that may raise: a def's reading takes r, what is wished of an exception -/
/-- an exception: the name of its class, what it was given -/
structure ExD where
  nm : Str
  arg : Option (Str × D)
abbrev RK := ExD → Tk → Prop
/-- in a body: with the slots -/
abbrev RX := ExD → En → Tk → Prop
def RepE (K : PySem.W.Frag) (mg : Str → Option Value) (F H : Hp) (e : ExD) (cls : Value) (d : Option Addr) : Prop :=
  mg e.nm = some cls ∧ match e.arg with
    | none => d = none
    | some (fl, x) => ∃ dd v, d = some dd ∧ H dd = some (.xd [(fl, v)]) ∧ Rep K F x v
def FinX (K : PySem.W.Frag) (mg : Str → Option Value) (t : Option Addr) (F H : Hp) (r : RK) (E : XK) : Prop := ∀ e T' F' H' cls d, Wt K T' t F' H' → Grow t F H F' H' → RepE K mg F' H' e cls d → r e T' → E cls d H'
abbrev SemX := RK → Sem
def spX (K : PySem.W.Frag) (mg : Str → Option Value) (n : Nat) (sem : SemX) : Sp := fun vs H Q E => vs.length = n ∧ ∃ F t T as k r, ArgL K t F as vs ∧ Wt K T t F H ∧ sem r as T k ∧ Fin K t F H k Q ∧ FinX K mg t F H r E
def OkX (P : Program) (w : World) (K : PySem.W.Frag) (mg : Str → Option Value) (base : Heap) (n : Nat) (x : Str) (ps : List Str) (sem : SemX) : Prop :=
  ∃ f fd, mg x = some (.ref f) ∧ PySem.W.keepIn K (.ref f) = true ∧ Binds K fd ps [] ∧ (∀ (s : Shared) (ws : List Value), K.In s.heap → ws.length = ps.length → BindsTo s fd ⟨[], ps.zip ws⟩ (ps.zip ws)) ∧ GFn P w K mg base (L2.CX P w) n f fd ps (spX K mg ps.length sem) ∧ ∃ oc od osl, K.lookup f = some ⟨oc, od, .func fd, osl⟩
theorem OkX.mono {P : Program} {w : World} {K : PySem.W.Frag} {mg : Str → Option Value} {base : Heap} {m n : Nat} {x : Str} {ps : List Str} {sem : SemX} (h : OkX P w K mg base m x ps sem) (l : m ≤ n) : OkX P w K mg base n x ps sem :=
  let ⟨f, fd, h1, h2, h3, h4, h5, h6⟩ := h; ⟨f, fd, h1, h2, h3, h4, h5.mono l, h6⟩
theorem OkX.imp {P : Program} {w : World} {K : PySem.W.Frag} {mg : Str → Option Value} {base : Heap} {n : Nat} {x : Str} {ps : List Str} {sem sem' : SemX} (h : OkX P w K mg base n x ps sem) (i : ∀ r as T k, sem' r as T k → sem r as T k) : OkX P w K mg base n x ps sem' :=
  let ⟨f, fd, h1, h2, h3, h4, h5, h6⟩ := h; ⟨f, fd, h1, h2, h3, h4, h5.imp (fun vs H Q E ⟨q1, F, t, T, as, k, r, a, b, c, d, e⟩ => ⟨q1, F, t, T, as, k, r, a, b, i _ _ _ _ c, d, e⟩), h6⟩

/-! in a body -/
structure Ct where
  t : Option Addr
  F0 : Hp
  H0 : Hp
  F1 : Hp
def tDX (K : PySem.W.Frag) (c : Ct) (f : dE) : TE := fun σ H Q => ∃ ρ T F k, Ws K ρ T c.t σ c.F0 c.H0 F H ∧ Same c.F1 F ∧ f ρ T k ∧ Fin K c.t F H k Q
abbrev PEx (X : Cx) (c : Ct) (e : Expr) (f : dE) : Prop := PE X e (tDX X.K c f)
/-- what r wishes is what W wishes -/
def Lk (X : Cx) (c : Ct) (r : RX) (W : WX) : Prop := ∀ e ρ T F H cls d σ, Ws X.K ρ T c.t σ c.F0 c.H0 F H → Same c.F1 F → RepE X.K X.mg F H e cls d → r e ρ T → W cls d σ H
section
variable {X : Cx} {c : Ct} {e : Expr} {fe fa fb : dE} {st : Stmt} {rest : List Stmt} {f g : dS} {pos : Pos} {W : WX} {r : RX}
end

/-! calls -/
section
variable {X : Cx} {CX : CXT} {n : Nat} {f : Addr} {fd : FuncData} {ps : List Str} {sp : Sp} {x : Str} {p pos : Pos} {e : Expr} {es : List Expr} {t : TA}
end
section
variable {X : Cx} {n : Nat} {x : Str} {ps : List Str} {sem : SemX} {p pos : Pos} {e : Expr} {es : List Expr} {kws : List Keyword} {fr : dA} {c : Ct} {r : RX} {W : WX}
/-- a call that may raise -/
def dCallX (n : Nat) (sem : SemX) (r : RX) (fr : dA) : dE := fun ρ T k => fr ρ T fun as T1 => as.length = n ∧ sem (fun e T => r e ρ T) as T1 k
end
/-! defs -/
/-! raise -/
/-- what an own class without own __init__ must say -/
structure Xc0 (K : PySem.W.Frag) (mg : Str → Option Value) (x : Str) (C : Addr) : Prop where
  gC : mg x = some (.ref C)
  ex : PySem.W.excIn K C PySem.HandSPX.veTail "ValueError.__new__" = true
  kC : PySem.W.keepIn K (.ref C) = true
  sb : PySem.W.subIn K (.ref C) (.type "BaseException") = some true
  ty : PySem.W.typeIn K (.ref C) = some (.type "type")
section
variable {X : Cx} {c : Ct} {pos pos2 p : Pos} {W : WX} {r : RX} {x : Str} {C : Addr}
def sRaise0 (x : Str) (r : RX) : dS := fun _ ρ T => r ⟨x, none⟩ ρ T
end

/-! try .. except X -/
section
variable {X : Cx} {x : Str} {cv : Value} {body suite : List Stmt} {b₀ : Stmt} {np pos pos' : Pos} {b : RX → dS} {s : dS} {mt : Str → Option Bool}
end
/-! a tuple some times -/
section
variable {X : Cx} {a b : Expr} {fa fb : dE} {pos : Pos}
end
end L2.G

set_option maxHeartbeats 2000000
namespace PySem
namespace XgX
open PySem.W PySem.Calls PyProof.Rows PySem.HandSPX
/-! ### the text of __init__ -/
def iA (fl : Str) (p1 p2 : Pos) : Arguments := { posonlyargs := [], args := [{ arg := "self", annotation := none, pos := p1 }, { arg := fl, annotation := none, pos := p2 }], vararg := none, kwonlyargs := [], kw_defaults := [], kwarg := none, defaults := [] }
def iB (fl : Str) (q1 q2 q3 q4 : Pos) : List Stmt := [.Assign [.Attribute (.Name "self" q1) fl q2] (.Name fl q3) q4]
def iS (fl : Str) : Scope := { kind := .function, names := [(PySem.Str.ofString "self", .local), (fl, .local)], isGenerator := false, isCoroutine := false, more := [] }
/-- what the written part says of Low, at C, and of its __init__, at fI -/
structure XgTxt (x qi fl : Str) (K : Frag) (mg : Str → Option Value) (C fI : Addr) : Prop where
  gC : mg x = some (.ref C)
  cls : ∃ nm q N bs bm sn sub ab col dd k0 k1 k2 k3 k5, K.lookup C = some (excClassObj nm q C N bs bm true sn sub ab col dd k0 k1 k2 k3 k5 "ValueError.__new__") ∧ refsVE bm = true
  sa : findIn K (.ref C) "__setattr__" = some (some (.builtin "object.__setattr__"))
  ga : findIn K (.ref C) "__getattribute__" = some (some (.builtin "BaseException.__getattribute__"))
  gg : findIn K (.ref C) "__getattr__" = some none
  hfl : fl = "given" ∨ fl = "index"
  noN : findIn K (.ref C) fl = some none
  iC : findIn K (.ref C) "__init__" = some (some (.ref fI))
  tC : typeIn K (.ref fI) = some (.type "function")
  kC : keepIn K (.ref C) = true
  exC : subIn K (.ref C) (.type "BaseException") = some true
  tyC : typeIn K (.ref C) = some (.type "type")
  hdC : hasDictIn K C = true
  te : exmOne K (.ref C) (.ref C) = some true
  fn : ∃ (oc : Value) (od : Option Addr) (kV doc pm : Value) (an : Option Addr) (cdv ct : Value) (osl : Array (Option Value)) (p1 p2 q1 q2 q3 q4 : Pos),
    K.lookup fI = some ⟨oc, od, .func (fnOf "__init__" qi (iA fl p1 p2) (iB fl q1 q2 q3 q4) (iS fl) .none kV doc pm an cdv ct), osl⟩ ∧ codeIn K cdv qi = true
/-- what __init__ leaves of a fresh exception at x -/
structure InitEnd (fl : Str) (h h' : Heap) (x C dx t1 : Addr) (v : Value) : Prop where
  keep : ∀ b o, b ≠ x → h.get? b = some o → h'.get? b = some o
  obj : h'.get? x = some { cls := .ref C, dict := some dx, data := .fields #[.ref t1, .none, .none, .none, .bool false, .none] }
  dbig : h.objs.size ≤ dx
  dne : dx ≠ x
  ns : h'.Ns1 dx (fun y => if y = fl then some v else none)
/-- a made Low -/
structure OwnMade (fl : Str) (h h' : Heap) (e C d : Addr) (v : Value) : Prop where
  keep : ∀ b o, h.get? b = some o → h'.get? b = some o
  new : h.objs.size ≤ e
  obj : ∃ oe vs, h'.get? e = some oe ∧ oe.cls = .ref C ∧ oe.dict = some d ∧ oe.data = .fields vs ∧ vs[1]? = some .none
  dbig : h.objs.size ≤ d
  dne : d ≠ e
  ns : h'.Ns1 d (fun y => if y = fl then some v else none)
section
variable {prog : Program} {w : World} {A : Around} {E : Value → Shared → Prop} {R : Result → Shared → Prop} {s : Shared} {K : Frag} {mg : Str → Option Value} {nx qi fl : Str} {C fI : Addr}
end
end XgX
end PySem
namespace L2
open PySem PySem.Spec PyProof.Rows
section
variable {X : Cx} {nx qi fl : Str} {C fI : Addr}
end
end L2

namespace L2.G
open PySem PySem.Spec PyProof.Rows
section
variable {X : Cx} {c : Ct} {pos pos2 p : Pos} {W : WX} {r : RX} {x qi fl : Str} {C fI : Addr} {e : Expr} {fe : dE} {k : Nat}
def sRaise1 (x fl : Str) (fe : dE) (r : RX) : dS := fun _ ρ T => fe ρ T fun d T1 => r ⟨x, some (fl, d)⟩ ρ T1
end
end L2.G
namespace L2.G
open PySem PySem.Spec PyProof.Rows
section
variable {X : Cx} {x n : Str} {cv : Value} {i : Nat} {body suite : List Stmt} {b₀ : Stmt} {np pos pos' : Pos} {b : RX → dS} {s : ExD → Addr → Option Addr → dS} {mt : Str → Option Bool}
end
end L2.G
namespace L2.G
open PySem PySem.Spec PyProof.Rows
section
variable {X : Cx} {nm qi fl x : Str} {C fI a : Addr} {oe : Obj} {d : Option Addr} {pn : List (Addr × Obj)} {p pos : Pos}
/-- n.given in the suite, n in slot i -/
def dGiven (fl : Str) (i : Nat) (a : Addr) (d : Option Addr) : dE := fun ρ T k => match ρ[i]? with
  | some (some (.exc a' (some (dd, fl', x)))) => a' = a ∧ d = some dd ∧ fl' = fl ∧ k x T
  | _ => False
end
end L2.G

set_option maxHeartbeats 2000000
/-! isinstance of a caught exception, with or without a dict -/
namespace PySem.W
open PySem PySem.Spec PySem.Calls PyProof.Rows
section
variable {prog : Program} {w : World} {A : Around} {E : Value → Shared → Prop} {s : Shared} {K : Frag} {x D : Addr} {ox : Obj} {od : Option Obj}
end
end PySem.W
namespace L2
open PySem PySem.Spec PyProof.Rows
end L2
namespace L2.G
open PySem PySem.Spec PyProof.Rows
section
variable {X : Cx} {x cn : Str} {a : Addr} {oe : Obj} {cls : Value} {d : Option Addr} {pn : List (Addr × Obj)} {p p2 p3 pos : Pos} {cv : Value} {cx : V} {ob : Option Bool}
/-- isinstance(n, C) in the suite, n in slot i -/
def dIsE (i : Nat) (a : Addr) (d : Option Addr) (ob : Option Bool) : dE := fun ρ T k => match ob, ρ[i]? with
  | some b, some (some (.exc a' g)) => a' = a ∧ d = g.map (·.1) ∧ k (.bl b) T
  | _, _ => False
/-- n.given in the suite -/
def dGivE (fl : Str) (i : Nat) (a : Addr) (d : Option Addr) (ok : Bool) : dE := fun ρ T k => ok = true ∧ dGiven fl i a d ρ T k
end

/-! calls that may raise within other expressions -/
section
variable {X : Cx} {c : Ct} {e a b : Expr} {es : List Expr} {fe fa fb : dE} {fr : dA} {ft : dT} {f g : dS} {pos p : Pos} {n : Nat} {x : Str} {ps : List Str} {sem : Sem}
end
end L2.G
/-! l.count(True), l.index(True) of lists of truth values -/
namespace L2
open PySem PySem.Spec PyProof.Rows
section
variable {X : Cx}
end
end L2
namespace L2.G
open PySem PySem.Spec PyProof.Rows
def cntT : List Bool → Int | [] => 0 | true :: r => cntT r + 1 | false :: r => cntT r
theorem cntT_nil : cntT [] = 0 := rfl
theorem cntT_t {r : List Bool} : cntT (true :: r) = cntT r + 1 := rfl
theorem cntT_f {r : List Bool} : cntT (false :: r) = cntT r := rfl
def idxT : List Bool → Option Nat | [] => none | true :: _ => some 0 | false :: r => (idxT r).map (· + 1)
theorem idxT_f {r : List Bool} : idxT (false :: r) = (idxT r).map (· + 1) := rfl
def cntR (g : List Bool → Option Int) (P : Prop) (o : Option (List Bool)) : PD := match o with | some bs => (match g bs with | some i => some (P, .int i) | none => none) | none => none
def fCntT : D → D → PD | .lst xs, .bl true => cntR (fun bs => some (cntT bs)) (D.eqOk (.lst xs)) (bls? xs) | _, _ => none
def fIdxT : D → D → PD | .lst xs, .bl true => cntR (fun bs => (idxT bs).map Int.ofNat) (D.eqOk (.lst xs)) (bls? xs) | _, _ => none
theorem fCntT_lst {xs : List D} : fCntT (.lst xs) (.bl true) = cntR (fun bs => some (cntT bs)) (D.eqOk (.lst xs)) (bls? xs) := rfl
theorem fIdxT_lst {xs : List D} : fIdxT (.lst xs) (.bl true) = cntR (fun bs => (idxT bs).map Int.ofNat) (D.eqOk (.lst xs)) (bls? xs) := rfl
def dMt (o : Op2) (fo fx : dE) : dE := fun ρ T k => fo ρ T fun x T1 => ∃ xs, x = .lst xs ∧ fx ρ T1 fun y T2 => o x y fun d => k d T2
section
variable {X : Cx} {o e : Expr} {fo fe : dE} {apos cpos : Pos} {n : Nat}
end
/-! walking -/
def exK (ob : Option Bool) (s : Option (Option SV)) (a : Addr) (d : Option Addr) (T : Tk) (k : KD) (fz : Fz k := ⟨⟩) : Prop := match ob, s with
  | some b, some (some (.exc a' g)) => a' = a ∧ d = g.map (·.1) ∧ k (.bl b) T
  | _, _ => False
theorem exK_0 {b : Bool} {a : Addr} {T : Tk} {k : KD} : exK (some b) (some (some (.exc a none))) a none T k = k (.bl b) T := propext ⟨fun h => h.2.2, fun h => ⟨rfl, rfl, h⟩⟩
theorem exK_1 {b : Bool} {a dd : Addr} {x : Str × D} {T : Tk} {k : KD} : exK (some b) (some (some (.exc a (some (dd, x))))) a (some dd) T k = k (.bl b) T := propext ⟨fun h => h.2.2, fun h => ⟨rfl, rfl, h⟩⟩
def gvK (fl : Str) (s : Option (Option SV)) (a : Addr) (d : Option Addr) (T : Tk) (k : KD) (fz : Fz k := ⟨⟩) : Prop := match s with
  | some (some (.exc a' (some (dd, fl', x)))) => a' = a ∧ d = some dd ∧ fl' = fl ∧ k x T
  | _ => False
theorem gvK_1 {fl : Str} {a dd : Addr} {x : D} {T : Tk} {k : KD} : gvK fl (some (some (.exc a (some (dd, fl, x))))) a (some dd) T k = k x T := propext ⟨fun h => h.2.2.2, fun h => ⟨rfl, rfl, rfl, h⟩⟩
def mtK (x : D) (F : Prop) (fz : Fz F := ⟨⟩) : Prop := ∃ xs, x = .lst xs ∧ F
theorem mtK_go {xs : List D} {F : Prop} : mtK (.lst xs) F = F := propext ⟨fun ⟨_, _, h⟩ => h, fun h => ⟨xs, rfl, h⟩⟩
section
variable {ρ : En} {T : Tk} {k : KD} {o : Op2} {fe fo : dE} {fr : dA} {i n : Nat} {K : dEnds} {se : SemX} {r : RX} {x fl : Str} {a : Addr} {d : Option Addr} {ob : Option Bool}
theorem h_isE : dIsE i a d ob ρ T k = exK ob ρ[i]? a d T k := propext Iff.rfl
theorem h_givE : dGivE fl i a d true ρ T k = gvK fl ρ[i]? a d T k := propext ⟨fun h => h.2, fun h => ⟨rfl, h⟩⟩
theorem h_mt : dMt o fo fe ρ T k = fo ρ T fun x T1 => mtK x (fe ρ T1 fun y T2 => o x y fun d => k d T2) := propext Iff.rfl
theorem h_callX : dCallX n se r fr ρ T k = fr ρ T fun as T1 => callN n (se (fun e T => r e ρ T)) as T1 k := propext Iff.rfl
def raiK (r : RX) (x : Str) (g : Option (Str × D)) (ρ : En) (T : Tk) : Prop := r ⟨x, g⟩ ρ T
theorem raiK_go {r : RX} {x : Str} {g : Option (Str × D)} : raiK r x g ρ T = r ⟨x, g⟩ ρ T := propext Iff.rfl
theorem h_raise1 : sRaise1 x fl fe r K ρ T = fe ρ T fun d T1 => raiK r x (some (fl, d)) ρ T1 := propext Iff.rfl
theorem h_raise0 : sRaise0 x r K ρ T = raiK r x none ρ T := propext Iff.rfl
end
end L2.G
/-! the head's facts on classes -/
namespace L2.G
open PySem PySem.Spec PyProof.Rows
theorem exB_of {K : PySem.W.Frag} {C : Addr} (q : exB K C = true) : ExcC K C := by
  unfold exB at q
  simp only [Bool.and_eq_true, beq_iff_eq] at q
  obtain ⟨q1, q2, q3, q4, q5, q6, q7, q8⟩ := q
  exact ⟨q1, q2, q3, q4, q5, q6, q7, q8⟩
section
variable {z : Hd} {K : PySem.W.Frag} {h : Heap} {mg : Str → Option Value}
/-- an own class whose instances are made, its __init__ -/
def MkC (K : PySem.W.Frag) (mg : Str → Option Value) (x qi : Str) (st : Stmt) : Prop := ∃ C f fd, mg x = some (.ref C) ∧ PySem.W.nsIn K mainGlobals x = some (some (.ref C)) ∧ Mk K C f ∧ Cls K C ∧ (∀ n ∈ flds x, NoAttr K C n) ∧ Fun K "__init__" qi st f fd
theorem Hd.Says.mkc (X : K.In h) (G : h.Ns mainGlobals mg) (c : z.Says K) (i : Nat) {x qi : Str} {st : Stmt} (e : z.ini[i]? = some (x, x, qi, st)) (hx : isGv x = false := by decide) : MkC K mg x qi st := by
  obtain ⟨C, f, oc, od, osl, kV, doc, pm, an, cdv, ct, h1, h2, h3, h4⟩ := c.i _ (List.mem_of_getElem? e)
  unfold xgB at h2
  rw [if_pos hx] at h2
  unfold mkB at h2
  simp only [Bool.and_eq_true, beq_iff_eq] at h2
  obtain ⟨a1, a2, a3, a4, a5, a6, a7, a8, a9, b1⟩ := h2
  refine ⟨C, f, _, PySem.W.mg_of X G h1, h1, ⟨a1, a2, a3, a4⟩, ⟨a6, a7, a8, a9⟩, fun n hn => ?_, ⟨oc, od, kV, doc, pm, an, cdv, ct, osl, rfl, h3, h4⟩, a5⟩
  have := List.all_eq_true.mp b1 n hn
  exact beq_iff_eq.mp this
theorem Hd.Says.io (X : K.In h) (G : h.Ns mainGlobals mg) (c : z.Says K) {cn : Str} {is : Str → Option Bool} (hcn : cn ∈ z.exs) (hm : ∀ nm b, is nm = some b → nm ∈ z.exs ∧ (nm, cn, b) ∈ z.kis) :
    ∃ C, mg cn = some (.ref C) ∧ ∀ nm cls, mg nm = some cls → ∀ b, is nm = some b → ∃ D, cls = .ref D ∧ ExcC K D ∧ PySem.W.kitOne K (.ref D) (.ref C) = some b := by
  obtain ⟨C, hC, _⟩ := c.e _ hcn
  have z3 := PySem.W.mg_of X G hC
  refine ⟨C, z3, fun nm cls hn b hb => ?_⟩
  obtain ⟨h1, h2⟩ := hm nm b hb
  obtain ⟨D, hD, eD⟩ := c.e _ h1
  obtain ⟨u, C', k1, k2, k3⟩ := c.ki _ h2
  have z1 := PySem.W.mg_of X G hD
  have z2 := PySem.W.mg_of X G k1
  have z4 := PySem.W.mg_of X G k2
  simp only at z2 z4
  rw [hn] at z1 z2
  rw [z3] at z4
  cases z1
  cases z2
  cases z4
  exact ⟨D, rfl, exB_of eD, k3⟩
end
section
variable {X : Cx} {x cn : Str} {a : Addr} {oe : Obj} {cls : Value} {d : Option Addr} {pn : List (Addr × Obj)} {p p2 p3 pos : Pos} {ob : Option Bool}
end
section
variable {X : Cx} {a b : Expr} {fa fb : dE} {pos : Pos}
end
end L2.G

set_option maxHeartbeats 2000000
namespace L2.G
open PySem PySem.Spec PyProof.Rows
/-! repr of a list of a text and an empty dict -/
def SysOk (K : PySem.W.Frag) : Prop := ∃ o, K.lookup sysModules = some o ∧ o.cls = .type "dict"
def ReprE (xs : List D) : Prop := ∃ w, xs = [.str w, .dct [] []] ∧ (PyData.list [.str w, .dict []]).showable = true ∧ (PyData.list [.str w, .dict []]).shown.length ≤ sizeLine
def fReprE : List D → PD
  | [.lst xs] => some (D.shOk (.lst xs) ∨ ReprE xs, .str (D.py (.lst xs)).shown)
  | ds => fRepr ds
theorem fReprE_lst {xs : List D} : fReprE [.lst xs] = some (D.shOk (.lst xs) ∨ ReprE xs, .str (D.py (.lst xs)).shown) := rfl
theorem fReprE_tup {xs : List D} : fReprE [.tup xs] = some (D.shOk (.tup xs), .str (D.py (.tup xs)).shown) := rfl
theorem fReprE_int {i : Int} : fReprE [.int i] = some (i.natAbs.log2 < 1920, .str (toString i)) := rfl
theorem fReprE_bl {b : Bool} : fReprE [.bl b] = some (True, .str (if b then "True" else "False")) := rfl
theorem fReprE_non : fReprE [.non] = some (True, .str "None") := rfl
section
variable {X : Cx} {e : Expr} {es : List Expr} {fr : dA} {p pos : Pos}
end
end L2.G
namespace L2.G
open PySem PySem.Spec PyProof.Rows
theorem cntC_some {P : Prop} {bs : List Bool} : cntR (fun bs => some (cntT bs)) P (some bs) = some (P, .int (cntT bs)) := rfl
def idxI (bs : List Bool) : Option Int := (idxT bs).map Int.ofNat
theorem idxI_t {r : List Bool} : idxI (true :: r) = some 0 := rfl
theorem idxI_f {r : List Bool} : idxI (false :: r) = (idxI r).map (· + 1) := by
  unfold idxI
  rw [idxT_f]
  cases idxT r <;> rfl
def ixR2 (P : Prop) (o : Option Int) : PD := match o with | some i => some (P, .int i) | none => none
theorem ixR2_some {P : Prop} {i : Int} : ixR2 P (some i) = some (P, .int i) := rfl
theorem idxC_some {P : Prop} {bs : List Bool} : cntR (fun bs => (idxT bs).map Int.ofNat) P (some bs) = ixR2 P (idxI bs) := by
  show (match (idxT bs).map Int.ofNat with | some i => some (P, D.int i) | none => none) = ixR2 P ((idxT bs).map Int.ofNat)
  cases (idxT bs).map Int.ofNat <;> rfl
end L2.G

set_option maxHeartbeats 2000000
namespace L2
open PySem PySem.Spec PyProof.Rows
section
variable {X : Cx} {e : Expr} {es : List Expr} {pos cpos apos : Pos} {t : TA} {te : TE}
end
end L2
namespace L2.G
open PySem PySem.Spec PyProof.Rows
def strs? : List D → Option (List Str)
  | [] => some []
  | .str z :: r => (strs? r).map (z :: ·)
  | _ :: _ => none
def idxS (z : Str) : List Str → Option Nat
  | [] => none
  | y :: r => if y = z then some 0 else (idxS z r).map (· + 1)
def idx? (ds : List D) (y : D) : Option Nat := match y with
  | .str z => (match strs? ds with
    | some ys => idxS z ys
    | none => none)
  | _ => none
/-- (..).index(y), a tuple of texts -/
def dTupIx (fr : dA) (fe : dE) : dE := fun ρ T k => fr ρ T fun as T1 => match vals? as with
  | some ds => ds.length ≤ 1000000 ∧ fe ρ T1 fun y T2 => ∃ j : Nat, idx? ds y = some j ∧ k (.int j) T2
  | none => False
section
variable {X : Cx} {e : Expr} {es : List Expr} {fe : dE} {fr : dA} {pos cpos apos : Pos} {c : Ct} {a b : Expr} {fa fb : dE}
end
def tixK (o : Option Nat) (k : D → Prop) (fz : Fz k := ⟨⟩) : Prop := ∃ j : Nat, o = some j ∧ k (.int j)
theorem tixK_go {j : Nat} {k : D → Prop} : tixK (some j) k = k (.int j) := propext ⟨fun ⟨_, e, h⟩ => by cases e; exact h, fun h => ⟨j, rfl, h⟩⟩
theorem h_tupIx {fr : dA} {fe : dE} {ρ : En} {T : Tk} {k : KD} : dTupIx fr fe ρ T k = fr ρ T fun as T1 => sqK (vals? as) fun ds => ds.length ≤ 1000000 ∧ fe ρ T1 fun y T2 => tixK (idx? ds y) fun d => k d T2 := propext Iff.rfl
end L2.G

set_option maxHeartbeats 4000000
namespace L2.G
open PySem PySem.Spec PyProof.Rows L2
section
variable {P : Program} {w : World} {A : Around} {E : Value → Shared → Prop} {s : Shared}
end
/-! sorted(set([..])), ints -/
section
variable {X : Cx}
variable {e : Expr} {fr : dA} {p p2 pos pos2 : Pos}
end
end L2.G

namespace L2.G
open PySem PySem.Spec PyProof.Rows L2
/-! zip of three tuples -/
def zipD3 : List D → List D → List D → List D
  | x :: xs, y :: ys, z :: zs => .tup [x, y, z] :: zipD3 xs ys zs
  | _, _, _ => []
theorem zipD3_cons {x y z : D} {xs ys zs : List D} : zipD3 (x :: xs) (y :: ys) (z :: zs) = .tup [x, y, z] :: zipD3 xs ys zs := rfl
theorem zipD3_nil {ys zs : List D} : zipD3 [] ys zs = [] := by simp [zipD3]
def zip3 : List SV → Option (List D)
  | [.val (.tup xs), .val (.tup ys), .val (.tup zs)] => some (zipD3 xs ys zs)
  | _ => none
theorem zip3_tup {xs ys zs : List D} : zip3 [.val (.tup xs), .val (.tup ys), .val (.tup zs)] = some (zipD3 xs ys zs) := rfl
def iZ3 (fr : dA) : dI := fun ρ T k => fr ρ T fun as T1 => match zip3 as with | some l => l.length ≤ 1000000 ∧ k l T1 | none => False
def zp3K (o : Option (List D)) (T : Tk) (k : List D → Tk → Prop) (fz : Fz k := ⟨⟩) : Prop := match o with | some l => l.length ≤ 1000000 ∧ k l T | none => False
theorem zp3K_go {l : List D} {T : Tk} {k : List D → Tk → Prop} : zp3K (some l) T k = (l.length ≤ 1000000 ∧ k l T) := propext Iff.rfl
theorem h_iZ3 {fr : dA} {ρ : En} {T : Tk} {k : List D → Tk → Prop} : iZ3 fr ρ T k = fr ρ T fun as T1 => zp3K (zip3 as) T1 k := propext Iff.rfl
end L2.G

namespace L2.G
open PySem PySem.Spec PyProof.Rows LamX
/-! a lambda without parameters, handed to a def that calls it -/
/-- what a call of the lambda does -/
abbrev Act := RK → Tk → KD → Prop
/-- act(), act in slot i -/
def dAct (i f c' : Addr) (q : Str) (act : Act) (r : RX) : dE := fun ρ T k => ρ[i]? = some (some (.fn f c' q)) ∧ act (fun e T' => r e ρ T') T k
/-- the call in any def that was entered at s, H with the lambda at f -/
def ActIn (P : Program) (w : World) (K : PySem.W.Frag) (mg : Str → Option Value) (base : Heap) (A : Around) (fs : List Env) (s : Shared) (H : Hp) (t : Option Addr) (F : Hp) (f c' : Addr) (q : Str) (act : Act) : Prop :=
  ∀ (N : List Str) (x : Str) (sc : Scope) (g : Addr) (cdg : Value) (pn : List (Addr × Obj)) (xe : Value → Shared → Prop) (c : Ct) (r : RX) (W : WX) (i : Nat) (a : Str) (p1 p2 : Pos),
    N[i]? = some a → Vis sc a → (a == ("__debug__" : Str)) = false → (a == ("__classdict__" : Str)) = false → c.t = t → c.F0 = F → c.H0 = H →
    Takes ((cxOf CX0 P w K mg base N x sc g cdg A fs s H E0).tr pn xe) W → Lk ((cxOf CX0 P w K mg base N x sc g cdg A fs s H E0).tr pn xe) c r W →
    PEx ((cxOf CX0 P w K mg base N x sc g cdg A fs s H E0).tr pn xe) c (.Call (.Name a p1) [] [] p2) (dAct i f c' q act r)
def OkL (P : Program) (w : World) (K : PySem.W.Frag) (mg : Str → Option Value) (base : Heap) (n : Nat) (x a : Str) (sem : Act → Tk → KD → Prop) : Prop :=
  ∃ g fd, mg x = some (.ref g) ∧ PySem.W.keepIn K (.ref g) = true ∧ Binds K fd [a] [] ∧
    ∀ (A : Around) (fs : List Env) (s : Shared) (H : Hp) (f c' : Addr) (q : Str) (act : Act) (t : Option Addr) (F : Hp) (T : Tk) (k : KD) (Q : VK), Room n A → A.guards = some [] → Env0 P w K mg base A fs s H → BindsTo s fd ⟨[.ref f], []⟩ ([a].zip [.ref f]) →
      Wt K T t F H → H c' = some (CodeO c' q) → ActIn P w K mg base A fs s H t F f c' q act → sem act T k → Fin K t F H k Q → codeAny (model P w) A (.call (.ref g) ⟨[.ref f], []⟩) (CR CX0 fs P w H s Q E0) s
theorem OkL.mono {P : Program} {w : World} {K : PySem.W.Frag} {mg : Str → Option Value} {base : Heap} {m n : Nat} {x a : Str} {sem : Act → Tk → KD → Prop} (h : OkL P w K mg base m x a sem) (l : m ≤ n) : OkL P w K mg base n x a sem :=
  let ⟨g, fd, h1, h2, h3, h4⟩ := h; ⟨g, fd, h1, h2, h3, fun A fs s H f c' q act t F T k Q hr => h4 A fs s H f c' q act t F T k Q (hr.mono l)⟩
section
variable {X : Cx} {pins : List (Addr × Obj)} {σ : L2.St} {H HZ : Hp} {s s1 : Shared}
end

/-! the lambda is made and handed on -/
/-- own lists are out of sight -/
def hidS : Option SV → Option SV | some (.own _) => none | some (.me _ _ _) => none | s => s
def hid (ρ : En) : En := ρ.map hidS
theorem hid_nil : hid [] = [] := rfl
theorem hid_c {s : Option SV} {ρ : En} : hid (s :: ρ) = hidS s :: hid ρ := rfl
theorem hidS_val {d : D} : hidS (some (.val d)) = some (.val d) := rfl
theorem hidS_own {xs : List D} : hidS (some (.own xs)) = none := rfl
theorem hidS_tank : hidS (some .tank) = some .tank := rfl
theorem hidS_none : hidS none = none := rfl
theorem hid_get {ρ : En} {i : Nat} {s : SV} (h : (hid ρ)[i]? = some (some s)) : ρ[i]? = some (some s) ∧ s.mine = false := by
  unfold hid at h
  rw [List.getElem?_map] at h
  obtain ⟨u, h1, h2⟩ := Option.map_eq_some_iff.mp h
  cases u with
  | none => cases h2
  | some v =>
    cases v with
    | own ys => cases h2
    | me _ _ _ => cases h2
    | _ => cases h2; exact ⟨h1, rfl⟩
theorem Wd.hid {K : PySem.W.Frag} {ρ : En} {T : Tk} {t : Option Addr} {σ : L2.St} {F H : Hp} (w : Wd K ρ T t σ F H) : Wd K (hid ρ) T t σ F H :=
  ⟨w.wt, by rw [← w.len]; simp [G.hid], fun i s e => w.slot i s (hid_get e).1, fun i j xs ys l e1 _ _ _ => absurd (hid_get e1).2 (fun z => nomatch z)⟩
def dLam (sem : Act → Tk → KD → Prop) (b : RX → dE) : dE := fun ρ T k => sem (fun r T' k' => b (fun e _ T'' => r e T'') (hid ρ) T' k') T k
section
variable {X : Cx} {pins : List (Addr × Obj)} {σ : L2.St} {H : Hp} {s : Shared} {ρ : En} {T : Tk} {t : Option Addr} {F : Hp} {f c' : Addr} {scope : Scope} {params : Arguments} {body : Expr} {pm ctv : Value} {k : Nat} {b : RX → dE}
end
section
variable {X : Cx} {pins : List (Addr × Obj)} {σ : L2.St} {H : Hp} {s : Shared} {c P : Addr} {params : Arguments} {body : Expr} {scope : Scope} {pos : Pos} {E Q : Value → Shared → Prop}
/-- making a lambda changes its def's table, and nothing else -/
def Laid (H H1 : Hp) (P c' : Addr) (q : Str) : Prop := H1 = H ∨ ∃ ps ps', H P = some (.tbl ps) ∧ H c' = none ∧ H1 = upd (upd H P (.tbl ps')) c' (CodeO c' q)
theorem Laid.ext {H H1 : Hp} {P c' : Addr} {q : Str} (l : Laid H H1 P c' q) {b : Addr} {o : HO} (e : H b = some o) (n : b ≠ P) : H1 b = some o := by
  rcases l with rfl | ⟨ps, ps', h1, h2, rfl⟩
  · exact e
  · rw [upd_ne (ne_of_none e h2), upd_ne n, e]
theorem Laid.there {H H1 : Hp} {P c' : Addr} {q : Str} (l : Laid H H1 P c' q) {b : Addr} {o : HO} (e : H b = some o) : ∃ o', H1 b = some o' := by
  by_cases n : b = P
  · rcases l with rfl | ⟨ps, ps', h1, h2, rfl⟩
    · exact ⟨o, e⟩
    · subst n
      exact ⟨_, by rw [upd_ne (ne_of_none e h2), upd_same]⟩
  · exact ⟨o, l.ext e n⟩
theorem Laid.wt {K : PySem.W.Frag} {T : Tk} {t : Option Addr} {F H H1 : Hp} {P c' : Addr} {q : Str} (l : Laid H H1 P c' q) (w : Wt K T t F H) (hp : (P, q) ∈ tabsOf K) (hu : ∀ p ∈ tabsOf K, p.1 = P → p.2 = q) (ht : TabS H1 P q) : Wt K T t F H1 := by
  have fP : F P = none := w.tabs.none _ hp
  obtain ⟨psP, atP, _⟩ := w.tabs.tab _ hp
  refine ⟨fun a u e => l.ext (w.sub a u e) (fun z => by rw [z, fP] at e; cases e), fun a e => ?_, w.tabs.none, fun p q1 => ?_, w.tabs.no, fun b ps e => ?_⟩
  · obtain ⟨h1, vs, h2, h3⟩ := w.tank a e
    exact ⟨h1, vs, l.ext h2 (fun z => by have a1 : H P = _ := atP; rw [z, a1] at h2; cases h2), h3⟩
  · by_cases z : p.1 = P
    · rw [z, hu p q1 z]; exact ht
    · obtain ⟨ps, k1, k2, k3⟩ := w.tabs.tab p q1
      refine ⟨ps, l.ext k1 z, k2, fun pos cv hc => ?_⟩
      obtain ⟨c0, e1, e2⟩ := k3 pos cv hc
      exact ⟨c0, e1, l.ext e2 (fun z => by have a1 : H P = _ := atP; rw [z, a1] at e2; unfold CodeO at e2; cases e2)⟩
  · rcases l with rfl | ⟨ps0, ps', h1, h2, rfl⟩
    · exact w.tabs.only b ps e
    · by_cases n1 : b = c'
      · rw [n1, upd_same] at e; unfold CodeO at e; cases e
      · by_cases n2 : b = P
        · rw [n2]; exact ⟨_, hp⟩
        · rw [upd_ne n1, upd_ne n2] at e; exact w.tabs.only b ps e
theorem Laid.grow {K : PySem.W.Frag} {T : Tk} {t : Option Addr} {F H H1 : Hp} {P c' : Addr} {q : Str} (l : Laid H H1 P c' q) (w : Wt K T t F H) (hp : (P, q) ∈ tabsOf K) : Grow t F H F H1 := by
  obtain ⟨psP, atP, _⟩ := w.tabs.tab _ hp
  exact ⟨Same.refl _, fun a u e _ n => l.ext e (fun z => by have a1 : H P = _ := atP; rw [z, a1] at e; cases e; exact n _ rfl), fun _ _ _ n => n, fun a u e => l.there e⟩
end
section
variable {X : Cx} {n k : Nat} {x a : Str} {sem : Act → Tk → KD → Prop} {params : Arguments} {body : Expr} {scope : Scope} {lpos p pos : Pos} {b : RX → dE}
end

/-! try, in a def whose entry is known -/
section
variable {X : Cx} {x n : Str} {cv : Value} {i : Nat} {body suite : List Stmt} {b₀ : Stmt} {np pos pos' : Pos} {b : RX → dS} {s : ExD → Addr → Option Addr → dS} {so : dS} {mt : Str → Option Bool} {c0 : Ct}
end
section
variable {X : Cx} {c : Ct} {es : List Expr} {fr : dA} {pos : Pos}
end

/-! calls by name of defs that may raise -/
section
variable {X : Cx} {CX : CXT} {n : Nat} {f : Addr} {fd : FuncData} {ps ks : List Str} {sp : Sp} {x : Str} {p pos : Pos} {kws : List Keyword} {tk : TA}
end
section
variable {X : Cx} {n : Nat} {x : Str} {ps ks : List Str} {sem : SemX} {p pos : Pos} {kws : List Keyword} {fr : dA} {st : Stmt} {is : List Nat} {c : Ct} {r : RX} {W : WX}
def dCallXP (n : Nat) (is : List Nat) (sem : SemX) (r : RX) (fr : dA) : dE := fun ρ T k => fr ρ T fun as T1 => as.length = n ∧ (permL is as).length = n ∧ sem (fun e T => r e ρ T) (permL is as) T1 k
end
/-! the walker -/
def lamK (sem : Act → Tk → KD → Prop) (b : RX → dE) (ρ : En) (T : Tk) (k : KD) (fz : Fz (b, k) := ⟨⟩) : Prop := sem (fun r T' k' => b (fun e _ T'' => r e T'') (hid ρ) T' k') T k
theorem lamK_in {sem : Act → Tk → KD → Prop} {b : RX → dE} {ρ : En} {T : Tk} {k : KD} (h : sem (fun r T' k' => b (fun e _ T'' => r e T'') (hid ρ) T' k') T k) : lamK sem b ρ T k := h
theorem h_lam {sem : Act → Tk → KD → Prop} {b : RX → dE} {ρ : En} {T : Tk} {k : KD} : dLam sem b ρ T k = lamK sem b ρ T k := propext Iff.rfl
theorem h_callXP {n : Nat} {is : List Nat} {se : SemX} {r : RX} {fr : dA} {ρ : En} {T : Tk} {k : KD} : dCallXP n is se r fr ρ T k = fr ρ T fun as T1 => callP n is (se (fun e T => r e ρ T)) as T1 k := propext Iff.rfl
end L2.G

set_option maxHeartbeats 2000000
/-! tuples whose object is known as it lies: x = tuple(list), x.index(number) -/
namespace L2
open PySem PySem.Spec PyProof.Rows
section
variable {X : Cx}
end
end L2
namespace L2.G
open PySem PySem.Spec PyProof.Rows
/-- x = tuple(e), e a list; x is then known as it lies -/
def sTupP (i : Nat) (fe : dE) : dS := fun k ρ T => fe ρ T fun d T1 => match d with | .lst xs => k.nx (ρ.set i (some (.ptup xs))) T1 | _ => False
def numL? : List D → Option (List Int)
  | [] => some []
  | .int z :: r => (numL? r).map (z :: ·)
  | _ :: _ => none
def idxN (z : Int) : List Int → Option Nat
  | [] => none
  | y :: r => if y = z then some 0 else (idxN z r).map (· + 1)
def idxD? (ds : List D) (y : D) : Option Nat := match y with
  | .int z => (match numL? ds with
    | some ys => idxN z ys
    | none => none)
  | _ => none
/-- x.index(e), x such a tuple -/
def dPix (i : Nat) (fe : dE) : dE := fun ρ T k => match ρ[i]? with
  | some (some (.ptup ds)) => fe ρ T fun y T1 => ∃ j : Nat, idxD? ds y = some j ∧ k (.int j) T1
  | _ => False
section
variable {X : Cx} {e : Expr} {fe : dE} {p p2 pos cpos apos : Pos} {x : Str}
end
/-! the walker -/
def tuPK (d : D) (k : List D → Prop) (fz : Fz k := ⟨⟩) : Prop := match d with | .lst xs => k xs | _ => False
theorem tuPK_go {xs : List D} {k : List D → Prop} : tuPK (.lst xs) k = k xs := propext Iff.rfl
theorem h_tupP {i : Nat} {fe : dE} {K : dEnds} {ρ : En} {T : Tk} : sTupP i fe K ρ T = fe ρ T fun d T1 => tuPK d fun xs => setE (ρ.set i (some (.ptup xs))) fun ρ => K.nx ρ T1 := propext Iff.rfl
def pixK (s : Option (Option SV)) (F : List D → Prop) (fz : Fz F := ⟨⟩) : Prop := match s with | some (some (.ptup ds)) => F ds | _ => False
theorem pixK_go {ds : List D} {F : List D → Prop} : pixK (some (some (.ptup ds))) F = F ds := propext Iff.rfl
theorem h_pix {i : Nat} {fe : dE} {ρ : En} {T : Tk} {k : KD} : dPix i fe ρ T k = pixK ρ[i]? fun ds => fe ρ T fun y T1 => tixK (idxD? ds y) fun d => k d T1 := propext Iff.rfl
theorem hidS_ptup {xs : List D} : hidS (some (.ptup xs)) = some (.ptup xs) := rfl
end L2.G

namespace L2.G
open PySem PySem.Spec PyProof.Rows
/-! a dict of the module whose keys are tuples of ints and whose values are ints: TABLE.get(x) -/
def lkT (kvs : List (List Int × Int)) (k : List Int) : Option Int := (kvs.find? fun c => decide (c.1 = k)).map (·.2)
def getT (o : Option Int) : D := match o with | some i => .int i | none => .non
/-- what .get of the table gives -/
def getK (kvs : List (List Int × Int)) (o : Option (List Int)) (k : D → Prop) : Prop := match o with | some ns => k (getT (lkT kvs ns)) | none => False
def tupN (d : D) : Option (List Int) := match d with | .tup xs => nums? xs | _ => none
def dGetT (kvs : List (List Int × Int)) (fe : dE) : dE := fun ρ T k => fe ρ T fun d T1 => getK kvs (tupN d) fun r => k r T1
section
variable {X : Cx} {e : Expr} {fe : dE} {p apos cpos : Pos} {x : Str} {kvs : List (List Int × Int)}
end
theorem h_getT {kvs : List (List Int × Int)} {fe : dE} {ρ : En} {T : Tk} {k : KD} : dGetT kvs fe ρ T k = fe ρ T fun d T1 => getK kvs (tupN d) fun r => k r T1 := propext Iff.rfl
theorem tupN_tup {xs : List D} : tupN (.tup xs) = nums? xs := rfl
theorem getK_some {kvs : List (List Int × Int)} {ns : List Int} {k : D → Prop} : getK kvs (some ns) k = k (getT (lkT kvs ns)) := propext Iff.rfl
end L2.G

set_option maxHeartbeats 2000000
/-! (..).index(x), tuples of ints among tuples of ints; x, y = (..), None -/
namespace L2
open PySem PySem.Spec PyProof.Rows
section
variable {X : Cx}
end
end L2
namespace L2.G
open PySem PySem.Spec PyProof.Rows
/-- x, y = (..), None; x is then known as it lies -/
def sUnpP (i j : Nat) (fr : dA) : dS := fun k ρ T => fr ρ T fun as T1 => match vals? as with
  | some ds => ds.length ≤ 1000000 ∧ k.nx ((ρ.set i (some (.ptup ds))).set j (some (.val .non))) T1
  | none => False
section
variable {X : Cx} {e : Expr} {es : List Expr} {fe : dE} {fr : dA} {p pos cpos apos : Pos} {x y : Str}
def idxTT (z : List Int) : List (List Int) → Option Nat
  | [] => none
  | y :: r => if y = z then some 0 else (idxTT z r).map (· + 1)
/-- (some of tuples of ints).index(a tuple of ints) -/
def idxTT? (ds : List D) (y : D) : Option Nat := match tups? ds, tupN y with
  | some nss, some z => idxTT z nss
  | _, _ => none
/-- x.index(e), x known as it lies -/
def dPixT (i : Nat) (fe : dE) : dE := fun ρ T k => match ρ[i]? with
  | some (some (.ptup ds)) => fe ρ T fun y T1 => ∃ j : Nat, idxTT? ds y = some j ∧ k (.int j) T1
  | _ => False
end
theorem h_unpP {i j : Nat} {fr : dA} {K : dEnds} {ρ : En} {T : Tk} : sUnpP i j fr K ρ T = fr ρ T fun as T1 => sqK (vals? as) fun ds => ds.length ≤ 1000000 ∧ setE ((ρ.set i (some (.ptup ds))).set j (some (.val .non))) fun ρ => K.nx ρ T1 := propext Iff.rfl
theorem h_pixT {i : Nat} {fe : dE} {ρ : En} {T : Tk} {k : KD} : dPixT i fe ρ T k = pixK ρ[i]? fun ds => fe ρ T fun y T1 => tixK (idxTT? ds y) fun d => k d T1 := propext Iff.rfl
end L2.G

set_option maxHeartbeats 2000000
/-! xs[::k] of tuples, k a number above 1 that is written -/
namespace L2
open PySem PySem.Spec PyProof.Rows
/-- every k-th -/
def stp {α : Type} (k : Nat) (xs : List α) : List α := (List.range ((xs.length + (k - 1)) / k)).filterMap fun i => xs[i * k]?
section
variable {prog : Program} {w : World} {A : Around} {E : Value → Shared → Prop} {s : Shared}
end
theorem Vals.pick {xs : List V} {us : List Value} (r : Vals xs us) (g : Nat → Nat) : ∀ is : List Nat, Vals (is.filterMap fun i => xs[g i]?) (is.filterMap fun i => us[g i]?)
  | [] => .nil
  | i :: is => by
    have ih := Vals.pick r g is
    rw [List.filterMap_cons, List.filterMap_cons]
    cases h : xs[g i]? with
    | none => rw [r.none_of h]; exact ih
    | some x =>
      obtain ⟨u, hu, hr⟩ := r.get h
      rw [hu]
      exact .cons hr ih
theorem Vals.stp {k : Nat} {xs : List V} {us : List Value} (r : Vals xs us) : Vals (L2.stp k xs) (L2.stp k us) := by
  unfold L2.stp
  rw [← r.length]
  exact Vals.pick r (fun i => i * k) _
namespace G
section
variable {X : Cx} {e : Expr} {fe : dE}
theorem RepL.pick {K : PySem.W.Frag} {F : Hp} {ds : List D} {vs : List V} (r : RepL K F ds vs) (g : Nat → Nat) : ∀ is : List Nat, RepL K F (is.filterMap fun i => ds[g i]?) (is.filterMap fun i => vs[g i]?)
  | [] => .nil
  | i :: is => by
    have ih := RepL.pick r g is
    rw [List.filterMap_cons, List.filterMap_cons]
    cases h : ds[g i]? with
    | none =>
      cases h2 : vs[g i]? with
      | none => exact ih
      | some v =>
        obtain ⟨d, hd, _⟩ := RepL.getV r h2
        rw [h] at hd
        cases hd
    | some d =>
      obtain ⟨v, hv, hr⟩ := RepL.get r h
      rw [hv]
      exact .cons hr ih
def D.stp? (k : Nat) : D → Option D | .tup xs => some (.tup (L2.stp k xs)) | _ => none
theorem stp_tup {k : Nat} {xs : List D} : D.stp? k (.tup xs) = some (.tup (L2.stp k xs)) := rfl
def dStp (k : Nat) (fe : dE) : dE := fun ρ T q => fe ρ T fun x T1 => match D.stp? k x with | some d => q d T1 | none => False
theorem h_stp {k : Nat} {ρ : En} {T : Tk} {q : KD} : dStp k fe ρ T q = fe ρ T fun x T1 => opK (D.stp? k x) fun d => q d T1 := propext Iff.rfl
end
theorem stp3_4 {a b c d : D} : L2.stp 3 [a, b, c, d] = [a, d] := by
  unfold L2.stp
  rw [show ([a, b, c, d].length + (3 - 1)) / 3 = 2 by simp, show List.range 2 = [0, 1] from rfl]
  rfl
end G
end L2

set_option maxHeartbeats 4000000
/-! set of a tuple of tuples of ints -/
namespace L2
open PySem PySem.Spec PyProof.Rows
section
variable {P : Program} {w : World} {A : Around} {E : Value → Shared → Prop} {s : Shared}
end
end L2

set_option maxHeartbeats 2000000
/-! len(set(t)), t a tuple of tuples of ints that are all unlike -/
namespace L2
open PySem PySem.Spec PyProof.Rows
namespace G
/-- a tuple of tuples of ints, all unlike, fewer than 64 -/
def LenS : D → Prop
  | .tup ds => ∃ nss, tups? ds = some nss ∧ nss.Nodup ∧ nss.length < 64
  | _ => False
def lenD : D → Int
  | .tup ds => ds.length
  | _ => 0
def dLenSet (fe : dE) : dE := fun ρ T k => fe ρ T fun x T1 => LenS x ∧ k (.int (lenD x)) T1
theorem h_lenSet {fe : dE} {ρ : En} {T : Tk} {k : KD} : dLenSet fe ρ T k = fe ρ T fun x T1 => LenS x ∧ k (.int (lenD x)) T1 := propext Iff.rfl
end G
end L2

set_option maxHeartbeats 2000000
/-! min(t, u) of two tuples of ints -/
namespace L2
open PySem PySem.Spec PyProof.Rows
section
variable {prog : Program} {w : World} {A : Around} {R : Result → Shared → Prop} {I : Addr} {fp wr : List Addr} {n : Nat} {P : Nat → Value → Prop} {St : Nat → Heap → Prop} {h0 : Heap}
end
section
variable {prog : Program} {w : World} {A : Around} {E : Value → Shared → Prop} {s : Shared}
end
namespace G
def mnT (xs ys : List D) : Option (List Int) → Option (List Int) → PD
  | some a, some b => some (True, if HT.lexLt b a = true then .tup ys else .tup xs)
  | _, _ => none
def fMinT : List D → PD
  | [.tup xs, .tup ys] => mnT xs ys (nums? xs) (nums? ys)
  | _ => none
theorem fMinT_tup {xs ys : List D} : fMinT [.tup xs, .tup ys] = mnT xs ys (nums? xs) (nums? ys) := rfl
theorem mnT_some {xs ys : List D} {a b : List Int} : mnT xs ys (some a) (some b) = some (True, if HT.lexLt b a = true then .tup ys else .tup xs) := rfl
end G
end L2

set_option maxHeartbeats 2000000
namespace L2.G
open PySem PySem.Spec PyProof.Rows
/-! a pair of patterns as the target of a comprehension -/
def cPair (ca cb : dC1) : dC1 := fun d ρ => match d with | .tup [x, y] => (ca x ρ).bind (cb y) | _ => none
def cpB (o : Option En) (f : En → Option En) : Option En := o.bind f
theorem h_cP {ca cb : dC1} {x y : D} {ρ : En} : cPair ca cb (.tup [x, y]) ρ = cpB (ca x ρ) (cb y) := rfl
theorem cpB_some {ρ : En} {f : En → Option En} : cpB (some ρ) f = f ρ := rfl

/-! expressions whose result may be a list of one's own -/
abbrev dSV := En → Tk → (SV → Tk → Prop) → Prop
/-- what a result stands for: a value, or a new list that nobody else has -/
def VRel (K : PySem.W.Frag) (t : Option Addr) (H F' H' : Hp) (s : SV) (v : V) : Prop := match s with
  | .val d => Rep K F' d v
  | .own ys => ∃ l vs, v = .ref l ∧ H l = none ∧ F' l = none ∧ H' l = some (.lst vs) ∧ RepL K F' ys vs ∧ t ≠ some l
  | _ => False
def FinV (K : PySem.W.Frag) (t : Option Addr) (F H : Hp) (k : SV → Tk → Prop) (Q : VK) : Prop := ∀ v H' F' s T', Wt K T' t F' H' → Grow t F H F' H' → VRel K t H F' H' s v → k s T' → Q v H'
def tSV (K : PySem.W.Frag) (fs : dSV) : TE := fun σ H Q => ∃ ρ T t F k, Wd K ρ T t σ F H ∧ fs ρ T k ∧ FinV K t F H k Q
def PVd (X : Cx) (e : Expr) (fs : dSV) : Prop := PE X e (tSV X.K fs)
theorem gone_of {t : Option Addr} {F H F1 H1 : Hp} (g : Grow t F H F1 H1) {l : Addr} (h : H1 l = none) : H l = none := by
  cases q : H l with
  | none => rfl
  | some o => obtain ⟨o', h'⟩ := g.there l o q; rw [h] at h'; cases h'
theorem Ws.putV {K : PySem.W.Frag} {ρ : En} {T T' : Tk} {t : Option Addr} {σ : L2.St} {F0 H0 F H F' H' : Hp} (W : Ws K ρ T t σ F0 H0 F H) (g : Grow t F H F' H') (wt : Wt K T' t F' H') {s : SV} {v : V} (r : VRel K t H F' H' s v) (i : Nat) : Ws K (ρ.set i (some s)) T' t (σ.set i (some v)) F0 H0 F' H' := by
  have w1 := W.grow g wt
  unfold VRel at r
  split at r
  · exact w1.put r
  · rename_i ys
    obtain ⟨L, av, rfl, hL, fL, hLv, ra, tL⟩ := r
    have hl0 : H0 L = none := by
      cases q : H0 L with
      | none => rfl
      | some o => obtain ⟨o', h'⟩ := W.g.there L o q; rw [hL] at h'; cases h'
    have old : ∀ (j : Nat) (ys : List D) (m : Addr), ρ[j]? = some (some (SV.own ys)) → σ[j]? = some (some (V.ref m)) → m ≠ L := fun j ys m e1 e2 => by
      obtain ⟨v, h1, l', ws, rfl, _, h3, _, _⟩ := W.w.slot j _ e1
      rw [e2] at h1
      cases h1
      exact ne_of_none h3 hL
    exact w1.ownL fL hLv tL hl0 old ra
  · exact r.elim
def vVal (fe : dE) : dSV := fun ρ T k => fe ρ T fun d T1 => k (.val d) T1
def vLst (fr : dA) : dSV := fun ρ T k => fr ρ T fun as T1 => match vals? as with | some ds => ds.length ≤ 1000000 ∧ k (.own ds) T1 | none => False
def vLc (vs : List Nat) (fi : dI) (c : dC1) (tt : dT) (el : dE) : dSV := fun ρ T k => fi ρ T fun xs T1 => lcD (wipeD ρ vs) c tt el (fun acc T2 => k (.own acc) T2) xs [] T1
theorem h_vVal {fe : dE} {ρ : En} {T : Tk} {k : SV → Tk → Prop} : vVal fe ρ T k = fe ρ T fun d T1 => k (.val d) T1 := propext Iff.rfl
theorem h_vLst {fr : dA} {ρ : En} {T : Tk} {k : SV → Tk → Prop} : vLst fr ρ T k = fr ρ T fun as T1 => sqK (vals? as) fun ds => ds.length ≤ 1000000 ∧ k (.own ds) T1 := propext Iff.rfl
theorem h_vLc {vs : List Nat} {fi : dI} {c : dC1} {tt : dT} {el : dE} {ρ : En} {T : Tk} {k : SV → Tk → Prop} : vLc vs fi c tt el ρ T k = fi ρ T fun xs T1 => setE (wipeD ρ vs) fun ρ' => lcK ρ' c tt el (fun acc T2 => k (.own acc) T2) xs [] T1 := propext Iff.rfl
section
variable {X : Cx} {e a b : Expr} {es : List Expr} {fe : dE} {fr : dA} {fs fa fb : dSV} {pos : Pos}
theorem FinV.then {K : PySem.W.Frag} {t : Option Addr} {F H F1 H1 : Hp} {k : SV → Tk → Prop} {Q : VK} (f : FinV K t F H k Q) (g : Grow t F H F1 H1) : FinV K t F1 H1 k Q := fun v H' F' s T' w1 g1 r h => by
  refine f v H' F' s T' w1 (g.trans g1) ?_ h
  cases s with
  | val d => exact r
  | own ys =>
    obtain ⟨l, vs, e, h1, rest⟩ := r
    exact ⟨l, vs, e, gone_of g h1, rest⟩
  | _ => exact r.elim
theorem v_lst {lp : Pos} (ha : PAd X es fr) : PVd X (.List es lp) (vLst fr) := by
  refine pe_imp (pe_lst ha) fun σ H Q h => ?_
  obtain ⟨ρ, T, t, F, k, w, h, f⟩ := h
  refine ⟨ρ, T, t, F, _, w, h, fun vs H1 F1 as T1 w1 g1 r1 h1 => ?_⟩
  split at h1
  · rename_i ds e
    have r := r1.vals e
    refine ⟨by rw [← r.len]; exact small_line h1.1, fun p hp => ?_⟩
    have tp : t ≠ some p := fun z => by
      obtain ⟨_, us, hu, _⟩ := w1.tank p z
      rw [hp] at hu
      cases hu
    exact f _ _ _ (.own ds) T1 (wt_own w1 hp) (g1.trans (grow_own w1.sub hp)) ⟨p, vs, rfl, gone_of g1 hp, w1.sub.free hp, upd_same, r, tp⟩ h1.2
  · exact h1.elim
/-- x = e -/
def sSetV (i : Nat) (fs : dSV) : dS := fun k ρ T => fs ρ T fun s T1 => k.nx (ρ.set i (some s)) T1
theorem s_setV (i : Nat) {x : Str} {px : Pos} (hN : X.N.Nodup) (ha : PVd X e fs) (hs : swapsWith e (some (.Name x px)) pos.line X.env = pure false := by rfl) (hi : X.N[i]? = some x := by rfl) (hx : Loc X.env.scope x := by first | exact Or.inl rfl | exact Or.inr rfl)
    (hf : X.fn x = true ∨ X.env.scope.names.lookup x = some .local := by first | exact .inl rfl | exact .inr rfl | assumption) : PSd X (.Assign [.Name x px] e pos) (sSetV i fs) := by
  refine ps_imp (ps_set hN hi hx ha hs hf) fun E σ H h => ?_
  obtain ⟨ρ, T, t, F0, H0, F, k, w, h, fe⟩ := h
  exact ⟨ρ, T, t, F, _, w.w, h, fun v H1 F1 s T1 w1 g1 r1 h1 => fe.nx _ _ _ _ _ (w.putV g1 w1 r1 i) g1.sub h1⟩
/-- x, y = a, b -/
def sPar2V (i j : Nat) (fa fb : dSV) : dS := fun k ρ T => fa ρ T fun s T1 => fb ρ T1 fun u T2 => k.nx ((ρ.set i (some s)).set j (some u)) T2
theorem s_par2V (i j : Nat) {x y : Str} {px py pt : Pos} {kt k2 pt2} (hc : X.calm = true) (hN : X.N.Nodup) (ha : PVd X a fa) (hb : PVd X b fb)
    (hi : X.N[i]? = some x := by rfl) (hj : X.N[j]? = some y := by rfl) (hij : i ≠ j := by decide) (hx : X.env.scope.names.lookup x = some .local := by rfl) (hy : X.env.scope.names.lookup y = some .local := by rfl)
    (h1 : starEach [a, b] X.env = (false, eval a X.env) :: starEach [b] X.env := by rfl) (h2 : starEach [b] X.env = (false, eval b X.env) :: starEach [] X.env := by rfl)
    (hw : swappedStores [.Tuple [.Name x px, .Name y py] kt pt] (.Tuple [a, b] k2 pt2) X.env = pure (some [x, y]) := by rfl)
    (hs : swapsWithSole [.Tuple [.Name x px, .Name y py] kt pt] (.Tuple [a, b] k2 pt2) pos.line X.env = pure false := by rfl) : PSd X (.Assign [.Tuple [.Name x px, .Name y py] kt pt] (.Tuple [a, b] k2 pt2) pos) (sPar2V i j fa fb) := by
  refine ps_imp (ps_par hc hN hi hj hij hx hy (pa_cons ha (pa_cons hb pa_nil h2) h1) hw hs) fun E σ H h => ?_
  obtain ⟨ρ, T, t, F0, H0, F, k, w, h, fe⟩ := h
  refine ⟨ρ, T, t, F, _, w.w, h, fun v H1 F1 s T1 w1 g1 r1 h1 => ?_⟩
  refine ⟨ρ, T1, t, F1, _, w.w.grow g1 w1, h1, fun v2 H2 F2 u T2 w2 g2 r2 h2 => ⟨v, v2, rfl, ?_⟩⟩
  exact fe.nx _ _ _ _ _ ((w.putV g1 w1 r1 i).putV g2 w2 r2 j) (g1.sub.trans g2.sub) h2
/-- x, y, z = a, b, c -/
def sPar3V (i j l : Nat) (fa fb fc : dSV) : dS := fun k ρ T => fa ρ T fun s T1 => fb ρ T1 fun u T2 => fc ρ T2 fun v T3 => k.nx (((ρ.set i (some s)).set j (some u)).set l (some v)) T3
/-- x.insert(e, d) -/
def sIns (i : Nat) (fi fe : dE) : dS := fun k ρ T => match ρ[i]? with | some (some (.own xs)) => fi ρ T fun n T1 => fe ρ T1 fun d T2 => intK n fun j => xs.length < 1000000 ∧ 0 ≤ j ∧ j < 1000000 ∧ k.nx (ρ.set i (some (.own (xs.take j.toNat ++ [d] ++ xs.drop j.toNat)))) T2 | _ => False
end
theorem h_ins {i : Nat} {fi fe : dE} {K : dEnds} {ρ : En} {T : Tk} : sIns i fi fe K ρ T = ownK ρ[i]? (fun xs => fi ρ T fun n T1 => fe ρ T1 fun d T2 => intK n fun j => xs.length < 1000000 ∧ 0 ≤ j ∧ j < 1000000 ∧ setE (ρ.set i (some (.own (xs.take j.toNat ++ [d] ++ xs.drop j.toNat)))) fun ρ => K.nx ρ T2) False := propext Iff.rfl
theorem h_setV {i : Nat} {fs : dSV} {K : dEnds} {ρ : En} {T : Tk} : sSetV i fs K ρ T = fs ρ T fun s T1 => setE (ρ.set i (some s)) fun ρ => K.nx ρ T1 := propext Iff.rfl
theorem h_par2V {i j : Nat} {fa fb : dSV} {K : dEnds} {ρ : En} {T : Tk} : sPar2V i j fa fb K ρ T = fa ρ T fun s T1 => fb ρ T1 fun u T2 => setE ((ρ.set i (some s)).set j (some u)) fun ρ => K.nx ρ T2 := propext Iff.rfl
theorem h_par3V {i j l : Nat} {fa fb fc : dSV} {K : dEnds} {ρ : En} {T : Tk} : sPar3V i j l fa fb fc K ρ T = fa ρ T fun s T1 => fb ρ T1 fun u T2 => fc ρ T2 fun v T3 => setE (((ρ.set i (some s)).set j (some u)).set l (some v)) fun ρ => K.nx ρ T3 := propext Iff.rfl
end L2.G

set_option maxHeartbeats 2000000
namespace L2.G
open PySem PySem.Spec PyProof.Rows
/-! x += e, of ints -/
def augK (s : Option (Option SV)) (f : Int → Prop) (fz : Fz f := ⟨⟩) : Prop := match s with | some (some (.val (.int a))) => f a | _ => False
theorem augK_int {a : Int} {f : Int → Prop} : augK (some (some (.val (.int a)))) f = f a := propext Iff.rfl
def sAug (i : Nat) (fe : dE) : dS := fun k ρ T => augK ρ[i]? fun a => fe ρ T fun d T1 => intK d fun b => k.nx (ρ.set i (some (.val (.int (a + b))))) T1
theorem h_aug {i : Nat} {fe : dE} {K : dEnds} {ρ : En} {T : Tk} : sAug i fe K ρ T = augK ρ[i]? fun a => fe ρ T fun d T1 => intK d fun b => setE (ρ.set i (some (.val (.int (a + b))))) fun ρ => K.nx ρ T1 := propext Iff.rfl
end L2.G

set_option maxHeartbeats 2000000
/-! set(t) == {e}: t a tuple of tuples of ints, e one such -/
namespace L2
open PySem PySem.Spec PyProof.Rows
section
variable {P : Program} {w : World} {A : Around} {E : Value → Shared → Prop} {s : Shared}
variable {a : Addr} {es : Array (Int × Value)} {ep : Nat} {t : SetTable} {z x : Addr} {kz k : List Int}
end
section
variable {P : Program} {w : World} {A : Around} {E : Value → Shared → Prop} {s : Shared}
variable {a b : Addr} {es es2 : Array (Int × Value)} {ep ep2 : Nat} {t t2 : SetTable} {z x : Addr} {kz k : List Int} {L : List (Addr × List Int)}
end
namespace G
/-- a tuple of tuples of ints, fewer than 64 -/
def SetE : D → Prop
  | .tup ds => ∃ nss, tups? ds = some nss ∧ nss.length < 64
  | _ => False
def OneT : D → Prop
  | .tup ds => ∃ ns, nums? ds = some ns
  | _ => False
def setEq2 : Option (List (List Int)) → Option (List Int) → Bool
  | some nss, some ns => decide (nss ≠ [] ∧ ∀ m ∈ nss, m = ns)
  | _, _ => false
def setEqD : D → D → Bool
  | .tup ds, .tup es => setEq2 (tups? ds) (nums? es)
  | _, _ => false
def dSetEq (fe fz : dE) : dT := fun ρ T k => fe ρ T fun x T1 => SetE x ∧ fz ρ T1 fun y T2 => OneT y ∧ k (setEqD x y) T2
theorem h_setEq {fe fz : dE} {ρ : En} {T : Tk} {k : Bool → Tk → Prop} : dSetEq fe fz ρ T k = fe ρ T fun x T1 => SetE x ∧ fz ρ T1 fun y T2 => OneT y ∧ k (setEqD x y) T2 := propext Iff.rfl
/-- a op1 b op2 c, ints -/
def dChn (g g' : Int → Int → Bool) (fa fb fc : dE) : dT := fun ρ T k => fa ρ T fun x T1 => fb ρ T1 fun y T2 => intK x fun i => intK y fun j => if g i j = true then fc ρ T2 fun z T3 => intK z fun l => k (g' j l) T3 else k false T2
theorem h_chn {g g' : Int → Int → Bool} {fa fb fc : dE} {ρ : En} {T : Tk} {k : Bool → Tk → Prop} : dChn g g' fa fb fc ρ T k = fa ρ T fun x T1 => fb ρ T1 fun y T2 => intK x fun i => intK y fun j => andK (g i j) T2 (fun k' => wr (fc ρ T2 fun z T3 => intK z fun l => k' (g' j l) T3)) k := propext Iff.rfl
theorem intK_of {x : D} {p : Int → Prop} (h : intK x p) : ∃ i, x = .int i ∧ p i := by
  cases x <;> first | exact ⟨_, rfl, h⟩ | exact h.elim
end G
end L2

set_option maxHeartbeats 2000000
/-! repr of lists of things in which empty dicts may stand; != [] of a list of things of any kind -/
namespace L2.G
open PySem PySem.Spec PyProof.Rows
mutual
def D.liteE : D → Prop
  | .non => True | .bl _ => True | .int i => i.natAbs < 2 ^ 1900 | .str x => PyData.strOk x = true ∧ PyData.strOk (reprText x) = true ∧ (x.cps.toList.all fun c => decide (c < 16 ^ 8)) = true | .tup xs => D.liteEL xs | .lst xs => D.liteEL xs | .obj _ _ _ => False | .ref _ => False | .scr _ => False | .dct ks ds => ks = [] ∧ ds = []
def D.liteEL : List D → Prop
  | [] => True | x :: r => x.liteE ∧ D.liteEL r
end
/-- a list that can be shown, empty dicts among its things -/
def ReprG (xs : List D) : Prop := D.liteEL xs ∧ (D.py (.lst xs)).bulk ≤ 4000 ∧ (D.py (.lst xs)).depth ≤ 59
def fReprG : List D → PD
  | [.lst xs] => some (ReprG xs, .str (D.py (.lst xs)).shown)
  | ds => fRepr ds
theorem fReprG_lst {xs : List D} : fReprG [.lst xs] = some (ReprG xs, .str (D.py (.lst xs)).shown) := rfl
mutual
/-- data in the heap, empty dicts too -/
inductive Dq (K : PySem.W.Frag) (H : Hp) : D → V → Prop
  | non : Dq K H .non .non
  | bl (b : Bool) : Dq K H (.bl b) (.bl b)
  | int (i : Int) : Dq K H (.int i) (.int i)
  | str (x : Str) : Dq K H (.str x) (.str x)
  | lst {a : Addr} {xs : List V} {ds : List D} : H a = some (.lst xs) → DqL K H ds xs → Dq K H (.lst ds) (.ref a)
  | tup {a : Addr} {xs : List V} {ds : List D} : SqT K H a xs → DqL K H ds xs → Dq K H (.tup ds) (.ref a)
  | dct {a : Addr} : H a = some (.dK []) → Dq K H (.dct [] []) (.ref a)
inductive DqL (K : PySem.W.Frag) (H : Hp) : List D → List V → Prop
  | nil : DqL K H [] []
  | cons {d : D} {ds : List D} {v : V} {vs : List V} : Dq K H d v → DqL K H ds vs → DqL K H (d :: ds) (v :: vs)
end
section
variable {X : Cx} {pins : List (Addr × Obj)} {σ : L2.St} {H : Hp} {s : Shared}
theorem lst_ne_sys (I : Inv X pins σ H s) (sy : SysOk X.K) {a : Addr} {xs : List V} (ha : H a = some (.lst xs)) : a ≠ sysModules := fun z => by
  obtain ⟨_, its, n, rv, hga⟩ := I.hok a _ ha
  obtain ⟨o1, h1, c1⟩ := sy
  have g1 := I.kIn _ _ h1
  rw [z] at hga
  rw [hga] at g1
  cases g1
  exact absurd (show ("list" : String) = "dict" by injection c1) (by decide)
mutual
theorem Dq.reads (I : Inv X pins σ H s) (sy : SysOk X.K) : ∀ {d : D} {v : V} {u : Value}, Dq X.K H d v → RelV v u → ∃ as, Reads s.heap u d.py as ∧ sysModules ∉ as
  | _, _, _, .non, r => by cases r; exact ⟨_, Reads.none, by simp⟩
  | _, _, _, .bl b, r => by cases r; exact ⟨_, Reads.bool b, by simp⟩
  | _, _, _, .int i, r => by obtain ⟨t, rfl⟩ := r; exact ⟨_, Reads.int i t, by simp⟩
  | _, _, _, .str x, r => by obtain ⟨t, rfl⟩ := r; exact ⟨_, Reads.str x t, by simp⟩
  | _, _, _, .lst (a := a) h q, r => by
    cases r
    obtain ⟨_, its, n, rv, hga⟩ := I.hok a _ h
    obtain ⟨as, hr, hn⟩ := DqL.reads I sy q rv
    exact ⟨_, Reads.list hga rfl rfl hr, by rw [List.mem_cons]; exact fun z => z.elim (fun z => lst_ne_sys I sy h z.symm) hn⟩
  | _, _, _, .tup h q, r => by
    cases r
    obtain ⟨its, rv, ⟨o, ho, hc, n, hd⟩, _⟩ := I.tuple h
    obtain ⟨as, hr, hn⟩ := DqL.reads I sy q rv
    exact ⟨_, Reads.tuple ho hc hd hr, hn⟩
  | _, _, _, .dct (a := b) h, r => by
    cases r
    obtain ⟨_, nb, vs, kv, ob, esb, ep, hgb, ex, hdat, _, prs, _⟩ := I.hok b _ h
    have hvs : vs = [] := by
      have kv : Paired _ [] vs := kv
      cases kv
      rfl
    subst hvs
    have hes : esb.toList = [] := by
      cases q2 : esb.toList with
      | nil => rfl
      | cons x r => rw [q2] at prs; cases prs
    have nb' : b ≠ sysModules := fun z => by simp [z] at nb
    exact ⟨_, Reads.dict hgb ex.1 hdat (by rw [hes]; exact ReadsAll.nil) (by rw [hes]; exact ReadsAll.nil), by simp; exact fun z => nb' z.symm⟩
theorem DqL.reads (I : Inv X pins σ H s) (sy : SysOk X.K) : ∀ {ds : List D} {vs : List V} {us : List Value}, DqL X.K H ds vs → Vals vs us → ∃ as, ReadsAll s.heap us (D.pyL ds) as ∧ sysModules ∉ as
  | _, _, _, .nil, r => by cases r; exact ⟨_, ReadsAll.nil, by simp⟩
  | _, _, _, .cons h q, r => by
    cases r with
    | cons r1 r2 =>
      obtain ⟨as, h1, n1⟩ := Dq.reads I sy h r1
      obtain ⟨bs, h2, n2⟩ := DqL.reads I sy q r2
      exact ⟨_, ReadsAll.cons h1 h2, by rw [List.mem_append]; exact fun z => z.elim n1 n2⟩
end
end
section
variable {X : Cx} {a b e : Expr} {fa fb : dE} {es : List Expr} {fr : dA} {p pos : Pos}
/-! != [] -/
def fNeE : D → D → PD
  | .lst xs, .lst [] => some (True, .bl (!xs.isEmpty))
  | _, _ => none
theorem fNeE_lst {xs : List D} : fNeE (.lst xs) (.lst []) = some (True, .bl (!xs.isEmpty)) := rfl
end
end L2.G
namespace L2
open PySem PySem.Spec PyProof.Rows
end L2
namespace L2.G
open PySem PySem.Spec PyProof.Rows
def fMulU : D → D → PD
  | .tup xs, .int n => some (xs ≠ [] ∧ 1 ≤ n ∧ n ≤ 1000 ∧ xs.length ≤ 1000, .tup (repD xs n.toNat))
  | _, _ => none
theorem fMulU_tup {xs : List D} {i : Int} : fMulU (.tup xs) (.int i) = some (xs ≠ [] ∧ 1 ≤ i ∧ i ≤ 1000 ∧ xs.length ≤ 1000, .tup (repD xs i.toNat)) := rfl
end L2.G

set_option maxHeartbeats 2000000
/-! x.append(y.pop(e)): x, y own lists -/
namespace L2.G
open PySem PySem.Spec PyProof.Rows
theorem RepL.erase {K : PySem.W.Frag} {F : Hp} : ∀ {ds : List D} {vs : List V} (n : Nat), RepL K F ds vs → RepL K F (ds.eraseIdx n) (vs.eraseIdx n)
  | _, _, _, .nil => .nil
  | _, _, 0, .cons _ q => q
  | _, _, n + 1, .cons h q => .cons h (RepL.erase n q)
section
variable {X : Cx} {e : Expr} {fe : dE}
def sPopA (i j : Nat) (fe : dE) : dS := fun k ρ T => match ρ[i]? with
  | some (some (.own xs)) => (match ρ[j]? with
    | some (some (.own ys)) => fe ρ T fun n T1 => intK n fun q => natK (ixN ys.length q) fun m => opK ys[m]? fun y => i ≠ j ∧ xs.length < 1000000 ∧ ys.length < 1000000 ∧ k.nx ((ρ.set j (some (.own (ys.eraseIdx m)))).set i (some (.own (xs ++ [y])))) T1
    | _ => False)
  | _ => False
theorem s_popA (i j : Nat) {x y : Str} {p1 p2 p3 p4 p5 p6 p7 : Pos} (he : PEd X e fe) (hN : X.N[i]? = some x := by rfl) (hM : X.N[j]? = some y := by rfl) (hv : Vis X.env.scope x := by first | exact Or.inl rfl | exact Or.inr (Or.inl rfl) | exact Or.inr (Or.inr rfl)) (hv2 : Vis X.env.scope y := by first | exact Or.inl rfl | exact Or.inr (Or.inl rfl) | exact Or.inr (Or.inr rfl))
    (hd : (x == ("__debug__" : Str)) = false := by decide) (hc : (x == ("__classdict__" : Str)) = false := by decide) (hd2 : (y == ("__debug__" : Str)) = false := by decide) (hc2 : (y == ("__classdict__" : Str)) = false := by decide)
    (g1 : starEach [e] X.env = (false, eval e X.env) :: starEach [] X.env := by rfl) (g2 : attributeBase (.Name y p5) "pop" X.env (eval (.Name y p5) X.env) = eval (.Name y p5) X.env := by rfl) (g3 : (p6.endLine == p7.line) = true := by rfl)
    (gfew : ((backTo p7 (starEach [e] X.env)).all (fun x => !x.1) && (backToKw p7 (keywordEach [] X.env)).all (fun x => x.1.isSome) && decide (([e] : List Expr).length + ([] : List Keyword).length + (if ([] : List Keyword).isEmpty then 0 else 1) < 30)) = true := by rfl)
    (h1 : starEach [.Call (.Attribute (.Name y p5) "pop" p6) [e] [] p7] X.env = (false, eval (.Call (.Attribute (.Name y p5) "pop" p6) [e] [] p7) X.env) :: starEach [] X.env := by rfl) (h2 : attributeBase (.Name x p1) "append" X.env (eval (.Name x p1) X.env) = eval (.Name x p1) X.env := by rfl) (h3 : (p2.endLine == p3.line) = true := by rfl)
    (hs : swapsWith (.Call (.Attribute (.Name x p1) "append" p2) [.Call (.Attribute (.Name y p5) "pop" p6) [e] [] p7] [] p3) none p4.line X.env = pure false := by rfl)
    (hfew : ((backTo p3 (starEach [.Call (.Attribute (.Name y p5) "pop" p6) [e] [] p7] X.env)).all (fun x => !x.1) && (backToKw p3 (keywordEach [] X.env)).all (fun x => x.1.isSome) && decide (([.Call (.Attribute (.Name y p5) "pop" p6) [e] [] p7] : List Expr).length + ([] : List Keyword).length + (if ([] : List Keyword).isEmpty then 0 else 1) < 30)) = true := by rfl) :
    PSd X (.Expr (.Call (.Attribute (.Name x p1) "append" p2) [.Call (.Attribute (.Name y p5) "pop" p6) [e] [] p7] [] p3) p4) (sPopA i j fe) := by
  refine ps_imp (ps_expr (pe_bm PySem.F.plainAttrs_list PySem.F.slot_list_append PySem.F.type_list_append mt_append (pe_var (i := i) hN hv hd hc) (pa_cons (pe_bm PySem.F.plainAttrs_list PySem.F.slot_list_pop PySem.F.type_list_pop mt_popAt (pe_var (i := j) hM hv2 hd2 hc2) (pa_cons he pa_nil g1) g2 gfew g3 g1) pa_nil h1) h2 hfew h3 h1) hs) fun E σ H h => ?_
  obtain ⟨ρ, T, t, F0, H0, F, k, w, h, fE⟩ := h
  unfold sPopA at h
  split at h
  · rename_i xs e0
    split at h
    · rename_i ys e1
      obtain ⟨v, hv, l, vs, rfl, hF, hH, r, nt⟩ := w.w.slot i _ e0
      obtain ⟨v', hv', l', vs', rfl, hF', hH', r', nt'⟩ := w.w.slot j _ e1
      refine ⟨_, hv, .inl ⟨rfl, _, .of hH⟩, ?_⟩
      refine ⟨_, hv', .inl ⟨rfl, _, .of hH'⟩, ρ, T, t, F, _, w.w, h, fun u H1 F1 d T1 w1 g1 r1 h1 => ?_⟩
      obtain ⟨q, rfl, h5⟩ := intK_of (x := d) h1
      clear h1
      have h1 := h5
      cases r1
      cases em : ixN ys.length q with
      | none => rw [em] at h1; exact h1.elim
      | some m =>
        rw [em] at h1
        have h1 : opK ys[m]? _ := h1
        cases ey : ys[m]? with
        | none => rw [ey] at h1; exact h1.elim
        | some yd =>
          rw [ey] at h1
          obtain ⟨nij, lx, ly, h1⟩ := h1
          obtain ⟨s1, s2, s3, s4⟩ := ixN_seq em
          have r'' := r'.mono g1.sub
          obtain ⟨yv, hyv, ry⟩ := r''.get ey
          refine ⟨l', vs', q, m, yv, rfl, rfl, g1.keep _ _ hH' nt', by omega, by omega, by rw [← r'.len]; exact s1, hyv, ?_⟩
          have w2 := (w.grow g1 w1).chg e1 hv' (r''.erase m)
          have e0' : (ρ.set j (some (.own (ys.eraseIdx m))))[i]? = some (some (.own xs)) := by rw [List.getElem?_set_ne (Ne.symm nij)]; exact e0
          obtain ⟨v3, hv3, l3, vs3, rfl, hF3, hH3, r3, nt3⟩ := w2.w.slot i _ e0'
          rw [hv] at hv3
          cases hv3
          refine ⟨l, vs3, yv, rfl, rfl, hH3, by rw [← r3.len, sizeLine_eq]; omega, ?_⟩
          exact fE.nx _ _ _ _ _ (w2.chg e0' hv (r3.app (.cons ry .nil))) g1.sub h1
    · exact h.elim
  · exact h.elim
end
theorem h_popA {i j : Nat} {fe : dE} {K : dEnds} {ρ : En} {T : Tk} : sPopA i j fe K ρ T = ownK ρ[i]? (fun xs => ownK ρ[j]? (fun ys => fe ρ T fun n T1 => intK n fun q => natK (ixN ys.length q) fun m => opK ys[m]? fun y => i ≠ j ∧ xs.length < 1000000 ∧ ys.length < 1000000 ∧ setE ((ρ.set j (some (.own (ys.eraseIdx m)))).set i (some (.own (xs ++ [y])))) fun ρ => K.nx ρ T1) False) False := propext Iff.rfl
end L2.G

set_option maxHeartbeats 2000000
/-! list(range(..)), reversed(range(..)), a list of one's own from list(..) -/
namespace L2.G
open PySem PySem.Spec PyProof.Rows
def rngOk (a b : Int) : Prop := b - a ≤ 1000000 ∧ -(2 ^ 61) ≤ a ∧ a < 2 ^ 61 ∧ -(2 ^ 61) ≤ b ∧ b < 2 ^ 61
/-- list(range(a)) -/
def dLsR (fe : dE) : dE := fun ρ T k => fe ρ T fun d T1 => intK d fun j => rngOk 0 j ∧ k (.lst (intsL 0 j.toNat)) T1
/-- reversed(range(a)) -/
def iRvR (fe : dE) : dI := fun ρ T k => fe ρ T fun d T1 => intK d fun j => rngOk 0 j ∧ k (downL (j.toNat - 1 : Int) j.toNat) T1
section
variable {X : Cx} {e tg : Expr} {fe : dE} {es : List Expr} {fr : dA} {p pos : Pos}
theorem rngOk.ok {a b : Int} (h : rngOk a b) : RgOk a b := by obtain ⟨h1, h2, h3, h4, h5⟩ := h; exact ⟨by omega, by omega, by omega, by omega, by omega⟩
/-- list(x), a list of one's own -/
def vLsO (fr : dA) : dSV := fun ρ T k => fr ρ T fun as T1 => sqK (vals? as) fun ds => match ds with | [.lst xs] => xs.length ≤ 1000000 ∧ k (.own xs) T1 | [.tup xs] => xs.length ≤ 1000000 ∧ k (.own xs) T1 | _ => False
theorem v_tolist (hm : X.mg "list" = none) (ha : PAd X (e :: es) fr) (hg : Gl X "list" := by rfl)
    (he : starEach (e :: es) X.env = (false, eval e X.env) :: starEach es X.env := by rfl) (hp : (backTo pos (starEach es X.env)).any (·.1) = false := by rfl) : PVd X (.Call (.Name "list" p) (e :: es) [] pos) (vLsO fr) := by
  refine pe_imp (pe_callTy call_list_of hg hm boot_list' ha (by decide) (by decide) he hp) fun σ H Q h => ?_
  obtain ⟨ρ, T, t, F, k, w, h, f⟩ := h
  refine ⟨ρ, T, t, F, _, w, h, fun vs H1 F1 as T1 w1 g1 r1 h1 => ?_⟩
  cases e0 : vals? as with
  | none => rw [e0] at h1; exact h1.elim
  | some ds =>
    rw [e0] at h1
    have r := r1.vals e0
    have fin : ∀ (ys : List D) (ws : List V), RepL X.K F1 ys ws → k (.own ys) T1 → ∀ l, H1 l = none → Q (.ref l) (upd H1 l (.lst ws)) := fun ys ws rr hk l hl => by
      have tl : t ≠ some l := fun z => by
        obtain ⟨n, vs', hv, _⟩ := w1.tank l z
        rw [hl] at hv; cases hv
      exact f _ _ F1 (.own ys) T1 (wt_own w1 hl) (g1.trans (grow_own w1.sub hl)) ⟨l, ws, rfl, gone_of g1 hl, w1.sub.free hl, upd_same, rr, tl⟩ hk
    simp only [sqK] at h1
    split at h1
    · cases r with
      | cons r rr =>
        cases rr
        obtain ⟨a, ws, rfl, h, r⟩ := rep_lst r
        exact ⟨a, ws, rfl, .inl (.of (w1.sub _ _ h)), fin _ _ r h1.2⟩
    · cases r with
      | cons r rr =>
        cases rr
        obtain ⟨a, ws, rfl, h, r⟩ := rep_tup r
        exact ⟨a, ws, rfl, .inr (same_t w1.sub h), fin _ _ r h1.2⟩
    · exact h1.elim
end
def lsoK (ds : List D) (k : List D → Prop) (fz : Fz k := ⟨⟩) : Prop := match ds with | [.lst xs] => xs.length ≤ 1000000 ∧ k xs | [.tup xs] => xs.length ≤ 1000000 ∧ k xs | _ => False
theorem lsoK_lst {xs : List D} {k : List D → Prop} : lsoK [.lst xs] k = (xs.length ≤ 1000000 ∧ k xs) := propext Iff.rfl
theorem lsoK_tup {xs : List D} {k : List D → Prop} : lsoK [.tup xs] k = (xs.length ≤ 1000000 ∧ k xs) := propext Iff.rfl
theorem h_vLsO {fr : dA} {ρ : En} {T : Tk} {k : SV → Tk → Prop} : vLsO fr ρ T k = fr ρ T fun as T1 => sqK (vals? as) fun ds => lsoK ds fun xs => k (.own xs) T1 := by
  unfold vLsO lsoK
  rfl
theorem h_lsR {fe : dE} {ρ : En} {T : Tk} {k : KD} : dLsR fe ρ T k = fe ρ T fun d T1 => intK d fun j => rngOk 0 j ∧ k (.lst (intsL 0 j.toNat)) T1 := propext Iff.rfl
theorem h_rvR {fe : dE} {ρ : En} {T : Tk} {k : List D → Tk → Prop} : iRvR fe ρ T k = fe ρ T fun d T1 => intK d fun j => rngOk 0 j ∧ k (downL (j.toNat - 1 : Int) j.toNat) T1 := propext Iff.rfl
end L2.G

set_option maxHeartbeats 2000000
/-! y = [.. for x in F(..)] where F may raise -/
namespace L2.G
open PySem PySem.Spec PyProof.Rows
section
variable {X : Cx} {tg e : Expr} {fe : dE}
end
end L2.G

set_option maxHeartbeats 2000000
/-! x, y, z = a, b, c with lists of one's own, where one of the names is a cell -/
namespace L2.G
open PySem PySem.Spec PyProof.Rows
section
variable {X : Cx} {a b c : Expr} {fa fb fc : dSV} {pos : Pos}
end
end L2.G

set_option maxHeartbeats 2000000
/-! instances of own classes: made by __init__, read by their fields -/
namespace L2.G
open PySem PySem.Spec PyProof.Rows
theorem RepL.snoc {K : PySem.W.Frag} {F : Hp} {ds : List D} {vs : List V} {d : D} {v : V} (r : RepL K F ds vs) (q : Rep K F d v) : RepL K F (ds ++ [d]) (vs ++ [v]) := r.app (.cons q .nil)
theorem lookup_at : ∀ {us : List (Str × V)} {ns : List Str} {n m : Nat} {f : Str} {u : V}, us.map (·.1) = ns.take m → ns.Nodup → ns[n]? = some f → (us.map (·.2))[n]? = some u → us.lookup f = some u
  | [], _, _, _, _, _, _, _, _, h => by simp at h
  | _ :: _, [], _, _, _, _, h, _, _, _ => by simp at h
  | (g, v) :: us, n0 :: ns, n, 0, f, u, h, _, _, _ => by simp at h
  | (g, v) :: us, n0 :: ns, 0, m + 1, f, u, h, _, e, q => by
    simp only [List.map_cons, List.take_succ_cons, List.cons.injEq] at h
    simp only [List.getElem?_cons_zero, Option.some.injEq] at e
    simp only [List.map_cons, List.getElem?_cons_zero, Option.some.injEq] at q
    rw [List.lookup_cons, h.1, e, beq_self_eq_true, q]
  | (g, v) :: us, n0 :: ns, n + 1, m + 1, f, u, h, nd, e, q => by
    simp only [List.map_cons, List.take_succ_cons, List.cons.injEq] at h
    have e' : ns[n]? = some f := by simpa using e
    have q' : (us.map (·.2))[n]? = some u := by simpa using q
    obtain ⟨n1, n2⟩ := List.nodup_cons.mp nd
    have ne : (f == g) = false := by
      rw [beq_eq_false_iff_ne, h.1]
      exact fun z => n1 (z ▸ List.mem_of_getElem? e')
    rw [List.lookup_cons, ne]
    exact lookup_at h.2 n2 e' q'
theorem putF_new : ∀ {us : List (Str × V)} {f : Str} {v : V}, f ∉ us.map (·.1) → putF f v us = us ++ [(f, v)]
  | [], _, _, _ => rfl
  | (g, w) :: us, f, v, h => by
    simp only [List.map_cons, List.mem_cons, not_or] at h
    show (if g = f then (g, v) :: us else (g, w) :: putF f v us) = _
    rw [if_neg (fun z => h.1 z.symm), putF_new h.2]
    rfl
theorem flds_nd (c : Str) : (flds c).Nodup := by
  unfold flds
  split
  · decide
  · split
    · decide
    · split <;> decide
def noMe (ρ : En) : Bool := ρ.all fun s => match s with | some (.me _ _ _) => false | _ => true
def meK (ρ : En) (F : Addr → Str → List D → En → Prop) (fz : Fz F := ⟨⟩) : Prop := match ρ with | some (.me a c ds) :: ρ' => F a c ds ρ' | _ => False
theorem meK_go {a : Addr} {c : Str} {ds : List D} {ρ : En} {F : Addr → Str → List D → En → Prop} : meK (some (.me a c ds) :: ρ) F = F a c ds ρ := propext Iff.rfl
def objK (c : Str) (n : Nat) (d : D) (k : D → Prop) (fz : Fz k := ⟨⟩) : Prop := match d with | .obj c' ns ds => c' = c ∧ ns = flds c ∧ opK ds[n]? k | _ => False
theorem objK_go {c : Str} {n : Nat} {ds : List D} {k : D → Prop} : objK c n (.obj c (flds c) ds) k = opK ds[n]? k := propext ⟨fun h => h.2.2, fun h => ⟨rfl, rfl, h⟩⟩
/-- self.f -/
def dMe (c : Str) (n : Nat) : dE := fun ρ T k => meK ρ fun _ c' ds _ => c' = c ∧ opK ds[n]? fun x => k x T
/-- e.f -/
def dFld (c : Str) (n : Nat) (fe : dE) : dE := fun ρ T k => fe ρ T fun d T1 => objK c n d fun x => k x T1
/-- self.f = e -/
def sMe (c : Str) (n : Nat) (fe : dE) : dS := fun k ρ T => fe ρ T fun d T1 => meK ρ fun a c' ds ρ' => c' = c ∧ ds.length = n ∧ noMe ρ' = true ∧ k.nx (some (.me a c (ds ++ [d])) :: ρ') T1
theorem h_me {c : Str} {n : Nat} {ρ : En} {T : Tk} {k : KD} : dMe c n ρ T k = meK ρ fun _ c' ds _ => c' = c ∧ opK ds[n]? fun x => k x T := propext Iff.rfl
theorem h_fld {c : Str} {n : Nat} {fe : dE} {ρ : En} {T : Tk} {k : KD} : dFld c n fe ρ T k = fe ρ T fun d T1 => objK c n d fun x => k x T1 := propext Iff.rfl
theorem h_sMe {c : Str} {n : Nat} {fe : dE} {K : dEnds} {ρ : En} {T : Tk} : sMe c n fe K ρ T = fe ρ T fun d T1 => meK ρ fun a c' ds ρ' => c' = c ∧ ds.length = n ∧ noMe ρ' = true ∧ setE (some (.me a c (ds ++ [d])) :: ρ') fun ρ => K.nx ρ T1 := propext Iff.rfl
theorem noMe_nil : noMe [] = true := rfl
theorem noMe_none {ρ : En} : noMe (none :: ρ) = noMe ρ := rfl
theorem noMe_val {d : D} {ρ : En} : noMe (some (.val d) :: ρ) = noMe ρ := rfl
theorem noMe_own {d : List D} {ρ : En} : noMe (some (.own d) :: ρ) = noMe ρ := rfl
/-- C(..), C with the __init__ b -/
def semI (c : Str) (N : List Str) (b : dS) : Sem := fun as T k => ∀ a, b { nx := fun ρ T => meK ρ fun a' c' ds _ => a' = a ∧ c' = c ∧ ds.length = (flds c).length ∧ k (.obj c (flds c) ds) T, rt := fun _ _ => False, bk := fun _ _ => False, ct := fun _ _ => False } (start' N (.me a c [] :: as)) T
def spI (K : PySem.W.Frag) (c : Str) (m : Nat) (sem : Sem) : Sp := fun vs H Q _ => vs.length = m + 1 ∧ ∃ a us C dx H1 F t T as k, vs = .ref a :: us ∧ H1 a = none ∧ H1 dx = none ∧ dx ≠ a ∧ H = upd (upd H1 dx (.own a)) a (.ins C dx []) ∧ PySem.W.nsIn K mainGlobals c = some (some (.ref C)) ∧
  ArgL K t F as us ∧ Wt K T t F H1 ∧ sem as T k ∧ ∀ H2 F2 d T2, Wt K T2 t F2 H2 → Grow t F H1 F2 H2 → Rep K F2 d (.ref a) → k d T2 → Q .non H2
/-- the class c is made by sem -/
def OkM (P : Program) (w : World) (K : PySem.W.Frag) (mg : Str → Option Value) (base : Heap) (n : Nat) (c : Str) (m : Nat) (sem : Sem) : Prop :=
  ∃ C f fd ps, mg c = some (.ref C) ∧ PySem.W.nsIn K mainGlobals c = some (some (.ref C)) ∧ Mk K C f ∧ Binds K fd ps [] ∧ ps.length = m + 1 ∧ GFn P w K mg base CX0 n f fd ps (spI K c m sem)
theorem OkM.mono {P : Program} {w : World} {K : PySem.W.Frag} {mg : Str → Option Value} {base : Heap} {n l : Nat} {c : Str} {m : Nat} {sem : Sem} (h : OkM P w K mg base n c m sem) (q : n ≤ l) : OkM P w K mg base l c m sem :=
  let ⟨C, f, fd, ps, h1, h2, h3, h4, h5, h6⟩ := h; ⟨C, f, fd, ps, h1, h2, h3, h4, h5, h6.mono q⟩
/-- the class is the one of the module -/
theorem MkC.at {K : PySem.W.Frag} {mg : Str → Option Value} {x qi : Str} {st : Stmt} (h : MkC K mg x qi st) {C : Addr} (e : PySem.W.nsIn K mainGlobals x = some (some (.ref C))) : Cls K C ∧ ∀ n ∈ flds x, NoAttr K C n := by
  obtain ⟨C', f, fd, h1, h2, h3, h4, h5, h6⟩ := h
  rw [h2] at e
  cases e
  exact ⟨h4, h5⟩
section
variable {X : Cx} {e o : Expr} {es : List Expr} {fe : dE} {fr : dA} {pos p1 p2 : Pos} {c f x qi : Str} {st : Stmt} {n : Nat} {p : Pos} {m : Nat} {sem : Sem}
theorem d_me (M : MkC X.K X.mg c qi st) (hf : (flds c)[n]? = some f) (hN : X.N[0]? = some x := by rfl) (hv : Vis X.env.scope x := by first | exact Or.inl rfl | exact Or.inr (Or.inl rfl) | exact Or.inr (Or.inr rfl))
    (hd : (x == ("__debug__" : Str)) = false := by decide) (hc : (x == ("__classdict__" : Str)) = false := by decide) (hb : attributeBase (.Name x p1) f X.env (eval (.Name x p1) X.env) = eval (.Name x p1) X.env := by rfl) : PEd X (.Attribute (.Name x p1) f pos) (dMe c n) := by
  refine pe_imp (pe_fld (pe_var (i := 0) hN hv hd hc) hb) fun σ H Q h => ?_
  obtain ⟨ρ, T, t, F, k, w, h, fin⟩ := h
  match ρ, w, h with
  | some (.me a c' ds) :: ρ', w, h =>
    obtain ⟨ec, h2⟩ := h
    subst ec
    obtain ⟨v, hv, rfl, C, dx, us, hF, hH, hn, hr, nt, hC⟩ := w.slot 0 _ rfl
    obtain ⟨c1, c2⟩ := M.at hC
    cases ey : ds[n]? with
    | none => rw [ey] at h2; exact h2.elim
    | some y =>
      rw [ey] at h2
      obtain ⟨u, hu, ru⟩ := hr.get ey
      exact ⟨_, hv, a, C, dx, us, u, rfl, hH, c1, c2 f (List.mem_of_getElem? hf), lookup_at hn (flds_nd c') hf hu, fin.val w.wt ru h2⟩
theorem d_fld (M : MkC X.K X.mg c qi st) (he : PEd X e fe) (hf : (flds c)[n]? = some f) (hb : attributeBase e f X.env (eval e X.env) = eval e X.env := by rfl) : PEd X (.Attribute e f pos) (dFld c n fe) := by
  refine pe_imp (pe_fld he hb) fun σ H Q h => ?_
  obtain ⟨ρ, T, t, F, k, w, h, fin⟩ := h
  refine ⟨ρ, T, t, F, _, w, h, fun v H1 F1 d T1 w1 g1 r1 h1 => ?_⟩
  match d, r1, h1 with
  | .obj c' ns ds, .obj (a := a) (C := C) (dx := dx) (fs := us) hF hC hn hr, h1 =>
    obtain ⟨ec, en, h2⟩ := h1
    subst ec en
    obtain ⟨c1, c2⟩ := M.at hC
    cases ey : ds[n]? with
    | none => rw [ey] at h2; exact h2.elim
    | some y =>
      rw [ey] at h2
      obtain ⟨u, hu, ru⟩ := hr.get ey
      refine ⟨a, C, dx, us, u, rfl, w1.sub _ _ hF, c1, c2 f (List.mem_of_getElem? hf), lookup_at (m := (flds c').length) (by rw [hn, List.take_length]) (flds_nd c') hf hu, (fin.then g1).val w1 ru h2⟩
theorem noMe_get {ρ : En} (h : noMe ρ = true) {i : Nat} {a : Addr} {c : Str} {ds : List D} : ρ[i]? ≠ some (some (.me a c ds)) := fun e => by
  have := List.all_eq_true.mp h _ (List.mem_of_getElem? e)
  cases this
theorem Ws.me {K : PySem.W.Frag} {ρ : En} {T : Tk} {t : Option Addr} {σ : L2.St} {F0 H0 F H : Hp} {a C dx : Addr} {c : Str} {ds es : List D} {us ws : List (Str × V)} (w : Ws K (some (.me a c ds) :: ρ) T t σ F0 H0 F H) (nm : noMe ρ = true)
    (hH : H a = some (.ins C dx us)) (hC : PySem.W.nsIn K mainGlobals c = some (some (.ref C))) (hn : ws.map (·.1) = (flds c).take es.length) (r : RepL K F es (ws.map (·.2))) :
    Ws K (some (.me a c es) :: ρ) T t σ F0 H0 F (upd H a (.ins C dx ws)) := by
  obtain ⟨v, hv, rfl, C2, dx2, us2, hF, hH2, hn2, hr2, nt, hC2⟩ := w.w.slot 0 _ rfl
  have h0 : H0 a = none := w.fr 0 _ a rfl rfl hv
  have ne_t : ∀ b, t = some b → b ≠ a := fun b eb z => nt (by rw [eb, z])
  have tb : TabsK K F (upd H a (.ins C dx ws)) := w.w.wt.tabs.ext (fun _ _ e => e) (fun b u q mm => by
    rw [upd_ne (fun z => by
      rw [z, hH] at q
      cases q
      rcases mm with ⟨_, mm⟩ | ⟨_, mm⟩
      · cases mm
      · unfold LamX.CodeO at mm; cases mm)]
    exact q) w.w.wt.tabs.no (upd_tb fun _ z => nomatch z)
  refine ⟨⟨⟨fun b u q => ?_, fun b eb => ?_, tb⟩, by simpa using w.w.len, fun j s ej => ?_, fun j j' xs ys l e1 e2 e3 e4 => ?_⟩, ⟨w.g.sub, fun b o h1 n1 z1 => ?_, w.g.new, fun b o h1 => ?_⟩, fun j s l e1 m1 e2 => ?_⟩
  · rw [upd_ne (fun z => by rw [z, hF] at q; cases q)]
    exact w.w.wt.sub b u q
  · obtain ⟨n, us, hu, ru⟩ := w.w.wt.tank b eb
    exact ⟨n, us, by rw [upd_ne (ne_t b eb)]; exact hu, ru⟩
  · cases j with
    | zero =>
      cases ej
      exact ⟨_, hv, rfl, C, dx, ws, hF, upd_same, hn, r, nt, hC⟩
    | succ j =>
      have ej' : ρ[j]? = some (some s) := by simpa using ej
      obtain ⟨u, h1, h2⟩ := w.w.slot (j + 1) s (by simpa using ej)
      refine ⟨u, h1, ?_⟩
      cases s with
      | val d => exact h2
      | tank => exact h2
      | exc _ _ => exact ⟨h2.1, fun dd fl x q => let ⟨n, u, f1, r1⟩ := h2.2 dd fl x q; ⟨n, u, by rw [upd_ne (fun z => by rw [z, hH] at f1; cases f1)]; exact f1, r1⟩⟩
      | ptup _ => exact h2
      | me b c fs => exact absurd ej' (noMe_get nm)
      | fn _ c _ => exact ⟨h2.1, by rw [upd_ne (fun z => by have f1 := h2.2.1; rw [z, hH] at f1; unfold LamX.CodeO at f1; cases f1)]; exact h2.2.1, h2.2.2⟩
      | own zs =>
        obtain ⟨m, us, rfl, f1, f2, f3, f4⟩ := h2
        exact ⟨m, us, rfl, f1, by rw [upd_ne (fun z => by rw [z, hH] at f2; cases f2)]; exact f2, f3, f4⟩
  · have back : ∀ {j : Nat} {zs : List D}, (some (SV.me a c es) :: ρ)[j]? = some (some (.own zs)) → (some (SV.me a c ds) :: ρ)[j]? = some (some (.own zs)) := fun {j zs} q => by
      cases j with
      | zero => cases q
      | succ j => simpa using q
    exact w.w.apart j j' _ _ l (back e1) (back e2) e3 e4
  · rw [upd_ne (fun z => by rw [z, h0] at h1; cases h1)]
    exact w.g.keepT b o h1 n1 z1
  · rw [upd_ne (fun z => by rw [z, h0] at h1; cases h1)]
    exact w.g.there b o h1
  · cases j with
    | zero => exact w.fr 0 _ l rfl rfl e2
    | succ j => exact w.fr (j + 1) s l (by simpa using e1) m1 e2
theorem s_me (M : MkC X.K X.mg c qi st) (he : PEd X e fe) (hf : (flds c)[n]? = some f) (hN : X.N[0]? = some x := by rfl) (hv : Vis X.env.scope x := by first | exact Or.inl rfl | exact Or.inr (Or.inl rfl) | exact Or.inr (Or.inr rfl))
    (hd : (x == ("__debug__" : Str)) = false := by decide) (hc : (x == ("__classdict__" : Str)) = false := by decide) (hs : swapsWith e (some (.Attribute (.Name x p1) f p2)) pos.line X.env = pure false := by rfl) : PSd X (.Assign [.Attribute (.Name x p1) f p2] e pos) (sMe c n fe) := by
  refine ps_imp (ps_fld (pe_var (i := 0) hN hv hd hc) he hs) fun E σ H h => ?_
  obtain ⟨ρ, T, t, F0, H0, F, k, w, h, fE⟩ := h
  refine ⟨ρ, T, t, F, _, w.w, h, fun y H1 F1 d T1 w1 g1 r1 h1 => ?_⟩
  have w2 := w.grow g1 w1
  match ρ, w2, h1 with
  | some (.me a c' ds) :: ρ', w2, h1 =>
    obtain ⟨ec, hl, nm, h3⟩ := h1
    subst ec
    obtain ⟨v, hv, rfl, C, dx, us, hF, hH, hn, hr, nt, hC⟩ := w2.w.slot 0 _ rfl
    obtain ⟨c1, c2⟩ := M.at hC
    have mf := List.mem_of_getElem? hf
    have nl : n < (flds c').length := (List.getElem?_eq_some_iff.mp hf).1
    have fl : (flds c').length ≤ 10 := by
      unfold flds
      split
      · decide
      · split
        · decide
        · split <;> decide
    have lu : us.length = ds.length := by rw [hr.len, List.length_map]
    have nf : f ∉ us.map (·.1) := fun z => by
      rw [hn, hl] at z
      obtain ⟨i, hi, e⟩ := List.mem_iff_getElem.mp z
      rw [List.getElem_take] at e
      rw [List.length_take] at hi
      have e2 := (List.getElem?_eq_some_iff.mp hf).2
      exact absurd (by rw [e, e2]) (List.pairwise_iff_getElem.mp (flds_nd c') i n (by omega) nl (by omega))
    refine ⟨_, hv, a, C, dx, us, rfl, hH, c1, c2 f mf, by omega, ?_⟩
    rw [putF_new nf]
    exact fE.nx _ _ _ _ _ (w2.me nm hH hC (by rw [List.map_append, hn, List.length_append, hl]; show (flds c').take n ++ [f] = (flds c').take (n + 1); rw [List.take_add_one, hf]; rfl) (by rw [List.map_append]; exact hr.snoc r1)) g1.sub h3
/-- the call -/
theorem d_make (G : OkM X.prog X.w X.K X.mg X.base n c m sem) (hr : Room (n + 1) X.A) (hgd : X.A.guards = some []) (ha : PAd X (e :: es) fr) (hg : Gl X c := by rfl)
    (hd : (c == ("__debug__" : Str)) = false := by decide) (he : starEach (e :: es) X.env = (false, eval e X.env) :: starEach es X.env := by rfl) (hp : (backTo pos (starEach es X.env)).any (·.1) = false := by rfl) : PEd X (.Call (.Name c p) (e :: es) [] pos) (dCall m sem fr) := by
  obtain ⟨C, f, fd, ps, h1, h2, M, hb, hl, F⟩ := G
  constructor
  intro pins s σ H Q I h
  refine wpAny_Call_Name_kw (ld_glob I hg h1 ?_ hd)
  refine PySem.W.callWith_K (h₀ := X.base) I.ok.mod.kin M.kp (thn (ha.run pos pins s σ H (fun us H1 => ∀ x dx, H1 x = none → H1 dx = none → dx ≠ x → spI X.K c m sem (.ref x :: us) (upd (upd H1 dx (.own x)) x (.ins C dx [])) (fun v H2 => v = .non ∧ Q (.ref x) H2) E0) I ?_) fun us s1 ⟨vs, H1, I1, r, q⟩ => ⟨I1.kIn, ?_⟩) he hp
  · obtain ⟨ρ, T, t, F, k, w, h, fin⟩ := h
    refine ⟨ρ, T, t, F, _, w, h, fun vs H1 F1 as T1 w1 g1 r1 h1 x dx hx hdx ne => ?_⟩
    refine ⟨by rw [List.length_cons, ← r1.len, h1.1], x, vs, C, dx, H1, F1, t, T1, as, k, rfl, hx, hdx, ne, rfl, h2, r1, w1, h1.2, fun H2 F2 d T2 w2 g2 rd hk => ⟨rfl, fin _ _ _ _ _ w2 (g1.trans g2) rd hk⟩⟩
  · have hq := q (s1.heap.objs.size + 1) s1.heap.objs.size (I1.hok.fresh (Nat.le_succ _)) (I1.hok.fresh (Nat.le_refl _)) (Nat.ne_of_lt (Nat.lt_succ_self _))
    have I2 := Inv.made (C := C) I1
    have r2 : Vals (V.ref (s1.heap.objs.size + 1) :: vs) (Value.ref (s1.heap.objs.size + 1) :: us) := .cons rfl r
    have hl : (Value.ref (s1.heap.objs.size + 1) :: us ++ []).length = ps.length := by
      have e := r2.length
      rw [F.len _ _ _ _ hq] at e
      rw [List.append_nil]
      exact e.symm
    have bd := hb _ (Value.ref (s1.heap.objs.size + 1) :: us) I2.kIn hl
    rw [List.append_nil] at bd
    refine wpAny_call (make_map (f := f) I1.kIn M.makes M.init (beq_iff_eq.mp M.fn) (codeAny_mono (F.go _ X.stack _ _ ⟨Value.ref (s1.heap.objs.size + 1) :: us, []⟩ (Value.ref (s1.heap.objs.size + 1) :: us) _ _ E0 ⟨hr.make C us [], hgd⟩
      (I2.env0.make C us []) bd r2 hq) fun r s' hq' => ?_))
    cases r with
    | error e => exact pass0 pins σ _ _ e s' I2 hq'
    | ok fl =>
      cases fl with
      | ret u =>
        obtain ⟨v, H', I3, rv, ev, q3⟩ := I2.after hq'
        subst ev
        exact ⟨rv, ⟨V.ref (s1.heap.objs.size + 1), H', I3, rfl, q3⟩⟩
      | next => exact False.elim hq'
      | brk => exact False.elim hq'
      | cont => exact False.elim hq'
end
theorem ok_init {P : Program} {w : World} {K : PySem.W.Frag} {mg : Str → Option Value} {base : Heap} {n m : Nat} {c qi : Str} {st : Stmt} {N ps : List Str} {b : dS} (M : MkC K mg c qi st) (S : FnScope N ps (defScope st)) (hps : ps.length = m + 1)
    (hb1 : ∀ (kV doc pm : Value) (an : Option Addr) (cdv ct : Value) (us : List Value), us.length = ps.length → bindArgs (PySem.W.fnOf "__init__" qi (defArgs st) (defBody st) (defScope st) .none kV doc pm an cdv ct) ⟨us, []⟩ = pure (ps.zip us))
    (body : ∀ (f : Addr) (cdv : Value) (A : Around) (fs : List Env) (s : Shared) (H : Hp) (E : XK), Room n (A.deeper (envOfC qi (defScope st) s.heap.objs.size f cdv)) → A.guards = some [] → PSsd (CxD P w K mg base N qi st f cdv A fs s H E) (defBody st) b) :
    OkM P w K mg base (n + 1) c m (semI c N b) := by
  obtain ⟨C, f, fd, h1, h2, h3, h4, h5, Fn⟩ := M
  refine ⟨C, f, fd, ps, h1, h2, h3, Fn.binds hb1, hps, ?_⟩
  obtain ⟨oc, od, kV, doc, pm, an, cdv, ct, osl, rfl, lk, hcd⟩ := Fn.ex
  refine gfn_body lk hcd S (fun vs H Q E q => by rw [q.1, hps]) fun A fs s H vs Q E hr hgd hsp => ?_
  obtain ⟨hl, a, us, C', dx, H1, F, t, T, as, k, rfl, ha, hdx, ne, rfl, hC, ar, wt, h, fin⟩ := hsp
  have e1 : (upd H1 dx (.own a)) a = none := by rw [upd_ne (Ne.symm ne)]; exact ha
  have wt1 := wt_own (o := .own a) wt hdx
  have wt2 := wt_own (o := .ins C' dx []) wt1 e1
  have g2 := (grow_own (t := t) (o := .own a) wt.sub hdx).trans (grow_own (t := t) (o := .ins C' dx []) wt1.sub e1)
  have nt : t ≠ some a := fun z => by
    obtain ⟨_, vs, hv, _⟩ := wt.tank a z
    rw [ha] at hv
    cases hv
  refine ⟨_, (body f cdv A fs s _ E hr hgd).nox, start' N (.me a c [] :: as), T, t, F, H1, F, _, ⟨⟨wt2, by simp [start', start, ar.len], fun i s e => ?_, fun i j xs ys l e1 _ _ _ => ?_⟩, g2, fun i s l e m1 e2 => ?_⟩, h a, ?_⟩
  · have e' := startGet e
    have st0 : ∀ {i : Nat} {v : V}, (V.ref a :: us)[i]? = some v → (start N (V.ref a :: us))[i]? = some (some v) := fun {i v} q => by
      have hi := (List.getElem?_eq_some_iff.mp q).1
      unfold start
      rw [List.getElem?_append_left (by simpa using hi), List.getElem?_map, q]
      rfl
    cases i with
    | zero =>
      cases e'
      exact ⟨.ref a, st0 rfl, rfl, C', dx, [], wt.sub.free ha, upd_same, rfl, .nil, nt, hC⟩
    | succ i =>
      obtain ⟨⟨v, h1, h2⟩, _⟩ := argGet (H := H1) ar i s (by simpa using e')
      exact ⟨v, st0 (by simpa using h1), h2.grow g2⟩
  · have e' := startGet e1
    cases i with
    | zero => cases e'
    | succ i => exact absurd (argGet (H := H1) ar i (SV.own xs) (by simpa using e')).2 (fun z => nomatch z)
  · have e' := startGet e
    cases i with
    | zero =>
      have : (start N (V.ref a :: us))[0]? = some (some (V.ref a)) := rfl
      rw [this] at e2
      cases e2
      exact ha
    | succ i => exact absurd m1 (by rw [(argGet (H := H1) ar i _ (by simpa using e')).2]; exact fun z => nomatch z)
  · refine ⟨fun ρ T' σ' F' H' w' _ q => ?_, fun v H' F' d T' w' g' r' q => q.elim, fun _ _ _ _ _ _ _ q => q.elim, fun _ _ _ _ _ _ _ q => q.elim⟩
    match ρ, w', q with
    | some (.me a' c' ds) :: ρ', w', q =>
      obtain ⟨rfl, rfl, hd, q⟩ := q
      obtain ⟨v, hv, rfl, C2, dx2, us2, hF, hH, hn, hr, nt, hC2⟩ := w'.w.slot 0 _ rfl
      have h0 := w'.fr 0 _ a' rfl rfl hv
      have sm : Same F' (upd F' a' (.ins C2 dx2 us2)) := same_upd hF
      have tb : TabsK K (upd F' a' (.ins C2 dx2 us2)) H' := w'.w.wt.tabs.ext (fun q hq e => by
        obtain ⟨ps, h1, _⟩ := w'.w.wt.tabs.tab q hq
        rw [upd_ne (fun z => by rw [z, hH] at h1; cases h1)]
        exact e) (fun _ _ q _ => q) (fun b u q => by
        by_cases hb : b = a'
        · subst hb; rw [upd_same] at q; cases q; exact fun _ z => nomatch z
        · rw [upd_ne hb] at q; exact w'.w.wt.tabs.no b u q) fun _ _ q => q
      refine fin H' (upd F' a' (.ins C2 dx2 us2)) _ _ ⟨fun b u q => ?_, fun b eb => ?_, tb⟩ ⟨w'.g.sub.trans sm, w'.g.keepT, fun b o h0' n0 => ?_, w'.g.there⟩ (.obj upd_same hC2 (by rw [hn, hd, List.take_length]) (hr.mono sm)) q
      · by_cases hb : b = a'
        · subst hb; rw [upd_same] at q; cases q; exact hH
        · rw [upd_ne hb] at q; exact w'.w.wt.sub b u q
      · obtain ⟨n, us, hu, ru⟩ := w'.w.wt.tank b eb
        exact ⟨by rw [upd_ne (fun z => nt (by rw [eb, z]))]; exact n, us, hu, ru.mono sm⟩
      · rw [upd_ne (fun z => by rw [z, h0] at h0'; cases h0')]
        exact w'.g.new b o h0' n0
end L2.G

set_option maxHeartbeats 2000000
/-! defs as values: a name that stands for one of some defs is called -/
namespace L2.G
open PySem PySem.Spec PyProof.Rows
/-- the def x as a value -/
def GDef (K : PySem.W.Frag) (mg : Str → Option Value) (x : Str) : Prop := ∃ f, mg x = some (.ref f) ∧ PySem.W.nsIn K mainGlobals x = some (some (.ref f)) ∧ (K.lookup f).isSome = true
theorem GDef.gc {K : PySem.W.Frag} {mg : Str → Option Value} {x : Str} (h : GDef K mg x) : GC K mg x (.ref x) := by
  obtain ⟨f, h1, h2, h3⟩ := h
  exact ⟨.ref f, .ref f, h1, rfl, fun F => .ref x h2 h3⟩
theorem Hd.Says.gd {z : Hd} {K : PySem.W.Frag} {h : Heap} {mg : Str → Option Value} (X : K.In h) (G : h.Ns mainGlobals mg) (c : z.Says K) (i : Nat) {x : Str} {st : Stmt} (e : z.defs[i]? = some (x, st) := by rfl) : GDef K mg x := by
  obtain ⟨f, oc, od, osl, kV, doc, pm, an, cdv, ct, h1, h2, _⟩ := c.d _ (List.mem_of_getElem? e)
  exact ⟨f, PySem.W.mg_of X G h1, h1, by rw [h2]; rfl⟩
def refK (s : Option (Option SV)) (tb : Str → Option (Nat × SemX)) (F : Nat → SemX → Prop) (fz : Fz F := ⟨⟩) : Prop := match s with | some (some (.val (.ref x))) => (match tb x with | some p => F p.1 p.2 | none => False) | _ => False
/-- a call of a name that holds one of some defs -/
def dCallVX (i : Nat) (tb : Str → Option (Nat × SemX)) (r : RX) (fr : dA) : dE := fun ρ T k => refK ρ[i]? tb fun n sem => fr ρ T fun as T1 => as.length = n ∧ sem (fun e T => r e ρ T) as T1 k
theorem h_callVX {i : Nat} {tb : Str → Option (Nat × SemX)} {r : RX} {fr : dA} {ρ : En} {T : Tk} {k : KD} : dCallVX i tb r fr ρ T k = refK ρ[i]? tb fun n sem => fr ρ T fun as T1 => callN n (sem (fun e T => r e ρ T)) as T1 k := propext Iff.rfl
section
variable {X : Cx} {n : Nat} {x : Str} {p pos : Pos} {e : Expr} {es : List Expr} {fr : dA} {c : Ct} {r : RX} {W : WX}
end
end L2.G

set_option maxHeartbeats 2000000
/-! comprehensions with two fors; a list of one's own from [..] * n -/
namespace L2.G
open PySem PySem.Spec PyProof.Rows
def lcD2 (ρ : En) (c : dC1) (tt : dT) (vs1 : List Nat) (fi1 : dI) (c1 : dC1) (tt1 : dT) (el : dE) (k : List D → Tk → Prop) : List D → List D → Tk → Prop
  | [], acc, T => k acc T
  | d :: r, acc, T => match c d ρ with
    | some ρ1 => tt ρ1 T fun b T1 => if b = true then fi1 ρ1 T1 fun ys T2 => ys.length ≤ 1000 ∧ lcD (wipeD ρ1 vs1) c1 tt1 el (fun acc' T3 => lcD2 ρ c tt vs1 fi1 c1 tt1 el k r acc' T3) ys acc T2 else lcD2 ρ c tt vs1 fi1 c1 tt1 el k r acc T1
    | none => False
def dLc2 (vs : List Nat) (fi : dI) (c : dC1) (tt : dT) (vs1 : List Nat) (fi1 : dI) (c1 : dC1) (tt1 : dT) (el : dE) : dE := fun ρ T k => fi ρ T fun xs T1 => xs.length ≤ 1000 ∧ lcD2 (wipeD ρ vs) c tt vs1 fi1 c1 tt1 el (fun acc T2 => k (.lst acc) T2) xs [] T1
section
variable {X : Cx} {a b : Expr} {fa fb : dE} {pos : Pos}
/-- [..] * n, a list of one's own -/
def vMulO (fa fb : dE) : dSV := fun ρ T k => fa ρ T fun x T1 => fb ρ T1 fun y T2 => match x, y with | .lst xs, .int n => (-(2 ^ 63) ≤ n ∧ n < 2 ^ 63 ∧ xs.length * n.toNat ≤ 1000000) ∧ k (.own (repD xs n.toNat)) T2 | _, _ => False
end
def mulOK (x y : D) (k : List D → Prop) (fz : Fz k := ⟨⟩) : Prop := match x, y with | .lst xs, .int n => (-(2 ^ 63) ≤ n ∧ n < 2 ^ 63 ∧ xs.length * n.toNat ≤ 1000000) ∧ k (repD xs n.toNat) | _, _ => False
theorem mulOK_lst {xs : List D} {n : Int} {k : List D → Prop} : mulOK (.lst xs) (.int n) k = ((-(2 ^ 63) ≤ n ∧ n < 2 ^ 63 ∧ xs.length * n.toNat ≤ 1000000) ∧ k (repD xs n.toNat)) := propext Iff.rfl
theorem h_vMulO {fa fb : dE} {ρ : En} {T : Tk} {k : SV → Tk → Prop} : vMulO fa fb ρ T k = fa ρ T fun x T1 => fb ρ T1 fun y T2 => mulOK x y fun xs => k (.own xs) T2 := by
  unfold vMulO mulOK
  rfl
def lc2K (ρ : En) (c : dC1) (tt : dT) (vs1 : List Nat) (fi1 : dI) (c1 : dC1) (tt1 : dT) (el : dE) (k : List D → Tk → Prop) (xs acc : List D) (T : Tk) (fz : Fz (c, tt, fi1, c1, tt1, el, k) := ⟨⟩) : Prop := lcD2 ρ c tt vs1 fi1 c1 tt1 el k xs acc T
section
variable {ρ : En} {c c1 : dC1} {tt tt1 : dT} {vs vs1 : List Nat} {fi fi1 : dI} {el : dE} {kk : List D → Tk → Prop} {d : D} {ys xs : List D} {T : Tk} {k : KD}
theorem lc2K_nil : lc2K ρ c tt vs1 fi1 c1 tt1 el kk [] xs T = kk xs T := propext Iff.rfl
theorem lc2K_cons : lc2K ρ c tt vs1 fi1 c1 tt1 el kk (d :: ys) xs T = enK (c d ρ) fun ρ1 => tt ρ1 T fun b T1 => iteB b (fi1 ρ1 T1 fun zs T2 => zs.length ≤ 1000 ∧ setE (wipeD ρ1 vs1) fun ρ2 => lcK ρ2 c1 tt1 el (fun acc' T3 => lc2K ρ c tt vs1 fi1 c1 tt1 el kk ys acc' T3) zs xs T2) (lc2K ρ c tt vs1 fi1 c1 tt1 el kk ys xs T1) := propext Iff.rfl
theorem h_lc2 : dLc2 vs fi c tt vs1 fi1 c1 tt1 el ρ T k = fi ρ T fun xs T1 => xs.length ≤ 1000 ∧ setE (wipeD ρ vs) fun ρ => lc2K ρ c tt vs1 fi1 c1 tt1 el (fun acc T2 => k (.lst acc) T2) xs [] T1 := propext Iff.rfl
end
/-! // by a divisor of either sign -/
def DivN (_ j : Int) : Prop := j ≠ 0 ∧ j.natAbs < 2 ^ 9000
def fDivN : D → D → PD | .int i, .int j => some (DivN i j, .int (i.fdiv j)) | _, _ => none
theorem fDivN_int {i j : Int} : fDivN (.int i) (.int j) = some (DivN i j, .int (i.fdiv j)) := rfl
end L2.G

namespace L2.G
open PySem PySem.Spec PyProof.Rows L2
/-! zip of two sequences, each a list or a tuple -/
def SqB (K : PySem.W.Frag) (b : Bool) (H : Hp) (a : Addr) (xs : List V) : Prop := match b with | true => SqL K H a xs | false => SqT K H a xs
def IsB (b : Bool) (h : Heap) (a : Addr) (v : Array Value) : Prop := match b with | true => h.IsList a v | false => h.IsTuple a v
theorem inB {X : Cx} {pins : List (Addr × Obj)} {σ : L2.St} {H : Hp} {s : Shared} {b : Bool} {a : Addr} {xs : List V} (I : Inv X pins σ H s) (h : SqB X.K b H a xs) : ∃ its : List Value, Vals xs its ∧ IsB b s.heap a its.toArray := by
  cases b
  · obtain ⟨its, r, p, _⟩ := I.tuple h
    exact ⟨its, r, p⟩
  · obtain ⟨its, r, p, _⟩ := I.list h
    exact ⟨its, r, p.isList⟩
def zipB2 : List SV → Option (List D × List D)
  | [.val (.lst xs), .val (.lst ys)] => some (xs, ys)
  | [.val (.tup xs), .val (.tup ys)] => some (xs, ys)
  | [.val (.lst xs), .val (.tup ys)] => some (xs, ys)
  | [.val (.tup xs), .val (.lst ys)] => some (xs, ys)
  | _ => none
theorem zipB_ll {xs ys : List D} : zipB2 [.val (.lst xs), .val (.lst ys)] = some (xs, ys) := rfl
theorem zipB_tt {xs ys : List D} : zipB2 [.val (.tup xs), .val (.tup ys)] = some (xs, ys) := rfl
theorem zipB_lt {xs ys : List D} : zipB2 [.val (.lst xs), .val (.tup ys)] = some (xs, ys) := rfl
theorem zipB_tl {xs ys : List D} : zipB2 [.val (.tup xs), .val (.lst ys)] = some (xs, ys) := rfl
def iZB (fr : dA) : dI := fun ρ T k => fr ρ T fun as T1 => match zipB2 as with | some p => (zipD p.1 p.2).length ≤ 1000000 ∧ k (zipD p.1 p.2) T1 | none => False
theorem h_iZB {fr : dA} {ρ : En} {T : Tk} {k : List D → Tk → Prop} : iZB fr ρ T k = fr ρ T fun as T1 => zpK (zipB2 as) T1 k := propext Iff.rfl
end L2.G

namespace L2.G
open PySem PySem.Spec PyProof.Rows L2
/-! built-ins whose arguments may raise -/
section
variable {X : Cx} {c : Ct} {e : Expr} {es : List Expr} {fr : dA} {pos p : Pos} {r : List V → Hp → VK → Prop}
end
end L2.G

namespace L2.G
open PySem PySem.Spec PyProof.Rows L2
/-! l.count(x) of any list and thing -/
def fCntD : D → D → PD | .lst xs, y => some ((D.lst xs).eqOk ∧ y.eqOk, .int (xs.countP fun x => eqD x y : Nat)) | _, _ => none
theorem fCntD_lst {xs : List D} {y : D} : fCntD (.lst xs) y = some ((D.lst xs).eqOk ∧ y.eqOk, .int (xs.countP fun x => eqD x y : Nat)) := rfl
section
variable {X : Cx} {o e : Expr} {fo fe : dE} {apos cpos : Pos} {n : Nat}
end
end L2.G

namespace L2.G
open PySem PySem.Spec PyProof.Rows L2
/-! the sum of two truths -/
def fAddB : D → D → PD
  | .bl b, .bl c => some (True, .int (b2i b + b2i c))
  | _, _ => none
theorem fAddB_bl {b c : Bool} : fAddB (.bl b) (.bl c) = some (True, .int (b2i b + b2i c)) := rfl
section
variable {X : Cx} {a b : Expr} {fa fb : dE} {pos : Pos}
end
end L2.G

namespace L2.G
open PySem PySem.Spec PyProof.Rows L2
/-! a op1 b op2 c of ints, as a value -/
def dChnV (g g' : Int → Int → Bool) (fa fb fc : dE) : dE := fun ρ T k => fa ρ T fun x T1 => fb ρ T1 fun y T2 => intK x fun i => intK y fun j => if g i j = true then fc ρ T2 fun z T3 => intK z fun l => k (.bl (g' j l)) T3 else k (.bl false) T2
theorem h_chnV {g g' : Int → Int → Bool} {fa fb fc : dE} {ρ : En} {T : Tk} {k : KD} : dChnV g g' fa fb fc ρ T k = fa ρ T fun x T1 => fb ρ T1 fun y T2 => intK x fun i => intK y fun j => andK (g i j) T2 (fun k' => wr (fc ρ T2 fun z T3 => intK z fun l => k' (g' j l) T3)) fun b T => k (.bl b) T := propext Iff.rfl
theorem d_chnV {X : Cx} {op op' : CmpOp} {g g' : Int → Int → Bool} {a b c : Expr} {fa fb fc : dE} {pos : Pos} (ho : OpR X (compareOp op) (rI0 fun i j => .bl (g i j))) (ho' : OpR X (compareOp op') (rI0 fun i j => .bl (g' i j))) (ha : PEd X a fa) (hb : PEd X b fb) (hc : PEd X c fc)
    (hm : lastMarks [op, op'] [b, c] = false := by with_unfolding_all rfl) : PEd X (.Compare a [op, op'] [b, c] pos) (dChnV g g' fa fb fc) := by
  refine pe_imp (pe_chain ho ho' ha hb hc hm) fun σ H Q h => ?_
  obtain ⟨ρ, T, t, F, k, w, h, f⟩ := h
  refine ⟨ρ, T, t, F, _, w, h, fun v H1 F1 x T1 w1 g1 r1 h1 => ?_⟩
  refine ⟨ρ, T1, t, F1, _, w.grow g1 w1, h1, fun u H2 F2 y T2 w2 g2 r2 h2 => ?_⟩
  obtain ⟨i, rfl, h3⟩ := intK_of (x := x) h2
  obtain ⟨j, rfl, h4⟩ := intK_of (x := y) h3
  clear h2 h3
  have h2 := h4
  cases r1
  cases r2
  refine ⟨i, j, rfl, rfl, g i j, rfl, ?_⟩
  by_cases e : g i j = true
  · rw [if_pos e] at h2 ⊢
    refine ⟨ρ, T2, t, F2, _, w.grow (g1.trans g2) w2, h2, fun v3 H3 F3 z T3 w3 g3 r3 h3 => ?_⟩
    obtain ⟨l, rfl, h3⟩ := intK_of h3
    cases r3
    exact ⟨j, l, rfl, rfl, ((f.then g1).then (g2.trans g3)).val w3 (.bl _) h3⟩
  · rw [if_neg e] at h2 ⊢
    exact ((f.then g1).then g2).val w2 (.bl _) h2
end L2.G

namespace L2.G
open PySem PySem.Spec PyProof.Rows
theorem sc_is_whole : FnScope ["value"] ["value"] (defScope st_is_whole) := ⟨rfl, rfl, rfl, by decide +kernel, rfl, by decide +kernel, by decide +kernel⟩
def b_is_whole : dS := sRet (dAndV (dIsi .int (dVar 0)) (dNotV (dIsi .bool (dVar 0))))
def sm_is_whole : Sem := semOf ["value"] b_is_whole
theorem e_is_whole (a0 : SV) (T : Tk) (k : KD) : sm_is_whole [a0] T k = b_is_whole { nx := fun _ T => k .non T, rt := k, bk := fun _ _ => False, ct := fun _ _ => False } [some a0] T := rfl
theorem sc_are_wholes : FnScope ["value", "many", "number"] ["value", "many"] (defScope st_are_wholes) := ⟨rfl, rfl, rfl, by decide +kernel, rfl, by decide +kernel, by decide +kernel⟩
def b_are_wholes : dS := sRet (dAndV (dIsi .tuple (dVar 0)) (dAndV (dOp (oF fEq) (dBlt (oG fLen) (aCons (dVar 0) (aNil))) (dVar 1)) (dBlt (oG fAll) (aCons (dLc [2] (iQ (dVar 0)) (cN 2) dYes (dCall 1 sm_is_whole (aCons (dVar 2) (aNil)))) (aNil)))))
def sm_are_wholes : Sem := semOf ["value", "many", "number"] b_are_wholes
theorem e_are_wholes (a0 a1 : SV) (T : Tk) (k : KD) : sm_are_wholes [a0, a1] T k = b_are_wholes { nx := fun _ T => k .non T, rt := k, bk := fun _ _ => False, ct := fun _ _ => False } [some a0, some a1, none] T := rfl
theorem sc_divisor_of : FnScope ["numbers", "found", "number"] ["numbers"] (defScope st_divisor_of) := ⟨rfl, rfl, rfl, by decide +kernel, rfl, by decide +kernel, by decide +kernel⟩
def b_divisor_of : dS := sSeq (sAsg (dC (.int 0)) (gN 1)) (sSeq (sForI (iQ (dVar 0)) (gN 2) (sAsg (dBlt (oG (fI2 iGcd)) (aCons (dVar 1) (aCons (dVar 2) (aNil)))) (gN 1))) (sRet (dVar 1)))
def sm_divisor_of : Sem := semOf ["numbers", "found", "number"] b_divisor_of
theorem e_divisor_of (a0 : SV) (T : Tk) (k : KD) : sm_divisor_of [a0] T k = b_divisor_of { nx := fun _ T => k .non T, rt := k, bk := fun _ _ => False, ct := fun _ _ => False } [some a0, none, none] T := rfl
theorem sc_lowest : FnScope ["numbers", "divisor", "number"] ["numbers"] (defScope st_lowest) := ⟨rfl, rfl, rfl, by decide +kernel, rfl, by decide +kernel, by decide +kernel⟩
def b_lowest : dS := sSeq (sAsg (dCall 1 sm_divisor_of (aCons (dVar 0) (aNil))) (gN 1)) (sRet (dBlt (oG fTuple) (aCons (dLc [2] (iQ (dVar 0)) (cN 2) dYes (dOp (oF fDiv) (dVar 2) (dVar 1))) (aNil))))
def sm_lowest : Sem := semOf ["numbers", "divisor", "number"] b_lowest
theorem e_lowest (a0 : SV) (T : Tk) (k : KD) : sm_lowest [a0] T k = b_lowest { nx := fun _ T => k .non T, rt := k, bk := fun _ _ => False, ct := fun _ _ => False } [some a0, none, none] T := rfl
theorem sc_is_complex : FnScope ["value"] ["value"] (defScope st_is_complex) := ⟨rfl, rfl, rfl, by decide +kernel, rfl, by decide +kernel, by decide +kernel⟩
def b_is_complex : dS := sRet (dCall 2 sm_are_wholes (aCons (dVar 0) (aCons (dC (.int 2)) (aNil))))
def sm_is_complex : Sem := semOf ["value"] b_is_complex
theorem e_is_complex (a0 : SV) (T : Tk) (k : KD) : sm_is_complex [a0] T k = b_is_complex { nx := fun _ T => k .non T, rt := k, bk := fun _ _ => False, ct := fun _ _ => False } [some a0] T := rfl
theorem sc_plus : FnScope ["number", "other"] ["number", "other"] (defScope st_plus) := ⟨rfl, rfl, rfl, by decide +kernel, rfl, by decide +kernel, by decide +kernel⟩
def b_plus : dS := sRet (dTup (aCons (dOp (oF fAdd) (dOp (oF fIx) (dVar 0) (dC (.int 0))) (dOp (oF fIx) (dVar 1) (dC (.int 0)))) (aCons (dOp (oF fAdd) (dOp (oF fIx) (dVar 0) (dC (.int 1))) (dOp (oF fIx) (dVar 1) (dC (.int 1)))) (aNil))))
def sm_plus : Sem := semOf ["number", "other"] b_plus
theorem e_plus (a0 a1 : SV) (T : Tk) (k : KD) : sm_plus [a0, a1] T k = b_plus { nx := fun _ T => k .non T, rt := k, bk := fun _ _ => False, ct := fun _ _ => False } [some a0, some a1] T := rfl
theorem sc_minus : FnScope ["number", "other"] ["number", "other"] (defScope st_minus) := ⟨rfl, rfl, rfl, by decide +kernel, rfl, by decide +kernel, by decide +kernel⟩
def b_minus : dS := sRet (dTup (aCons (dOp (oF fSub) (dOp (oF fIx) (dVar 0) (dC (.int 0))) (dOp (oF fIx) (dVar 1) (dC (.int 0)))) (aCons (dOp (oF fSub) (dOp (oF fIx) (dVar 0) (dC (.int 1))) (dOp (oF fIx) (dVar 1) (dC (.int 1)))) (aNil))))
def sm_minus : Sem := semOf ["number", "other"] b_minus
theorem e_minus (a0 a1 : SV) (T : Tk) (k : KD) : sm_minus [a0, a1] T k = b_minus { nx := fun _ T => k .non T, rt := k, bk := fun _ _ => False, ct := fun _ _ => False } [some a0, some a1] T := rfl
theorem sc_times : FnScope ["number", "other"] ["number", "other"] (defScope st_times) := ⟨rfl, rfl, rfl, by decide +kernel, rfl, by decide +kernel, by decide +kernel⟩
def b_times : dS := sRet (dTup (aCons (dOp (oF fSub) (dOp (oF fMul) (dOp (oF fIx) (dVar 0) (dC (.int 0))) (dOp (oF fIx) (dVar 1) (dC (.int 0)))) (dOp (oF fMul) (dOp (oF fIx) (dVar 0) (dC (.int 1))) (dOp (oF fIx) (dVar 1) (dC (.int 1))))) (aCons (dOp (oF fAdd) (dOp (oF fMul) (dOp (oF fIx) (dVar 0) (dC (.int 0))) (dOp (oF fIx) (dVar 1) (dC (.int 1)))) (dOp (oF fMul) (dOp (oF fIx) (dVar 0) (dC (.int 1))) (dOp (oF fIx) (dVar 1) (dC (.int 0))))) (aNil))))
def sm_times : Sem := semOf ["number", "other"] b_times
theorem e_times (a0 a1 : SV) (T : Tk) (k : KD) : sm_times [a0, a1] T k = b_times { nx := fun _ T => k .non T, rt := k, bk := fun _ _ => False, ct := fun _ _ => False } [some a0, some a1] T := rfl
theorem sc_scaled : FnScope ["number", "factor"] ["number", "factor"] (defScope st_scaled) := ⟨rfl, rfl, rfl, by decide +kernel, rfl, by decide +kernel, by decide +kernel⟩
def b_scaled : dS := sRet (dTup (aCons (dOp (oF fMul) (dVar 1) (dOp (oF fIx) (dVar 0) (dC (.int 0)))) (aCons (dOp (oF fMul) (dVar 1) (dOp (oF fIx) (dVar 0) (dC (.int 1)))) (aNil))))
def sm_scaled : Sem := semOf ["number", "factor"] b_scaled
theorem e_scaled (a0 a1 : SV) (T : Tk) (k : KD) : sm_scaled [a0, a1] T k = b_scaled { nx := fun _ T => k .non T, rt := k, bk := fun _ _ => False, ct := fun _ _ => False } [some a0, some a1] T := rfl
theorem sc_turned_over : FnScope ["number"] ["number"] (defScope st_turned_over) := ⟨rfl, rfl, rfl, by decide +kernel, rfl, by decide +kernel, by decide +kernel⟩
def b_turned_over : dS := sRet (dTup (aCons (dOp (oF fIx) (dVar 0) (dC (.int 0))) (aCons (dNeg (dOp (oF fIx) (dVar 0) (dC (.int 1)))) (aNil))))
def sm_turned_over : Sem := semOf ["number"] b_turned_over
theorem e_turned_over (a0 : SV) (T : Tk) (k : KD) : sm_turned_over [a0] T k = b_turned_over { nx := fun _ T => k .non T, rt := k, bk := fun _ _ => False, ct := fun _ _ => False } [some a0] T := rfl
theorem sc_square_size : FnScope ["number"] ["number"] (defScope st_square_size) := ⟨rfl, rfl, rfl, by decide +kernel, rfl, by decide +kernel, by decide +kernel⟩
def b_square_size : dS := sRet (dOp (oF fAdd) (dOp (oF fMul) (dOp (oF fIx) (dVar 0) (dC (.int 0))) (dOp (oF fIx) (dVar 0) (dC (.int 0)))) (dOp (oF fMul) (dOp (oF fIx) (dVar 0) (dC (.int 1))) (dOp (oF fIx) (dVar 0) (dC (.int 1)))))
def sm_square_size : Sem := semOf ["number"] b_square_size
theorem e_square_size (a0 : SV) (T : Tk) (k : KD) : sm_square_size [a0] T k = b_square_size { nx := fun _ T => k .non T, rt := k, bk := fun _ _ => False, ct := fun _ _ => False } [some a0] T := rfl
theorem sc_unit_for : FnScope ["number", "unit", "found"] ["number"] (defScope st_unit_for) := ⟨rfl, rfl, rfl, by decide +kernel, rfl, by decide +kernel, by decide +kernel⟩
def b_unit_for : dS := sSeq (sForI (iQ (dSlQ (dC k_UNITS) (fun _ T k => k none T) (pSome (dC (.int 3))))) (gN 1) (sSeq (sAsg (dCall 2 sm_times (aCons (dVar 0) (aCons (dVar 1) (aNil)))) (gN 2)) (sIf (dAnd (dTst (dOp (oF fGt) (dOp (oF fIx) (dVar 2) (dC (.int 0))) (dC (.int 0)))) (dTst (dOp (oF fGe) (dOp (oF fIx) (dVar 2) (dC (.int 1))) (dC (.int 0))))) (sRet (dVar 1)) ((fun k ρ T => k.nx ρ T))))) (sRet (dOp (oF fIx) (dC k_UNITS) (dC (.int 3))))
def sm_unit_for : Sem := semOf ["number", "unit", "found"] b_unit_for
theorem e_unit_for (a0 : SV) (T : Tk) (k : KD) : sm_unit_for [a0] T k = b_unit_for { nx := fun _ T => k .non T, rt := k, bk := fun _ _ => False, ct := fun _ _ => False } [some a0, none, none] T := rfl
theorem sc_nearest : FnScope ["number", "below"] ["number", "below"] (defScope st_nearest) := ⟨rfl, rfl, rfl, by decide +kernel, rfl, by decide +kernel, by decide +kernel⟩
def b_nearest : dS := sRet (dOp (oF fDiv) (dOp (oF fAdd) (dOp (oF fMul) (dC (.int 2)) (dVar 0)) (dVar 1)) (dOp (oF fMul) (dC (.int 2)) (dVar 1)))
def sm_nearest : Sem := semOf ["number", "below"] b_nearest
theorem e_nearest (a0 a1 : SV) (T : Tk) (k : KD) : sm_nearest [a0, a1] T k = b_nearest { nx := fun _ T => k .non T, rt := k, bk := fun _ _ => False, ct := fun _ _ => False } [some a0, some a1] T := rfl
theorem sc_divisor_of_two : FnScope ["number", "other", "one", "two", "product", "whole"] ["number", "other"] (defScope st_divisor_of_two) := ⟨rfl, rfl, rfl, by decide +kernel, rfl, by decide +kernel, by decide +kernel⟩
def b_divisor_of_two : dS := sSeq (sPar 2 3 (aCons (dVar 0) (aCons (dVar 1) (aNil)))) (sSeq (sWhile (dTst (dOp (oF fNe) (dVar 3) (dC k_ZERO))) (sSeq (sAsg (dCall 2 sm_times (aCons (dVar 2) (aCons (dCall 1 sm_turned_over (aCons (dVar 3) (aNil))) (aNil)))) (gN 4)) (sSeq (sAsg (dTup (aCons (dCall 2 sm_nearest (aCons (dOp (oF fIx) (dVar 4) (dC (.int 0))) (aCons (dCall 1 sm_square_size (aCons (dVar 3) (aNil))) (aNil)))) (aCons (dCall 2 sm_nearest (aCons (dOp (oF fIx) (dVar 4) (dC (.int 1))) (aCons (dCall 1 sm_square_size (aCons (dVar 3) (aNil))) (aNil)))) (aNil)))) (gN 5)) (sPar 2 3 (aCons (dVar 3) (aCons (dCall 2 sm_minus (aCons (dVar 2) (aCons (dCall 2 sm_times (aCons (dVar 5) (aCons (dVar 3) (aNil)))) (aNil)))) (aNil))))))) (sRet (dVar 2)))
def sm_divisor_of_two : Sem := semOf ["number", "other", "one", "two", "product", "whole"] b_divisor_of_two
theorem e_divisor_of_two (a0 a1 : SV) (T : Tk) (k : KD) : sm_divisor_of_two [a0, a1] T k = b_divisor_of_two { nx := fun _ T => k .non T, rt := k, bk := fun _ _ => False, ct := fun _ _ => False } [some a0, some a1, none, none, none, none] T := rfl
theorem sc_divisor_of_all : FnScope ["numbers", "found", "number"] ["numbers"] (defScope st_divisor_of_all) := ⟨rfl, rfl, rfl, by decide +kernel, rfl, by decide +kernel, by decide +kernel⟩
def b_divisor_of_all : dS := sSeq (sAsg (dC k_ZERO) (gN 1)) (sSeq (sForI (iQ (dVar 0)) (gN 2) (sAsg (dCall 2 sm_divisor_of_two (aCons (dVar 1) (aCons (dVar 2) (aNil)))) (gN 1))) (sRet (dVar 1)))
def sm_divisor_of_all : Sem := semOf ["numbers", "found", "number"] b_divisor_of_all
theorem e_divisor_of_all (a0 : SV) (T : Tk) (k : KD) : sm_divisor_of_all [a0] T k = b_divisor_of_all { nx := fun _ T => k .non T, rt := k, bk := fun _ _ => False, ct := fun _ _ => False } [some a0, none, none] T := rfl
theorem sc_divided : FnScope ["number", "other", "product", "below"] ["number", "other"] (defScope st_divided) := ⟨rfl, rfl, rfl, by decide +kernel, rfl, by decide +kernel, by decide +kernel⟩
def b_divided : dS := sSeq (sPar 2 3 (aCons (dCall 2 sm_times (aCons (dVar 0) (aCons (dCall 1 sm_turned_over (aCons (dVar 1) (aNil))) (aNil)))) (aCons (dCall 1 sm_square_size (aCons (dVar 1) (aNil))) (aNil)))) (sSeq (sIf (dOr (dTst (dOp (oF fNe) (dOp (oF fMod) (dOp (oF fIx) (dVar 2) (dC (.int 0))) (dVar 3)) (dC (.int 0)))) (dTst (dOp (oF fNe) (dOp (oF fMod) (dOp (oF fIx) (dVar 2) (dC (.int 1))) (dVar 3)) (dC (.int 0))))) (sRet (dC .non)) ((fun k ρ T => k.nx ρ T))) (sRet (dTup (aCons (dOp (oF fDiv) (dOp (oF fIx) (dVar 2) (dC (.int 0))) (dVar 3)) (aCons (dOp (oF fDiv) (dOp (oF fIx) (dVar 2) (dC (.int 1))) (dVar 3)) (aNil))))))
def sm_divided : Sem := semOf ["number", "other", "product", "below"] b_divided
theorem e_divided (a0 a1 : SV) (T : Tk) (k : KD) : sm_divided [a0, a1] T k = b_divided { nx := fun _ T => k .non T, rt := k, bk := fun _ _ => False, ct := fun _ _ => False } [some a0, some a1, none, none] T := rfl
theorem sc_quotient_place : FnScope ["number", "other", "product"] ["number", "other"] (defScope st_quotient_place) := ⟨rfl, rfl, rfl, by decide +kernel, rfl, by decide +kernel, by decide +kernel⟩
def b_quotient_place : dS := sSeq (sIf (dTst (dOp (oF fEq) (dVar 1) (dC k_ZERO))) (sRet (dC k_FAR)) ((fun k ρ T => k.nx ρ T))) (sSeq (sAsg (dCall 2 sm_times (aCons (dVar 0) (aCons (dCall 1 sm_turned_over (aCons (dVar 1) (aNil))) (aNil)))) (gN 2)) (sRet (dCall 1 sm_lowest (aCons (dTup (aCons (dOp (oF fIx) (dVar 2) (dC (.int 0))) (aCons (dOp (oF fIx) (dVar 2) (dC (.int 1))) (aCons (dCall 1 sm_square_size (aCons (dVar 1) (aNil))) (aNil))))) (aNil)))))
def sm_quotient_place : Sem := semOf ["number", "other", "product"] b_quotient_place
theorem e_quotient_place (a0 a1 : SV) (T : Tk) (k : KD) : sm_quotient_place [a0, a1] T k = b_quotient_place { nx := fun _ T => k .non T, rt := k, bk := fun _ _ => False, ct := fun _ _ => False } [some a0, some a1, none] T := rfl
theorem sc_determinant : FnScope ["chart"] ["chart"] (defScope st_determinant) := ⟨rfl, rfl, rfl, by decide +kernel, rfl, by decide +kernel, by decide +kernel⟩
def b_determinant : dS := sRet (dCall 2 sm_minus (aCons (dCall 2 sm_times (aCons (dOp (oF fIx) (dVar 0) (dC (.int 1))) (aCons (dOp (oF fIx) (dVar 0) (dC (.int 4))) (aNil)))) (aCons (dCall 2 sm_times (aCons (dOp (oF fIx) (dVar 0) (dC (.int 2))) (aCons (dOp (oF fIx) (dVar 0) (dC (.int 3))) (aNil)))) (aNil))))
def sm_determinant : Sem := semOf ["chart"] b_determinant
theorem e_determinant (a0 : SV) (T : Tk) (k : KD) : sm_determinant [a0] T k = b_determinant { nx := fun _ T => k .non T, rt := k, bk := fun _ _ => False, ct := fun _ _ => False } [some a0] T := rfl
theorem sc_form_of : FnScope ["is_mirrored", "numbers", "common", "found", "number", "unit"] ["is_mirrored", "numbers"] (defScope st_form_of) := ⟨rfl, rfl, rfl, by decide +kernel, rfl, by decide +kernel, by decide +kernel⟩
def b_form_of : dS := sSeq (sAsg (dCall 1 sm_divisor_of_all (aCons (dVar 1) (aNil))) (gN 2)) (sSeq (sAsg (dLc [4] (iQ (dVar 1)) (cN 4) dYes (dCall 2 sm_divided (aCons (dVar 4) (aCons (dVar 2) (aNil))))) (gN 3)) (sSeq (sAsg (dCall 1 sm_unit_for (aCons (dOp (oF fIx) (dLc [4] (iQ (dVar 3)) (cN 4) (dTst (dOp (oF fNe) (dVar 4) (dC k_ZERO))) (dVar 4)) (dC (.int 0))) (aNil))) (gN 5)) (sRet (dTup (aCons (dVar 0) (aStar (dLc [4] (iQ (dVar 3)) (cN 4) dYes (dCall 2 sm_times (aCons (dVar 4) (aCons (dVar 5) (aNil))))) (aNil)))))))
def sm_form_of : Sem := semOf ["is_mirrored", "numbers", "common", "found", "number", "unit"] b_form_of
theorem e_form_of (a0 a1 : SV) (T : Tk) (k : KD) : sm_form_of [a0, a1] T k = b_form_of { nx := fun _ T => k .non T, rt := k, bk := fun _ _ => False, ct := fun _ _ => False } [some a0, some a1, none, none, none, none] T := rfl
theorem sc_is_flag : FnScope ["value"] ["value"] (defScope st_is_flag) := ⟨rfl, rfl, rfl, by decide +kernel, rfl, by decide +kernel, by decide +kernel⟩
def b_is_flag : dS := sRet (dAndV (dCall 1 sm_is_whole (aCons (dVar 0) (aNil))) (dOp (oF fInS) (dVar 0) (dTup (aCons (dC (.int 0)) (aCons (dC (.int 1)) (aNil))))))
def sm_is_flag : Sem := semOf ["value"] b_is_flag
theorem e_is_flag (a0 : SV) (T : Tk) (k : KD) : sm_is_flag [a0] T k = b_is_flag { nx := fun _ T => k .non T, rt := k, bk := fun _ _ => False, ct := fun _ _ => False } [some a0] T := rfl
theorem sc_is_map : FnScope ["value", "number"] ["value"] (defScope st_is_map) := ⟨rfl, rfl, rfl, by decide +kernel, rfl, by decide +kernel, by decide +kernel⟩
def b_is_map : dS := sSeq (sIf (dOr (dNot (dTst (dIsi .tuple (dVar 0)))) (dOr (dTst (dOp (oF fNe) (dBlt (oG fLen) (aCons (dVar 0) (aNil))) (dC (.int 5)))) (dNot (dTst (dCall 1 sm_is_flag (aCons (dOp (oF fIx) (dVar 0) (dC (.int 0))) (aNil))))))) (sRet (dC (.bl false))) ((fun k ρ T => k.nx ρ T))) (sSeq (sIf (dOr (dTst (dOp (oF fNe) (dLc [1] (iQ (dSlQ (dVar 0) (pSome (dC (.int 1))) (fun _ T k => k none T))) (cN 1) (dNot (dTst (dCall 1 sm_is_complex (aCons (dVar 1) (aNil))))) (dVar 1)) (dLst (aNil)))) (dTst (dOp (oF fEq) (dCall 1 sm_determinant (aCons (dVar 0) (aNil))) (dC k_ZERO)))) (sRet (dC (.bl false))) ((fun k ρ T => k.nx ρ T))) (sRet (dOp (oF fEq) (dCall 2 sm_form_of (aCons (dOp (oF fIx) (dVar 0) (dC (.int 0))) (aCons (dSlQ (dVar 0) (pSome (dC (.int 1))) (fun _ T k => k none T)) (aNil)))) (dVar 0))))
def sm_is_map : Sem := semOf ["value", "number"] b_is_map
theorem e_is_map (a0 : SV) (T : Tk) (k : KD) : sm_is_map [a0] T k = b_is_map { nx := fun _ T => k .non T, rt := k, bk := fun _ _ => False, ct := fun _ _ => False } [some a0, none] T := rfl
theorem sc_check_map : FnScope ["value"] ["value"] (defScope st_check_map) := ⟨rfl, rfl, rfl, by decide +kernel, rfl, by decide +kernel, by decide +kernel⟩
def b_check_map : dS := sIf (dNot (dTst (dCall 1 sm_is_map (aCons (dVar 0) (aNil))))) ((fun _ _ _ => False)) ((fun k ρ T => k.nx ρ T))
def sm_check_map : Sem := semOf ["value"] b_check_map
theorem e_check_map (a0 : SV) (T : Tk) (k : KD) : sm_check_map [a0] T k = b_check_map { nx := fun _ T => k .non T, rt := k, bk := fun _ _ => False, ct := fun _ _ => False } [some a0] T := rfl
theorem sc_joined : FnScope ["chart", "other", "numbers", "number", "a", "b", "c", "d", "found"] ["chart", "other"] (defScope st_joined) := ⟨rfl, rfl, rfl, by decide +kernel, rfl, by decide +kernel, by decide +kernel⟩
def b_joined : dS := sSeq (sAsg (dIf (dTst (dOp (oF fEq) (dOp (oF fIx) (dVar 0) (dC (.int 0))) (dC (.int 0)))) (dBlt (oG fList) (aCons (dSlQ (dVar 1) (pSome (dC (.int 1))) (fun _ T k => k none T)) (aNil))) (dLc [3] (iQ (dSlQ (dVar 1) (pSome (dC (.int 1))) (fun _ T k => k none T))) (cN 3) dYes (dCall 1 sm_turned_over (aCons (dVar 3) (aNil))))) (gN 2)) (sSeq (sAsg (dSlQ (dVar 0) (pSome (dC (.int 1))) (fun _ T k => k none T)) (gTL 4 (gsCons (gN 4) (gsCons (gN 5) (gsCons (gN 6) (gsCons (gN 7) (gsNil))))))) (sSeq (sAsg (dTup (aCons (dCall 2 sm_plus (aCons (dCall 2 sm_times (aCons (dVar 4) (aCons (dOp (oF fIx) (dVar 2) (dC (.int 0))) (aNil)))) (aCons (dCall 2 sm_times (aCons (dVar 5) (aCons (dOp (oF fIx) (dVar 2) (dC (.int 2))) (aNil)))) (aNil)))) (aCons (dCall 2 sm_plus (aCons (dCall 2 sm_times (aCons (dVar 4) (aCons (dOp (oF fIx) (dVar 2) (dC (.int 1))) (aNil)))) (aCons (dCall 2 sm_times (aCons (dVar 5) (aCons (dOp (oF fIx) (dVar 2) (dC (.int 3))) (aNil)))) (aNil)))) (aCons (dCall 2 sm_plus (aCons (dCall 2 sm_times (aCons (dVar 6) (aCons (dOp (oF fIx) (dVar 2) (dC (.int 0))) (aNil)))) (aCons (dCall 2 sm_times (aCons (dVar 7) (aCons (dOp (oF fIx) (dVar 2) (dC (.int 2))) (aNil)))) (aNil)))) (aCons (dCall 2 sm_plus (aCons (dCall 2 sm_times (aCons (dVar 6) (aCons (dOp (oF fIx) (dVar 2) (dC (.int 1))) (aNil)))) (aCons (dCall 2 sm_times (aCons (dVar 7) (aCons (dOp (oF fIx) (dVar 2) (dC (.int 3))) (aNil)))) (aNil)))) (aNil)))))) (gN 8)) (sRet (dCall 2 sm_form_of (aCons (dOp (oF fMod) (dOp (oF fAdd) (dOp (oF fIx) (dVar 0) (dC (.int 0))) (dOp (oF fIx) (dVar 1) (dC (.int 0)))) (dC (.int 2))) (aCons (dVar 8) (aNil)))))))
def sm_joined : Sem := semOf ["chart", "other", "numbers", "number", "a", "b", "c", "d", "found"] b_joined
theorem e_joined (a0 a1 : SV) (T : Tk) (k : KD) : sm_joined [a0, a1] T k = b_joined { nx := fun _ T => k .non T, rt := k, bk := fun _ _ => False, ct := fun _ _ => False } [some a0, some a1, none, none, none, none, none, none, none] T := rfl
theorem sc_trace : FnScope ["chart"] ["chart"] (defScope st_trace) := ⟨rfl, rfl, rfl, by decide +kernel, rfl, by decide +kernel, by decide +kernel⟩
def b_trace : dS := sRet (dCall 2 sm_plus (aCons (dOp (oF fIx) (dVar 0) (dC (.int 1))) (aCons (dOp (oF fIx) (dVar 0) (dC (.int 4))) (aNil))))
def sm_trace : Sem := semOf ["chart"] b_trace
theorem e_trace (a0 : SV) (T : Tk) (k : KD) : sm_trace [a0] T k = b_trace { nx := fun _ T => k .non T, rt := k, bk := fun _ _ => False, ct := fun _ _ => False } [some a0] T := rfl
theorem sc_trace_place : FnScope ["chart"] ["chart"] (defScope st_trace_place) := ⟨rfl, rfl, rfl, by decide +kernel, rfl, by decide +kernel, by decide +kernel⟩
def b_trace_place : dS := sRet (dCall 2 sm_quotient_place (aCons (dCall 2 sm_times (aCons (dCall 1 sm_trace (aCons (dVar 0) (aNil))) (aCons (dCall 1 sm_trace (aCons (dVar 0) (aNil))) (aNil)))) (aCons (dCall 1 sm_determinant (aCons (dVar 0) (aNil))) (aNil))))
def sm_trace_place : Sem := semOf ["chart"] b_trace_place
theorem e_trace_place (a0 : SV) (T : Tk) (k : KD) : sm_trace_place [a0] T k = b_trace_place { nx := fun _ T => k .non T, rt := k, bk := fun _ _ => False, ct := fun _ _ => False } [some a0] T := rfl
theorem sc_gap : FnScope ["one", "other", "p", "s", "r", "u", "v", "w"] ["one", "other"] (defScope st_gap) := ⟨rfl, rfl, rfl, by decide +kernel, rfl, by decide +kernel, by decide +kernel⟩
def b_gap : dS := sSeq (sAsg (dTup (aCons (dVar 0) (aCons (dVar 1) (aNil)))) (gTL 2 (gsCons (gTL 3 (gsCons (gN 2) (gsCons (gN 3) (gsCons (gN 4) (gsNil))))) (gsCons (gTL 3 (gsCons (gN 5) (gsCons (gN 6) (gsCons (gN 7) (gsNil))))) (gsNil))))) (sRet (dCall 1 sm_lowest (aCons (dTup (aCons (dOp (oF fSub) (dOp (oF fMul) (dVar 2) (dVar 7)) (dOp (oF fMul) (dVar 5) (dVar 4))) (aCons (dOp (oF fSub) (dOp (oF fMul) (dVar 3) (dVar 7)) (dOp (oF fMul) (dVar 6) (dVar 4))) (aCons (dOp (oF fMul) (dVar 4) (dVar 7)) (aNil))))) (aNil))))
def sm_gap : Sem := semOf ["one", "other", "p", "s", "r", "u", "v", "w"] b_gap
theorem e_gap (a0 a1 : SV) (T : Tk) (k : KD) : sm_gap [a0, a1] T k = b_gap { nx := fun _ T => k .non T, rt := k, bk := fun _ _ => False, ct := fun _ _ => False } [some a0, some a1, none, none, none, none, none, none] T := rfl
theorem sc_flipped : FnScope ["one"] ["one"] (defScope st_flipped) := ⟨rfl, rfl, rfl, by decide +kernel, rfl, by decide +kernel, by decide +kernel⟩
def b_flipped : dS := sRet (dTup (aCons (dOp (oF fIx) (dVar 0) (dC (.int 0))) (aCons (dNeg (dOp (oF fIx) (dVar 0) (dC (.int 1)))) (aCons (dOp (oF fIx) (dVar 0) (dC (.int 2))) (aNil)))))
def sm_flipped : Sem := semOf ["one"] b_flipped
theorem e_flipped (a0 : SV) (T : Tk) (k : KD) : sm_flipped [a0] T k = b_flipped { nx := fun _ T => k .non T, rt := k, bk := fun _ _ => False, ct := fun _ _ => False } [some a0] T := rfl
theorem sc_size_of : FnScope ["one"] ["one"] (defScope st_size_of) := ⟨rfl, rfl, rfl, by decide +kernel, rfl, by decide +kernel, by decide +kernel⟩
def b_size_of : dS := sRet (dCall 1 sm_lowest (aCons (dTup (aCons (dCall 1 sm_square_size (aCons (dSlQ (dVar 0) (fun _ T k => k none T) (pSome (dC (.int 2)))) (aNil))) (aCons (dC (.int 0)) (aCons (dOp (oF fMul) (dOp (oF fIx) (dVar 0) (dC (.int 2))) (dOp (oF fIx) (dVar 0) (dC (.int 2)))) (aNil))))) (aNil)))
def sm_size_of : Sem := semOf ["one"] b_size_of
theorem e_size_of (a0 : SV) (T : Tk) (k : KD) : sm_size_of [a0] T k = b_size_of { nx := fun _ T => k .non T, rt := k, bk := fun _ _ => False, ct := fun _ _ => False } [some a0] T := rfl
theorem sc_is_real : FnScope ["one"] ["one"] (defScope st_is_real) := ⟨rfl, rfl, rfl, by decide +kernel, rfl, by decide +kernel, by decide +kernel⟩
def b_is_real : dS := sRet (dOp (oF fEq) (dOp (oF fIx) (dVar 0) (dC (.int 1))) (dC (.int 0)))
def sm_is_real : Sem := semOf ["one"] b_is_real
theorem e_is_real (a0 : SV) (T : Tk) (k : KD) : sm_is_real [a0] T k = b_is_real { nx := fun _ T => k .non T, rt := k, bk := fun _ _ => False, ct := fun _ _ => False } [some a0] T := rfl
theorem sc_check_kinds : FnScope ["value", "index", "word"] ["value"] (defScope st_check_kinds) := ⟨rfl, rfl, rfl, by decide +kernel, rfl, by decide +kernel, by decide +kernel⟩
def b_check_kinds : dS := sSeq (sIf (dNot (dTst (dIsi .tuple (dVar 0)))) ((fun _ _ _ => False)) ((fun k ρ T => k.nx ρ T))) (sForI (iEn (dVar 0)) (gTL 2 (gsCons (gN 1) (gsCons (gN 2) (gsNil)))) (sIf (dOr (dNot (dTst (dIsi .str (dVar 2)))) (dOr (dTst (dOp (oF fNotInS) (dVar 2) (dC k_WORDS))) (dTst (dOp (oF fInS) (dVar 2) (dSlQ (dVar 0) (fun _ T k => k none T) (pSome (dVar 1))))))) ((fun _ _ _ => False)) ((fun k ρ T => k.nx ρ T))))
def sm_check_kinds : Sem := semOf ["value", "index", "word"] b_check_kinds
theorem e_check_kinds (a0 : SV) (T : Tk) (k : KD) : sm_check_kinds [a0] T k = b_check_kinds { nx := fun _ T => k .non T, rt := k, bk := fun _ _ => False, ct := fun _ _ => False } [some a0, none, none] T := rfl
theorem sc_is_true_map : FnScope ["chart", "number"] ["chart"] (defScope st_is_true_map) := ⟨rfl, rfl, rfl, by decide +kernel, rfl, by decide +kernel, by decide +kernel⟩
def b_is_true_map : dS := sSeq (sAsg (dCall 1 sm_square_size (aCons (dCall 1 sm_determinant (aCons (dVar 0) (aNil))) (aNil))) (gN 1)) (sRet (dOp (oF fEq) (dOp (oF fMul) (dBlt (oG fSqrt) (aCons (dVar 1) (aNil))) (dBlt (oG fSqrt) (aCons (dVar 1) (aNil)))) (dVar 1)))
def sm_is_true_map : Sem := semOf ["chart", "number"] b_is_true_map
theorem e_is_true_map (a0 : SV) (T : Tk) (k : KD) : sm_is_true_map [a0] T k = b_is_true_map { nx := fun _ T => k .non T, rt := k, bk := fun _ _ => False, ct := fun _ _ => False } [some a0, none] T := rfl
theorem sc_factor_in : FnScope ["chart"] ["chart"] (defScope st_factor_in) := ⟨rfl, rfl, rfl, by decide +kernel, rfl, by decide +kernel, by decide +kernel⟩
def b_factor_in : dS := sRet (dCall 2 sm_quotient_place (aCons (dOp (oF fIx) (dVar 0) (dC (.int 1))) (aCons (dOp (oF fIx) (dVar 0) (dC (.int 4))) (aNil))))
def sm_factor_in : Sem := semOf ["chart"] b_factor_in
theorem e_factor_in (a0 : SV) (T : Tk) (k : KD) : sm_factor_in [a0] T k = b_factor_in { nx := fun _ T => k .non T, rt := k, bk := fun _ _ => False, ct := fun _ _ => False } [some a0] T := rfl
theorem sc_is_line_mirror : FnScope ["chart"] ["chart"] (defScope st_is_line_mirror) := ⟨rfl, rfl, rfl, by decide +kernel, rfl, by decide +kernel, by decide +kernel⟩
def b_is_line_mirror : dS := sRet (dOp (oF fEq) (dCall 2 sm_joined (aCons (dVar 0) (aCons (dVar 0) (aNil)))) (dC k_STAYS))
def sm_is_line_mirror : Sem := semOf ["chart"] b_is_line_mirror
theorem e_is_line_mirror (a0 : SV) (T : Tk) (k : KD) : sm_is_line_mirror [a0] T k = b_is_line_mirror { nx := fun _ T => k .non T, rt := k, bk := fun _ _ => False, ct := fun _ _ => False } [some a0] T := rfl
theorem sc_fewest_plain_kept : FnScope ["chart", "kinds", "factor"] ["chart", "kinds"] (defScope st_fewest_plain_kept) := ⟨rfl, rfl, rfl, by decide +kernel, rfl, by decide +kernel, by decide +kernel⟩
def b_fewest_plain_kept : dS := sSeq (sAsg (dCall 1 sm_factor_in (aCons (dVar 0) (aNil))) (gN 2)) (sSeq (sIf (dTst (dOp (oF fEq) (dVar 2) (dC k_UNITY))) (sSeq (sIf (dTst (dOp (oF fInS) (dC (.str "carry")) (dVar 1))) (sRet (dC (.int 1))) ((fun k ρ T => k.nx ρ T))) (sSeq (sIf (dOr (dTst (dOp (oF fInS) (dC (.str "grow")) (dVar 1))) (dTst (dOp (oF fInS) (dC (.str "mirror")) (dVar 1)))) (sRet (dC (.int 2))) ((fun k ρ T => k.nx ρ T))) (sRet (dIf (dTst (dOp (oF fInS) (dC (.str "turnabout")) (dVar 1))) (dC (.int 4)) (dC .non))))) ((fun k ρ T => k.nx ρ T))) (sSeq (sIf (dTst (dOp (oF fInS) (dC (.str "grow")) (dVar 1))) (sRet (dC (.int 1))) ((fun k ρ T => k.nx ρ T))) (sSeq (sIf (dOr (dAnd (dTst (dOp (oF fInS) (dC (.str "turnabout")) (dVar 1))) (dTst (dCall 1 sm_is_real (aCons (dVar 2) (aNil))))) (dAnd (dTst (dOp (oF fInS) (dC (.str "mirror")) (dVar 1))) (dTst (dOp (oF fEq) (dCall 1 sm_size_of (aCons (dVar 2) (aNil))) (dC k_UNITY))))) (sRet (dC (.int 2))) ((fun k ρ T => k.nx ρ T))) (sRet (dIf (dAnd (dTst (dOp (oF fInS) (dC (.str "turnabout")) (dVar 1))) (dTst (dCall 1 sm_is_true_map (aCons (dVar 0) (aNil))))) (dC (.int 4)) (dC .non))))))
def sm_fewest_plain_kept : Sem := semOf ["chart", "kinds", "factor"] b_fewest_plain_kept
theorem e_fewest_plain_kept (a0 a1 : SV) (T : Tk) (k : KD) : sm_fewest_plain_kept [a0, a1] T k = b_fewest_plain_kept { nx := fun _ T => k .non T, rt := k, bk := fun _ _ => False, ct := fun _ _ => False } [some a0, some a1, none] T := rfl
theorem sc_fewest_plain_moved : FnScope ["chart", "kinds"] ["chart", "kinds"] (defScope st_fewest_plain_moved) := ⟨rfl, rfl, rfl, by decide +kernel, rfl, by decide +kernel, by decide +kernel⟩
def b_fewest_plain_moved : dS := sSeq (sIf (dAnd (dTst (dCall 1 sm_is_true_map (aCons (dVar 0) (aNil)))) (dTst (dCall 1 sm_is_real (aCons (dCall 1 sm_trace_place (aCons (dVar 0) (aNil))) (aNil))))) (sRet (dC (.int 2))) ((fun k ρ T => k.nx ρ T))) (sSeq (sIf (dTst (dOp (oF fInS) (dC (.str "grow")) (dVar 1))) (sRet (dC (.int 3))) ((fun k ρ T => k.nx ρ T))) (sSeq (sIf (dNot (dTst (dCall 1 sm_is_true_map (aCons (dVar 0) (aNil))))) (sRet (dC .non)) ((fun k ρ T => k.nx ρ T))) (sRet (dIf (dTst (dOp (oF fInS) (dC (.str "carry")) (dVar 1))) (dC (.int 3)) (dC (.int 4))))))
def sm_fewest_plain_moved : Sem := semOf ["chart", "kinds"] b_fewest_plain_moved
theorem e_fewest_plain_moved (a0 a1 : SV) (T : Tk) (k : KD) : sm_fewest_plain_moved [a0, a1] T k = b_fewest_plain_moved { nx := fun _ T => k .non T, rt := k, bk := fun _ _ => False, ct := fun _ _ => False } [some a0, some a1] T := rfl
theorem sc_fewest_mirrored_kept : FnScope ["chart", "kinds"] ["chart", "kinds"] (defScope st_fewest_mirrored_kept) := ⟨rfl, rfl, rfl, by decide +kernel, rfl, by decide +kernel, by decide +kernel⟩
def b_fewest_mirrored_kept : dS := sSeq (sIf (dTst (dOp (oF fNotInS) (dC (.str "mirror")) (dVar 1))) (sSeq (sIf (dTst (dOp (oF fNotInS) (dC (.str "turnabout")) (dVar 1))) (sRet (dC .non)) ((fun k ρ T => k.nx ρ T))) (sSeq (sIf (dTst (dCall 1 sm_is_true_map (aCons (dVar 0) (aNil)))) (sRet (dC (.int 3))) ((fun k ρ T => k.nx ρ T))) (sRet (dIf (dTst (dOp (oF fInS) (dC (.str "grow")) (dVar 1))) (dC (.int 4)) (dC .non))))) ((fun k ρ T => k.nx ρ T))) (sSeq (sIf (dTst (dCall 1 sm_is_line_mirror (aCons (dVar 0) (aNil)))) (sRet (dC (.int 1))) ((fun k ρ T => k.nx ρ T))) (sSeq (sIf (dTst (dOp (oF fInS) (dC (.str "grow")) (dVar 1))) (sRet (dC (.int 2))) ((fun k ρ T => k.nx ρ T))) (sSeq (sIf (dTst (dOp (oF fEq) (dCall 1 sm_size_of (aCons (dCall 1 sm_factor_in (aCons (dVar 0) (aNil))) (aNil))) (dC k_UNITY))) (sRet (dIf (dTst (dOp (oF fInS) (dC (.str "carry")) (dVar 1))) (dC (.int 2)) (dC (.int 3)))) ((fun k ρ T => k.nx ρ T))) (sRet (dIf (dAnd (dTst (dOp (oF fInS) (dC (.str "turnabout")) (dVar 1))) (dTst (dCall 1 sm_is_true_map (aCons (dVar 0) (aNil))))) (dC (.int 3)) (dC .non))))))
def sm_fewest_mirrored_kept : Sem := semOf ["chart", "kinds"] b_fewest_mirrored_kept
theorem e_fewest_mirrored_kept (a0 a1 : SV) (T : Tk) (k : KD) : sm_fewest_mirrored_kept [a0, a1] T k = b_fewest_mirrored_kept { nx := fun _ T => k .non T, rt := k, bk := fun _ _ => False, ct := fun _ _ => False } [some a0, some a1] T := rfl
theorem sc_Parts : FnScope ["self", "chart", "is_mirrored", "a", "b", "c", "d", "pole"] ["self", "chart"] (defScope st_Parts__init) := ⟨rfl, rfl, rfl, by decide +kernel, rfl, by decide +kernel, by decide +kernel⟩
def b_Parts : dS := sSeq (sAsg (dVar 1) (gTL 5 (gsCons (gN 2) (gsCons (gN 3) (gsCons (gN 4) (gsCons (gN 5) (gsCons (gN 6) (gsNil)))))))) (sSeq (sAsg (dCall 2 sm_quotient_place (aCons (dCall 2 sm_scaled (aCons (dVar 6) (aCons (dNeg (dC (.int 1))) (aNil)))) (aCons (dVar 5) (aNil)))) (gN 7)) (sSeq (sMe "Parts" 0 (dCall 2 sm_quotient_place (aCons (dVar 3) (aCons (dVar 5) (aNil))))) (sSeq (sMe "Parts" 1 (dIf (dTst (dOp (oF fEq) (dVar 2) (dC (.int 1)))) (dCall 1 sm_flipped (aCons (dVar 7) (aNil))) (dVar 7))) (sSeq (sMe "Parts" 2 (dCall 2 sm_quotient_place (aCons (dCall 2 sm_minus (aCons (dCall 2 sm_times (aCons (dVar 4) (aCons (dVar 5) (aNil)))) (aCons (dCall 2 sm_times (aCons (dVar 3) (aCons (dVar 6) (aNil)))) (aNil)))) (aCons (dCall 2 sm_times (aCons (dVar 5) (aCons (dVar 5) (aNil)))) (aNil))))) (sMe "Parts" 3 (dCall 2 sm_gap (aCons (dMe "Parts" 0) (aCons (dMe "Parts" 1) (aNil)))))))))
def sm_Parts : Sem := semI "Parts" ["self", "chart", "is_mirrored", "a", "b", "c", "d", "pole"] b_Parts
theorem e_Parts (a1 : SV) (T : Tk) (k : KD) : sm_Parts [a1] T k = ∀ a, b_Parts { nx := fun ρ T => meK ρ fun a' c' ds _ => a' = a ∧ c' = "Parts" ∧ ds.length = (flds "Parts").length ∧ k (.obj "Parts" (flds "Parts") ds) T, rt := fun _ _ => False, bk := fun _ _ => False, ct := fun _ _ => False } [some (.me a "Parts" []), some a1, none, none, none, none, none, none] T := rfl
theorem sc_fewest_mirrored_moved : FnScope ["chart", "kinds", "parts"] ["chart", "kinds"] (defScope st_fewest_mirrored_moved) := ⟨rfl, rfl, rfl, by decide +kernel, rfl, by decide +kernel, by decide +kernel⟩
def b_fewest_mirrored_moved : dS := sSeq (sAsg (dCall 1 sm_Parts (aCons (dVar 0) (aNil))) (gN 2)) (sSeq (sIf (dAnd (dTst (dOp (oF fEq) (dFld "Parts" 0 (dVar 2)) (dFld "Parts" 1 (dVar 2)))) (dTst (dCall 1 sm_is_real (aCons (dFld "Parts" 2 (dVar 2)) (aNil))))) (sRet (dC (.int 1))) ((fun k ρ T => k.nx ρ T))) (sSeq (sIf (dOr (dTst (dOp (oF fInS) (dC (.str "grow")) (dVar 1))) (dAnd (dTst (dOp (oF fInS) (dC (.str "carry")) (dVar 1))) (dTst (dCall 1 sm_is_real (aCons (dFld "Parts" 2 (dVar 2)) (aNil)))))) (sRet (dC (.int 2))) ((fun k ρ T => k.nx ρ T))) (sRet (dIf (dTst (dCall 1 sm_is_true_map (aCons (dVar 0) (aNil)))) (dC (.int 3)) (dC .non)))))
def sm_fewest_mirrored_moved : Sem := semOf ["chart", "kinds", "parts"] b_fewest_mirrored_moved
theorem e_fewest_mirrored_moved (a0 a1 : SV) (T : Tk) (k : KD) : sm_fewest_mirrored_moved [a0, a1] T k = b_fewest_mirrored_moved { nx := fun _ T => k .non T, rt := k, bk := fun _ _ => False, ct := fun _ _ => False } [some a0, some a1, none] T := rfl
theorem sc_fewest_of : FnScope ["chart", "kinds"] ["chart", "kinds"] (defScope st_fewest_of) := ⟨rfl, rfl, rfl, by decide +kernel, rfl, by decide +kernel, by decide +kernel⟩
def b_fewest_of : dS := sSeq (sIf (dTst (dOp (oF fEq) (dVar 0) (dC k_STAYS))) (sRet (dC (.int 0))) ((fun k ρ T => k.nx ρ T))) (sSeq (sIf (dTst (dOp (oF fEq) (dOp (oF fIx) (dVar 0) (dC (.int 3))) (dC k_ZERO))) (sRet (dIf (dTst (dOp (oF fEq) (dOp (oF fIx) (dVar 0) (dC (.int 0))) (dC (.int 0)))) (dCall 2 sm_fewest_plain_kept (aCons (dVar 0) (aCons (dVar 1) (aNil)))) (dCall 2 sm_fewest_mirrored_kept (aCons (dVar 0) (aCons (dVar 1) (aNil)))))) ((fun k ρ T => k.nx ρ T))) (sSeq (sIf (dTst (dOp (oF fNotInS) (dC (.str "turnabout")) (dVar 1))) (sRet (dC .non)) ((fun k ρ T => k.nx ρ T))) (sRet (dIf (dTst (dOp (oF fEq) (dOp (oF fIx) (dVar 0) (dC (.int 0))) (dC (.int 0)))) (dCall 2 sm_fewest_plain_moved (aCons (dVar 0) (aCons (dVar 1) (aNil)))) (dCall 2 sm_fewest_mirrored_moved (aCons (dVar 0) (aCons (dVar 1) (aNil))))))))
def sm_fewest_of : Sem := semOf ["chart", "kinds"] b_fewest_of
theorem e_fewest_of (a0 a1 : SV) (T : Tk) (k : KD) : sm_fewest_of [a0, a1] T k = b_fewest_of { nx := fun _ T => k .non T, rt := k, bk := fun _ _ => False, ct := fun _ _ => False } [some a0, some a1] T := rfl
theorem sc_fewest_cells : FnScope ["chart", "kinds"] ["chart", "kinds"] (defScope st_fewest_cells) := ⟨rfl, rfl, rfl, by decide +kernel, rfl, by decide +kernel, by decide +kernel⟩
def b_fewest_cells : dS := sSeq (sExpr (dCall 1 sm_check_map (aCons (dVar 0) (aNil)))) (sSeq (sExpr (dCall 1 sm_check_kinds (aCons (dVar 1) (aNil)))) (sRet (dCall 2 sm_fewest_of (aCons (dVar 0) (aCons (dVar 1) (aNil))))))
def sm_fewest_cells : Sem := semOf ["chart", "kinds"] b_fewest_cells
theorem e_fewest_cells (a0 a1 : SV) (T : Tk) (k : KD) : sm_fewest_cells [a0, a1] T k = b_fewest_cells { nx := fun _ T => k .non T, rt := k, bk := fun _ _ => False, ct := fun _ _ => False } [some a0, some a1] T := rfl
theorem sc__law_spring : FnScope ["_law_script", "_law_turn", "_law_own", "_law_stirred", "_law_each"] ["_law_script", "_law_turn"] (defScope st__law_spring) := ⟨rfl, rfl, rfl, by decide +kernel, rfl, by decide +kernel, by decide +kernel⟩
def b__law_spring : En → Tk → KD → Prop := fun ρ T k => (sAsg (dIf (dTst (dOp (oF fLt) (dVar 1) (dBlt (oG fLen) (aCons (dVar 0) (aNil))))) (dBlt (oG fInt) (aCons (dOp (oF fIx) (dVar 0) (dVar 1)) (aNil))) (dOp (oF fAdd) (dOp (oF fAdd) (dOp (oF fMul) (dC (.int 9973)) (dVar 1)) (dC (.int 271))) (dOp (oF fMod) (dBlt (oG fInt) (aCons (dBlt (oG fSum) (aCons (dSlQ (dVar 0) (fun _ T k => k none T) (pSome (dC (.int 4)))) (aNil))) (aNil))) (dC (.int 1000033))))) (gN 2)) { no0 with nx := fun ρ1 T1 => (fun ρ T k => (sAsg (dOp (oF fAdd) (dC (.int 52361)) (dOp (oF fMul) (dC (.int 1499)) (dVar 1))) (gN 3)) { no0 with nx := fun ρ1 T1 => (fun ρ T k => (sForI (iQ (dOp (oF fAdd) (dSlQ (dVar 0) (fun _ T k => k none T) (pSome (dC (.int 7)))) (dLst (aCons (dVar 2) (aNil))))) (gN 4) (sAsg (dOp (oF fMod) (dBlt (oG fInt) (aCons (dOp (oF fAdd) (dOp (oF fAdd) (dOp (oF fMul) (dVar 3) (dC (.int 47293))) (dOp (oF fMod) (dBlt (oG fInt) (aCons (dVar 4) (aNil))) (dC (.int 2147483563)))) (dC (.int 19))) (aNil))) (dC (.int 2147483563))) (gN 3))) { no0 with nx := fun ρ1 T1 => (fun ρ T k => (aCons (dIf (dOr (dTst (dOp (oF fLt) (dVar 2) (dC (.int 0)))) (dTst (dOp (oF fGe) (dVar 2) (dOp (oF fPow) (dC (.int 10)) (dC (.int 18)))))) (dBlt (oG (fI1 iAbs)) (aCons (dVar 2) (aNil))) (dC (.int 0))) (aCons (dVar 3) (aCons (dC (.int 0)) (aNil)))) ρ T fun as T1 => match vals? as with | some ds => ds.length ≤ 1000000 ∧ k (.lst ds) T1 | none => False) ρ1 T1 k } ρ T) ρ1 T1 k } ρ T) ρ1 T1 k } ρ T
def sm__law_spring : Sem := semO ["_law_script", "_law_turn", "_law_own", "_law_stirred", "_law_each"] b__law_spring
theorem e__law_spring (a0 a1 : SV) (T : Tk) (k : KD) : sm__law_spring [a0, a1] T k = b__law_spring [some a0, some a1, none, none, none] T k := rfl
theorem sc__law_draw : FnScope ["_law_spring_here", "_law_top", "_law_digit", "_law_factor"] ["_law_spring_here", "_law_top"] (defScope st__law_draw) := ⟨rfl, rfl, rfl, by decide +kernel, rfl, by decide +kernel, by decide +kernel⟩
def b__law_draw : dS := sSeq (sIf (dTst (dOp (oF fGt) (dTix 0 (dC (.int 0))) (dC (.int 0)))) (sSeq (sAsg (dBlt (oG fDivmod) (aCons (dTix 0 (dC (.int 0))) (aCons (dVar 1) (aNil)))) (gTL 2 (gsCons (gTs 0 (dC (.int 0))) (gsCons (gN 2) (gsNil))))) (sRet (dVar 2))) ((fun k ρ T => k.nx ρ T))) (sSeq (sAsg (dOp (oF fAdd) (dTix 0 (dC (.int 2))) (dC (.int 1))) (gTs 0 (dC (.int 2)))) (sSeq (sAsg (dOp (oF fAdd) (dC (.int 30011)) (dOp (oF fMul) (dC (.int 2)) (dBlt (oG fInt) (aCons (dTix 0 (dC (.int 2))) (aNil))))) (gN 3)) (sSeq (sAsg (dOp (oF fMod) (dBlt (oG fInt) (aCons (dOp (oF fAdd) (dOp (oF fAdd) (dOp (oF fMul) (dTix 0 (dC (.int 1))) (dVar 3)) (dOp (oF fMul) (dC (.int 70207)) (dTix 0 (dC (.int 2))))) (dC (.int 13))) (aNil))) (dC (.int 2147483563))) (gTs 0 (dC (.int 1)))) (sRet (dOp (oF fMod) (dBlt (oG fInt) (aCons (dOp (oF fDiv) (dTix 0 (dC (.int 1))) (dC (.int 61))) (aNil))) (dVar 1))))))
def sm__law_draw : Sem := semOf ["_law_spring_here", "_law_top", "_law_digit", "_law_factor"] b__law_draw
theorem e__law_draw (a0 a1 : SV) (T : Tk) (k : KD) : sm__law_draw [a0, a1] T k = b__law_draw { nx := fun _ T => k .non T, rt := k, bk := fun _ _ => False, ct := fun _ _ => False } [some a0, some a1, none, none] T := rfl
theorem sc__law_one_of : FnScope ["_law_spring_here", "_law_some"] ["_law_spring_here", "_law_some"] (defScope st__law_one_of) := ⟨rfl, rfl, rfl, by decide +kernel, rfl, by decide +kernel, by decide +kernel⟩
def b__law_one_of : dS := sRet (dOp (oF fIx) (dVar 1) (dCall 2 sm__law_draw (aTank 0 (aCons (dBlt (oG fLen) (aCons (dVar 1) (aNil))) (aNil)))))
def sm__law_one_of : Sem := semOf ["_law_spring_here", "_law_some"] b__law_one_of
theorem e__law_one_of (a0 a1 : SV) (T : Tk) (k : KD) : sm__law_one_of [a0, a1] T k = b__law_one_of { nx := fun _ T => k .non T, rt := k, bk := fun _ _ => False, ct := fun _ _ => False } [some a0, some a1] T := rfl
theorem sc__law_about : FnScope ["_law_spring_here", "_law_wide"] ["_law_spring_here", "_law_wide"] (defScope st__law_about) := ⟨rfl, rfl, rfl, by decide +kernel, rfl, by decide +kernel, by decide +kernel⟩
def b__law_about : dS := sRet (dOp (oF fSub) (dCall 2 sm__law_draw (aTank 0 (aCons (dOp (oF fAdd) (dOp (oF fMul) (dC (.int 2)) (dVar 1)) (dC (.int 1))) (aNil)))) (dVar 1))
def sm__law_about : Sem := semOf ["_law_spring_here", "_law_wide"] b__law_about
theorem e__law_about (a0 a1 : SV) (T : Tk) (k : KD) : sm__law_about [a0, a1] T k = b__law_about { nx := fun _ T => k .non T, rt := k, bk := fun _ _ => False, ct := fun _ _ => False } [some a0, some a1] T := rfl
theorem sc__law_shuffled : FnScope ["_law_spring_here", "_law_some", "_law_left", "_law_found", "_law_turn"] ["_law_spring_here", "_law_some"] (defScope st__law_shuffled) := ⟨rfl, rfl, rfl, by decide +kernel, rfl, by decide +kernel, by decide +kernel⟩
def b__law_shuffled : dS := sSeq (sPar2V 2 3 (vLsO (aCons (dVar 1) (aNil))) (vLst (aNil))) (sSeq (sForI (iR1 (aCons (dBlt (oG fLen) (aCons (dVar 1) (aNil))) (aNil))) (gN 4) (sPopA 3 2 (dView 2 (dCall 2 sm__law_draw (aTank 0 (aCons (dBlt (oG fLen) (aCons (dVar 2) (aNil))) (aNil))))))) (sFrq 3 (sRet (dVar 3))))
def sm__law_shuffled : Sem := semOf ["_law_spring_here", "_law_some", "_law_left", "_law_found", "_law_turn"] b__law_shuffled
theorem e__law_shuffled (a0 a1 : SV) (T : Tk) (k : KD) : sm__law_shuffled [a0, a1] T k = b__law_shuffled { nx := fun _ T => k .non T, rt := k, bk := fun _ _ => False, ct := fun _ _ => False } [some a0, some a1, none, none, none] T := rfl
theorem sc__law_gcd : FnScope ["_law_one", "_law_two"] ["_law_one", "_law_two"] (defScope st__law_gcd) := ⟨rfl, rfl, rfl, by decide +kernel, rfl, by decide +kernel, by decide +kernel⟩
def b__law_gcd : dS := sSeq (sPar 0 1 (aCons (dBlt (oG (fI1 iAbs)) (aCons (dVar 0) (aNil))) (aCons (dBlt (oG (fI1 iAbs)) (aCons (dVar 1) (aNil))) (aNil)))) (sSeq (sWhile (dTst (dOp (oF fGt) (dVar 1) (dC (.int 0)))) (sPar 0 1 (aCons (dVar 1) (aCons (dOp (oF fMod) (dBlt (oG fInt) (aCons (dVar 0) (aNil))) (dVar 1)) (aNil))))) (sRet (dVar 0)))
def sm__law_gcd : Sem := semOf ["_law_one", "_law_two"] b__law_gcd
theorem e__law_gcd (a0 a1 : SV) (T : Tk) (k : KD) : sm__law_gcd [a0, a1] T k = b__law_gcd { nx := fun _ T => k .non T, rt := k, bk := fun _ _ => False, ct := fun _ _ => False } [some a0, some a1] T := rfl
theorem sc__law_thin : FnScope ["_law_some", "_law_deep", "_law_each"] ["_law_some"] (defScope st__law_thin) := ⟨rfl, rfl, rfl, by decide +kernel, rfl, by decide +kernel, by decide +kernel⟩
def b__law_thin : dS := sSeq (sAsg (dC (.int 0)) (gN 1)) (sSeq (sForI (iQ (dVar 0)) (gN 2) (sAsg (dCall 2 sm__law_gcd (aCons (dVar 1) (aCons (dVar 2) (aNil)))) (gN 1))) (sRet (dIf (dTst (dOp (oF fGt) (dVar 1) (dC (.int 1)))) (dBlt (oG fTuple) (aCons (dLc [2] (iQ (dVar 0)) (cN 2) dYes (dOp (oF fDiv) (dVar 2) (dVar 1))) (aNil))) (dBlt (oG fTuple) (aCons (dVar 0) (aNil))))))
def sm__law_thin : Sem := semOf ["_law_some", "_law_deep", "_law_each"] b__law_thin
theorem e__law_thin (a0 : SV) (T : Tk) (k : KD) : sm__law_thin [a0] T k = b__law_thin { nx := fun _ T => k .non T, rt := k, bk := fun _ _ => False, ct := fun _ _ => False } [some a0, none, none] T := rfl
theorem sc__law_upright : FnScope ["_law_some", "_law_each", "_law_k"] ["_law_some"] (defScope st__law_upright) := ⟨rfl, rfl, rfl, by decide +kernel, rfl, by decide +kernel, by decide +kernel⟩
def b__law_upright : dS := sSeq (sForI (iQ (dVar 0)) (gN 1) (sIf (dTst (dOp (oF fNe) (dVar 1) (dC (.int 0)))) (sRet (dIf (dTst (dOp (oF fGt) (dVar 1) (dC (.int 0)))) (dBlt (oG fTuple) (aCons (dVar 0) (aNil))) (dBlt (oG fTuple) (aCons (dLc [2] (iQ (dVar 0)) (cN 2) dYes (dOp (oF fSub) (dC (.int 0)) (dVar 2))) (aNil))))) ((fun k ρ T => k.nx ρ T)))) (sRet (dBlt (oG fTuple) (aCons (dVar 0) (aNil))))
def sm__law_upright : Sem := semOf ["_law_some", "_law_each", "_law_k"] b__law_upright
theorem e__law_upright (a0 : SV) (T : Tk) (k : KD) : sm__law_upright [a0] T k = b__law_upright { nx := fun _ T => k .non T, rt := k, bk := fun _ _ => False, ct := fun _ _ => False } [some a0, none, none] T := rfl
theorem sc__law_times : FnScope ["_law_one", "_law_two"] ["_law_one", "_law_two"] (defScope st__law_times) := ⟨rfl, rfl, rfl, by decide +kernel, rfl, by decide +kernel, by decide +kernel⟩
def b__law_times : dS := sRet (dTup (aCons (dOp (oF fSub) (dOp (oF fMul) (dOp (oF fIx) (dVar 0) (dC (.int 0))) (dOp (oF fIx) (dVar 1) (dC (.int 0)))) (dOp (oF fMul) (dOp (oF fIx) (dVar 0) (dC (.int 1))) (dOp (oF fIx) (dVar 1) (dC (.int 1))))) (aCons (dOp (oF fAdd) (dOp (oF fMul) (dOp (oF fIx) (dVar 0) (dC (.int 0))) (dOp (oF fIx) (dVar 1) (dC (.int 1)))) (dOp (oF fMul) (dOp (oF fIx) (dVar 0) (dC (.int 1))) (dOp (oF fIx) (dVar 1) (dC (.int 0))))) (aNil))))
def sm__law_times : Sem := semOf ["_law_one", "_law_two"] b__law_times
theorem e__law_times (a0 a1 : SV) (T : Tk) (k : KD) : sm__law_times [a0, a1] T k = b__law_times { nx := fun _ T => k .non T, rt := k, bk := fun _ _ => False, ct := fun _ _ => False } [some a0, some a1] T := rfl
theorem sc__law_plus : FnScope ["_law_one", "_law_two"] ["_law_one", "_law_two"] (defScope st__law_plus) := ⟨rfl, rfl, rfl, by decide +kernel, rfl, by decide +kernel, by decide +kernel⟩
def b__law_plus : dS := sRet (dTup (aCons (dOp (oF fAdd) (dOp (oF fIx) (dVar 0) (dC (.int 0))) (dOp (oF fIx) (dVar 1) (dC (.int 0)))) (aCons (dOp (oF fAdd) (dOp (oF fIx) (dVar 0) (dC (.int 1))) (dOp (oF fIx) (dVar 1) (dC (.int 1)))) (aNil))))
def sm__law_plus : Sem := semOf ["_law_one", "_law_two"] b__law_plus
theorem e__law_plus (a0 a1 : SV) (T : Tk) (k : KD) : sm__law_plus [a0, a1] T k = b__law_plus { nx := fun _ T => k .non T, rt := k, bk := fun _ _ => False, ct := fun _ _ => False } [some a0, some a1] T := rfl
theorem sc__law_minus : FnScope ["_law_one", "_law_two"] ["_law_one", "_law_two"] (defScope st__law_minus) := ⟨rfl, rfl, rfl, by decide +kernel, rfl, by decide +kernel, by decide +kernel⟩
def b__law_minus : dS := sRet (dTup (aCons (dOp (oF fSub) (dOp (oF fIx) (dVar 0) (dC (.int 0))) (dOp (oF fIx) (dVar 1) (dC (.int 0)))) (aCons (dOp (oF fSub) (dOp (oF fIx) (dVar 0) (dC (.int 1))) (dOp (oF fIx) (dVar 1) (dC (.int 1)))) (aNil))))
def sm__law_minus : Sem := semOf ["_law_one", "_law_two"] b__law_minus
theorem e__law_minus (a0 a1 : SV) (T : Tk) (k : KD) : sm__law_minus [a0, a1] T k = b__law_minus { nx := fun _ T => k .non T, rt := k, bk := fun _ _ => False, ct := fun _ _ => False } [some a0, some a1] T := rfl
theorem sc__law_bar : FnScope ["_law_one"] ["_law_one"] (defScope st__law_bar) := ⟨rfl, rfl, rfl, by decide +kernel, rfl, by decide +kernel, by decide +kernel⟩
def b__law_bar : dS := sRet (dTup (aCons (dOp (oF fIx) (dVar 0) (dC (.int 0))) (aCons (dOp (oF fSub) (dC (.int 0)) (dOp (oF fIx) (dVar 0) (dC (.int 1)))) (aNil))))
def sm__law_bar : Sem := semOf ["_law_one"] b__law_bar
theorem e__law_bar (a0 : SV) (T : Tk) (k : KD) : sm__law_bar [a0] T k = b__law_bar { nx := fun _ T => k .non T, rt := k, bk := fun _ _ => False, ct := fun _ _ => False } [some a0] T := rfl
theorem sc__law_norm : FnScope ["_law_one"] ["_law_one"] (defScope st__law_norm) := ⟨rfl, rfl, rfl, by decide +kernel, rfl, by decide +kernel, by decide +kernel⟩
def b__law_norm : dS := sRet (dOp (oF fAdd) (dOp (oF fMul) (dOp (oF fIx) (dVar 0) (dC (.int 0))) (dOp (oF fIx) (dVar 0) (dC (.int 0)))) (dOp (oF fMul) (dOp (oF fIx) (dVar 0) (dC (.int 1))) (dOp (oF fIx) (dVar 0) (dC (.int 1)))))
def sm__law_norm : Sem := semOf ["_law_one"] b__law_norm
theorem e__law_norm (a0 : SV) (T : Tk) (k : KD) : sm__law_norm [a0] T k = b__law_norm { nx := fun _ T => k .non T, rt := k, bk := fun _ _ => False, ct := fun _ _ => False } [some a0] T := rfl
theorem sc__law_over : FnScope ["_law_one", "_law_two", "_law_top", "_law_deep"] ["_law_one", "_law_two"] (defScope st__law_over) := ⟨rfl, rfl, rfl, by decide +kernel, rfl, by decide +kernel, by decide +kernel⟩
def b__law_over : dS := sSeq (sPar 2 3 (aCons (dCall 2 sm__law_times (aCons (dVar 0) (aCons (dCall 1 sm__law_bar (aCons (dVar 1) (aNil))) (aNil)))) (aCons (dCall 1 sm__law_norm (aCons (dVar 1) (aNil))) (aNil)))) (sRet (dTup (aCons (dOp (oF fDiv) (dOp (oF fIx) (dVar 2) (dC (.int 0))) (dVar 3)) (aCons (dOp (oF fDiv) (dOp (oF fIx) (dVar 2) (dC (.int 1))) (dVar 3)) (aNil)))))
def sm__law_over : Sem := semOf ["_law_one", "_law_two", "_law_top", "_law_deep"] b__law_over
theorem e__law_over (a0 a1 : SV) (T : Tk) (k : KD) : sm__law_over [a0, a1] T k = b__law_over { nx := fun _ T => k .non T, rt := k, bk := fun _ _ => False, ct := fun _ _ => False } [some a0, some a1, none, none] T := rfl
theorem sc__law_common : FnScope ["_law_one", "_law_two", "_law_turn", "_law_deep", "_law_top", "_law_near"] ["_law_one", "_law_two"] (defScope st__law_common) := ⟨rfl, rfl, rfl, by decide +kernel, rfl, by decide +kernel, by decide +kernel⟩
def b__law_common : dS := sSeq (sForI (iR1 (aCons (dC (.int 4000)) (aNil))) (gN 2) (sSeq (sIf (dTst (dOp (oF fEq) (dVar 1) (dTup (aCons (dC (.int 0)) (aCons (dC (.int 0)) (aNil)))))) ((fun k ρ T => k.bk ρ T)) ((fun k ρ T => k.nx ρ T))) (sSeq (sPar 3 4 (aCons (dCall 1 sm__law_norm (aCons (dVar 1) (aNil))) (aCons (dCall 2 sm__law_times (aCons (dVar 0) (aCons (dCall 1 sm__law_bar (aCons (dVar 1) (aNil))) (aNil)))) (aNil)))) (sSeq (sAsg (dTup (aCons (dOp (oF fDiv) (dOp (oF fAdd) (dOp (oF fMul) (dC (.int 2)) (dOp (oF fIx) (dVar 4) (dC (.int 0)))) (dVar 3)) (dOp (oF fMul) (dC (.int 2)) (dVar 3))) (aCons (dOp (oF fDiv) (dOp (oF fAdd) (dOp (oF fMul) (dC (.int 2)) (dOp (oF fIx) (dVar 4) (dC (.int 1)))) (dVar 3)) (dOp (oF fMul) (dC (.int 2)) (dVar 3))) (aNil)))) (gN 5)) (sPar 0 1 (aCons (dVar 1) (aCons (dCall 2 sm__law_minus (aCons (dVar 0) (aCons (dCall 2 sm__law_times (aCons (dVar 5) (aCons (dVar 1) (aNil)))) (aNil)))) (aNil)))))))) (sRet (dVar 0))
def sm__law_common : Sem := semOf ["_law_one", "_law_two", "_law_turn", "_law_deep", "_law_top", "_law_near"] b__law_common
theorem e__law_common (a0 a1 : SV) (T : Tk) (k : KD) : sm__law_common [a0, a1] T k = b__law_common { nx := fun _ T => k .non T, rt := k, bk := fun _ _ => False, ct := fun _ _ => False } [some a0, some a1, none, none, none, none] T := rfl
theorem sc__law_quarter : FnScope ["_law_one", "_law_turn"] ["_law_one"] (defScope st__law_quarter) := ⟨rfl, rfl, rfl, by decide +kernel, rfl, by decide +kernel, by decide +kernel⟩
def b__law_quarter : dS := sSeq (sForI (iR1 (aCons (dC (.int 4)) (aNil))) (gN 1) (sSeq (sIf (dAnd (dTst (dOp (oF fGt) (dOp (oF fIx) (dVar 0) (dC (.int 0))) (dC (.int 0)))) (dTst (dOp (oF fGe) (dOp (oF fIx) (dVar 0) (dC (.int 1))) (dC (.int 0))))) (sRet (dVar 0)) ((fun k ρ T => k.nx ρ T))) (sAsg (dCall 2 sm__law_times (aCons (dVar 0) (aCons (dTup (aCons (dC (.int 0)) (aCons (dC (.int 1)) (aNil)))) (aNil)))) (gN 0)))) (sRet (dVar 0))
def sm__law_quarter : Sem := semOf ["_law_one", "_law_turn"] b__law_quarter
theorem e__law_quarter (a0 : SV) (T : Tk) (k : KD) : sm__law_quarter [a0] T k = b__law_quarter { nx := fun _ T => k .non T, rt := k, bk := fun _ _ => False, ct := fun _ _ => False } [some a0, none] T := rfl
theorem sc__law_form : FnScope ["_law_side", "_law_some", "_law_deep", "_law_each", "_law_unit", "_law_one"] ["_law_side", "_law_some"] (defScope st__law_form) := ⟨rfl, rfl, rfl, by decide +kernel, rfl, by decide +kernel, by decide +kernel⟩
def b__law_form : dS := sSeq (sAsg (dTup (aCons (dTup (aCons (dC (.int 0)) (aCons (dC (.int 0)) (aNil)))) (aCons (dBlt (oG fList) (aCons (dVar 1) (aNil))) (aNil)))) (gTL 2 (gsCons (gN 2) (gsCons (gN 1) (gsNil))))) (sSeq (sForI (iQ (dVar 1)) (gN 3) (sAsg (dCall 2 sm__law_common (aCons (dVar 2) (aCons (dVar 3) (aNil)))) (gN 2))) (sSeq (sAsg (dLc [3] (iQ (dVar 1)) (cN 3) dYes (dCall 2 sm__law_over (aCons (dVar 3) (aCons (dVar 2) (aNil))))) (gN 1)) (sSeq (sForI (iQ (dVar 1)) (gN 3) (sIf (dTst (dOp (oF fNe) (dVar 3) (dTup (aCons (dC (.int 0)) (aCons (dC (.int 0)) (aNil)))))) (sSeq (sAsg (dCall 2 sm__law_over (aCons (dCall 1 sm__law_quarter (aCons (dVar 3) (aNil))) (aCons (dVar 3) (aNil)))) (gN 4)) (sSeq (sAsg (dLc [5] (iQ (dVar 1)) (cN 5) dYes (dCall 2 sm__law_times (aCons (dVar 5) (aCons (dVar 4) (aNil))))) (gN 1)) ((fun k ρ T => k.bk ρ T)))) ((fun k ρ T => k.nx ρ T)))) (sRet (dTup (aCons (dVar 0) (aCons (dOp (oF fIx) (dVar 1) (dC (.int 0))) (aCons (dOp (oF fIx) (dVar 1) (dC (.int 1))) (aCons (dOp (oF fIx) (dVar 1) (dC (.int 2))) (aCons (dOp (oF fIx) (dVar 1) (dC (.int 3))) (aNil)))))))))))
def sm__law_form : Sem := semOf ["_law_side", "_law_some", "_law_deep", "_law_each", "_law_unit", "_law_one"] b__law_form
theorem e__law_form (a0 a1 : SV) (T : Tk) (k : KD) : sm__law_form [a0, a1] T k = b__law_form { nx := fun _ T => k .non T, rt := k, bk := fun _ _ => False, ct := fun _ _ => False } [some a0, some a1, none, none, none, none] T := rfl
theorem sc__law_joined : FnScope ["_law_early", "_law_late", "_law_one", "_law_each", "_law_two", "_law_some"] ["_law_early", "_law_late"] (defScope st__law_joined) := ⟨rfl, rfl, rfl, by decide +kernel, rfl, by decide +kernel, by decide +kernel⟩
def b__law_joined : dS := sSeq (sAsg (dLc [3] (iQ (dSlQ (dVar 0) (pSome (dC (.int 1))) (fun _ T k => k none T))) (cN 3) dYes (dIf (dTst (dOp (oF fEq) (dOp (oF fIx) (dVar 1) (dC (.int 0))) (dC (.int 1)))) (dCall 1 sm__law_bar (aCons (dVar 3) (aNil))) (dVar 3))) (gN 2)) (sSeq (sAsg (dSlQ (dVar 1) (pSome (dC (.int 1))) (fun _ T k => k none T)) (gN 4)) (sSeq (sAsg (dLst (aCons (dCall 2 sm__law_plus (aCons (dCall 2 sm__law_times (aCons (dOp (oF fIx) (dVar 4) (dC (.int 0))) (aCons (dOp (oF fIx) (dVar 2) (dC (.int 0))) (aNil)))) (aCons (dCall 2 sm__law_times (aCons (dOp (oF fIx) (dVar 4) (dC (.int 1))) (aCons (dOp (oF fIx) (dVar 2) (dC (.int 2))) (aNil)))) (aNil)))) (aCons (dCall 2 sm__law_plus (aCons (dCall 2 sm__law_times (aCons (dOp (oF fIx) (dVar 4) (dC (.int 0))) (aCons (dOp (oF fIx) (dVar 2) (dC (.int 1))) (aNil)))) (aCons (dCall 2 sm__law_times (aCons (dOp (oF fIx) (dVar 4) (dC (.int 1))) (aCons (dOp (oF fIx) (dVar 2) (dC (.int 3))) (aNil)))) (aNil)))) (aCons (dCall 2 sm__law_plus (aCons (dCall 2 sm__law_times (aCons (dOp (oF fIx) (dVar 4) (dC (.int 2))) (aCons (dOp (oF fIx) (dVar 2) (dC (.int 0))) (aNil)))) (aCons (dCall 2 sm__law_times (aCons (dOp (oF fIx) (dVar 4) (dC (.int 3))) (aCons (dOp (oF fIx) (dVar 2) (dC (.int 2))) (aNil)))) (aNil)))) (aCons (dCall 2 sm__law_plus (aCons (dCall 2 sm__law_times (aCons (dOp (oF fIx) (dVar 4) (dC (.int 2))) (aCons (dOp (oF fIx) (dVar 2) (dC (.int 1))) (aNil)))) (aCons (dCall 2 sm__law_times (aCons (dOp (oF fIx) (dVar 4) (dC (.int 3))) (aCons (dOp (oF fIx) (dVar 2) (dC (.int 3))) (aNil)))) (aNil)))) (aNil)))))) (gN 5)) (sRet (dCall 2 sm__law_form (aCons (dOp (oF fMod) (dBlt (oG fInt) (aCons (dOp (oF fAdd) (dOp (oF fIx) (dVar 0) (dC (.int 0))) (dOp (oF fIx) (dVar 1) (dC (.int 0)))) (aNil))) (dC (.int 2))) (aCons (dVar 5) (aNil)))))))
def sm__law_joined : Sem := semOf ["_law_early", "_law_late", "_law_one", "_law_each", "_law_two", "_law_some"] b__law_joined
theorem e__law_joined (a0 a1 : SV) (T : Tk) (k : KD) : sm__law_joined [a0, a1] T k = b__law_joined { nx := fun _ T => k .non T, rt := k, bk := fun _ _ => False, ct := fun _ _ => False } [some a0, some a1, none, none, none, none] T := rfl
theorem sc__law_home : FnScope ["_law_map2", "_law_some", "_law_each"] ["_law_map2"] (defScope st__law_home) := ⟨rfl, rfl, rfl, by decide +kernel, rfl, by decide +kernel, by decide +kernel⟩
def b__law_home : dS := sSeq (sAsg (dLst (aCons (dOp (oF fIx) (dVar 0) (dC (.int 4))) (aCons (dCall 2 sm__law_minus (aCons (dTup (aCons (dC (.int 0)) (aCons (dC (.int 0)) (aNil)))) (aCons (dOp (oF fIx) (dVar 0) (dC (.int 2))) (aNil)))) (aCons (dCall 2 sm__law_minus (aCons (dTup (aCons (dC (.int 0)) (aCons (dC (.int 0)) (aNil)))) (aCons (dOp (oF fIx) (dVar 0) (dC (.int 3))) (aNil)))) (aCons (dOp (oF fIx) (dVar 0) (dC (.int 1))) (aNil)))))) (gN 1)) (sRet (dCall 2 sm__law_form (aCons (dOp (oF fIx) (dVar 0) (dC (.int 0))) (aCons (dLc [2] (iQ (dVar 1)) (cN 2) dYes (dIf (dTst (dOp (oF fEq) (dOp (oF fIx) (dVar 0) (dC (.int 0))) (dC (.int 1)))) (dCall 1 sm__law_bar (aCons (dVar 2) (aNil))) (dVar 2))) (aNil)))))
def sm__law_home : Sem := semOf ["_law_map2", "_law_some", "_law_each"] b__law_home
theorem e__law_home (a0 : SV) (T : Tk) (k : KD) : sm__law_home [a0] T k = b__law_home { nx := fun _ T => k .non T, rt := k, bk := fun _ _ => False, ct := fun _ _ => False } [some a0, none, none] T := rfl
theorem sc__law_still : FnScope [] [] (defScope st__law_still) := ⟨rfl, rfl, rfl, by decide +kernel, rfl, by decide +kernel, by decide +kernel⟩
def b__law_still : dS := sRet (dTup (aCons (dC (.int 0)) (aCons (dTup (aCons (dC (.int 1)) (aCons (dC (.int 0)) (aNil)))) (aCons (dTup (aCons (dC (.int 0)) (aCons (dC (.int 0)) (aNil)))) (aCons (dTup (aCons (dC (.int 0)) (aCons (dC (.int 0)) (aNil)))) (aCons (dTup (aCons (dC (.int 1)) (aCons (dC (.int 0)) (aNil)))) (aNil)))))))
def sm__law_still : Sem := semOf [] b__law_still
theorem e__law_still (T : Tk) (k : KD) : sm__law_still [] T k = b__law_still { nx := fun _ T => k .non T, rt := k, bk := fun _ _ => False, ct := fun _ _ => False } [] T := rfl
theorem sc__law_cell_map : FnScope ["_law_box_here", "_law_p", "_law_s", "_law_r", "_law_top", "_law_low", "_law_n", "_law_m", "_law_rest", "_law_l", "_law_k"] ["_law_box_here"] (defScope st__law_cell_map) := ⟨rfl, rfl, rfl, by decide +kernel, rfl, by decide +kernel, by decide +kernel⟩
def b__law_cell_map : dS := sSeq (sIf (dTst (dOp (oF fEq) (dOp (oF fIx) (dVar 0) (dC (.int 0))) (dC (.str "carry")))) (sSeq (sAsg (dOp (oF fIx) (dVar 0) (dC (.int 1))) (gTL 3 (gsCons (gN 1) (gsCons (gN 2) (gsCons (gN 3) (gsNil)))))) (sRet (dCall 2 sm__law_form (aCons (dC (.int 0)) (aCons (dLst (aCons (dTup (aCons (dVar 3) (aCons (dC (.int 0)) (aNil)))) (aCons (dTup (aCons (dVar 1) (aCons (dVar 2) (aNil)))) (aCons (dTup (aCons (dC (.int 0)) (aCons (dC (.int 0)) (aNil)))) (aCons (dTup (aCons (dVar 3) (aCons (dC (.int 0)) (aNil)))) (aNil)))))) (aNil)))))) ((fun k ρ T => k.nx ρ T))) (sSeq (sIf (dTst (dOp (oF fEq) (dOp (oF fIx) (dVar 0) (dC (.int 0))) (dC (.str "grow")))) (sSeq (sAsg (dOp (oF fIx) (dVar 0) (dC (.int 1))) (gTL 3 (gsCons (gN 1) (gsCons (gN 2) (gsCons (gN 3) (gsNil)))))) (sSeq (sPar 4 5 (aCons (dTup (aCons (dOp (oF fIx) (dOp (oF fIx) (dVar 0) (dC (.int 2))) (dC (.int 0))) (aCons (dOp (oF fIx) (dOp (oF fIx) (dVar 0) (dC (.int 2))) (dC (.int 1))) (aNil)))) (aCons (dOp (oF fIx) (dOp (oF fIx) (dVar 0) (dC (.int 2))) (dC (.int 2))) (aNil)))) (sRet (dCall 2 sm__law_form (aCons (dC (.int 0)) (aCons (dLst (aCons (dCall 2 sm__law_times (aCons (dVar 4) (aCons (dTup (aCons (dVar 3) (aCons (dC (.int 0)) (aNil)))) (aNil)))) (aCons (dCall 2 sm__law_times (aCons (dTup (aCons (dVar 1) (aCons (dVar 2) (aNil)))) (aCons (dCall 2 sm__law_minus (aCons (dTup (aCons (dVar 5) (aCons (dC (.int 0)) (aNil)))) (aCons (dVar 4) (aNil)))) (aNil)))) (aCons (dTup (aCons (dC (.int 0)) (aCons (dC (.int 0)) (aNil)))) (aCons (dTup (aCons (dOp (oF fMul) (dVar 5) (dVar 3)) (aCons (dC (.int 0)) (aNil)))) (aNil)))))) (aNil))))))) ((fun k ρ T => k.nx ρ T))) (sSeq (sIf (dTst (dOp (oF fEq) (dOp (oF fIx) (dVar 0) (dC (.int 0))) (dC (.str "turnabout")))) (sSeq (sAsg (dOp (oF fIx) (dVar 0) (dC (.int 1))) (gTL 3 (gsCons (gN 1) (gsCons (gN 2) (gsCons (gN 3) (gsNil)))))) (sSeq (sAsg (dOp (oF fIx) (dVar 0) (dC (.int 2))) (gTL 2 (gsCons (gN 6) (gsCons (gN 7) (gsNil))))) (sSeq (sAsg (dOp (oF fSub) (dOp (oF fMul) (dOp (oF fMul) (dVar 6) (dVar 3)) (dVar 3)) (dOp (oF fMul) (dOp (oF fAdd) (dOp (oF fMul) (dVar 1) (dVar 1)) (dOp (oF fMul) (dVar 2) (dVar 2))) (dVar 7))) (gN 8)) (sRet (dCall 2 sm__law_form (aCons (dC (.int 1)) (aCons (dLst (aCons (dTup (aCons (dOp (oF fMul) (dOp (oF fMul) (dVar 1) (dVar 3)) (dVar 7)) (aCons (dOp (oF fMul) (dOp (oF fMul) (dVar 2) (dVar 3)) (dVar 7)) (aNil)))) (aCons (dTup (aCons (dVar 8) (aCons (dC (.int 0)) (aNil)))) (aCons (dTup (aCons (dOp (oF fMul) (dOp (oF fMul) (dVar 3) (dVar 3)) (dVar 7)) (aCons (dC (.int 0)) (aNil)))) (aCons (dTup (aCons (dOp (oF fSub) (dC (.int 0)) (dOp (oF fMul) (dOp (oF fMul) (dVar 1) (dVar 3)) (dVar 7))) (aCons (dOp (oF fMul) (dOp (oF fMul) (dVar 2) (dVar 3)) (dVar 7)) (aNil)))) (aNil)))))) (aNil)))))))) ((fun k ρ T => k.nx ρ T))) (sSeq (sAsg (dSlQ (dOp (oF fIx) (dVar 0) (dC (.int 1))) (pSome (dC (.int 1))) (fun _ T k => k none T)) (gTL 3 (gsCons (gN 9) (gsCons (gN 7) (gsCons (gN 10) (gsNil)))))) (sRet (dCall 2 sm__law_form (aCons (dC (.int 1)) (aCons (dLst (aCons (dTup (aCons (dOp (oF fSub) (dC (.int 0)) (dVar 9)) (aCons (dOp (oF fSub) (dC (.int 0)) (dVar 7)) (aNil)))) (aCons (dTup (aCons (dOp (oF fSub) (dC (.int 0)) (dOp (oF fMul) (dC (.int 2)) (dVar 10))) (aCons (dC (.int 0)) (aNil)))) (aCons (dTup (aCons (dC (.int 0)) (aCons (dC (.int 0)) (aNil)))) (aCons (dTup (aCons (dVar 9) (aCons (dOp (oF fSub) (dC (.int 0)) (dVar 7)) (aNil)))) (aNil)))))) (aNil))))))))
def sm__law_cell_map : Sem := semOf ["_law_box_here", "_law_p", "_law_s", "_law_r", "_law_top", "_law_low", "_law_n", "_law_m", "_law_rest", "_law_l", "_law_k"] b__law_cell_map
theorem e__law_cell_map (a0 : SV) (T : Tk) (k : KD) : sm__law_cell_map [a0] T k = b__law_cell_map { nx := fun _ T => k .non T, rt := k, bk := fun _ _ => False, ct := fun _ _ => False } [some a0, none, none, none, none, none, none, none, none, none, none] T := rfl
theorem sc__law_way : FnScope ["_law_boxes_here", "_law_found", "_law_each"] ["_law_boxes_here"] (defScope st__law_way) := ⟨rfl, rfl, rfl, by decide +kernel, rfl, by decide +kernel, by decide +kernel⟩
def b__law_way : dS := sSeq (sAsg (dCall 0 sm__law_still aNil) (gN 1)) (sSeq (sForI (iQ (dVar 0)) (gN 2) (sAsg (dCall 2 sm__law_joined (aCons (dVar 1) (aCons (dCall 1 sm__law_cell_map (aCons (dVar 2) (aNil))) (aNil)))) (gN 1))) (sRet (dVar 1)))
def sm__law_way : Sem := semOf ["_law_boxes_here", "_law_found", "_law_each"] b__law_way
theorem e__law_way (a0 : SV) (T : Tk) (k : KD) : sm__law_way [a0] T k = b__law_way { nx := fun _ T => k .non T, rt := k, bk := fun _ _ => False, ct := fun _ _ => False } [some a0, none, none] T := rfl
theorem sc__law_quotient : FnScope ["_law_top", "_law_low", "_law_over_here"] ["_law_top", "_law_low"] (defScope st__law_quotient) := ⟨rfl, rfl, rfl, by decide +kernel, rfl, by decide +kernel, by decide +kernel⟩
def b__law_quotient : dS := sSeq (sIf (dTst (dOp (oF fEq) (dVar 1) (dTup (aCons (dC (.int 0)) (aCons (dC (.int 0)) (aNil)))))) (sRet (dTup (aCons (dC (.int 1)) (aCons (dC (.int 0)) (aCons (dC (.int 0)) (aNil)))))) ((fun k ρ T => k.nx ρ T))) (sSeq (sAsg (dCall 2 sm__law_times (aCons (dVar 0) (aCons (dCall 1 sm__law_bar (aCons (dVar 1) (aNil))) (aNil)))) (gN 2)) (sRet (dCall 1 sm__law_thin (aCons (dLst (aCons (dOp (oF fIx) (dVar 2) (dC (.int 0))) (aCons (dOp (oF fIx) (dVar 2) (dC (.int 1))) (aCons (dCall 1 sm__law_norm (aCons (dVar 1) (aNil))) (aNil))))) (aNil)))))
def sm__law_quotient : Sem := semOf ["_law_top", "_law_low", "_law_over_here"] b__law_quotient
theorem e__law_quotient (a0 a1 : SV) (T : Tk) (k : KD) : sm__law_quotient [a0, a1] T k = b__law_quotient { nx := fun _ T => k .non T, rt := k, bk := fun _ _ => False, ct := fun _ _ => False } [some a0, some a1, none] T := rfl
theorem sc__law_spot : FnScope ["_law_spring_here", "_law_wide", "_law_p", "_law_s"] ["_law_spring_here", "_law_wide"] (defScope st__law_spot) := ⟨rfl, rfl, rfl, by decide +kernel, rfl, by decide +kernel, by decide +kernel⟩
def b__law_spot : dS := sSeq (sPar 2 3 (aCons (dCall 2 sm__law_about (aTank 0 (aCons (dVar 1) (aNil)))) (aCons (dCall 2 sm__law_about (aTank 0 (aCons (dVar 1) (aNil)))) (aNil)))) (sRet (dCall 1 sm__law_thin (aCons (dLst (aCons (dVar 2) (aCons (dVar 3) (aCons (dOp (oF fAdd) (dC (.int 1)) (dCall 2 sm__law_draw (aTank 0 (aCons (dVar 1) (aNil))))) (aNil))))) (aNil))))
def sm__law_spot : Sem := semOf ["_law_spring_here", "_law_wide", "_law_p", "_law_s"] b__law_spot
theorem e__law_spot (a0 a1 : SV) (T : Tk) (k : KD) : sm__law_spot [a0, a1] T k = b__law_spot { nx := fun _ T => k .non T, rt := k, bk := fun _ _ => False, ct := fun _ _ => False } [some a0, some a1, none, none] T := rfl
theorem sc__law_scale : FnScope ["_law_spring_here", "_law_wide", "_law_way_here", "_law_spot_here"] ["_law_spring_here", "_law_wide"] (defScope st__law_scale) := ⟨rfl, rfl, rfl, by decide +kernel, rfl, by decide +kernel, by decide +kernel⟩
def b__law_scale : dS := sSeq (sPar 2 3 (aCons (dCall 2 sm__law_draw (aTank 0 (aCons (dC (.int 4)) (aNil)))) (aCons (dCall 2 sm__law_spot (aTank 0 (aCons (dVar 1) (aNil)))) (aNil)))) (sSeq (sIf (dTst (dOp (oF fEq) (dVar 2) (dC (.int 0)))) (sAsg (dCall 1 sm__law_thin (aCons (dLst (aCons (dIf (dTst (dOp (oF fNe) (dOp (oF fIx) (dVar 3) (dC (.int 0))) (dC (.int 0)))) (dOp (oF fIx) (dVar 3) (dC (.int 0))) (dC (.int 2))) (aCons (dC (.int 0)) (aCons (dOp (oF fIx) (dVar 3) (dC (.int 2))) (aNil))))) (aNil))) (gN 3)) ((fun k ρ T => k.nx ρ T))) (sSeq (sIf (dAnd (dTst (dOp (oF fEq) (dVar 2) (dC (.int 1)))) (dTst (dOp (oF fNe) (dSlQ (dVar 3) (fun _ T k => k none T) (pSome (dC (.int 2)))) (dTup (aCons (dC (.int 0)) (aCons (dC (.int 0)) (aNil))))))) (sAsg (dCall 2 sm__law_quotient (aCons (dTup (aCons (dOp (oF fIx) (dVar 3) (dC (.int 0))) (aCons (dOp (oF fIx) (dVar 3) (dC (.int 1))) (aNil)))) (aCons (dTup (aCons (dOp (oF fIx) (dVar 3) (dC (.int 0))) (aCons (dOp (oF fSub) (dC (.int 0)) (dOp (oF fIx) (dVar 3) (dC (.int 1)))) (aNil)))) (aNil)))) (gN 3)) ((fun k ρ T => k.nx ρ T))) (sSeq (sIf (dTst (dOp (oF fInS) (dVar 3) (dLst (aCons (dTup (aCons (dC (.int 0)) (aCons (dC (.int 0)) (aCons (dC (.int 1)) (aNil))))) (aCons (dTup (aCons (dC (.int 1)) (aCons (dC (.int 0)) (aCons (dC (.int 1)) (aNil))))) (aNil)))))) (sRet (dCall 2 sm__law_one_of (aTank 0 (aCons (dLst (aCons (dTup (aCons (dC (.int 2)) (aCons (dC (.int 0)) (aCons (dC (.int 1)) (aNil))))) (aCons (dTup (aCons (dC (.int 0)) (aCons (dC (.int 1)) (aCons (dC (.int 1)) (aNil))))) (aCons (dTup (aCons (dNeg (dC (.int 1))) (aCons (dC (.int 0)) (aCons (dC (.int 1)) (aNil))))) (aCons (dTup (aCons (dC (.int 1)) (aCons (dC (.int 1)) (aCons (dC (.int 2)) (aNil))))) (aCons (dTup (aCons (dC (.int 1)) (aCons (dC (.int 0)) (aCons (dC (.int 3)) (aNil))))) (aNil))))))) (aNil))))) ((fun k ρ T => k.nx ρ T))) (sRet (dVar 3)))))
def sm__law_scale : Sem := semOf ["_law_spring_here", "_law_wide", "_law_way_here", "_law_spot_here"] b__law_scale
theorem e__law_scale (a0 a1 : SV) (T : Tk) (k : KD) : sm__law_scale [a0, a1] T k = b__law_scale { nx := fun _ T => k .non T, rt := k, bk := fun _ _ => False, ct := fun _ _ => False } [some a0, some a1, none, none] T := rfl
theorem sc__law_span : FnScope ["_law_spring_here", "_law_one", "_law_two"] ["_law_spring_here"] (defScope st__law_span) := ⟨rfl, rfl, rfl, by decide +kernel, rfl, by decide +kernel, by decide +kernel⟩
def b__law_span : dS := sSeq (sAsg (dCall 1 sm__law_thin (aCons (dLst (aCons (dOp (oF fAdd) (dC (.int 1)) (dCall 2 sm__law_draw (aTank 0 (aCons (dC (.int 9)) (aNil))))) (aCons (dOp (oF fAdd) (dC (.int 1)) (dCall 2 sm__law_draw (aTank 0 (aCons (dC (.int 9)) (aNil))))) (aNil)))) (aNil))) (gN 1)) (sSeq (sAsg (dCall 1 sm__law_thin (aCons (dLst (aCons (dOp (oF fAdd) (dC (.int 1)) (dCall 2 sm__law_draw (aTank 0 (aCons (dC (.int 400)) (aNil))))) (aCons (dOp (oF fAdd) (dC (.int 1)) (dCall 2 sm__law_draw (aTank 0 (aCons (dC (.int 3)) (aNil))))) (aNil)))) (aNil))) (gN 2)) (sSeq (sIf (dTst (dOp (oF fEq) (dVar 1) (dVar 2))) (sRet (dTup (aCons (dVar 1) (aCons (dTup (aCons (dOp (oF fAdd) (dOp (oF fIx) (dVar 1) (dC (.int 0))) (dOp (oF fIx) (dVar 1) (dC (.int 1)))) (aCons (dOp (oF fIx) (dVar 1) (dC (.int 1))) (aNil)))) (aNil))))) ((fun k ρ T => k.nx ρ T))) (sRet (dIf (dTst (dOp (oF fLt) (dOp (oF fMul) (dOp (oF fIx) (dVar 1) (dC (.int 0))) (dOp (oF fIx) (dVar 2) (dC (.int 1)))) (dOp (oF fMul) (dOp (oF fIx) (dVar 2) (dC (.int 0))) (dOp (oF fIx) (dVar 1) (dC (.int 1)))))) (dTup (aCons (dVar 1) (aCons (dVar 2) (aNil)))) (dTup (aCons (dVar 2) (aCons (dVar 1) (aNil))))))))
def sm__law_span : Sem := semOf ["_law_spring_here", "_law_one", "_law_two"] b__law_span
theorem e__law_span (a0 : SV) (T : Tk) (k : KD) : sm__law_span [a0] T k = b__law_span { nx := fun _ T => k .non T, rt := k, bk := fun _ _ => False, ct := fun _ _ => False } [some a0, none, none] T := rfl
theorem sc__law_stroke : FnScope ["_law_spring_here", "_law_wide", "_law_l", "_law_m"] ["_law_spring_here", "_law_wide"] (defScope st__law_stroke) := ⟨rfl, rfl, rfl, by decide +kernel, rfl, by decide +kernel, by decide +kernel⟩
def b__law_stroke : dS := sSeq (sPar 2 3 (aCons (dCall 2 sm__law_about (aTank 0 (aCons (dVar 1) (aNil)))) (aCons (dCall 2 sm__law_about (aTank 0 (aCons (dVar 1) (aNil)))) (aNil)))) (sSeq (sIf (dTst (dOp (oF fEq) (dTup (aCons (dVar 2) (aCons (dVar 3) (aNil)))) (dTup (aCons (dC (.int 0)) (aCons (dC (.int 0)) (aNil)))))) (sAsg (dCall 2 sm__law_one_of (aTank 0 (aCons (dLst (aCons (dTup (aCons (dC (.int 1)) (aCons (dC (.int 0)) (aNil)))) (aCons (dTup (aCons (dC (.int 0)) (aCons (dC (.int 1)) (aNil)))) (aCons (dTup (aCons (dC (.int 1)) (aCons (dNeg (dC (.int 1))) (aNil)))) (aNil))))) (aNil)))) (gTL 2 (gsCons (gN 2) (gsCons (gN 3) (gsNil))))) ((fun k ρ T => k.nx ρ T))) (sRet (dCall 1 sm__law_upright (aCons (dCall 1 sm__law_thin (aCons (dLst (aCons (dC (.int 0)) (aCons (dVar 2) (aCons (dVar 3) (aCons (dCall 2 sm__law_about (aTank 0 (aCons (dVar 1) (aNil)))) (aNil)))))) (aNil))) (aNil)))))
def sm__law_stroke : Sem := semOf ["_law_spring_here", "_law_wide", "_law_l", "_law_m"] b__law_stroke
theorem e__law_stroke (a0 a1 : SV) (T : Tk) (k : KD) : sm__law_stroke [a0, a1] T k = b__law_stroke { nx := fun _ T => k .non T, rt := k, bk := fun _ _ => False, ct := fun _ _ => False } [some a0, some a1, none, none] T := rfl
theorem sc__law_power : FnScope ["_law_spring_here", "_law_wide", "_law_n"] ["_law_spring_here", "_law_wide"] (defScope st__law_power) := ⟨rfl, rfl, rfl, by decide +kernel, rfl, by decide +kernel, by decide +kernel⟩
def b__law_power : dS := sSeq (sAsg (dCall 2 sm__law_about (aTank 0 (aCons (dVar 1) (aNil)))) (gN 2)) (sRet (dCall 1 sm__law_thin (aCons (dLst (aCons (dIf (dTst (dOp (oF fNe) (dVar 2) (dC (.int 0)))) (dVar 2) (dOp (oF fAdd) (dC (.int 1)) (dCall 2 sm__law_draw (aTank 0 (aCons (dC (.int 4)) (aNil)))))) (aCons (dOp (oF fAdd) (dC (.int 1)) (dCall 2 sm__law_draw (aTank 0 (aCons (dVar 1) (aNil))))) (aNil)))) (aNil))))
def sm__law_power : Sem := semOf ["_law_spring_here", "_law_wide", "_law_n"] b__law_power
theorem e__law_power (a0 a1 : SV) (T : Tk) (k : KD) : sm__law_power [a0, a1] T k = b__law_power { nx := fun _ T => k .non T, rt := k, bk := fun _ _ => False, ct := fun _ _ => False } [some a0, some a1, none] T := rfl
theorem sc__law_box : FnScope ["_law_spring_here", "_law_word", "_law_wide", "_law_spot_here"] ["_law_spring_here", "_law_word", "_law_wide"] (defScope st__law_box) := ⟨rfl, rfl, rfl, by decide +kernel, rfl, by decide +kernel, by decide +kernel⟩
def b__law_box : dS := sSeq (sIf (dTst (dOp (oF fEq) (dVar 1) (dC (.str "carry")))) (sSeq (sAsg (dCall 2 sm__law_spot (aTank 0 (aCons (dVar 2) (aNil)))) (gN 3)) (sRet (dTup (aCons (dC (.str "carry")) (aCons (dIf (dTst (dOp (oF fNe) (dVar 3) (dTup (aCons (dC (.int 0)) (aCons (dC (.int 0)) (aCons (dC (.int 1)) (aNil))))))) (dVar 3) (dCall 2 sm__law_one_of (aTank 0 (aCons (dLst (aCons (dTup (aCons (dC (.int 1)) (aCons (dC (.int 0)) (aCons (dC (.int 1)) (aNil))))) (aCons (dTup (aCons (dC (.int 0)) (aCons (dNeg (dC (.int 1))) (aCons (dC (.int 2)) (aNil))))) (aCons (dTup (aCons (dC (.int 3)) (aCons (dC (.int 4)) (aCons (dC (.int 5)) (aNil))))) (aNil))))) (aNil))))) (aNil)))))) ((fun k ρ T => k.nx ρ T))) (sSeq (sIf (dTst (dOp (oF fEq) (dVar 1) (dC (.str "mirror")))) (sRet (dTup (aCons (dC (.str "mirror")) (aCons (dCall 2 sm__law_stroke (aTank 0 (aCons (dVar 2) (aNil)))) (aNil))))) ((fun k ρ T => k.nx ρ T))) (sSeq (sAsg (dCall 2 sm__law_spot (aTank 0 (aCons (dVar 2) (aNil)))) (gN 3)) (sSeq (sIf (dTst (dOp (oF fEq) (dVar 1) (dC (.str "grow")))) (sRet (dTup (aCons (dC (.str "grow")) (aCons (dVar 3) (aCons (dCall 2 sm__law_scale (aTank 0 (aCons (dVar 2) (aNil)))) (aCons (dCall 1 sm__law_span (aTank 0 (aNil))) (aNil))))))) ((fun k ρ T => k.nx ρ T))) (sRet (dTup (aCons (dC (.str "turnabout")) (aCons (dVar 3) (aCons (dCall 2 sm__law_power (aTank 0 (aCons (dVar 2) (aNil)))) (aCons (dCall 1 sm__law_span (aTank 0 (aNil))) (aNil))))))))))
def sm__law_box : Sem := semOf ["_law_spring_here", "_law_word", "_law_wide", "_law_spot_here"] b__law_box
theorem e__law_box (a0 a1 a2 : SV) (T : Tk) (k : KD) : sm__law_box [a0, a1, a2] T k = b__law_box { nx := fun _ T => k .non T, rt := k, bk := fun _ _ => False, ct := fun _ _ => False } [some a0, some a1, some a2, none] T := rfl
theorem sc__law_boxes : FnScope ["_law_spring_here", "_law_words", "_law_most", "_law_count", "_law_found", "_law_turn", "_law_wide"] ["_law_spring_here", "_law_words", "_law_most"] (defScope st__law_boxes) := ⟨rfl, rfl, rfl, by decide +kernel, rfl, by decide +kernel, by decide +kernel⟩
def b__law_boxes : dS := sSeq (sParO 3 4 (dCall 2 sm__law_draw (aTank 0 (aCons (dOp (oF fAdd) (dVar 2) (dC (.int 1))) (aNil)))) (aNil)) (sSeq (sForI (iR1 (aCons (dVar 3) (aNil))) (gN 5) (sSeq (sAsg (dCall 2 sm__law_one_of (aTank 0 (aCons (dIf (dTst (dOp (oF fGt) (dVar 3) (dC (.int 2)))) (dLst (aCons (dC (.int 1)) (aCons (dC (.int 1)) (aCons (dC (.int 2)) (aCons (dC (.int 3)) (aCons (dC (.int 5)) (aCons (dC (.int 9)) (aNil)))))))) (dLst (aCons (dC (.int 1)) (aCons (dC (.int 2)) (aCons (dC (.int 3)) (aCons (dC (.int 9)) (aCons (dC (.int 9)) (aCons (dC (.int 400)) (aNil))))))))) (aNil)))) (gN 6)) (sApp 4 (dCall 3 sm__law_box (aTank 0 (aCons (dCall 2 sm__law_one_of (aTank 0 (aCons (dVar 1) (aNil)))) (aCons (dVar 6) (aNil)))))))) (sFrq 4 (sRet (dBlt (oG fTuple) (aCons (dVar 4) (aNil))))))
def sm__law_boxes : Sem := semOf ["_law_spring_here", "_law_words", "_law_most", "_law_count", "_law_found", "_law_turn", "_law_wide"] b__law_boxes
theorem e__law_boxes (a0 a1 a2 : SV) (T : Tk) (k : KD) : sm__law_boxes [a0, a1, a2] T k = b__law_boxes { nx := fun _ T => k .non T, rt := k, bk := fun _ _ => False, ct := fun _ _ => False } [some a0, some a1, some a2, none, none, none, none] T := rfl
theorem sc__law_pair : FnScope ["_law_spring_here", "_law_wide", "_law_one"] ["_law_spring_here", "_law_wide"] (defScope st__law_pair) := ⟨rfl, rfl, rfl, by decide +kernel, rfl, by decide +kernel, by decide +kernel⟩
def b__law_pair : dS := sSeq (sAsg (dTup (aCons (dCall 2 sm__law_about (aTank 0 (aCons (dVar 1) (aNil)))) (aCons (dCall 2 sm__law_about (aTank 0 (aCons (dVar 1) (aNil)))) (aNil)))) (gN 2)) (sRet (dIf (dTst (dOp (oF fNe) (dVar 2) (dTup (aCons (dC (.int 0)) (aCons (dC (.int 0)) (aNil)))))) (dVar 2) (dCall 2 sm__law_one_of (aTank 0 (aCons (dLst (aCons (dTup (aCons (dC (.int 1)) (aCons (dC (.int 0)) (aNil)))) (aCons (dTup (aCons (dC (.int 0)) (aCons (dC (.int 1)) (aNil)))) (aCons (dTup (aCons (dC (.int 1)) (aCons (dNeg (dC (.int 2))) (aNil)))) (aNil))))) (aNil))))))
def sm__law_pair : Sem := semOf ["_law_spring_here", "_law_wide", "_law_one"] b__law_pair
theorem e__law_pair (a0 a1 : SV) (T : Tk) (k : KD) : sm__law_pair [a0, a1] T k = b__law_pair { nx := fun _ T => k .non T, rt := k, bk := fun _ _ => False, ct := fun _ _ => False } [some a0, some a1, none] T := rfl
theorem sc__law_some_words : FnScope ["_law_spring_here", "_law_base", "_law_found", "_law_word"] ["_law_spring_here", "_law_base"] (defScope st__law_some_words) := ⟨rfl, rfl, rfl, by decide +kernel, rfl, by decide +kernel, by decide +kernel⟩
def b__law_some_words : dS := sSeq (sSetV 2 (vLsO (aCons (dVar 1) (aNil)))) (sSeq (sForI (iQ (dLst (aCons (dC (.str "carry")) (aCons (dC (.str "grow")) (aCons (dC (.str "turnabout")) (aCons (dC (.str "mirror")) (aNil))))))) (gN 3) (sIf (dViewT 2 (dAnd (dTst (dOp (oF fNotInS) (dVar 3) (dVar 2))) (dTst (dOp (oF fEq) (dCall 2 sm__law_draw (aTank 0 (aCons (dC (.int 2)) (aNil)))) (dC (.int 0)))))) (sApp 2 (dVar 3)) ((fun k ρ T => k.nx ρ T)))) (sFrq 2 (sRet (dBlt (oG fTuple) (aCons (dCall 2 sm__law_shuffled (aTank 0 (aCons (dVar 2) (aNil)))) (aNil))))))
def sm__law_some_words : Sem := semOf ["_law_spring_here", "_law_base", "_law_found", "_law_word"] b__law_some_words
theorem e__law_some_words (a0 a1 : SV) (T : Tk) (k : KD) : sm__law_some_words [a0, a1] T k = b__law_some_words { nx := fun _ T => k .non T, rt := k, bk := fun _ _ => False, ct := fun _ _ => False } [some a0, some a1, none, none] T := rfl
theorem sc__law_is_whole : FnScope ["_law_one"] ["_law_one"] (defScope st__law_is_whole) := ⟨rfl, rfl, rfl, by decide +kernel, rfl, by decide +kernel, by decide +kernel⟩
def b__law_is_whole : dS := sRet (dAndV (dIsi .int (dVar 0)) (dNotV (dIsi .bool (dVar 0))))
def sm__law_is_whole : Sem := semOf ["_law_one"] b__law_is_whole
theorem e__law_is_whole (a0 : SV) (T : Tk) (k : KD) : sm__law_is_whole [a0] T k = b__law_is_whole { nx := fun _ T => k .non T, rt := k, bk := fun _ _ => False, ct := fun _ _ => False } [some a0] T := rfl
theorem sc__law_right : FnScope ["_law_spring_here", "_law_every", "_law_words", "_law_early", "_law_late", "_law_used", "_law_word", "_law_each", "_law_few", "_law_step", "_law_one", "_law_two", "_law_a", "_law_b", "_law_side", "_law_moved", "_law_asked", "_law_told", "_law_wide", "_law_more"] ["_law_spring_here"] (defScope st__law_right) := ⟨rfl, rfl, rfl, by decide +kernel, rfl, by decide +kernel, by decide +kernel⟩
def b__law_right : dS := sSeq (sAsg (dLst (aCons (dC (.str "carry")) (aCons (dC (.str "grow")) (aCons (dC (.str "turnabout")) (aCons (dC (.str "mirror")) (aNil)))))) (gN 1)) (sSeq (sAsg (dSlQ (dCall 2 sm__law_shuffled (aTank 0 (aCons (dVar 1) (aNil)))) (fun _ T k => k none T) (pSome (dOp (oF fAdd) (dC (.int 1)) (dCall 2 sm__law_draw (aTank 0 (aCons (dC (.int 4)) (aNil))))))) (gN 2)) (sSeq (sAsg (dTup (aCons (dCall 3 sm__law_boxes (aTank 0 (aCons (dVar 2) (aCons (dC (.int 3)) (aNil))))) (aCons (dCall 3 sm__law_boxes (aTank 0 (aCons (dVar 2) (aCons (dC (.int 4)) (aNil))))) (aNil)))) (gTL 2 (gsCons (gN 3) (gsCons (gN 4) (gsNil))))) (sSeq (sAsg (dLc [6] (iQ (dVar 1)) (cN 6) (dTst (dOp (oF fInS) (dVar 6) (dLc [7] (iQ (dOp (oF fAdd) (dVar 3) (dVar 4))) (cN 7) dYes (dOp (oF fIx) (dVar 7) (dC (.int 0)))))) (dVar 6)) (gN 5)) (sSeq (sAsg (dTup (aCons (dCall 2 sm__law_some_words (aTank 0 (aCons (dVar 5) (aNil)))) (aCons (dCall 3 sm__law_box (aTank 0 (aCons (dCall 2 sm__law_one_of (aTank 0 (aCons (dVar 2) (aNil)))) (aCons (dC (.int 3)) (aNil))))) (aNil)))) (gTL 2 (gsCons (gN 8) (gsCons (gN 9) (gsNil))))) (sSeq (sPar 10 11 (aCons (dCall 1 sm__law_way (aCons (dVar 3) (aNil))) (aCons (dCall 1 sm__law_way (aCons (dVar 4) (aNil))) (aNil)))) (sSeq (sPar 12 13 (aCons (dCall 2 sm__law_pair (aTank 0 (aCons (dC (.int 3)) (aNil)))) (aCons (dCall 2 sm__law_pair (aTank 0 (aCons (dC (.int 9)) (aNil)))) (aNil)))) (sSeq (sAsg (dCall 2 sm__law_form (aCons (dCall 2 sm__law_draw (aTank 0 (aCons (dC (.int 2)) (aNil)))) (aCons (dLst (aCons (dVar 12) (aCons (dVar 13) (aCons (dTup (aCons (dC (.int 0)) (aCons (dC (.int 0)) (aNil)))) (aCons (dCall 2 sm__law_pair (aTank 0 (aCons (dC (.int 3)) (aNil)))) (aNil)))))) (aNil)))) (gN 14)) (sSeq (sAsg (dCall 2 sm__law_joined (aCons (dCall 2 sm__law_joined (aCons (dCall 1 sm__law_home (aCons (dVar 14) (aNil))) (aCons (dVar 10) (aNil)))) (aCons (dVar 14) (aNil)))) (gN 15)) (sSeq (sAsg (dLst (aCons (dVar 10) (aCons (dVar 11) (aCons (dCall 2 sm__law_joined (aCons (dVar 10) (aCons (dVar 11) (aNil)))) (aCons (dCall 1 sm__law_home (aCons (dVar 10) (aNil))) (aCons (dVar 15) (aNil))))))) (gN 16)) (sSeq (sAsg (dLc [7] (iQ (dVar 16)) (cN 7) dYes (dCall 2 sm_fewest_cells (aCons (dVar 7) (aCons (dVar 8) (aNil))))) (gN 17)) (sSeq (sIf (dNot (dTst (dBlt (oG fAll) (aCons (dLc [7] (iQ (dVar 17)) (cN 7) dYes (dAndV (dCall 1 sm__law_is_whole (aCons (dVar 7) (aNil))) (dChnV (fun i j => decide (i ≤ j)) (fun i j => decide (i ≤ j)) (dC (.int 0)) (dVar 7) (dC (.int 4))))) (aNil))))) (sRet (dC (.bl false))) ((fun k ρ T => k.nx ρ T))) (sSeq (sIf (dOr (dTst (dOp (oF fGt) (dOp (oF fIx) (dVar 17) (dC (.int 0))) (dBlt (oG fLen) (aCons (dVar 3) (aNil))))) (dOr (dTst (dOp (oF fGt) (dOp (oF fIx) (dVar 17) (dC (.int 1))) (dBlt (oG fLen) (aCons (dVar 4) (aNil))))) (dTst (dOp (oF fGt) (dOp (oF fIx) (dVar 17) (dC (.int 2))) (dOp (oF fAdd) (dOp (oF fIx) (dVar 17) (dC (.int 0))) (dOp (oF fIx) (dVar 17) (dC (.int 1)))))))) (sRet (dC (.bl false))) ((fun k ρ T => k.nx ρ T))) (sSeq (sIf (dOr (dTst (dOp (oF fNe) (dOp (oF fIx) (dVar 17) (dC (.int 3))) (dOp (oF fIx) (dVar 17) (dC (.int 0))))) (dOr (dTst (dOp (oF fNe) (dOp (oF fIx) (dVar 17) (dC (.int 4))) (dOp (oF fIx) (dVar 17) (dC (.int 0))))) (dTst (dOp (oF fNe) (dOp (oF fEq) (dOp (oF fIx) (dVar 17) (dC (.int 0))) (dC (.int 0))) (dOp (oF fEq) (dVar 10) (dCall 0 sm__law_still aNil)))))) (sRet (dC (.bl false))) ((fun k ρ T => k.nx ρ T))) (sSeq (sAsg (dIf (dTst (dOp (oF fInS) (dOp (oF fIx) (dVar 9) (dC (.int 0))) (dVar 8))) (dVar 8) (dOp (oF fAdd) (dVar 8) (dTup (aCons (dOp (oF fIx) (dVar 9) (dC (.int 0))) (aNil))))) (gN 18)) (sSeq (sOwn 19 (aCons (dCall 2 sm_fewest_cells (aCons (dVar 10) (aCons (dVar 18) (aNil)))) (aCons (dCall 2 sm_fewest_cells (aCons (dCall 2 sm__law_joined (aCons (dVar 10) (aCons (dCall 1 sm__law_cell_map (aCons (dVar 9) (aNil))) (aNil)))) (aCons (dVar 18) (aNil)))) (aNil)))) (sSeq (sApp 19 (dCall 2 sm_fewest_cells (aCons (dVar 10) (aCons (dBlt (oG fTuple) (aCons (dVar 1) (aNil))) (aNil))))) (sSeq (sFrq 19 (sIf (dOr (dNot (dTst (dBlt (oG fAll) (aCons (dLc [7] (iQ (dVar 19)) (cN 7) dYes (dCall 1 sm__law_is_whole (aCons (dVar 7) (aNil)))) (aNil))))) (dOr (dTst (dOp (oF fGt) (dOp (oF fIx) (dVar 19) (dC (.int 0))) (dOp (oF fIx) (dVar 17) (dC (.int 0))))) (dTst (dOp (oF fGt) (dOp (oF fIx) (dVar 19) (dC (.int 2))) (dOp (oF fIx) (dVar 19) (dC (.int 0))))))) (sRet (dC (.bl false))) ((fun k ρ T => k.nx ρ T)))) (sFrq 19 (sRet (dOp (oF fLe) (dBlt (oG (fI1 iAbs)) (aCons (dOp (oF fSub) (dOp (oF fIx) (dVar 19) (dC (.int 1))) (dOp (oF fIx) (dVar 19) (dC (.int 0)))) (aNil))) (dC (.int 1))))))))))))))))))))))
def sm__law_right : Sem := semOf ["_law_spring_here", "_law_every", "_law_words", "_law_early", "_law_late", "_law_used", "_law_word", "_law_each", "_law_few", "_law_step", "_law_one", "_law_two", "_law_a", "_law_b", "_law_side", "_law_moved", "_law_asked", "_law_told", "_law_wide", "_law_more"] b__law_right
theorem e__law_right (a0 : SV) (T : Tk) (k : KD) : sm__law_right [a0] T k = b__law_right { nx := fun _ T => k .non T, rt := k, bk := fun _ _ => False, ct := fun _ _ => False } [some a0, none, none, none, none, none, none, none, none, none, none, none, none, none, none, none, none, none, none, none] T := rfl
theorem sc_law : FnScope ["_law_script", "_law_turn"] ["_law_script"] (defScope st_law) := ⟨rfl, rfl, rfl, by decide +kernel, rfl, by decide +kernel, by decide +kernel⟩
def b_law : dS := sRet (dBlt (oG fAll) (aCons (dLc [1] (iR1 (aCons (dC (.int 2)) (aNil))) (cN 1) dYes (dCallT 2 sm__law_right sm__law_spring (aCons (dVar 0) (aCons (dVar 1) (aNil))))) (aNil)))
def sm_law : Sem := semOf ["_law_script", "_law_turn"] b_law
theorem e_law (a0 : SV) (T : Tk) (k : KD) : sm_law [a0] T k = b_law { nx := fun _ T => k .non T, rt := k, bk := fun _ _ => False, ct := fun _ _ => False } [some a0, none] T := rfl
structure Tx (K : PySem.W.Frag) (mg : Str → Option Value) : Prop where
  d_is_whole : Df K mg "is_whole" st_is_whole
  d_are_wholes : Df K mg "are_wholes" st_are_wholes
  d_divisor_of : Df K mg "divisor_of" st_divisor_of
  d_lowest : Df K mg "lowest" st_lowest
  d_is_complex : Df K mg "is_complex" st_is_complex
  d_plus : Df K mg "plus" st_plus
  d_minus : Df K mg "minus" st_minus
  d_times : Df K mg "times" st_times
  d_scaled : Df K mg "scaled" st_scaled
  d_turned_over : Df K mg "turned_over" st_turned_over
  d_square_size : Df K mg "square_size" st_square_size
  d_unit_for : Df K mg "unit_for" st_unit_for
  d_nearest : Df K mg "nearest" st_nearest
  d_divisor_of_two : Df K mg "divisor_of_two" st_divisor_of_two
  d_divisor_of_all : Df K mg "divisor_of_all" st_divisor_of_all
  d_divided : Df K mg "divided" st_divided
  d_quotient_place : Df K mg "quotient_place" st_quotient_place
  d_determinant : Df K mg "determinant" st_determinant
  d_form_of : Df K mg "form_of" st_form_of
  d_is_flag : Df K mg "is_flag" st_is_flag
  d_is_map : Df K mg "is_map" st_is_map
  d_check_map : Df K mg "check_map" st_check_map
  d_joined : Df K mg "joined" st_joined
  d_trace : Df K mg "trace" st_trace
  d_trace_place : Df K mg "trace_place" st_trace_place
  d_gap : Df K mg "gap" st_gap
  d_flipped : Df K mg "flipped" st_flipped
  d_size_of : Df K mg "size_of" st_size_of
  d_is_real : Df K mg "is_real" st_is_real
  d_check_kinds : Df K mg "check_kinds" st_check_kinds
  d_is_true_map : Df K mg "is_true_map" st_is_true_map
  d_factor_in : Df K mg "factor_in" st_factor_in
  d_is_line_mirror : Df K mg "is_line_mirror" st_is_line_mirror
  d_fewest_plain_kept : Df K mg "fewest_plain_kept" st_fewest_plain_kept
  d_fewest_plain_moved : Df K mg "fewest_plain_moved" st_fewest_plain_moved
  d_fewest_mirrored_kept : Df K mg "fewest_mirrored_kept" st_fewest_mirrored_kept
  d_fewest_mirrored_moved : Df K mg "fewest_mirrored_moved" st_fewest_mirrored_moved
  d_fewest_of : Df K mg "fewest_of" st_fewest_of
  d_fewest_cells : Df K mg "fewest_cells" st_fewest_cells
  d__law_spring : Df K mg "_law_spring" st__law_spring
  d__law_draw : Df K mg "_law_draw" st__law_draw
  d__law_one_of : Df K mg "_law_one_of" st__law_one_of
  d__law_about : Df K mg "_law_about" st__law_about
  d__law_shuffled : Df K mg "_law_shuffled" st__law_shuffled
  d__law_gcd : Df K mg "_law_gcd" st__law_gcd
  d__law_thin : Df K mg "_law_thin" st__law_thin
  d__law_upright : Df K mg "_law_upright" st__law_upright
  d__law_times : Df K mg "_law_times" st__law_times
  d__law_plus : Df K mg "_law_plus" st__law_plus
  d__law_minus : Df K mg "_law_minus" st__law_minus
  d__law_bar : Df K mg "_law_bar" st__law_bar
  d__law_norm : Df K mg "_law_norm" st__law_norm
  d__law_over : Df K mg "_law_over" st__law_over
  d__law_common : Df K mg "_law_common" st__law_common
  d__law_quarter : Df K mg "_law_quarter" st__law_quarter
  d__law_form : Df K mg "_law_form" st__law_form
  d__law_joined : Df K mg "_law_joined" st__law_joined
  d__law_home : Df K mg "_law_home" st__law_home
  d__law_still : Df K mg "_law_still" st__law_still
  d__law_cell_map : Df K mg "_law_cell_map" st__law_cell_map
  d__law_way : Df K mg "_law_way" st__law_way
  d__law_quotient : Df K mg "_law_quotient" st__law_quotient
  d__law_spot : Df K mg "_law_spot" st__law_spot
  d__law_scale : Df K mg "_law_scale" st__law_scale
  d__law_span : Df K mg "_law_span" st__law_span
  d__law_stroke : Df K mg "_law_stroke" st__law_stroke
  d__law_power : Df K mg "_law_power" st__law_power
  d__law_box : Df K mg "_law_box" st__law_box
  d__law_boxes : Df K mg "_law_boxes" st__law_boxes
  d__law_pair : Df K mg "_law_pair" st__law_pair
  d__law_some_words : Df K mg "_law_some_words" st__law_some_words
  d__law_is_whole : Df K mg "_law_is_whole" st__law_is_whole
  d__law_right : Df K mg "_law_right" st__law_right
  d_law : Df K mg "law" st_law
  mk_Parts : MkC K mg "Parts" "Parts.__init__" st_Parts__init
  z_abs : mg "abs" = none
  z_all : mg "all" = none
  z_bool : mg "bool" = none
  z_divmod : mg "divmod" = none
  z_enumerate : mg "enumerate" = none
  z_int : mg "int" = none
  z_isinstance : mg "isinstance" = none
  z_len : mg "len" = none
  z_list : mg "list" = none
  z_range : mg "range" = none
  z_str : mg "str" = none
  z_sum : mg "sum" = none
  z_tuple : mg "tuple" = none
  b_gcd : mg "gcd" = some (.builtin "math.gcd")
  b_isqrt : mg "isqrt" = some (.builtin "math.isqrt")
  c_UNITS : GC K mg "UNITS" k_UNITS
  c_ZERO : GC K mg "ZERO" k_ZERO
  c_FAR : GC K mg "FAR" k_FAR
  c_WORDS : GC K mg "WORDS" k_WORDS
  c_STAYS : GC K mg "STAYS" k_STAYS
  c_UNITY : GC K mg "UNITY" k_UNITY
section
variable {P : Program} {w : World} {K : PySem.W.Frag} {mg : Str → Option Value} {base : Heap}
theorem ok_is_whole (T : Tx K mg) : Ok P w K mg base 1 "is_whole" ["value"] sm_is_whole := by
  refine ok_def (N := ["value"]) T.d_is_whole sc_is_whole (fun _ _ _ _ _ _ us hl => match us, hl with | [_], _ => rfl) (fun _ _ _ _ _ _ us hl => match us, hl with | [_], _ => rfl) fun f cdv A fs s H E hq hr hgd => ?_
  have nd := sc_is_whole.nd
  exact ss_one (s_ret (d_andV (d_isi .int (d_var 0) T.z_isinstance T.z_int) (d_v1 (d_notV (d_isi .bool (d_var 0) T.z_isinstance T.z_bool)))))
theorem ok_are_wholes (T : Tx K mg) : Ok P w K mg base 2 "are_wholes" ["value", "many"] sm_are_wholes := by
  refine ok_def (N := ["value", "many", "number"]) T.d_are_wholes sc_are_wholes (fun _ _ _ _ _ _ us hl => match us, hl with | [_, _], _ => rfl) (fun _ _ _ _ _ _ us hl => match us, hl with | [_, _], _ => rfl) fun f cdv A fs s H E hq hr hgd => ?_
  have nd := sc_are_wholes.nd
  exact ss_one (s_ret (d_andV (d_isi .tuple (d_var 0) T.z_isinstance T.z_tuple) (d_andV (d_feq hr (g_len T.z_len (a_cons (d_var 0) (a_nil))) (d_var 1)) (d_v1 (g_all rfl T.z_all (a_cons (d_lc [("number", 2)] rfl nd (g_seq (d_var 0)) (cg_name) (fun _ _ _ _ _ => pg_name (i := 2) nd rfl (by first | exact Or.inl rfl | exact Or.inr rfl)) (fun _ _ _ _ _ => ts_nil) (fun _ _ _ _ _ => d_call (ok_is_whole T) (hr.mono (by decide)) hgd (a_cons (d_var 2) (a_nil))) (ok := blkOk_by (N := ["value", "many", "number"]) (sc := defScope st_are_wholes) (by decide +kernel))) (a_nil)))))))
theorem ok_divisor_of (T : Tx K mg) : Ok P w K mg base 1 "divisor_of" ["numbers"] sm_divisor_of := by
  refine ok_def (N := ["numbers", "found", "number"]) T.d_divisor_of sc_divisor_of (fun _ _ _ _ _ _ us hl => match us, hl with | [_], _ => rfl) (fun _ _ _ _ _ _ us hl => match us, hl with | [_], _ => rfl) fun f cdv A fs s H E hq hr hgd => ?_
  have nd := sc_divisor_of.nd
  exact ss_cons (s_set 1 nd (d_int)) (ss_cons (s_forI PassesOwn.never rfl (g_seq (d_var 0)) (g_name 2 nd) (ss_one (s_set 1 nd (g_gcd T.b_gcd (a_cons (d_var 1) (a_cons (d_var 2) (a_nil))))))) (ss_one (s_ret (d_var 1))))
theorem ok_lowest (T : Tx K mg) : Ok P w K mg base 2 "lowest" ["numbers"] sm_lowest := by
  refine ok_def (N := ["numbers", "divisor", "number"]) T.d_lowest sc_lowest (fun _ _ _ _ _ _ us hl => match us, hl with | [_], _ => rfl) (fun _ _ _ _ _ _ us hl => match us, hl with | [_], _ => rfl) fun f cdv A fs s H E hq hr hgd => ?_
  have nd := sc_lowest.nd
  exact ss_cons (s_set 1 nd (d_call (ok_divisor_of T) (hr.mono (by decide)) hgd (a_cons (d_var 0) (a_nil)))) (ss_one (s_ret (g_totup T.z_tuple (a_cons (d_lc [("number", 2)] rfl nd (g_seq (d_var 0)) (cg_name) (fun _ _ _ _ _ => pg_name (i := 2) nd rfl (by first | exact Or.inl rfl | exact Or.inr rfl)) (fun _ _ _ _ _ => ts_nil) (fun _ _ _ _ _ => f_div (d_var 2) (d_var 1)) (ok := blkOk_by (N := ["numbers", "divisor", "number"]) (sc := defScope st_lowest) (by decide +kernel))) (a_nil)))))
theorem ok_is_complex (T : Tx K mg) : Ok P w K mg base 3 "is_complex" ["value"] sm_is_complex := by
  refine ok_def (N := ["value"]) T.d_is_complex sc_is_complex (fun _ _ _ _ _ _ us hl => match us, hl with | [_], _ => rfl) (fun _ _ _ _ _ _ us hl => match us, hl with | [_], _ => rfl) fun f cdv A fs s H E hq hr hgd => ?_
  have nd := sc_is_complex.nd
  exact ss_one (s_ret (d_call (ok_are_wholes T) (hr.mono (by decide)) hgd (a_cons (d_var 0) (a_cons (d_int) (a_nil)))))
theorem ok_plus (T : Tx K mg) : Ok P w K mg base 1 "plus" ["number", "other"] sm_plus := by
  refine ok_def (N := ["number", "other"]) T.d_plus sc_plus (fun _ _ _ _ _ _ us hl => match us, hl with | [_, _], _ => rfl) (fun _ _ _ _ _ _ us hl => match us, hl with | [_, _], _ => rfl) fun f cdv A fs s H E hq hr hgd => ?_
  have nd := sc_plus.nd
  exact ss_one (s_ret (d_tup (a_cons (f_add (f_ix (d_var 0) (d_int)) (f_ix (d_var 1) (d_int))) (a_cons (f_add (f_ix (d_var 0) (d_int)) (f_ix (d_var 1) (d_int))) (a_nil)))))
theorem ok_minus (T : Tx K mg) : Ok P w K mg base 1 "minus" ["number", "other"] sm_minus := by
  refine ok_def (N := ["number", "other"]) T.d_minus sc_minus (fun _ _ _ _ _ _ us hl => match us, hl with | [_, _], _ => rfl) (fun _ _ _ _ _ _ us hl => match us, hl with | [_, _], _ => rfl) fun f cdv A fs s H E hq hr hgd => ?_
  have nd := sc_minus.nd
  exact ss_one (s_ret (d_tup (a_cons (f_sub (f_ix (d_var 0) (d_int)) (f_ix (d_var 1) (d_int))) (a_cons (f_sub (f_ix (d_var 0) (d_int)) (f_ix (d_var 1) (d_int))) (a_nil)))))
theorem ok_times (T : Tx K mg) : Ok P w K mg base 1 "times" ["number", "other"] sm_times := by
  refine ok_def (N := ["number", "other"]) T.d_times sc_times (fun _ _ _ _ _ _ us hl => match us, hl with | [_, _], _ => rfl) (fun _ _ _ _ _ _ us hl => match us, hl with | [_, _], _ => rfl) fun f cdv A fs s H E hq hr hgd => ?_
  have nd := sc_times.nd
  exact ss_one (s_ret (d_tup (a_cons (f_sub (f_mul (f_ix (d_var 0) (d_int)) (f_ix (d_var 1) (d_int))) (f_mul (f_ix (d_var 0) (d_int)) (f_ix (d_var 1) (d_int)))) (a_cons (f_add (f_mul (f_ix (d_var 0) (d_int)) (f_ix (d_var 1) (d_int))) (f_mul (f_ix (d_var 0) (d_int)) (f_ix (d_var 1) (d_int)))) (a_nil)))))
theorem ok_scaled (T : Tx K mg) : Ok P w K mg base 1 "scaled" ["number", "factor"] sm_scaled := by
  refine ok_def (N := ["number", "factor"]) T.d_scaled sc_scaled (fun _ _ _ _ _ _ us hl => match us, hl with | [_, _], _ => rfl) (fun _ _ _ _ _ _ us hl => match us, hl with | [_, _], _ => rfl) fun f cdv A fs s H E hq hr hgd => ?_
  have nd := sc_scaled.nd
  exact ss_one (s_ret (d_tup (a_cons (f_mul (d_var 1) (f_ix (d_var 0) (d_int))) (a_cons (f_mul (d_var 1) (f_ix (d_var 0) (d_int))) (a_nil)))))
theorem ok_turned_over (T : Tx K mg) : Ok P w K mg base 1 "turned_over" ["number"] sm_turned_over := by
  refine ok_def (N := ["number"]) T.d_turned_over sc_turned_over (fun _ _ _ _ _ _ us hl => match us, hl with | [_], _ => rfl) (fun _ _ _ _ _ _ us hl => match us, hl with | [_], _ => rfl) fun f cdv A fs s H E hq hr hgd => ?_
  have nd := sc_turned_over.nd
  exact ss_one (s_ret (d_tup (a_cons (f_ix (d_var 0) (d_int)) (a_cons (d_neg (f_ix (d_var 0) (d_int))) (a_nil)))))
theorem ok_square_size (T : Tx K mg) : Ok P w K mg base 1 "square_size" ["number"] sm_square_size := by
  refine ok_def (N := ["number"]) T.d_square_size sc_square_size (fun _ _ _ _ _ _ us hl => match us, hl with | [_], _ => rfl) (fun _ _ _ _ _ _ us hl => match us, hl with | [_], _ => rfl) fun f cdv A fs s H E hq hr hgd => ?_
  have nd := sc_square_size.nd
  exact ss_one (s_ret (f_add (f_mul (f_ix (d_var 0) (d_int)) (f_ix (d_var 0) (d_int))) (f_mul (f_ix (d_var 0) (d_int)) (f_ix (d_var 0) (d_int)))))
theorem ok_unit_for (T : Tx K mg) : Ok P w K mg base 2 "unit_for" ["number"] sm_unit_for := by
  refine ok_def (N := ["number", "unit", "found"]) T.d_unit_for sc_unit_for (fun _ _ _ _ _ _ us hl => match us, hl with | [_], _ => rfl) (fun _ _ _ _ _ _ us hl => match us, hl with | [_], _ => rfl) fun f cdv A fs s H E hq hr hgd => ?_
  have nd := sc_unit_for.nd
  exact ss_cons (s_forI PassesOwn.never rfl (g_seq (g_slice (d_gc T.c_UNITS) p_none (p_some (d_int)))) (g_name 1 nd) (ss_cons (s_set 2 nd (d_call (ok_times T) (hr.mono (by decide)) hgd (a_cons (d_var 0) (a_cons (d_var 1) (a_nil))))) (ss_one (s_if ((d_wand (t_fgt (f_ix (d_var 2) (d_int)) (d_int)) (d_w1a (t_fge (f_ix (d_var 2) (d_int)) (d_int)))).pt) (ss_one (s_ret (d_var 1))) (ss_nil))))) (ss_one (s_ret (f_ix (d_gc T.c_UNITS) (d_int))))
theorem ok_nearest (T : Tx K mg) : Ok P w K mg base 1 "nearest" ["number", "below"] sm_nearest := by
  refine ok_def (N := ["number", "below"]) T.d_nearest sc_nearest (fun _ _ _ _ _ _ us hl => match us, hl with | [_, _], _ => rfl) (fun _ _ _ _ _ _ us hl => match us, hl with | [_, _], _ => rfl) fun f cdv A fs s H E hq hr hgd => ?_
  have nd := sc_nearest.nd
  exact ss_one (s_ret (f_div (f_add (f_mul (d_int) (d_var 0)) (d_var 1)) (f_mul (d_int) (d_var 1))))
theorem ok_divisor_of_two (T : Tx K mg) : Ok P w K mg base 2 "divisor_of_two" ["number", "other"] sm_divisor_of_two := by
  refine ok_def (N := ["number", "other", "one", "two", "product", "whole"]) T.d_divisor_of_two sc_divisor_of_two (fun _ _ _ _ _ _ us hl => match us, hl with | [_, _], _ => rfl) (fun _ _ _ _ _ _ us hl => match us, hl with | [_, _], _ => rfl) fun f cdv A fs s H E hq hr hgd => ?_
  have nd := sc_divisor_of_two.nd
  exact ss_cons (s_par 2 3 rfl nd (a_cons (d_var 0) (a_cons (d_var 1) (a_nil)))) (ss_cons (s_while PassesOwn.never (t_fne hr (d_var 3) (d_gc T.c_ZERO)) (ss_cons (s_set 4 nd (d_call (ok_times T) (hr.mono (by decide)) hgd (a_cons (d_var 2) (a_cons (d_call (ok_turned_over T) (hr.mono (by decide)) hgd (a_cons (d_var 3) (a_nil))) (a_nil))))) (ss_cons (s_set 5 nd (d_tup (a_cons (d_call (ok_nearest T) (hr.mono (by decide)) hgd (a_cons (f_ix (d_var 4) (d_int)) (a_cons (d_call (ok_square_size T) (hr.mono (by decide)) hgd (a_cons (d_var 3) (a_nil))) (a_nil)))) (a_cons (d_call (ok_nearest T) (hr.mono (by decide)) hgd (a_cons (f_ix (d_var 4) (d_int)) (a_cons (d_call (ok_square_size T) (hr.mono (by decide)) hgd (a_cons (d_var 3) (a_nil))) (a_nil)))) (a_nil))))) (ss_one (s_par 2 3 rfl nd (a_cons (d_var 3) (a_cons (d_call (ok_minus T) (hr.mono (by decide)) hgd (a_cons (d_var 2) (a_cons (d_call (ok_times T) (hr.mono (by decide)) hgd (a_cons (d_var 5) (a_cons (d_var 3) (a_nil)))) (a_nil)))) (a_nil)))))))) (ss_one (s_ret (d_var 2))))
theorem ok_divisor_of_all (T : Tx K mg) : Ok P w K mg base 3 "divisor_of_all" ["numbers"] sm_divisor_of_all := by
  refine ok_def (N := ["numbers", "found", "number"]) T.d_divisor_of_all sc_divisor_of_all (fun _ _ _ _ _ _ us hl => match us, hl with | [_], _ => rfl) (fun _ _ _ _ _ _ us hl => match us, hl with | [_], _ => rfl) fun f cdv A fs s H E hq hr hgd => ?_
  have nd := sc_divisor_of_all.nd
  exact ss_cons (s_set 1 nd (d_gc T.c_ZERO)) (ss_cons (s_forI PassesOwn.never rfl (g_seq (d_var 0)) (g_name 2 nd) (ss_one (s_set 1 nd (d_call (ok_divisor_of_two T) (hr.mono (by decide)) hgd (a_cons (d_var 1) (a_cons (d_var 2) (a_nil))))))) (ss_one (s_ret (d_var 1))))
theorem ok_divided (T : Tx K mg) : Ok P w K mg base 2 "divided" ["number", "other"] sm_divided := by
  refine ok_def (N := ["number", "other", "product", "below"]) T.d_divided sc_divided (fun _ _ _ _ _ _ us hl => match us, hl with | [_, _], _ => rfl) (fun _ _ _ _ _ _ us hl => match us, hl with | [_, _], _ => rfl) fun f cdv A fs s H E hq hr hgd => ?_
  have nd := sc_divided.nd
  exact ss_cons (s_par 2 3 rfl nd (a_cons (d_call (ok_times T) (hr.mono (by decide)) hgd (a_cons (d_var 0) (a_cons (d_call (ok_turned_over T) (hr.mono (by decide)) hgd (a_cons (d_var 1) (a_nil))) (a_nil)))) (a_cons (d_call (ok_square_size T) (hr.mono (by decide)) hgd (a_cons (d_var 1) (a_nil))) (a_nil)))) (ss_cons (s_if ((d_wor (t_fne hr (f_mod (f_ix (d_var 2) (d_int)) (d_var 3)) (d_int)) (d_w1o (t_fne hr (f_mod (f_ix (d_var 2) (d_int)) (d_var 3)) (d_int)))).pt) (ss_one (s_ret (d_non))) (ss_nil)) (ss_one (s_ret (d_tup (a_cons (f_div (f_ix (d_var 2) (d_int)) (d_var 3)) (a_cons (f_div (f_ix (d_var 2) (d_int)) (d_var 3)) (a_nil)))))))
theorem ok_quotient_place (T : Tx K mg) : Ok P w K mg base 3 "quotient_place" ["number", "other"] sm_quotient_place := by
  refine ok_def (N := ["number", "other", "product"]) T.d_quotient_place sc_quotient_place (fun _ _ _ _ _ _ us hl => match us, hl with | [_, _], _ => rfl) (fun _ _ _ _ _ _ us hl => match us, hl with | [_, _], _ => rfl) fun f cdv A fs s H E hq hr hgd => ?_
  have nd := sc_quotient_place.nd
  exact ss_cons (s_if (t_feq hr (d_var 1) (d_gc T.c_ZERO)) (ss_one (s_ret (d_gc T.c_FAR))) (ss_nil)) (ss_cons (s_set 2 nd (d_call (ok_times T) (hr.mono (by decide)) hgd (a_cons (d_var 0) (a_cons (d_call (ok_turned_over T) (hr.mono (by decide)) hgd (a_cons (d_var 1) (a_nil))) (a_nil))))) (ss_one (s_ret (d_call (ok_lowest T) (hr.mono (by decide)) hgd (a_cons (d_tup (a_cons (f_ix (d_var 2) (d_int)) (a_cons (f_ix (d_var 2) (d_int)) (a_cons (d_call (ok_square_size T) (hr.mono (by decide)) hgd (a_cons (d_var 1) (a_nil))) (a_nil))))) (a_nil))))))
theorem ok_determinant (T : Tx K mg) : Ok P w K mg base 2 "determinant" ["chart"] sm_determinant := by
  refine ok_def (N := ["chart"]) T.d_determinant sc_determinant (fun _ _ _ _ _ _ us hl => match us, hl with | [_], _ => rfl) (fun _ _ _ _ _ _ us hl => match us, hl with | [_], _ => rfl) fun f cdv A fs s H E hq hr hgd => ?_
  have nd := sc_determinant.nd
  exact ss_one (s_ret (d_call (ok_minus T) (hr.mono (by decide)) hgd (a_cons (d_call (ok_times T) (hr.mono (by decide)) hgd (a_cons (f_ix (d_var 0) (d_int)) (a_cons (f_ix (d_var 0) (d_int)) (a_nil)))) (a_cons (d_call (ok_times T) (hr.mono (by decide)) hgd (a_cons (f_ix (d_var 0) (d_int)) (a_cons (f_ix (d_var 0) (d_int)) (a_nil)))) (a_nil)))))
theorem ok_form_of (T : Tx K mg) : Ok P w K mg base 4 "form_of" ["is_mirrored", "numbers"] sm_form_of := by
  refine ok_def (N := ["is_mirrored", "numbers", "common", "found", "number", "unit"]) T.d_form_of sc_form_of (fun _ _ _ _ _ _ us hl => match us, hl with | [_, _], _ => rfl) (fun _ _ _ _ _ _ us hl => match us, hl with | [_, _], _ => rfl) fun f cdv A fs s H E hq hr hgd => ?_
  have nd := sc_form_of.nd
  exact ss_cons (s_set 2 nd (d_call (ok_divisor_of_all T) (hr.mono (by decide)) hgd (a_cons (d_var 1) (a_nil)))) (ss_cons (s_setLc 3 [("number", 4)] rfl nd (g_seq (d_var 1)) (cg_name) (fun _ _ _ _ _ => pg_name (i := 4) nd rfl (by first | exact Or.inl rfl | exact Or.inr rfl)) (fun _ _ _ _ _ => ts_nil) (fun _ _ _ _ _ => d_call (ok_divided T) (hr.mono (by decide)) hgd (a_cons (d_var 4) (a_cons (d_var 2) (a_nil)))) (ok := blkOk_by (N := ["is_mirrored", "numbers", "common", "found", "number", "unit"]) (sc := defScope st_form_of) (by decide +kernel)) (sw_true rfl rfl rfl (by decide +kernel))) (ss_cons (s_set 5 nd (d_call (ok_unit_for T) (hr.mono (by decide)) hgd (a_cons (f_ix (d_lc [("number", 4)] rfl nd (g_seq (d_var 3)) (cg_name) (fun _ _ _ _ _ => pg_name (i := 4) nd rfl (by first | exact Or.inl rfl | exact Or.inr rfl)) (fun _ _ _ _ _ => ts_one (t_fne hr (d_var 4) (d_gc T.c_ZERO))) (fun _ _ _ _ _ => d_var 4) (ok := blkOk_by (N := ["is_mirrored", "numbers", "common", "found", "number", "unit"]) (sc := defScope st_form_of) (by decide +kernel))) (d_int)) (a_nil)))) (ss_one (s_ret (d_tup (a_cons (d_var 0) (a_star (d_lc [("number", 4)] rfl nd (g_seq (d_var 3)) (cg_name) (fun _ _ _ _ _ => pg_name (i := 4) nd rfl (by first | exact Or.inl rfl | exact Or.inr rfl)) (fun _ _ _ _ _ => ts_nil) (fun _ _ _ _ _ => d_call (ok_times T) (hr.mono (by decide)) hgd (a_cons (d_var 4) (a_cons (d_var 5) (a_nil)))) (ok := blkOk_by (N := ["is_mirrored", "numbers", "common", "found", "number", "unit"]) (sc := defScope st_form_of) (by decide +kernel))) (a_nil))))))))
theorem ok_is_flag (T : Tx K mg) : Ok P w K mg base 2 "is_flag" ["value"] sm_is_flag := by
  refine ok_def (N := ["value"]) T.d_is_flag sc_is_flag (fun _ _ _ _ _ _ us hl => match us, hl with | [_], _ => rfl) (fun _ _ _ _ _ _ us hl => match us, hl with | [_], _ => rfl) fun f cdv A fs s H E hq hr hgd => ?_
  have nd := sc_is_flag.nd
  exact ss_one (s_ret (d_andV (d_call (ok_is_whole T) (hr.mono (by decide)) hgd (a_cons (d_var 0) (a_nil))) (d_v1 (d_finS hr (d_var 0) (d_tup (a_cons (d_int) (a_cons (d_int) (a_nil))))))))
theorem ok_is_map (T : Tx K mg) : Ok P w K mg base 5 "is_map" ["value"] sm_is_map := by
  refine ok_def (N := ["value", "number"]) T.d_is_map sc_is_map (fun _ _ _ _ _ _ us hl => match us, hl with | [_], _ => rfl) (fun _ _ _ _ _ _ us hl => match us, hl with | [_], _ => rfl) fun f cdv A fs s H E hq hr hgd => ?_
  have nd := sc_is_map.nd
  exact ss_cons (s_if ((d_wor (d_tnot (d_tst (d_isi .tuple (d_var 0) T.z_isinstance T.z_tuple))) (d_wor (t_fne hr (g_len T.z_len (a_cons (d_var 0) (a_nil))) (d_int)) (d_w1o (d_tnot (d_tst (d_call (ok_is_flag T) (hr.mono (by decide)) hgd (a_cons (f_ix (d_var 0) (d_int)) (a_nil)))))))).pt) (ss_one (s_ret (d_bl))) (ss_nil)) (ss_cons (s_if ((d_wor (t_fne hr (d_lc [("number", 1)] rfl nd (g_seq (g_slice (d_var 0) (p_some (d_int)) p_none)) (cg_name) (fun _ _ _ _ _ => pg_name (i := 1) nd rfl (by first | exact Or.inl rfl | exact Or.inr rfl)) (fun _ _ _ _ _ => ts_one (d_tnot (d_tst (d_call (ok_is_complex T) (hr.mono (by decide)) hgd (a_cons (d_var 1) (a_nil)))))) (fun _ _ _ _ _ => d_var 1) (ok := blkOk_by (N := ["value", "number"]) (sc := defScope st_is_map) (by decide +kernel))) (d_lst (a_nil))) (d_w1o (t_feq hr (d_call (ok_determinant T) (hr.mono (by decide)) hgd (a_cons (d_var 0) (a_nil))) (d_gc T.c_ZERO)))).pt) (ss_one (s_ret (d_bl))) (ss_nil)) (ss_one (s_ret (d_feq hr (d_call (ok_form_of T) (hr.mono (by decide)) hgd (a_cons (f_ix (d_var 0) (d_int)) (a_cons (g_slice (d_var 0) (p_some (d_int)) p_none) (a_nil)))) (d_var 0)))))
theorem ok_check_map (T : Tx K mg) : Ok P w K mg base 6 "check_map" ["value"] sm_check_map := by
  refine ok_def (N := ["value"]) T.d_check_map sc_check_map (fun _ _ _ _ _ _ us hl => match us, hl with | [_], _ => rfl) (fun _ _ _ _ _ _ us hl => match us, hl with | [_], _ => rfl) fun f cdv A fs s H E hq hr hgd => ?_
  have nd := sc_check_map.nd
  exact ss_one (s_if (d_tnot (d_tst (d_call (ok_is_map T) (hr.mono (by decide)) hgd (a_cons (d_var 0) (a_nil))))) (ss_one (s_never)) (ss_nil))
theorem ok_joined (T : Tx K mg) : Ok P w K mg base 5 "joined" ["chart", "other"] sm_joined := by
  refine ok_def (N := ["chart", "other", "numbers", "number", "a", "b", "c", "d", "found"]) T.d_joined sc_joined (fun _ _ _ _ _ _ us hl => match us, hl with | [_, _], _ => rfl) (fun _ _ _ _ _ _ us hl => match us, hl with | [_, _], _ => rfl) fun f cdv A fs s H E hq hr hgd => ?_
  have nd := sc_joined.nd
  exact ss_cons (s_set 2 nd (d_if (t_feq hr (f_ix (d_var 0) (d_int)) (d_int)) (g_tolist T.z_list (a_cons (g_slice (d_var 1) (p_some (d_int)) p_none) (a_nil))) (d_lc [("number", 3)] rfl nd (g_seq (g_slice (d_var 1) (p_some (d_int)) p_none)) (cg_name) (fun _ _ _ _ _ => pg_name (i := 3) nd rfl (by first | exact Or.inl rfl | exact Or.inr rfl)) (fun _ _ _ _ _ => ts_nil) (fun _ _ _ _ _ => d_call (ok_turned_over T) (hr.mono (by decide)) hgd (a_cons (d_var 3) (a_nil))) (ok := blkOk_by (N := ["chart", "other", "numbers", "number", "a", "b", "c", "d", "found"]) (sc := defScope st_joined) (by decide +kernel))))) (ss_cons (s_asg (g_slice (d_var 0) (p_some (d_int)) p_none) (g_unp rfl (gs_cons (g_name 4 nd) (gs_cons (g_name 5 nd) (gs_cons (g_name 6 nd) (gs_cons (g_name 7 nd) (gs_nil))))))) (ss_cons (s_set 8 nd (d_tup (a_cons (d_call (ok_plus T) (hr.mono (by decide)) hgd (a_cons (d_call (ok_times T) (hr.mono (by decide)) hgd (a_cons (d_var 4) (a_cons (f_ix (d_var 2) (d_int)) (a_nil)))) (a_cons (d_call (ok_times T) (hr.mono (by decide)) hgd (a_cons (d_var 5) (a_cons (f_ix (d_var 2) (d_int)) (a_nil)))) (a_nil)))) (a_cons (d_call (ok_plus T) (hr.mono (by decide)) hgd (a_cons (d_call (ok_times T) (hr.mono (by decide)) hgd (a_cons (d_var 4) (a_cons (f_ix (d_var 2) (d_int)) (a_nil)))) (a_cons (d_call (ok_times T) (hr.mono (by decide)) hgd (a_cons (d_var 5) (a_cons (f_ix (d_var 2) (d_int)) (a_nil)))) (a_nil)))) (a_cons (d_call (ok_plus T) (hr.mono (by decide)) hgd (a_cons (d_call (ok_times T) (hr.mono (by decide)) hgd (a_cons (d_var 6) (a_cons (f_ix (d_var 2) (d_int)) (a_nil)))) (a_cons (d_call (ok_times T) (hr.mono (by decide)) hgd (a_cons (d_var 7) (a_cons (f_ix (d_var 2) (d_int)) (a_nil)))) (a_nil)))) (a_cons (d_call (ok_plus T) (hr.mono (by decide)) hgd (a_cons (d_call (ok_times T) (hr.mono (by decide)) hgd (a_cons (d_var 6) (a_cons (f_ix (d_var 2) (d_int)) (a_nil)))) (a_cons (d_call (ok_times T) (hr.mono (by decide)) hgd (a_cons (d_var 7) (a_cons (f_ix (d_var 2) (d_int)) (a_nil)))) (a_nil)))) (a_nil))))))) (ss_one (s_ret (d_call (ok_form_of T) (hr.mono (by decide)) hgd (a_cons (f_mod (f_add (f_ix (d_var 0) (d_int)) (f_ix (d_var 1) (d_int))) (d_int)) (a_cons (d_var 8) (a_nil))))))))
theorem ok_trace (T : Tx K mg) : Ok P w K mg base 2 "trace" ["chart"] sm_trace := by
  refine ok_def (N := ["chart"]) T.d_trace sc_trace (fun _ _ _ _ _ _ us hl => match us, hl with | [_], _ => rfl) (fun _ _ _ _ _ _ us hl => match us, hl with | [_], _ => rfl) fun f cdv A fs s H E hq hr hgd => ?_
  have nd := sc_trace.nd
  exact ss_one (s_ret (d_call (ok_plus T) (hr.mono (by decide)) hgd (a_cons (f_ix (d_var 0) (d_int)) (a_cons (f_ix (d_var 0) (d_int)) (a_nil)))))
theorem ok_trace_place (T : Tx K mg) : Ok P w K mg base 4 "trace_place" ["chart"] sm_trace_place := by
  refine ok_def (N := ["chart"]) T.d_trace_place sc_trace_place (fun _ _ _ _ _ _ us hl => match us, hl with | [_], _ => rfl) (fun _ _ _ _ _ _ us hl => match us, hl with | [_], _ => rfl) fun f cdv A fs s H E hq hr hgd => ?_
  have nd := sc_trace_place.nd
  exact ss_one (s_ret (d_call (ok_quotient_place T) (hr.mono (by decide)) hgd (a_cons (d_call (ok_times T) (hr.mono (by decide)) hgd (a_cons (d_call (ok_trace T) (hr.mono (by decide)) hgd (a_cons (d_var 0) (a_nil))) (a_cons (d_call (ok_trace T) (hr.mono (by decide)) hgd (a_cons (d_var 0) (a_nil))) (a_nil)))) (a_cons (d_call (ok_determinant T) (hr.mono (by decide)) hgd (a_cons (d_var 0) (a_nil))) (a_nil)))))
theorem ok_gap (T : Tx K mg) : Ok P w K mg base 3 "gap" ["one", "other"] sm_gap := by
  refine ok_def (N := ["one", "other", "p", "s", "r", "u", "v", "w"]) T.d_gap sc_gap (fun _ _ _ _ _ _ us hl => match us, hl with | [_, _], _ => rfl) (fun _ _ _ _ _ _ us hl => match us, hl with | [_, _], _ => rfl) fun f cdv A fs s H E hq hr hgd => ?_
  have nd := sc_gap.nd
  exact ss_cons (s_asg (d_tup (a_cons (d_var 0) (a_cons (d_var 1) (a_nil)))) (g_unp rfl (gs_cons (g_unp rfl (gs_cons (g_name 2 nd) (gs_cons (g_name 3 nd) (gs_cons (g_name 4 nd) (gs_nil))))) (gs_cons (g_unp rfl (gs_cons (g_name 5 nd) (gs_cons (g_name 6 nd) (gs_cons (g_name 7 nd) (gs_nil))))) (gs_nil))))) (ss_one (s_ret (d_call (ok_lowest T) (hr.mono (by decide)) hgd (a_cons (d_tup (a_cons (f_sub (f_mul (d_var 2) (d_var 7)) (f_mul (d_var 5) (d_var 4))) (a_cons (f_sub (f_mul (d_var 3) (d_var 7)) (f_mul (d_var 6) (d_var 4))) (a_cons (f_mul (d_var 4) (d_var 7)) (a_nil))))) (a_nil)))))
theorem ok_flipped (T : Tx K mg) : Ok P w K mg base 1 "flipped" ["one"] sm_flipped := by
  refine ok_def (N := ["one"]) T.d_flipped sc_flipped (fun _ _ _ _ _ _ us hl => match us, hl with | [_], _ => rfl) (fun _ _ _ _ _ _ us hl => match us, hl with | [_], _ => rfl) fun f cdv A fs s H E hq hr hgd => ?_
  have nd := sc_flipped.nd
  exact ss_one (s_ret (d_tup (a_cons (f_ix (d_var 0) (d_int)) (a_cons (d_neg (f_ix (d_var 0) (d_int))) (a_cons (f_ix (d_var 0) (d_int)) (a_nil))))))
theorem ok_size_of (T : Tx K mg) : Ok P w K mg base 3 "size_of" ["one"] sm_size_of := by
  refine ok_def (N := ["one"]) T.d_size_of sc_size_of (fun _ _ _ _ _ _ us hl => match us, hl with | [_], _ => rfl) (fun _ _ _ _ _ _ us hl => match us, hl with | [_], _ => rfl) fun f cdv A fs s H E hq hr hgd => ?_
  have nd := sc_size_of.nd
  exact ss_one (s_ret (d_call (ok_lowest T) (hr.mono (by decide)) hgd (a_cons (d_tup (a_cons (d_call (ok_square_size T) (hr.mono (by decide)) hgd (a_cons (g_slice (d_var 0) p_none (p_some (d_int))) (a_nil))) (a_cons (d_int) (a_cons (f_mul (f_ix (d_var 0) (d_int)) (f_ix (d_var 0) (d_int))) (a_nil))))) (a_nil))))
theorem ok_is_real (T : Tx K mg) : Ok P w K mg base 1 "is_real" ["one"] sm_is_real := by
  refine ok_def (N := ["one"]) T.d_is_real sc_is_real (fun _ _ _ _ _ _ us hl => match us, hl with | [_], _ => rfl) (fun _ _ _ _ _ _ us hl => match us, hl with | [_], _ => rfl) fun f cdv A fs s H E hq hr hgd => ?_
  have nd := sc_is_real.nd
  exact ss_one (s_ret (d_feq hr (f_ix (d_var 0) (d_int)) (d_int)))
theorem ok_check_kinds (T : Tx K mg) : Ok P w K mg base 1 "check_kinds" ["value"] sm_check_kinds := by
  refine ok_def (N := ["value", "index", "word"]) T.d_check_kinds sc_check_kinds (fun _ _ _ _ _ _ us hl => match us, hl with | [_], _ => rfl) (fun _ _ _ _ _ _ us hl => match us, hl with | [_], _ => rfl) fun f cdv A fs s H E hq hr hgd => ?_
  have nd := sc_check_kinds.nd
  exact ss_cons (s_if (d_tnot (d_tst (d_isi .tuple (d_var 0) T.z_isinstance T.z_tuple))) (ss_one (s_never)) (ss_nil)) (ss_one (s_forI PassesOwn.never rfl (i_enum T.z_enumerate (d_var 0)) (g_unp rfl (gs_cons (g_name 1 nd) (gs_cons (g_name 2 nd) (gs_nil)))) (ss_one (s_if ((d_wor (d_tnot (d_tst (d_isi .str (d_var 2) T.z_isinstance T.z_str))) (d_wor (t_fniS hr (d_var 2) (d_gc T.c_WORDS)) (d_w1o (t_finS hr (d_var 2) (g_slice (d_var 0) p_none (p_some (d_var 1))))))).pt) (ss_one (s_never)) (ss_nil)))))
theorem ok_is_true_map (T : Tx K mg) : Ok P w K mg base 3 "is_true_map" ["chart"] sm_is_true_map := by
  refine ok_def (N := ["chart", "number"]) T.d_is_true_map sc_is_true_map (fun _ _ _ _ _ _ us hl => match us, hl with | [_], _ => rfl) (fun _ _ _ _ _ _ us hl => match us, hl with | [_], _ => rfl) fun f cdv A fs s H E hq hr hgd => ?_
  have nd := sc_is_true_map.nd
  exact ss_cons (s_set 1 nd (d_call (ok_square_size T) (hr.mono (by decide)) hgd (a_cons (d_call (ok_determinant T) (hr.mono (by decide)) hgd (a_cons (d_var 0) (a_nil))) (a_nil)))) (ss_one (s_ret (d_feq hr (f_mul (g_isqrt T.b_isqrt (a_cons (d_var 1) (a_nil))) (g_isqrt T.b_isqrt (a_cons (d_var 1) (a_nil)))) (d_var 1))))
theorem ok_factor_in (T : Tx K mg) : Ok P w K mg base 4 "factor_in" ["chart"] sm_factor_in := by
  refine ok_def (N := ["chart"]) T.d_factor_in sc_factor_in (fun _ _ _ _ _ _ us hl => match us, hl with | [_], _ => rfl) (fun _ _ _ _ _ _ us hl => match us, hl with | [_], _ => rfl) fun f cdv A fs s H E hq hr hgd => ?_
  have nd := sc_factor_in.nd
  exact ss_one (s_ret (d_call (ok_quotient_place T) (hr.mono (by decide)) hgd (a_cons (f_ix (d_var 0) (d_int)) (a_cons (f_ix (d_var 0) (d_int)) (a_nil)))))
theorem ok_is_line_mirror (T : Tx K mg) : Ok P w K mg base 6 "is_line_mirror" ["chart"] sm_is_line_mirror := by
  refine ok_def (N := ["chart"]) T.d_is_line_mirror sc_is_line_mirror (fun _ _ _ _ _ _ us hl => match us, hl with | [_], _ => rfl) (fun _ _ _ _ _ _ us hl => match us, hl with | [_], _ => rfl) fun f cdv A fs s H E hq hr hgd => ?_
  have nd := sc_is_line_mirror.nd
  exact ss_one (s_ret (d_feq hr (d_call (ok_joined T) (hr.mono (by decide)) hgd (a_cons (d_var 0) (a_cons (d_var 0) (a_nil)))) (d_gc T.c_STAYS)))
theorem ok_fewest_plain_kept (T : Tx K mg) : Ok P w K mg base 5 "fewest_plain_kept" ["chart", "kinds"] sm_fewest_plain_kept := by
  refine ok_def (N := ["chart", "kinds", "factor"]) T.d_fewest_plain_kept sc_fewest_plain_kept (fun _ _ _ _ _ _ us hl => match us, hl with | [_, _], _ => rfl) (fun _ _ _ _ _ _ us hl => match us, hl with | [_, _], _ => rfl) fun f cdv A fs s H E hq hr hgd => ?_
  have nd := sc_fewest_plain_kept.nd
  exact ss_cons (s_set 2 nd (d_call (ok_factor_in T) (hr.mono (by decide)) hgd (a_cons (d_var 0) (a_nil)))) (ss_cons (s_if (t_feq hr (d_var 2) (d_gc T.c_UNITY)) (ss_cons (s_if (t_finS hr (d_str) (d_var 1)) (ss_one (s_ret (d_int))) (ss_nil)) (ss_cons (s_if ((d_wor (t_finS hr (d_str) (d_var 1)) (d_w1o (t_finS hr (d_str) (d_var 1)))).pt) (ss_one (s_ret (d_int))) (ss_nil)) (ss_one (s_ret (d_if (t_finS hr (d_str) (d_var 1)) (d_int) (d_non)))))) (ss_nil)) (ss_cons (s_if (t_finS hr (d_str) (d_var 1)) (ss_one (s_ret (d_int))) (ss_nil)) (ss_cons (s_if ((d_wor ((d_wand (t_finS hr (d_str) (d_var 1)) (d_w1a (d_tst (d_call (ok_is_real T) (hr.mono (by decide)) hgd (a_cons (d_var 2) (a_nil)))))).pt) (d_w1o ((d_wand (t_finS hr (d_str) (d_var 1)) (d_w1a (t_feq hr (d_call (ok_size_of T) (hr.mono (by decide)) hgd (a_cons (d_var 2) (a_nil))) (d_gc T.c_UNITY)))).pt))).pt) (ss_one (s_ret (d_int))) (ss_nil)) (ss_one (s_ret (d_if ((d_wand (t_finS hr (d_str) (d_var 1)) (d_w1a (d_tst (d_call (ok_is_true_map T) (hr.mono (by decide)) hgd (a_cons (d_var 0) (a_nil)))))).pt) (d_int) (d_non)))))))
theorem ok_fewest_plain_moved (T : Tx K mg) : Ok P w K mg base 5 "fewest_plain_moved" ["chart", "kinds"] sm_fewest_plain_moved := by
  refine ok_def (N := ["chart", "kinds"]) T.d_fewest_plain_moved sc_fewest_plain_moved (fun _ _ _ _ _ _ us hl => match us, hl with | [_, _], _ => rfl) (fun _ _ _ _ _ _ us hl => match us, hl with | [_, _], _ => rfl) fun f cdv A fs s H E hq hr hgd => ?_
  have nd := sc_fewest_plain_moved.nd
  exact ss_cons (s_if ((d_wand (d_tst (d_call (ok_is_true_map T) (hr.mono (by decide)) hgd (a_cons (d_var 0) (a_nil)))) (d_w1a (d_tst (d_call (ok_is_real T) (hr.mono (by decide)) hgd (a_cons (d_call (ok_trace_place T) (hr.mono (by decide)) hgd (a_cons (d_var 0) (a_nil))) (a_nil)))))).pt) (ss_one (s_ret (d_int))) (ss_nil)) (ss_cons (s_if (t_finS hr (d_str) (d_var 1)) (ss_one (s_ret (d_int))) (ss_nil)) (ss_cons (s_if (d_tnot (d_tst (d_call (ok_is_true_map T) (hr.mono (by decide)) hgd (a_cons (d_var 0) (a_nil))))) (ss_one (s_ret (d_non))) (ss_nil)) (ss_one (s_ret (d_if (t_finS hr (d_str) (d_var 1)) (d_int) (d_int))))))
theorem ok_fewest_mirrored_kept (T : Tx K mg) : Ok P w K mg base 7 "fewest_mirrored_kept" ["chart", "kinds"] sm_fewest_mirrored_kept := by
  refine ok_def (N := ["chart", "kinds"]) T.d_fewest_mirrored_kept sc_fewest_mirrored_kept (fun _ _ _ _ _ _ us hl => match us, hl with | [_, _], _ => rfl) (fun _ _ _ _ _ _ us hl => match us, hl with | [_, _], _ => rfl) fun f cdv A fs s H E hq hr hgd => ?_
  have nd := sc_fewest_mirrored_kept.nd
  exact ss_cons (s_if (t_fniS hr (d_str) (d_var 1)) (ss_cons (s_if (t_fniS hr (d_str) (d_var 1)) (ss_one (s_ret (d_non))) (ss_nil)) (ss_cons (s_if (d_tst (d_call (ok_is_true_map T) (hr.mono (by decide)) hgd (a_cons (d_var 0) (a_nil)))) (ss_one (s_ret (d_int))) (ss_nil)) (ss_one (s_ret (d_if (t_finS hr (d_str) (d_var 1)) (d_int) (d_non)))))) (ss_nil)) (ss_cons (s_if (d_tst (d_call (ok_is_line_mirror T) (hr.mono (by decide)) hgd (a_cons (d_var 0) (a_nil)))) (ss_one (s_ret (d_int))) (ss_nil)) (ss_cons (s_if (t_finS hr (d_str) (d_var 1)) (ss_one (s_ret (d_int))) (ss_nil)) (ss_cons (s_if (t_feq hr (d_call (ok_size_of T) (hr.mono (by decide)) hgd (a_cons (d_call (ok_factor_in T) (hr.mono (by decide)) hgd (a_cons (d_var 0) (a_nil))) (a_nil))) (d_gc T.c_UNITY)) (ss_one (s_ret (d_if (t_finS hr (d_str) (d_var 1)) (d_int) (d_int)))) (ss_nil)) (ss_one (s_ret (d_if ((d_wand (t_finS hr (d_str) (d_var 1)) (d_w1a (d_tst (d_call (ok_is_true_map T) (hr.mono (by decide)) hgd (a_cons (d_var 0) (a_nil)))))).pt) (d_int) (d_non)))))))
theorem ok_Parts (T : Tx K mg) : OkM P w K mg base 4 "Parts" 1 sm_Parts := by
  refine ok_init (N := ["self", "chart", "is_mirrored", "a", "b", "c", "d", "pole"]) T.mk_Parts sc_Parts rfl (fun _ _ _ _ _ _ us hl => match us, hl with | [_, _], _ => rfl) fun f cdv A fs s H E hr hgd => ?_
  have nd := sc_Parts.nd
  exact ss_cons (s_asg (d_var 1) (g_unp rfl (gs_cons (g_name 2 nd) (gs_cons (g_name 3 nd) (gs_cons (g_name 4 nd) (gs_cons (g_name 5 nd) (gs_cons (g_name 6 nd) (gs_nil)))))))) (ss_cons (s_set 7 nd (d_call (ok_quotient_place T) (hr.mono (by decide)) hgd (a_cons (d_call (ok_scaled T) (hr.mono (by decide)) hgd (a_cons (d_var 6) (a_cons (d_neg (d_int)) (a_nil)))) (a_cons (d_var 5) (a_nil))))) (ss_cons (s_me (n := 0) T.mk_Parts (d_call (ok_quotient_place T) (hr.mono (by decide)) hgd (a_cons (d_var 3) (a_cons (d_var 5) (a_nil)))) rfl) (ss_cons (s_me (n := 1) T.mk_Parts (d_if (t_feq hr (d_var 2) (d_int)) (d_call (ok_flipped T) (hr.mono (by decide)) hgd (a_cons (d_var 7) (a_nil))) (d_var 7)) rfl) (ss_cons (s_me (n := 2) T.mk_Parts (d_call (ok_quotient_place T) (hr.mono (by decide)) hgd (a_cons (d_call (ok_minus T) (hr.mono (by decide)) hgd (a_cons (d_call (ok_times T) (hr.mono (by decide)) hgd (a_cons (d_var 4) (a_cons (d_var 5) (a_nil)))) (a_cons (d_call (ok_times T) (hr.mono (by decide)) hgd (a_cons (d_var 3) (a_cons (d_var 6) (a_nil)))) (a_nil)))) (a_cons (d_call (ok_times T) (hr.mono (by decide)) hgd (a_cons (d_var 5) (a_cons (d_var 5) (a_nil)))) (a_nil)))) rfl) (ss_one (s_me (n := 3) T.mk_Parts (d_call (ok_gap T) (hr.mono (by decide)) hgd (a_cons (d_me (n := 0) T.mk_Parts rfl) (a_cons (d_me (n := 1) T.mk_Parts rfl) (a_nil)))) rfl))))))
theorem ok_fewest_mirrored_moved (T : Tx K mg) : Ok P w K mg base 6 "fewest_mirrored_moved" ["chart", "kinds"] sm_fewest_mirrored_moved := by
  refine ok_def (N := ["chart", "kinds", "parts"]) T.d_fewest_mirrored_moved sc_fewest_mirrored_moved (fun _ _ _ _ _ _ us hl => match us, hl with | [_, _], _ => rfl) (fun _ _ _ _ _ _ us hl => match us, hl with | [_, _], _ => rfl) fun f cdv A fs s H E hq hr hgd => ?_
  have nd := sc_fewest_mirrored_moved.nd
  exact ss_cons (s_set 2 nd (d_make (ok_Parts T) (hr.mono (by decide)) hgd (a_cons (d_var 0) (a_nil)))) (ss_cons (s_if ((d_wand (t_feq hr (d_fld (n := 0) T.mk_Parts (d_var 2) rfl) (d_fld (n := 1) T.mk_Parts (d_var 2) rfl)) (d_w1a (d_tst (d_call (ok_is_real T) (hr.mono (by decide)) hgd (a_cons (d_fld (n := 2) T.mk_Parts (d_var 2) rfl) (a_nil)))))).pt) (ss_one (s_ret (d_int))) (ss_nil)) (ss_cons (s_if ((d_wor (t_finS hr (d_str) (d_var 1)) (d_w1o ((d_wand (t_finS hr (d_str) (d_var 1)) (d_w1a (d_tst (d_call (ok_is_real T) (hr.mono (by decide)) hgd (a_cons (d_fld (n := 2) T.mk_Parts (d_var 2) rfl) (a_nil)))))).pt))).pt) (ss_one (s_ret (d_int))) (ss_nil)) (ss_one (s_ret (d_if (d_tst (d_call (ok_is_true_map T) (hr.mono (by decide)) hgd (a_cons (d_var 0) (a_nil)))) (d_int) (d_non))))))
theorem ok_fewest_of (T : Tx K mg) : Ok P w K mg base 8 "fewest_of" ["chart", "kinds"] sm_fewest_of := by
  refine ok_def (N := ["chart", "kinds"]) T.d_fewest_of sc_fewest_of (fun _ _ _ _ _ _ us hl => match us, hl with | [_, _], _ => rfl) (fun _ _ _ _ _ _ us hl => match us, hl with | [_, _], _ => rfl) fun f cdv A fs s H E hq hr hgd => ?_
  have nd := sc_fewest_of.nd
  exact ss_cons (s_if (t_feq hr (d_var 0) (d_gc T.c_STAYS)) (ss_one (s_ret (d_int))) (ss_nil)) (ss_cons (s_if (t_feq hr (f_ix (d_var 0) (d_int)) (d_gc T.c_ZERO)) (ss_one (s_ret (d_if (t_feq hr (f_ix (d_var 0) (d_int)) (d_int)) (d_call (ok_fewest_plain_kept T) (hr.mono (by decide)) hgd (a_cons (d_var 0) (a_cons (d_var 1) (a_nil)))) (d_call (ok_fewest_mirrored_kept T) (hr.mono (by decide)) hgd (a_cons (d_var 0) (a_cons (d_var 1) (a_nil))))))) (ss_nil)) (ss_cons (s_if (t_fniS hr (d_str) (d_var 1)) (ss_one (s_ret (d_non))) (ss_nil)) (ss_one (s_ret (d_if (t_feq hr (f_ix (d_var 0) (d_int)) (d_int)) (d_call (ok_fewest_plain_moved T) (hr.mono (by decide)) hgd (a_cons (d_var 0) (a_cons (d_var 1) (a_nil)))) (d_call (ok_fewest_mirrored_moved T) (hr.mono (by decide)) hgd (a_cons (d_var 0) (a_cons (d_var 1) (a_nil)))))))))
theorem ok_fewest_cells (T : Tx K mg) : Ok P w K mg base 9 "fewest_cells" ["chart", "kinds"] sm_fewest_cells := by
  refine ok_def (N := ["chart", "kinds"]) T.d_fewest_cells sc_fewest_cells (fun _ _ _ _ _ _ us hl => match us, hl with | [_, _], _ => rfl) (fun _ _ _ _ _ _ us hl => match us, hl with | [_, _], _ => rfl) fun f cdv A fs s H E hq hr hgd => ?_
  have nd := sc_fewest_cells.nd
  exact ss_cons (s_expr (d_call (ok_check_map T) (hr.mono (by decide)) hgd (a_cons (d_var 0) (a_nil)))) (ss_cons (s_expr (d_call (ok_check_kinds T) (hr.mono (by decide)) hgd (a_cons (d_var 1) (a_nil)))) (ss_one (s_ret (d_call (ok_fewest_of T) (hr.mono (by decide)) hgd (a_cons (d_var 0) (a_cons (d_var 1) (a_nil)))))))
theorem ok__law_spring (T : Tx K mg) : OkO P w K mg base 1 "_law_spring" ["_law_script", "_law_turn"] sm__law_spring := by
  refine ok_defO (N := ["_law_script", "_law_turn", "_law_own", "_law_stirred", "_law_each"]) T.d__law_spring sc__law_spring (fun _ _ _ _ _ _ us hl => match us, hl with | [_, _], _ => rfl) fun f cdv A fs s H E hq hr hgd => ?_
  have nd := sc__law_spring.nd
  exact so_cons (s_set 2 nd (d_if (t_flt (d_var 1) (g_len T.z_len (a_cons (d_var 0) (a_nil)))) (g_toint T.z_int (a_cons (f_ix (d_var 0) (d_var 1)) (a_nil))) (f_add (f_add (f_mul (d_int) (d_var 1)) (d_int)) (f_mod (g_toint T.z_int (a_cons (g_sum rfl T.z_sum (a_cons (g_slice (d_var 0) p_none (p_some (d_int))) (a_nil))) (a_nil))) (d_int))))) (so_cons (s_set 3 nd (f_add (d_int) (f_mul (d_int) (d_var 1)))) (so_cons (s_forI PassesOwn.never rfl (g_seq (f_add (g_slice (d_var 0) p_none (p_some (d_int))) (d_lst (a_cons (d_var 2) (a_nil))))) (g_name 4 nd) (ss_one (s_set 3 nd (f_mod (g_toint T.z_int (a_cons (f_add (f_add (f_mul (d_var 3) (d_int)) (f_mod (g_toint T.z_int (a_cons (d_var 4) (a_nil))) (d_int))) (d_int)) (a_nil))) (d_int))))) (so_ret (a_cons (d_if ((d_wor (t_flt (d_var 2) (d_int)) (d_w1o (t_fge (d_var 2) (f_pow (d_int) (d_int))))).pt) (g_abs T.z_abs (a_cons (d_var 2) (a_nil))) (d_int)) (a_cons (d_var 3) (a_cons (d_int) (a_nil)))))))
theorem ok__law_draw (T : Tx K mg) : Ok P w K mg base 1 "_law_draw" ["_law_spring_here", "_law_top"] sm__law_draw := by
  refine ok_def (N := ["_law_spring_here", "_law_top", "_law_digit", "_law_factor"]) T.d__law_draw sc__law_draw (fun _ _ _ _ _ _ us hl => match us, hl with | [_, _], _ => rfl) (fun _ _ _ _ _ _ us hl => match us, hl with | [_, _], _ => rfl) fun f cdv A fs s H E hq hr hgd => ?_
  have nd := sc__law_draw.nd
  exact ss_cons (s_if (t_fgt (d_tix 0 (d_int)) (d_int)) (ss_cons (s_asg (g_divmod T.z_divmod (a_cons (d_tix 0 (d_int)) (a_cons (d_var 1) (a_nil)))) (g_unp rfl (gs_cons (g_tset 0 (d_int)) (gs_cons (g_name 2 nd) (gs_nil))))) (ss_one (s_ret (d_var 2)))) (ss_nil)) (ss_cons (s_asg (f_add (d_tix 0 (d_int)) (d_int)) (g_tset 0 (d_int))) (ss_cons (s_set 3 nd (f_add (d_int) (f_mul (d_int) (g_toint T.z_int (a_cons (d_tix 0 (d_int)) (a_nil)))))) (ss_cons (s_asg (f_mod (g_toint T.z_int (a_cons (f_add (f_add (f_mul (d_tix 0 (d_int)) (d_var 3)) (f_mul (d_int) (d_tix 0 (d_int)))) (d_int)) (a_nil))) (d_int)) (g_tset 0 (d_int))) (ss_one (s_ret (f_mod (g_toint T.z_int (a_cons (f_div (d_tix 0 (d_int)) (d_int)) (a_nil))) (d_var 1)))))))
theorem ok__law_one_of (T : Tx K mg) : Ok P w K mg base 2 "_law_one_of" ["_law_spring_here", "_law_some"] sm__law_one_of := by
  refine ok_def (N := ["_law_spring_here", "_law_some"]) T.d__law_one_of sc__law_one_of (fun _ _ _ _ _ _ us hl => match us, hl with | [_, _], _ => rfl) (fun _ _ _ _ _ _ us hl => match us, hl with | [_, _], _ => rfl) fun f cdv A fs s H E hq hr hgd => ?_
  have nd := sc__law_one_of.nd
  exact ss_one (s_ret (f_ix (d_var 1) (d_call (ok__law_draw T) (hr.mono (by decide)) hgd (a_tank 0 (a_cons (g_len T.z_len (a_cons (d_var 1) (a_nil))) (a_nil))))))
theorem ok__law_about (T : Tx K mg) : Ok P w K mg base 2 "_law_about" ["_law_spring_here", "_law_wide"] sm__law_about := by
  refine ok_def (N := ["_law_spring_here", "_law_wide"]) T.d__law_about sc__law_about (fun _ _ _ _ _ _ us hl => match us, hl with | [_, _], _ => rfl) (fun _ _ _ _ _ _ us hl => match us, hl with | [_, _], _ => rfl) fun f cdv A fs s H E hq hr hgd => ?_
  have nd := sc__law_about.nd
  exact ss_one (s_ret (f_sub (d_call (ok__law_draw T) (hr.mono (by decide)) hgd (a_tank 0 (a_cons (f_add (f_mul (d_int) (d_var 1)) (d_int)) (a_nil)))) (d_var 1)))
theorem ok__law_shuffled (T : Tx K mg) : Ok P w K mg base 2 "_law_shuffled" ["_law_spring_here", "_law_some"] sm__law_shuffled := by
  refine ok_def (N := ["_law_spring_here", "_law_some", "_law_left", "_law_found", "_law_turn"]) T.d__law_shuffled sc__law_shuffled (fun _ _ _ _ _ _ us hl => match us, hl with | [_, _], _ => rfl) (fun _ _ _ _ _ _ us hl => match us, hl with | [_, _], _ => rfl) fun f cdv A fs s H E hq hr hgd => ?_
  have nd := sc__law_shuffled.nd
  exact ss_cons (s_par2V 2 3 rfl nd (v_tolist T.z_list (a_cons (d_var 1) (a_nil))) (v_lst (a_nil))) (ss_cons (s_forI PassesOwn.never rfl (i_range1 T.z_range (a_cons (g_len T.z_len (a_cons (d_var 1) (a_nil))) (a_nil))) (g_name 4 nd) (ss_one (s_popA 3 2 (d_view 2 (d_call (ok__law_draw T) (hr.mono (by decide)) hgd (a_tank 0 (a_cons (g_len T.z_len (a_cons (d_var 2) (a_nil))) (a_nil)))))))) (ss_one (s_frq 3 (s_ret (d_var 3)))))
theorem ok__law_gcd (T : Tx K mg) : Ok P w K mg base 1 "_law_gcd" ["_law_one", "_law_two"] sm__law_gcd := by
  refine ok_def (N := ["_law_one", "_law_two"]) T.d__law_gcd sc__law_gcd (fun _ _ _ _ _ _ us hl => match us, hl with | [_, _], _ => rfl) (fun _ _ _ _ _ _ us hl => match us, hl with | [_, _], _ => rfl) fun f cdv A fs s H E hq hr hgd => ?_
  have nd := sc__law_gcd.nd
  exact ss_cons (s_par 0 1 rfl nd (a_cons (g_abs T.z_abs (a_cons (d_var 0) (a_nil))) (a_cons (g_abs T.z_abs (a_cons (d_var 1) (a_nil))) (a_nil)))) (ss_cons (s_while PassesOwn.never (t_fgt (d_var 1) (d_int)) (ss_one (s_par 0 1 rfl nd (a_cons (d_var 1) (a_cons (f_mod (g_toint T.z_int (a_cons (d_var 0) (a_nil))) (d_var 1)) (a_nil)))))) (ss_one (s_ret (d_var 0))))
theorem ok__law_thin (T : Tx K mg) : Ok P w K mg base 2 "_law_thin" ["_law_some"] sm__law_thin := by
  refine ok_def (N := ["_law_some", "_law_deep", "_law_each"]) T.d__law_thin sc__law_thin (fun _ _ _ _ _ _ us hl => match us, hl with | [_], _ => rfl) (fun _ _ _ _ _ _ us hl => match us, hl with | [_], _ => rfl) fun f cdv A fs s H E hq hr hgd => ?_
  have nd := sc__law_thin.nd
  exact ss_cons (s_set 1 nd (d_int)) (ss_cons (s_forI PassesOwn.never rfl (g_seq (d_var 0)) (g_name 2 nd) (ss_one (s_set 1 nd (d_call (ok__law_gcd T) (hr.mono (by decide)) hgd (a_cons (d_var 1) (a_cons (d_var 2) (a_nil))))))) (ss_one (s_ret (d_if (t_fgt (d_var 1) (d_int)) (g_totup T.z_tuple (a_cons (d_lc [("_law_each", 2)] rfl nd (g_seq (d_var 0)) (cg_name) (fun _ _ _ _ _ => pg_name (i := 2) nd rfl (by first | exact Or.inl rfl | exact Or.inr rfl)) (fun _ _ _ _ _ => ts_nil) (fun _ _ _ _ _ => f_div (d_var 2) (d_var 1)) (ok := blkOk_by (N := ["_law_some", "_law_deep", "_law_each"]) (sc := defScope st__law_thin) (by decide +kernel))) (a_nil))) (g_totup T.z_tuple (a_cons (d_var 0) (a_nil)))))))
theorem ok__law_upright (T : Tx K mg) : Ok P w K mg base 1 "_law_upright" ["_law_some"] sm__law_upright := by
  refine ok_def (N := ["_law_some", "_law_each", "_law_k"]) T.d__law_upright sc__law_upright (fun _ _ _ _ _ _ us hl => match us, hl with | [_], _ => rfl) (fun _ _ _ _ _ _ us hl => match us, hl with | [_], _ => rfl) fun f cdv A fs s H E hq hr hgd => ?_
  have nd := sc__law_upright.nd
  exact ss_cons (s_forI PassesOwn.never rfl (g_seq (d_var 0)) (g_name 1 nd) (ss_one (s_if (t_fne hr (d_var 1) (d_int)) (ss_one (s_ret (d_if (t_fgt (d_var 1) (d_int)) (g_totup T.z_tuple (a_cons (d_var 0) (a_nil))) (g_totup T.z_tuple (a_cons (d_lc [("_law_k", 2)] rfl nd (g_seq (d_var 0)) (cg_name) (fun _ _ _ _ _ => pg_name (i := 2) nd rfl (by first | exact Or.inl rfl | exact Or.inr rfl)) (fun _ _ _ _ _ => ts_nil) (fun _ _ _ _ _ => f_sub (d_int) (d_var 2)) (ok := blkOk_by (N := ["_law_some", "_law_each", "_law_k"]) (sc := defScope st__law_upright) (by decide +kernel))) (a_nil)))))) (ss_nil)))) (ss_one (s_ret (g_totup T.z_tuple (a_cons (d_var 0) (a_nil)))))
theorem ok__law_times (T : Tx K mg) : Ok P w K mg base 1 "_law_times" ["_law_one", "_law_two"] sm__law_times := by
  refine ok_def (N := ["_law_one", "_law_two"]) T.d__law_times sc__law_times (fun _ _ _ _ _ _ us hl => match us, hl with | [_, _], _ => rfl) (fun _ _ _ _ _ _ us hl => match us, hl with | [_, _], _ => rfl) fun f cdv A fs s H E hq hr hgd => ?_
  have nd := sc__law_times.nd
  exact ss_one (s_ret (d_tup (a_cons (f_sub (f_mul (f_ix (d_var 0) (d_int)) (f_ix (d_var 1) (d_int))) (f_mul (f_ix (d_var 0) (d_int)) (f_ix (d_var 1) (d_int)))) (a_cons (f_add (f_mul (f_ix (d_var 0) (d_int)) (f_ix (d_var 1) (d_int))) (f_mul (f_ix (d_var 0) (d_int)) (f_ix (d_var 1) (d_int)))) (a_nil)))))
theorem ok__law_plus (T : Tx K mg) : Ok P w K mg base 1 "_law_plus" ["_law_one", "_law_two"] sm__law_plus := by
  refine ok_def (N := ["_law_one", "_law_two"]) T.d__law_plus sc__law_plus (fun _ _ _ _ _ _ us hl => match us, hl with | [_, _], _ => rfl) (fun _ _ _ _ _ _ us hl => match us, hl with | [_, _], _ => rfl) fun f cdv A fs s H E hq hr hgd => ?_
  have nd := sc__law_plus.nd
  exact ss_one (s_ret (d_tup (a_cons (f_add (f_ix (d_var 0) (d_int)) (f_ix (d_var 1) (d_int))) (a_cons (f_add (f_ix (d_var 0) (d_int)) (f_ix (d_var 1) (d_int))) (a_nil)))))
theorem ok__law_minus (T : Tx K mg) : Ok P w K mg base 1 "_law_minus" ["_law_one", "_law_two"] sm__law_minus := by
  refine ok_def (N := ["_law_one", "_law_two"]) T.d__law_minus sc__law_minus (fun _ _ _ _ _ _ us hl => match us, hl with | [_, _], _ => rfl) (fun _ _ _ _ _ _ us hl => match us, hl with | [_, _], _ => rfl) fun f cdv A fs s H E hq hr hgd => ?_
  have nd := sc__law_minus.nd
  exact ss_one (s_ret (d_tup (a_cons (f_sub (f_ix (d_var 0) (d_int)) (f_ix (d_var 1) (d_int))) (a_cons (f_sub (f_ix (d_var 0) (d_int)) (f_ix (d_var 1) (d_int))) (a_nil)))))
theorem ok__law_bar (T : Tx K mg) : Ok P w K mg base 1 "_law_bar" ["_law_one"] sm__law_bar := by
  refine ok_def (N := ["_law_one"]) T.d__law_bar sc__law_bar (fun _ _ _ _ _ _ us hl => match us, hl with | [_], _ => rfl) (fun _ _ _ _ _ _ us hl => match us, hl with | [_], _ => rfl) fun f cdv A fs s H E hq hr hgd => ?_
  have nd := sc__law_bar.nd
  exact ss_one (s_ret (d_tup (a_cons (f_ix (d_var 0) (d_int)) (a_cons (f_sub (d_int) (f_ix (d_var 0) (d_int))) (a_nil)))))
theorem ok__law_norm (T : Tx K mg) : Ok P w K mg base 1 "_law_norm" ["_law_one"] sm__law_norm := by
  refine ok_def (N := ["_law_one"]) T.d__law_norm sc__law_norm (fun _ _ _ _ _ _ us hl => match us, hl with | [_], _ => rfl) (fun _ _ _ _ _ _ us hl => match us, hl with | [_], _ => rfl) fun f cdv A fs s H E hq hr hgd => ?_
  have nd := sc__law_norm.nd
  exact ss_one (s_ret (f_add (f_mul (f_ix (d_var 0) (d_int)) (f_ix (d_var 0) (d_int))) (f_mul (f_ix (d_var 0) (d_int)) (f_ix (d_var 0) (d_int)))))
theorem ok__law_over (T : Tx K mg) : Ok P w K mg base 2 "_law_over" ["_law_one", "_law_two"] sm__law_over := by
  refine ok_def (N := ["_law_one", "_law_two", "_law_top", "_law_deep"]) T.d__law_over sc__law_over (fun _ _ _ _ _ _ us hl => match us, hl with | [_, _], _ => rfl) (fun _ _ _ _ _ _ us hl => match us, hl with | [_, _], _ => rfl) fun f cdv A fs s H E hq hr hgd => ?_
  have nd := sc__law_over.nd
  exact ss_cons (s_par 2 3 rfl nd (a_cons (d_call (ok__law_times T) (hr.mono (by decide)) hgd (a_cons (d_var 0) (a_cons (d_call (ok__law_bar T) (hr.mono (by decide)) hgd (a_cons (d_var 1) (a_nil))) (a_nil)))) (a_cons (d_call (ok__law_norm T) (hr.mono (by decide)) hgd (a_cons (d_var 1) (a_nil))) (a_nil)))) (ss_one (s_ret (d_tup (a_cons (f_div (f_ix (d_var 2) (d_int)) (d_var 3)) (a_cons (f_div (f_ix (d_var 2) (d_int)) (d_var 3)) (a_nil))))))
theorem ok__law_common (T : Tx K mg) : Ok P w K mg base 2 "_law_common" ["_law_one", "_law_two"] sm__law_common := by
  refine ok_def (N := ["_law_one", "_law_two", "_law_turn", "_law_deep", "_law_top", "_law_near"]) T.d__law_common sc__law_common (fun _ _ _ _ _ _ us hl => match us, hl with | [_, _], _ => rfl) (fun _ _ _ _ _ _ us hl => match us, hl with | [_, _], _ => rfl) fun f cdv A fs s H E hq hr hgd => ?_
  have nd := sc__law_common.nd
  exact ss_cons (s_forI PassesOwn.never rfl (i_range1 T.z_range (a_cons (d_int) (a_nil))) (g_name 2 nd) (ss_cons (s_if (t_feq hr (d_var 1) (d_tup (a_cons (d_int) (a_cons (d_int) (a_nil))))) (ss_one (s_break)) (ss_nil)) (ss_cons (s_par 3 4 rfl nd (a_cons (d_call (ok__law_norm T) (hr.mono (by decide)) hgd (a_cons (d_var 1) (a_nil))) (a_cons (d_call (ok__law_times T) (hr.mono (by decide)) hgd (a_cons (d_var 0) (a_cons (d_call (ok__law_bar T) (hr.mono (by decide)) hgd (a_cons (d_var 1) (a_nil))) (a_nil)))) (a_nil)))) (ss_cons (s_set 5 nd (d_tup (a_cons (f_div (f_add (f_mul (d_int) (f_ix (d_var 4) (d_int))) (d_var 3)) (f_mul (d_int) (d_var 3))) (a_cons (f_div (f_add (f_mul (d_int) (f_ix (d_var 4) (d_int))) (d_var 3)) (f_mul (d_int) (d_var 3))) (a_nil))))) (ss_one (s_par 0 1 rfl nd (a_cons (d_var 1) (a_cons (d_call (ok__law_minus T) (hr.mono (by decide)) hgd (a_cons (d_var 0) (a_cons (d_call (ok__law_times T) (hr.mono (by decide)) hgd (a_cons (d_var 5) (a_cons (d_var 1) (a_nil)))) (a_nil)))) (a_nil))))))))) (ss_one (s_ret (d_var 0)))
theorem ok__law_quarter (T : Tx K mg) : Ok P w K mg base 2 "_law_quarter" ["_law_one"] sm__law_quarter := by
  refine ok_def (N := ["_law_one", "_law_turn"]) T.d__law_quarter sc__law_quarter (fun _ _ _ _ _ _ us hl => match us, hl with | [_], _ => rfl) (fun _ _ _ _ _ _ us hl => match us, hl with | [_], _ => rfl) fun f cdv A fs s H E hq hr hgd => ?_
  have nd := sc__law_quarter.nd
  exact ss_cons (s_forI PassesOwn.never rfl (i_range1 T.z_range (a_cons (d_int) (a_nil))) (g_name 1 nd) (ss_cons (s_if ((d_wand (t_fgt (f_ix (d_var 0) (d_int)) (d_int)) (d_w1a (t_fge (f_ix (d_var 0) (d_int)) (d_int)))).pt) (ss_one (s_ret (d_var 0))) (ss_nil)) (ss_one (s_set 0 nd (d_call (ok__law_times T) (hr.mono (by decide)) hgd (a_cons (d_var 0) (a_cons (d_tup (a_cons (d_int) (a_cons (d_int) (a_nil)))) (a_nil)))))))) (ss_one (s_ret (d_var 0)))
theorem ok__law_form (T : Tx K mg) : Ok P w K mg base 3 "_law_form" ["_law_side", "_law_some"] sm__law_form := by
  refine ok_def (N := ["_law_side", "_law_some", "_law_deep", "_law_each", "_law_unit", "_law_one"]) T.d__law_form sc__law_form (fun _ _ _ _ _ _ us hl => match us, hl with | [_, _], _ => rfl) (fun _ _ _ _ _ _ us hl => match us, hl with | [_, _], _ => rfl) fun f cdv A fs s H E hq hr hgd => ?_
  have nd := sc__law_form.nd
  exact ss_cons (s_asg (d_tup (a_cons (d_tup (a_cons (d_int) (a_cons (d_int) (a_nil)))) (a_cons (g_tolist T.z_list (a_cons (d_var 1) (a_nil))) (a_nil)))) (g_unp rfl (gs_cons (g_name 2 nd) (gs_cons (g_name 1 nd) (gs_nil))))) (ss_cons (s_forI PassesOwn.never rfl (g_seq (d_var 1)) (g_name 3 nd) (ss_one (s_set 2 nd (d_call (ok__law_common T) (hr.mono (by decide)) hgd (a_cons (d_var 2) (a_cons (d_var 3) (a_nil))))))) (ss_cons (s_setLc 1 [("_law_each", 3)] rfl nd (g_seq (d_var 1)) (cg_name) (fun _ _ _ _ _ => pg_name (i := 3) nd rfl (by first | exact Or.inl rfl | exact Or.inr rfl)) (fun _ _ _ _ _ => ts_nil) (fun _ _ _ _ _ => d_call (ok__law_over T) (hr.mono (by decide)) hgd (a_cons (d_var 3) (a_cons (d_var 2) (a_nil)))) (ok := blkOk_by (N := ["_law_side", "_law_some", "_law_deep", "_law_each", "_law_unit", "_law_one"]) (sc := defScope st__law_form) (by decide +kernel)) (sw_true rfl rfl rfl (by decide +kernel))) (ss_cons (s_forI PassesOwn.never rfl (g_seq (d_var 1)) (g_name 3 nd) (ss_one (s_if (t_fne hr (d_var 3) (d_tup (a_cons (d_int) (a_cons (d_int) (a_nil))))) (ss_cons (s_set 4 nd (d_call (ok__law_over T) (hr.mono (by decide)) hgd (a_cons (d_call (ok__law_quarter T) (hr.mono (by decide)) hgd (a_cons (d_var 3) (a_nil))) (a_cons (d_var 3) (a_nil))))) (ss_cons (s_setLc 1 [("_law_one", 5)] rfl nd (g_seq (d_var 1)) (cg_name) (fun _ _ _ _ _ => pg_name (i := 5) nd rfl (by first | exact Or.inl rfl | exact Or.inr rfl)) (fun _ _ _ _ _ => ts_nil) (fun _ _ _ _ _ => d_call (ok__law_times T) (hr.mono (by decide)) hgd (a_cons (d_var 5) (a_cons (d_var 4) (a_nil)))) (ok := blkOk_by (N := ["_law_side", "_law_some", "_law_deep", "_law_each", "_law_unit", "_law_one"]) (sc := defScope st__law_form) (by decide +kernel)) (sw_true rfl rfl rfl (by decide +kernel))) (ss_one (s_break)))) (ss_nil)))) (ss_one (s_ret (d_tup (a_cons (d_var 0) (a_cons (f_ix (d_var 1) (d_int)) (a_cons (f_ix (d_var 1) (d_int)) (a_cons (f_ix (d_var 1) (d_int)) (a_cons (f_ix (d_var 1) (d_int)) (a_nil))))))))))))
theorem ok__law_joined (T : Tx K mg) : Ok P w K mg base 4 "_law_joined" ["_law_early", "_law_late"] sm__law_joined := by
  refine ok_def (N := ["_law_early", "_law_late", "_law_one", "_law_each", "_law_two", "_law_some"]) T.d__law_joined sc__law_joined (fun _ _ _ _ _ _ us hl => match us, hl with | [_, _], _ => rfl) (fun _ _ _ _ _ _ us hl => match us, hl with | [_, _], _ => rfl) fun f cdv A fs s H E hq hr hgd => ?_
  have nd := sc__law_joined.nd
  exact ss_cons (s_setLc 2 [("_law_each", 3)] rfl nd (g_seq (g_slice (d_var 0) (p_some (d_int)) p_none)) (cg_name) (fun _ _ _ _ _ => pg_name (i := 3) nd rfl (by first | exact Or.inl rfl | exact Or.inr rfl)) (fun _ _ _ _ _ => ts_nil) (fun _ _ _ _ _ => d_if (t_feq hr (f_ix (d_var 1) (d_int)) (d_int)) (d_call (ok__law_bar T) (hr.mono (by decide)) hgd (a_cons (d_var 3) (a_nil))) (d_var 3)) (ok := blkOk_by (N := ["_law_early", "_law_late", "_law_one", "_law_each", "_law_two", "_law_some"]) (sc := defScope st__law_joined) (by decide +kernel)) (sw_true rfl rfl rfl (by decide +kernel))) (ss_cons (s_set 4 nd (g_slice (d_var 1) (p_some (d_int)) p_none)) (ss_cons (s_set 5 nd (d_lst (a_cons (d_call (ok__law_plus T) (hr.mono (by decide)) hgd (a_cons (d_call (ok__law_times T) (hr.mono (by decide)) hgd (a_cons (f_ix (d_var 4) (d_int)) (a_cons (f_ix (d_var 2) (d_int)) (a_nil)))) (a_cons (d_call (ok__law_times T) (hr.mono (by decide)) hgd (a_cons (f_ix (d_var 4) (d_int)) (a_cons (f_ix (d_var 2) (d_int)) (a_nil)))) (a_nil)))) (a_cons (d_call (ok__law_plus T) (hr.mono (by decide)) hgd (a_cons (d_call (ok__law_times T) (hr.mono (by decide)) hgd (a_cons (f_ix (d_var 4) (d_int)) (a_cons (f_ix (d_var 2) (d_int)) (a_nil)))) (a_cons (d_call (ok__law_times T) (hr.mono (by decide)) hgd (a_cons (f_ix (d_var 4) (d_int)) (a_cons (f_ix (d_var 2) (d_int)) (a_nil)))) (a_nil)))) (a_cons (d_call (ok__law_plus T) (hr.mono (by decide)) hgd (a_cons (d_call (ok__law_times T) (hr.mono (by decide)) hgd (a_cons (f_ix (d_var 4) (d_int)) (a_cons (f_ix (d_var 2) (d_int)) (a_nil)))) (a_cons (d_call (ok__law_times T) (hr.mono (by decide)) hgd (a_cons (f_ix (d_var 4) (d_int)) (a_cons (f_ix (d_var 2) (d_int)) (a_nil)))) (a_nil)))) (a_cons (d_call (ok__law_plus T) (hr.mono (by decide)) hgd (a_cons (d_call (ok__law_times T) (hr.mono (by decide)) hgd (a_cons (f_ix (d_var 4) (d_int)) (a_cons (f_ix (d_var 2) (d_int)) (a_nil)))) (a_cons (d_call (ok__law_times T) (hr.mono (by decide)) hgd (a_cons (f_ix (d_var 4) (d_int)) (a_cons (f_ix (d_var 2) (d_int)) (a_nil)))) (a_nil)))) (a_nil))))))) (ss_one (s_ret (d_call (ok__law_form T) (hr.mono (by decide)) hgd (a_cons (f_mod (g_toint T.z_int (a_cons (f_add (f_ix (d_var 0) (d_int)) (f_ix (d_var 1) (d_int))) (a_nil))) (d_int)) (a_cons (d_var 5) (a_nil))))))))
theorem ok__law_home (T : Tx K mg) : Ok P w K mg base 4 "_law_home" ["_law_map2"] sm__law_home := by
  refine ok_def (N := ["_law_map2", "_law_some", "_law_each"]) T.d__law_home sc__law_home (fun _ _ _ _ _ _ us hl => match us, hl with | [_], _ => rfl) (fun _ _ _ _ _ _ us hl => match us, hl with | [_], _ => rfl) fun f cdv A fs s H E hq hr hgd => ?_
  have nd := sc__law_home.nd
  exact ss_cons (s_set 1 nd (d_lst (a_cons (f_ix (d_var 0) (d_int)) (a_cons (d_call (ok__law_minus T) (hr.mono (by decide)) hgd (a_cons (d_tup (a_cons (d_int) (a_cons (d_int) (a_nil)))) (a_cons (f_ix (d_var 0) (d_int)) (a_nil)))) (a_cons (d_call (ok__law_minus T) (hr.mono (by decide)) hgd (a_cons (d_tup (a_cons (d_int) (a_cons (d_int) (a_nil)))) (a_cons (f_ix (d_var 0) (d_int)) (a_nil)))) (a_cons (f_ix (d_var 0) (d_int)) (a_nil))))))) (ss_one (s_ret (d_call (ok__law_form T) (hr.mono (by decide)) hgd (a_cons (f_ix (d_var 0) (d_int)) (a_cons (d_lc [("_law_each", 2)] rfl nd (g_seq (d_var 1)) (cg_name) (fun _ _ _ _ _ => pg_name (i := 2) nd rfl (by first | exact Or.inl rfl | exact Or.inr rfl)) (fun _ _ _ _ _ => ts_nil) (fun _ _ _ _ _ => d_if (t_feq hr (f_ix (d_var 0) (d_int)) (d_int)) (d_call (ok__law_bar T) (hr.mono (by decide)) hgd (a_cons (d_var 2) (a_nil))) (d_var 2)) (ok := blkOk_by (N := ["_law_map2", "_law_some", "_law_each"]) (sc := defScope st__law_home) (by decide +kernel))) (a_nil))))))
theorem ok__law_still (T : Tx K mg) : Ok P w K mg base 1 "_law_still" [] sm__law_still := by
  refine ok_def (N := []) T.d__law_still sc__law_still (fun _ _ _ _ _ _ us hl => match us, hl with | [], _ => rfl) (fun _ _ _ _ _ _ us hl => match us, hl with | [], _ => rfl) fun f cdv A fs s H E hq hr hgd => ?_
  have nd := sc__law_still.nd
  exact ss_one (s_ret (d_tup (a_cons (d_int) (a_cons (d_tup (a_cons (d_int) (a_cons (d_int) (a_nil)))) (a_cons (d_tup (a_cons (d_int) (a_cons (d_int) (a_nil)))) (a_cons (d_tup (a_cons (d_int) (a_cons (d_int) (a_nil)))) (a_cons (d_tup (a_cons (d_int) (a_cons (d_int) (a_nil)))) (a_nil))))))))
theorem ok__law_cell_map (T : Tx K mg) : Ok P w K mg base 4 "_law_cell_map" ["_law_box_here"] sm__law_cell_map := by
  refine ok_def (N := ["_law_box_here", "_law_p", "_law_s", "_law_r", "_law_top", "_law_low", "_law_n", "_law_m", "_law_rest", "_law_l", "_law_k"]) T.d__law_cell_map sc__law_cell_map (fun _ _ _ _ _ _ us hl => match us, hl with | [_], _ => rfl) (fun _ _ _ _ _ _ us hl => match us, hl with | [_], _ => rfl) fun f cdv A fs s H E hq hr hgd => ?_
  have nd := sc__law_cell_map.nd
  exact ss_cons (s_if (t_feq hr (f_ix (d_var 0) (d_int)) (d_str)) (ss_cons (s_asg (f_ix (d_var 0) (d_int)) (g_unp rfl (gs_cons (g_name 1 nd) (gs_cons (g_name 2 nd) (gs_cons (g_name 3 nd) (gs_nil)))))) (ss_one (s_ret (d_call (ok__law_form T) (hr.mono (by decide)) hgd (a_cons (d_int) (a_cons (d_lst (a_cons (d_tup (a_cons (d_var 3) (a_cons (d_int) (a_nil)))) (a_cons (d_tup (a_cons (d_var 1) (a_cons (d_var 2) (a_nil)))) (a_cons (d_tup (a_cons (d_int) (a_cons (d_int) (a_nil)))) (a_cons (d_tup (a_cons (d_var 3) (a_cons (d_int) (a_nil)))) (a_nil)))))) (a_nil))))))) (ss_nil)) (ss_cons (s_if (t_feq hr (f_ix (d_var 0) (d_int)) (d_str)) (ss_cons (s_asg (f_ix (d_var 0) (d_int)) (g_unp rfl (gs_cons (g_name 1 nd) (gs_cons (g_name 2 nd) (gs_cons (g_name 3 nd) (gs_nil)))))) (ss_cons (s_par 4 5 rfl nd (a_cons (d_tup (a_cons (f_ix (f_ix (d_var 0) (d_int)) (d_int)) (a_cons (f_ix (f_ix (d_var 0) (d_int)) (d_int)) (a_nil)))) (a_cons (f_ix (f_ix (d_var 0) (d_int)) (d_int)) (a_nil)))) (ss_one (s_ret (d_call (ok__law_form T) (hr.mono (by decide)) hgd (a_cons (d_int) (a_cons (d_lst (a_cons (d_call (ok__law_times T) (hr.mono (by decide)) hgd (a_cons (d_var 4) (a_cons (d_tup (a_cons (d_var 3) (a_cons (d_int) (a_nil)))) (a_nil)))) (a_cons (d_call (ok__law_times T) (hr.mono (by decide)) hgd (a_cons (d_tup (a_cons (d_var 1) (a_cons (d_var 2) (a_nil)))) (a_cons (d_call (ok__law_minus T) (hr.mono (by decide)) hgd (a_cons (d_tup (a_cons (d_var 5) (a_cons (d_int) (a_nil)))) (a_cons (d_var 4) (a_nil)))) (a_nil)))) (a_cons (d_tup (a_cons (d_int) (a_cons (d_int) (a_nil)))) (a_cons (d_tup (a_cons (f_mul (d_var 5) (d_var 3)) (a_cons (d_int) (a_nil)))) (a_nil)))))) (a_nil)))))))) (ss_nil)) (ss_cons (s_if (t_feq hr (f_ix (d_var 0) (d_int)) (d_str)) (ss_cons (s_asg (f_ix (d_var 0) (d_int)) (g_unp rfl (gs_cons (g_name 1 nd) (gs_cons (g_name 2 nd) (gs_cons (g_name 3 nd) (gs_nil)))))) (ss_cons (s_asg (f_ix (d_var 0) (d_int)) (g_unp rfl (gs_cons (g_name 6 nd) (gs_cons (g_name 7 nd) (gs_nil))))) (ss_cons (s_set 8 nd (f_sub (f_mul (f_mul (d_var 6) (d_var 3)) (d_var 3)) (f_mul (f_add (f_mul (d_var 1) (d_var 1)) (f_mul (d_var 2) (d_var 2))) (d_var 7)))) (ss_one (s_ret (d_call (ok__law_form T) (hr.mono (by decide)) hgd (a_cons (d_int) (a_cons (d_lst (a_cons (d_tup (a_cons (f_mul (f_mul (d_var 1) (d_var 3)) (d_var 7)) (a_cons (f_mul (f_mul (d_var 2) (d_var 3)) (d_var 7)) (a_nil)))) (a_cons (d_tup (a_cons (d_var 8) (a_cons (d_int) (a_nil)))) (a_cons (d_tup (a_cons (f_mul (f_mul (d_var 3) (d_var 3)) (d_var 7)) (a_cons (d_int) (a_nil)))) (a_cons (d_tup (a_cons (f_sub (d_int) (f_mul (f_mul (d_var 1) (d_var 3)) (d_var 7))) (a_cons (f_mul (f_mul (d_var 2) (d_var 3)) (d_var 7)) (a_nil)))) (a_nil)))))) (a_nil))))))))) (ss_nil)) (ss_cons (s_asg (g_slice (f_ix (d_var 0) (d_int)) (p_some (d_int)) p_none) (g_unp rfl (gs_cons (g_name 9 nd) (gs_cons (g_name 7 nd) (gs_cons (g_name 10 nd) (gs_nil)))))) (ss_one (s_ret (d_call (ok__law_form T) (hr.mono (by decide)) hgd (a_cons (d_int) (a_cons (d_lst (a_cons (d_tup (a_cons (f_sub (d_int) (d_var 9)) (a_cons (f_sub (d_int) (d_var 7)) (a_nil)))) (a_cons (d_tup (a_cons (f_sub (d_int) (f_mul (d_int) (d_var 10))) (a_cons (d_int) (a_nil)))) (a_cons (d_tup (a_cons (d_int) (a_cons (d_int) (a_nil)))) (a_cons (d_tup (a_cons (d_var 9) (a_cons (f_sub (d_int) (d_var 7)) (a_nil)))) (a_nil)))))) (a_nil)))))))))
theorem ok__law_way (T : Tx K mg) : Ok P w K mg base 5 "_law_way" ["_law_boxes_here"] sm__law_way := by
  refine ok_def (N := ["_law_boxes_here", "_law_found", "_law_each"]) T.d__law_way sc__law_way (fun _ _ _ _ _ _ us hl => match us, hl with | [_], _ => rfl) (fun _ _ _ _ _ _ us hl => match us, hl with | [_], _ => rfl) fun f cdv A fs s H E hq hr hgd => ?_
  have nd := sc__law_way.nd
  exact ss_cons (s_set 1 nd (d_call0 (ok__law_still T) (hr.mono (by decide)) hgd)) (ss_cons (s_forI PassesOwn.never rfl (g_seq (d_var 0)) (g_name 2 nd) (ss_one (s_set 1 nd (d_call (ok__law_joined T) (hr.mono (by decide)) hgd (a_cons (d_var 1) (a_cons (d_call (ok__law_cell_map T) (hr.mono (by decide)) hgd (a_cons (d_var 2) (a_nil))) (a_nil))))))) (ss_one (s_ret (d_var 1))))
theorem ok__law_quotient (T : Tx K mg) : Ok P w K mg base 3 "_law_quotient" ["_law_top", "_law_low"] sm__law_quotient := by
  refine ok_def (N := ["_law_top", "_law_low", "_law_over_here"]) T.d__law_quotient sc__law_quotient (fun _ _ _ _ _ _ us hl => match us, hl with | [_, _], _ => rfl) (fun _ _ _ _ _ _ us hl => match us, hl with | [_, _], _ => rfl) fun f cdv A fs s H E hq hr hgd => ?_
  have nd := sc__law_quotient.nd
  exact ss_cons (s_if (t_feq hr (d_var 1) (d_tup (a_cons (d_int) (a_cons (d_int) (a_nil))))) (ss_one (s_ret (d_tup (a_cons (d_int) (a_cons (d_int) (a_cons (d_int) (a_nil))))))) (ss_nil)) (ss_cons (s_set 2 nd (d_call (ok__law_times T) (hr.mono (by decide)) hgd (a_cons (d_var 0) (a_cons (d_call (ok__law_bar T) (hr.mono (by decide)) hgd (a_cons (d_var 1) (a_nil))) (a_nil))))) (ss_one (s_ret (d_call (ok__law_thin T) (hr.mono (by decide)) hgd (a_cons (d_lst (a_cons (f_ix (d_var 2) (d_int)) (a_cons (f_ix (d_var 2) (d_int)) (a_cons (d_call (ok__law_norm T) (hr.mono (by decide)) hgd (a_cons (d_var 1) (a_nil))) (a_nil))))) (a_nil))))))
theorem ok__law_spot (T : Tx K mg) : Ok P w K mg base 3 "_law_spot" ["_law_spring_here", "_law_wide"] sm__law_spot := by
  refine ok_def (N := ["_law_spring_here", "_law_wide", "_law_p", "_law_s"]) T.d__law_spot sc__law_spot (fun _ _ _ _ _ _ us hl => match us, hl with | [_, _], _ => rfl) (fun _ _ _ _ _ _ us hl => match us, hl with | [_, _], _ => rfl) fun f cdv A fs s H E hq hr hgd => ?_
  have nd := sc__law_spot.nd
  exact ss_cons (s_par 2 3 rfl nd (a_cons (d_call (ok__law_about T) (hr.mono (by decide)) hgd (a_tank 0 (a_cons (d_var 1) (a_nil)))) (a_cons (d_call (ok__law_about T) (hr.mono (by decide)) hgd (a_tank 0 (a_cons (d_var 1) (a_nil)))) (a_nil)))) (ss_one (s_ret (d_call (ok__law_thin T) (hr.mono (by decide)) hgd (a_cons (d_lst (a_cons (d_var 2) (a_cons (d_var 3) (a_cons (f_add (d_int) (d_call (ok__law_draw T) (hr.mono (by decide)) hgd (a_tank 0 (a_cons (d_var 1) (a_nil))))) (a_nil))))) (a_nil)))))
theorem ok__law_scale (T : Tx K mg) : Ok P w K mg base 4 "_law_scale" ["_law_spring_here", "_law_wide"] sm__law_scale := by
  refine ok_def (N := ["_law_spring_here", "_law_wide", "_law_way_here", "_law_spot_here"]) T.d__law_scale sc__law_scale (fun _ _ _ _ _ _ us hl => match us, hl with | [_, _], _ => rfl) (fun _ _ _ _ _ _ us hl => match us, hl with | [_, _], _ => rfl) fun f cdv A fs s H E hq hr hgd => ?_
  have nd := sc__law_scale.nd
  exact ss_cons (s_par 2 3 rfl nd (a_cons (d_call (ok__law_draw T) (hr.mono (by decide)) hgd (a_tank 0 (a_cons (d_int) (a_nil)))) (a_cons (d_call (ok__law_spot T) (hr.mono (by decide)) hgd (a_tank 0 (a_cons (d_var 1) (a_nil)))) (a_nil)))) (ss_cons (s_if (t_feq hr (d_var 2) (d_int)) (ss_one (s_set 3 nd (d_call (ok__law_thin T) (hr.mono (by decide)) hgd (a_cons (d_lst (a_cons (d_if (t_fne hr (f_ix (d_var 3) (d_int)) (d_int)) (f_ix (d_var 3) (d_int)) (d_int)) (a_cons (d_int) (a_cons (f_ix (d_var 3) (d_int)) (a_nil))))) (a_nil))))) (ss_nil)) (ss_cons (s_if ((d_wand (t_feq hr (d_var 2) (d_int)) (d_w1a (t_fne hr (g_slice (d_var 3) p_none (p_some (d_int))) (d_tup (a_cons (d_int) (a_cons (d_int) (a_nil))))))).pt) (ss_one (s_set 3 nd (d_call (ok__law_quotient T) (hr.mono (by decide)) hgd (a_cons (d_tup (a_cons (f_ix (d_var 3) (d_int)) (a_cons (f_ix (d_var 3) (d_int)) (a_nil)))) (a_cons (d_tup (a_cons (f_ix (d_var 3) (d_int)) (a_cons (f_sub (d_int) (f_ix (d_var 3) (d_int))) (a_nil)))) (a_nil)))))) (ss_nil)) (ss_cons (s_if (t_finS hr (d_var 3) (d_lst (a_cons (d_tup (a_cons (d_int) (a_cons (d_int) (a_cons (d_int) (a_nil))))) (a_cons (d_tup (a_cons (d_int) (a_cons (d_int) (a_cons (d_int) (a_nil))))) (a_nil))))) (ss_one (s_ret (d_call (ok__law_one_of T) (hr.mono (by decide)) hgd (a_tank 0 (a_cons (d_lst (a_cons (d_tup (a_cons (d_int) (a_cons (d_int) (a_cons (d_int) (a_nil))))) (a_cons (d_tup (a_cons (d_int) (a_cons (d_int) (a_cons (d_int) (a_nil))))) (a_cons (d_tup (a_cons (d_neg (d_int)) (a_cons (d_int) (a_cons (d_int) (a_nil))))) (a_cons (d_tup (a_cons (d_int) (a_cons (d_int) (a_cons (d_int) (a_nil))))) (a_cons (d_tup (a_cons (d_int) (a_cons (d_int) (a_cons (d_int) (a_nil))))) (a_nil))))))) (a_nil)))))) (ss_nil)) (ss_one (s_ret (d_var 3))))))
theorem ok__law_span (T : Tx K mg) : Ok P w K mg base 3 "_law_span" ["_law_spring_here"] sm__law_span := by
  refine ok_def (N := ["_law_spring_here", "_law_one", "_law_two"]) T.d__law_span sc__law_span (fun _ _ _ _ _ _ us hl => match us, hl with | [_], _ => rfl) (fun _ _ _ _ _ _ us hl => match us, hl with | [_], _ => rfl) fun f cdv A fs s H E hq hr hgd => ?_
  have nd := sc__law_span.nd
  exact ss_cons (s_set 1 nd (d_call (ok__law_thin T) (hr.mono (by decide)) hgd (a_cons (d_lst (a_cons (f_add (d_int) (d_call (ok__law_draw T) (hr.mono (by decide)) hgd (a_tank 0 (a_cons (d_int) (a_nil))))) (a_cons (f_add (d_int) (d_call (ok__law_draw T) (hr.mono (by decide)) hgd (a_tank 0 (a_cons (d_int) (a_nil))))) (a_nil)))) (a_nil)))) (ss_cons (s_set 2 nd (d_call (ok__law_thin T) (hr.mono (by decide)) hgd (a_cons (d_lst (a_cons (f_add (d_int) (d_call (ok__law_draw T) (hr.mono (by decide)) hgd (a_tank 0 (a_cons (d_int) (a_nil))))) (a_cons (f_add (d_int) (d_call (ok__law_draw T) (hr.mono (by decide)) hgd (a_tank 0 (a_cons (d_int) (a_nil))))) (a_nil)))) (a_nil)))) (ss_cons (s_if (t_feq hr (d_var 1) (d_var 2)) (ss_one (s_ret (d_tup (a_cons (d_var 1) (a_cons (d_tup (a_cons (f_add (f_ix (d_var 1) (d_int)) (f_ix (d_var 1) (d_int))) (a_cons (f_ix (d_var 1) (d_int)) (a_nil)))) (a_nil)))))) (ss_nil)) (ss_one (s_ret (d_if (t_flt (f_mul (f_ix (d_var 1) (d_int)) (f_ix (d_var 2) (d_int))) (f_mul (f_ix (d_var 2) (d_int)) (f_ix (d_var 1) (d_int)))) (d_tup (a_cons (d_var 1) (a_cons (d_var 2) (a_nil)))) (d_tup (a_cons (d_var 2) (a_cons (d_var 1) (a_nil)))))))))
theorem ok__law_stroke (T : Tx K mg) : Ok P w K mg base 3 "_law_stroke" ["_law_spring_here", "_law_wide"] sm__law_stroke := by
  refine ok_def (N := ["_law_spring_here", "_law_wide", "_law_l", "_law_m"]) T.d__law_stroke sc__law_stroke (fun _ _ _ _ _ _ us hl => match us, hl with | [_, _], _ => rfl) (fun _ _ _ _ _ _ us hl => match us, hl with | [_, _], _ => rfl) fun f cdv A fs s H E hq hr hgd => ?_
  have nd := sc__law_stroke.nd
  exact ss_cons (s_par 2 3 rfl nd (a_cons (d_call (ok__law_about T) (hr.mono (by decide)) hgd (a_tank 0 (a_cons (d_var 1) (a_nil)))) (a_cons (d_call (ok__law_about T) (hr.mono (by decide)) hgd (a_tank 0 (a_cons (d_var 1) (a_nil)))) (a_nil)))) (ss_cons (s_if (t_feq hr (d_tup (a_cons (d_var 2) (a_cons (d_var 3) (a_nil)))) (d_tup (a_cons (d_int) (a_cons (d_int) (a_nil))))) (ss_one (s_asg (d_call (ok__law_one_of T) (hr.mono (by decide)) hgd (a_tank 0 (a_cons (d_lst (a_cons (d_tup (a_cons (d_int) (a_cons (d_int) (a_nil)))) (a_cons (d_tup (a_cons (d_int) (a_cons (d_int) (a_nil)))) (a_cons (d_tup (a_cons (d_int) (a_cons (d_neg (d_int)) (a_nil)))) (a_nil))))) (a_nil)))) (g_unp rfl (gs_cons (g_name 2 nd) (gs_cons (g_name 3 nd) (gs_nil)))))) (ss_nil)) (ss_one (s_ret (d_call (ok__law_upright T) (hr.mono (by decide)) hgd (a_cons (d_call (ok__law_thin T) (hr.mono (by decide)) hgd (a_cons (d_lst (a_cons (d_int) (a_cons (d_var 2) (a_cons (d_var 3) (a_cons (d_call (ok__law_about T) (hr.mono (by decide)) hgd (a_tank 0 (a_cons (d_var 1) (a_nil)))) (a_nil)))))) (a_nil))) (a_nil))))))
theorem ok__law_power (T : Tx K mg) : Ok P w K mg base 3 "_law_power" ["_law_spring_here", "_law_wide"] sm__law_power := by
  refine ok_def (N := ["_law_spring_here", "_law_wide", "_law_n"]) T.d__law_power sc__law_power (fun _ _ _ _ _ _ us hl => match us, hl with | [_, _], _ => rfl) (fun _ _ _ _ _ _ us hl => match us, hl with | [_, _], _ => rfl) fun f cdv A fs s H E hq hr hgd => ?_
  have nd := sc__law_power.nd
  exact ss_cons (s_set 2 nd (d_call (ok__law_about T) (hr.mono (by decide)) hgd (a_tank 0 (a_cons (d_var 1) (a_nil))))) (ss_one (s_ret (d_call (ok__law_thin T) (hr.mono (by decide)) hgd (a_cons (d_lst (a_cons (d_if (t_fne hr (d_var 2) (d_int)) (d_var 2) (f_add (d_int) (d_call (ok__law_draw T) (hr.mono (by decide)) hgd (a_tank 0 (a_cons (d_int) (a_nil)))))) (a_cons (f_add (d_int) (d_call (ok__law_draw T) (hr.mono (by decide)) hgd (a_tank 0 (a_cons (d_var 1) (a_nil))))) (a_nil)))) (a_nil)))))
theorem ok__law_box (T : Tx K mg) : Ok P w K mg base 5 "_law_box" ["_law_spring_here", "_law_word", "_law_wide"] sm__law_box := by
  refine ok_def (N := ["_law_spring_here", "_law_word", "_law_wide", "_law_spot_here"]) T.d__law_box sc__law_box (fun _ _ _ _ _ _ us hl => match us, hl with | [_, _, _], _ => rfl) (fun _ _ _ _ _ _ us hl => match us, hl with | [_, _, _], _ => rfl) fun f cdv A fs s H E hq hr hgd => ?_
  have nd := sc__law_box.nd
  exact ss_cons (s_if (t_feq hr (d_var 1) (d_str)) (ss_cons (s_set 3 nd (d_call (ok__law_spot T) (hr.mono (by decide)) hgd (a_tank 0 (a_cons (d_var 2) (a_nil))))) (ss_one (s_ret (d_tup (a_cons (d_str) (a_cons (d_if (t_fne hr (d_var 3) (d_tup (a_cons (d_int) (a_cons (d_int) (a_cons (d_int) (a_nil)))))) (d_var 3) (d_call (ok__law_one_of T) (hr.mono (by decide)) hgd (a_tank 0 (a_cons (d_lst (a_cons (d_tup (a_cons (d_int) (a_cons (d_int) (a_cons (d_int) (a_nil))))) (a_cons (d_tup (a_cons (d_int) (a_cons (d_neg (d_int)) (a_cons (d_int) (a_nil))))) (a_cons (d_tup (a_cons (d_int) (a_cons (d_int) (a_cons (d_int) (a_nil))))) (a_nil))))) (a_nil))))) (a_nil))))))) (ss_nil)) (ss_cons (s_if (t_feq hr (d_var 1) (d_str)) (ss_one (s_ret (d_tup (a_cons (d_str) (a_cons (d_call (ok__law_stroke T) (hr.mono (by decide)) hgd (a_tank 0 (a_cons (d_var 2) (a_nil)))) (a_nil)))))) (ss_nil)) (ss_cons (s_set 3 nd (d_call (ok__law_spot T) (hr.mono (by decide)) hgd (a_tank 0 (a_cons (d_var 2) (a_nil))))) (ss_cons (s_if (t_feq hr (d_var 1) (d_str)) (ss_one (s_ret (d_tup (a_cons (d_str) (a_cons (d_var 3) (a_cons (d_call (ok__law_scale T) (hr.mono (by decide)) hgd (a_tank 0 (a_cons (d_var 2) (a_nil)))) (a_cons (d_call (ok__law_span T) (hr.mono (by decide)) hgd (a_tank 0 (a_nil))) (a_nil)))))))) (ss_nil)) (ss_one (s_ret (d_tup (a_cons (d_str) (a_cons (d_var 3) (a_cons (d_call (ok__law_power T) (hr.mono (by decide)) hgd (a_tank 0 (a_cons (d_var 2) (a_nil)))) (a_cons (d_call (ok__law_span T) (hr.mono (by decide)) hgd (a_tank 0 (a_nil))) (a_nil)))))))))))
theorem ok__law_boxes (T : Tx K mg) : Ok P w K mg base 6 "_law_boxes" ["_law_spring_here", "_law_words", "_law_most"] sm__law_boxes := by
  refine ok_def (N := ["_law_spring_here", "_law_words", "_law_most", "_law_count", "_law_found", "_law_turn", "_law_wide"]) T.d__law_boxes sc__law_boxes (fun _ _ _ _ _ _ us hl => match us, hl with | [_, _, _], _ => rfl) (fun _ _ _ _ _ _ us hl => match us, hl with | [_, _, _], _ => rfl) fun f cdv A fs s H E hq hr hgd => ?_
  have nd := sc__law_boxes.nd
  exact ss_cons (s_parO 3 4 rfl nd (d_call (ok__law_draw T) (hr.mono (by decide)) hgd (a_tank 0 (a_cons (f_add (d_var 2) (d_int)) (a_nil)))) (a_nil)) (ss_cons (s_forI PassesOwn.never rfl (i_range1 T.z_range (a_cons (d_var 3) (a_nil))) (g_name 5 nd) (ss_cons (s_set 6 nd (d_call (ok__law_one_of T) (hr.mono (by decide)) hgd (a_tank 0 (a_cons (d_if (t_fgt (d_var 3) (d_int)) (d_lst (a_cons (d_int) (a_cons (d_int) (a_cons (d_int) (a_cons (d_int) (a_cons (d_int) (a_cons (d_int) (a_nil)))))))) (d_lst (a_cons (d_int) (a_cons (d_int) (a_cons (d_int) (a_cons (d_int) (a_cons (d_int) (a_cons (d_int) (a_nil))))))))) (a_nil))))) (ss_one (s_app 4 (d_call (ok__law_box T) (hr.mono (by decide)) hgd (a_tank 0 (a_cons (d_call (ok__law_one_of T) (hr.mono (by decide)) hgd (a_tank 0 (a_cons (d_var 1) (a_nil)))) (a_cons (d_var 6) (a_nil))))))))) (ss_one (s_frq 4 (s_ret (g_totup T.z_tuple (a_cons (d_var 4) (a_nil)))))))
theorem ok__law_pair (T : Tx K mg) : Ok P w K mg base 3 "_law_pair" ["_law_spring_here", "_law_wide"] sm__law_pair := by
  refine ok_def (N := ["_law_spring_here", "_law_wide", "_law_one"]) T.d__law_pair sc__law_pair (fun _ _ _ _ _ _ us hl => match us, hl with | [_, _], _ => rfl) (fun _ _ _ _ _ _ us hl => match us, hl with | [_, _], _ => rfl) fun f cdv A fs s H E hq hr hgd => ?_
  have nd := sc__law_pair.nd
  exact ss_cons (s_set 2 nd (d_tup (a_cons (d_call (ok__law_about T) (hr.mono (by decide)) hgd (a_tank 0 (a_cons (d_var 1) (a_nil)))) (a_cons (d_call (ok__law_about T) (hr.mono (by decide)) hgd (a_tank 0 (a_cons (d_var 1) (a_nil)))) (a_nil))))) (ss_one (s_ret (d_if (t_fne hr (d_var 2) (d_tup (a_cons (d_int) (a_cons (d_int) (a_nil))))) (d_var 2) (d_call (ok__law_one_of T) (hr.mono (by decide)) hgd (a_tank 0 (a_cons (d_lst (a_cons (d_tup (a_cons (d_int) (a_cons (d_int) (a_nil)))) (a_cons (d_tup (a_cons (d_int) (a_cons (d_int) (a_nil)))) (a_cons (d_tup (a_cons (d_int) (a_cons (d_neg (d_int)) (a_nil)))) (a_nil))))) (a_nil)))))))
theorem ok__law_some_words (T : Tx K mg) : Ok P w K mg base 3 "_law_some_words" ["_law_spring_here", "_law_base"] sm__law_some_words := by
  refine ok_def (N := ["_law_spring_here", "_law_base", "_law_found", "_law_word"]) T.d__law_some_words sc__law_some_words (fun _ _ _ _ _ _ us hl => match us, hl with | [_, _], _ => rfl) (fun _ _ _ _ _ _ us hl => match us, hl with | [_, _], _ => rfl) fun f cdv A fs s H E hq hr hgd => ?_
  have nd := sc__law_some_words.nd
  exact ss_cons (s_setV 2 nd (v_tolist T.z_list (a_cons (d_var 1) (a_nil)))) (ss_cons (s_forI PassesOwn.never rfl (g_seq (d_lst (a_cons (d_str) (a_cons (d_str) (a_cons (d_str) (a_cons (d_str) (a_nil))))))) (g_name 3 nd) (ss_one (s_if (t_view 2 ((d_wand (t_fniS hr (d_var 3) (d_var 2)) (d_w1a (t_feq hr (d_call (ok__law_draw T) (hr.mono (by decide)) hgd (a_tank 0 (a_cons (d_int) (a_nil)))) (d_int)))).pt)) (ss_one (s_app 2 (d_var 3))) (ss_nil)))) (ss_one (s_frq 2 (s_ret (g_totup T.z_tuple (a_cons (d_call (ok__law_shuffled T) (hr.mono (by decide)) hgd (a_tank 0 (a_cons (d_var 2) (a_nil)))) (a_nil)))))))
theorem ok__law_is_whole (T : Tx K mg) : Ok P w K mg base 1 "_law_is_whole" ["_law_one"] sm__law_is_whole := by
  refine ok_def (N := ["_law_one"]) T.d__law_is_whole sc__law_is_whole (fun _ _ _ _ _ _ us hl => match us, hl with | [_], _ => rfl) (fun _ _ _ _ _ _ us hl => match us, hl with | [_], _ => rfl) fun f cdv A fs s H E hq hr hgd => ?_
  have nd := sc__law_is_whole.nd
  exact ss_one (s_ret (d_andV (d_isi .int (d_var 0) T.z_isinstance T.z_int) (d_v1 (d_notV (d_isi .bool (d_var 0) T.z_isinstance T.z_bool)))))
theorem ok__law_right (T : Tx K mg) : Ok P w K mg base 10 "_law_right" ["_law_spring_here"] sm__law_right := by
  refine ok_def (N := ["_law_spring_here", "_law_every", "_law_words", "_law_early", "_law_late", "_law_used", "_law_word", "_law_each", "_law_few", "_law_step", "_law_one", "_law_two", "_law_a", "_law_b", "_law_side", "_law_moved", "_law_asked", "_law_told", "_law_wide", "_law_more"]) T.d__law_right sc__law_right (fun _ _ _ _ _ _ us hl => match us, hl with | [_], _ => rfl) (fun _ _ _ _ _ _ us hl => match us, hl with | [_], _ => rfl) fun f cdv A fs s H E hq hr hgd => ?_
  have nd := sc__law_right.nd
  exact ss_cons (s_set 1 nd (d_lst (a_cons (d_str) (a_cons (d_str) (a_cons (d_str) (a_cons (d_str) (a_nil))))))) (ss_cons (s_set 2 nd (g_slice (d_call (ok__law_shuffled T) (hr.mono (by decide)) hgd (a_tank 0 (a_cons (d_var 1) (a_nil)))) p_none (p_some (f_add (d_int) (d_call (ok__law_draw T) (hr.mono (by decide)) hgd (a_tank 0 (a_cons (d_int) (a_nil)))))))) (ss_cons (s_asg (d_tup (a_cons (d_call (ok__law_boxes T) (hr.mono (by decide)) hgd (a_tank 0 (a_cons (d_var 2) (a_cons (d_int) (a_nil))))) (a_cons (d_call (ok__law_boxes T) (hr.mono (by decide)) hgd (a_tank 0 (a_cons (d_var 2) (a_cons (d_int) (a_nil))))) (a_nil)))) (g_unp rfl (gs_cons (g_name 3 nd) (gs_cons (g_name 4 nd) (gs_nil))))) (ss_cons (s_setLc 5 [("_law_word", 6)] rfl nd (g_seq (d_var 1)) (cg_name) (fun _ _ _ _ _ => pg_name (i := 6) nd rfl (by first | exact Or.inl rfl | exact Or.inr rfl)) (fun _ _ _ _ _ => ts_one (t_finS hr (d_var 6) (d_lc [("_law_each", 7)] rfl nd (g_seq (f_add (d_var 3) (d_var 4))) (cg_name) (fun _ _ _ _ _ => pg_name (i := 7) nd rfl (by first | exact Or.inl rfl | exact Or.inr rfl)) (fun _ _ _ _ _ => ts_nil) (fun _ _ _ _ _ => f_ix (d_var 7) (d_int)) (ok := (by change BlkOk ["_law_spring_here", "_law_every", "_law_words", "_law_early", "_law_late", "_law_used", "_law_word", "_law_each", "_law_few", "_law_step", "_law_one", "_law_two", "_law_a", "_law_b", "_law_side", "_law_moved", "_law_asked", "_law_told", "_law_wide", "_law_more"] (relS _ (defScope st__law_right)) _ _; exact blkOk_by (by decide +kernel)))))) (fun _ _ _ _ _ => d_var 6) (ok := blkOk_by (N := ["_law_spring_here", "_law_every", "_law_words", "_law_early", "_law_late", "_law_used", "_law_word", "_law_each", "_law_few", "_law_step", "_law_one", "_law_two", "_law_a", "_law_b", "_law_side", "_law_moved", "_law_asked", "_law_told", "_law_wide", "_law_more"]) (sc := defScope st__law_right) (by decide +kernel)) (sw_true rfl rfl rfl (by decide +kernel))) (ss_cons (s_asg (d_tup (a_cons (d_call (ok__law_some_words T) (hr.mono (by decide)) hgd (a_tank 0 (a_cons (d_var 5) (a_nil)))) (a_cons (d_call (ok__law_box T) (hr.mono (by decide)) hgd (a_tank 0 (a_cons (d_call (ok__law_one_of T) (hr.mono (by decide)) hgd (a_tank 0 (a_cons (d_var 2) (a_nil)))) (a_cons (d_int) (a_nil))))) (a_nil)))) (g_unp rfl (gs_cons (g_name 8 nd) (gs_cons (g_name 9 nd) (gs_nil))))) (ss_cons (s_par 10 11 rfl nd (a_cons (d_call (ok__law_way T) (hr.mono (by decide)) hgd (a_cons (d_var 3) (a_nil))) (a_cons (d_call (ok__law_way T) (hr.mono (by decide)) hgd (a_cons (d_var 4) (a_nil))) (a_nil)))) (ss_cons (s_par 12 13 rfl nd (a_cons (d_call (ok__law_pair T) (hr.mono (by decide)) hgd (a_tank 0 (a_cons (d_int) (a_nil)))) (a_cons (d_call (ok__law_pair T) (hr.mono (by decide)) hgd (a_tank 0 (a_cons (d_int) (a_nil)))) (a_nil)))) (ss_cons (s_set 14 nd (d_call (ok__law_form T) (hr.mono (by decide)) hgd (a_cons (d_call (ok__law_draw T) (hr.mono (by decide)) hgd (a_tank 0 (a_cons (d_int) (a_nil)))) (a_cons (d_lst (a_cons (d_var 12) (a_cons (d_var 13) (a_cons (d_tup (a_cons (d_int) (a_cons (d_int) (a_nil)))) (a_cons (d_call (ok__law_pair T) (hr.mono (by decide)) hgd (a_tank 0 (a_cons (d_int) (a_nil)))) (a_nil)))))) (a_nil))))) (ss_cons (s_set 15 nd (d_call (ok__law_joined T) (hr.mono (by decide)) hgd (a_cons (d_call (ok__law_joined T) (hr.mono (by decide)) hgd (a_cons (d_call (ok__law_home T) (hr.mono (by decide)) hgd (a_cons (d_var 14) (a_nil))) (a_cons (d_var 10) (a_nil)))) (a_cons (d_var 14) (a_nil))))) (ss_cons (s_set 16 nd (d_lst (a_cons (d_var 10) (a_cons (d_var 11) (a_cons (d_call (ok__law_joined T) (hr.mono (by decide)) hgd (a_cons (d_var 10) (a_cons (d_var 11) (a_nil)))) (a_cons (d_call (ok__law_home T) (hr.mono (by decide)) hgd (a_cons (d_var 10) (a_nil))) (a_cons (d_var 15) (a_nil)))))))) (ss_cons (s_setLc 17 [("_law_each", 7)] rfl nd (g_seq (d_var 16)) (cg_name) (fun _ _ _ _ _ => pg_name (i := 7) nd rfl (by first | exact Or.inl rfl | exact Or.inr rfl)) (fun _ _ _ _ _ => ts_nil) (fun _ _ _ _ _ => d_call (ok_fewest_cells T) (hr.mono (by decide)) hgd (a_cons (d_var 7) (a_cons (d_var 8) (a_nil)))) (ok := blkOk_by (N := ["_law_spring_here", "_law_every", "_law_words", "_law_early", "_law_late", "_law_used", "_law_word", "_law_each", "_law_few", "_law_step", "_law_one", "_law_two", "_law_a", "_law_b", "_law_side", "_law_moved", "_law_asked", "_law_told", "_law_wide", "_law_more"]) (sc := defScope st__law_right) (by decide +kernel)) (sw_true rfl rfl rfl (by decide +kernel))) (ss_cons (s_if (d_tnot (d_tst (g_all rfl T.z_all (a_cons (d_lc [("_law_each", 7)] rfl nd (g_seq (d_var 17)) (cg_name) (fun _ _ _ _ _ => pg_name (i := 7) nd rfl (by first | exact Or.inl rfl | exact Or.inr rfl)) (fun _ _ _ _ _ => ts_nil) (fun _ _ _ _ _ => d_andV (d_call (ok__law_is_whole T) (hr.mono (by decide)) hgd (a_cons (d_var 7) (a_nil))) (d_v1 (d_chnV op_le op_le (d_int) (d_var 7) (d_int)))) (ok := blkOk_by (N := ["_law_spring_here", "_law_every", "_law_words", "_law_early", "_law_late", "_law_used", "_law_word", "_law_each", "_law_few", "_law_step", "_law_one", "_law_two", "_law_a", "_law_b", "_law_side", "_law_moved", "_law_asked", "_law_told", "_law_wide", "_law_more"]) (sc := defScope st__law_right) (by decide +kernel))) (a_nil))))) (ss_one (s_ret (d_bl))) (ss_nil)) (ss_cons (s_if ((d_wor (t_fgt (f_ix (d_var 17) (d_int)) (g_len T.z_len (a_cons (d_var 3) (a_nil)))) (d_wor (t_fgt (f_ix (d_var 17) (d_int)) (g_len T.z_len (a_cons (d_var 4) (a_nil)))) (d_w1o (t_fgt (f_ix (d_var 17) (d_int)) (f_add (f_ix (d_var 17) (d_int)) (f_ix (d_var 17) (d_int))))))).pt) (ss_one (s_ret (d_bl))) (ss_nil)) (ss_cons (s_if ((d_wor (t_fne hr (f_ix (d_var 17) (d_int)) (f_ix (d_var 17) (d_int))) (d_wor (t_fne hr (f_ix (d_var 17) (d_int)) (f_ix (d_var 17) (d_int))) (d_w1o (t_fne hr (d_feq hr (f_ix (d_var 17) (d_int)) (d_int)) (d_feq hr (d_var 10) (d_call0 (ok__law_still T) (hr.mono (by decide)) hgd)))))).pt) (ss_one (s_ret (d_bl))) (ss_nil)) (ss_cons (s_set 18 nd (d_if (t_finS hr (f_ix (d_var 9) (d_int)) (d_var 8)) (d_var 8) (f_add (d_var 8) (d_tup (a_cons (f_ix (d_var 9) (d_int)) (a_nil)))))) (ss_cons (s_own 19 nd (a_cons (d_call (ok_fewest_cells T) (hr.mono (by decide)) hgd (a_cons (d_var 10) (a_cons (d_var 18) (a_nil)))) (a_cons (d_call (ok_fewest_cells T) (hr.mono (by decide)) hgd (a_cons (d_call (ok__law_joined T) (hr.mono (by decide)) hgd (a_cons (d_var 10) (a_cons (d_call (ok__law_cell_map T) (hr.mono (by decide)) hgd (a_cons (d_var 9) (a_nil))) (a_nil)))) (a_cons (d_var 18) (a_nil)))) (a_nil)))) (ss_cons (s_app 19 (d_callK (ok_fewest_cells T) (hr.mono (by decide)) hgd (k_cons (d_var 10) (k_cons (g_totup T.z_tuple (a_cons (d_var 1) (a_nil))) (k_nil))))) (ss_cons (s_frq 19 (s_if ((d_wor (d_tnot (d_tst (g_all rfl T.z_all (a_cons (d_lc [("_law_each", 7)] rfl nd (g_seq (d_var 19)) (cg_name) (fun _ _ _ _ _ => pg_name (i := 7) nd rfl (by first | exact Or.inl rfl | exact Or.inr rfl)) (fun _ _ _ _ _ => ts_nil) (fun _ _ _ _ _ => d_call (ok__law_is_whole T) (hr.mono (by decide)) hgd (a_cons (d_var 7) (a_nil))) (ok := blkOk_by (N := ["_law_spring_here", "_law_every", "_law_words", "_law_early", "_law_late", "_law_used", "_law_word", "_law_each", "_law_few", "_law_step", "_law_one", "_law_two", "_law_a", "_law_b", "_law_side", "_law_moved", "_law_asked", "_law_told", "_law_wide", "_law_more"]) (sc := defScope st__law_right) (by decide +kernel))) (a_nil))))) (d_wor (t_fgt (f_ix (d_var 19) (d_int)) (f_ix (d_var 17) (d_int))) (d_w1o (t_fgt (f_ix (d_var 19) (d_int)) (f_ix (d_var 19) (d_int)))))).pt) (ss_one (s_ret (d_bl))) (ss_nil))) (ss_one (s_frq 19 (s_ret (d_fle (g_abs T.z_abs (a_cons (f_sub (f_ix (d_var 19) (d_int)) (f_ix (d_var 19) (d_int))) (a_nil))) (d_int))))))))))))))))))))))
theorem ok_law (T : Tx K mg) : Ok P w K mg base 11 "law" ["_law_script"] sm_law := by
  refine ok_def (N := ["_law_script", "_law_turn"]) T.d_law sc_law (fun _ _ _ _ _ _ us hl => match us, hl with | [_], _ => rfl) (fun _ _ _ _ _ _ us hl => match us, hl with | [_], _ => rfl) fun f cdv A fs s H E hq hr hgd => ?_
  have nd := sc_law.nd
  exact ss_one (s_ret (g_all rfl T.z_all (a_cons (d_lc [("_law_turn", 1)] rfl nd (i_range1 T.z_range (a_cons (d_int) (a_nil))) (cg_name) (fun _ _ _ _ _ => pg_name (i := 1) nd rfl (by first | exact Or.inl rfl | exact Or.inr rfl)) (fun _ _ _ _ _ => ts_nil) (fun _ _ _ _ _ => d_callT (ok__law_right T) (ok__law_spring T) (hr.mono (by decide)) (hr.mono (by decide)) hgd (a_cons (d_var 0) (a_cons (d_var 1) (a_nil))) rfl) (ok := blkOk_by (N := ["_law_script", "_law_turn"]) (sc := defScope st_law) (by decide +kernel))) (a_nil))))
end
theorem hd_tx {K : PySem.W.Frag} {mg : Str → Option Value} {h : Heap} (X : K.In h) (G : h.Ns mainGlobals mg) (c : hd.Says K) : Tx K mg := {
  d_is_whole := c.df X G 0
  d_are_wholes := c.df X G 1
  d_divisor_of := c.df X G 2
  d_lowest := c.df X G 3
  d_is_complex := c.df X G 4
  d_plus := c.df X G 5
  d_minus := c.df X G 6
  d_times := c.df X G 7
  d_scaled := c.df X G 8
  d_turned_over := c.df X G 9
  d_square_size := c.df X G 10
  d_unit_for := c.df X G 11
  d_nearest := c.df X G 12
  d_divisor_of_two := c.df X G 13
  d_divisor_of_all := c.df X G 14
  d_divided := c.df X G 15
  d_quotient_place := c.df X G 16
  d_determinant := c.df X G 17
  d_form_of := c.df X G 18
  d_is_flag := c.df X G 19
  d_is_map := c.df X G 20
  d_check_map := c.df X G 21
  d_joined := c.df X G 22
  d_trace := c.df X G 23
  d_trace_place := c.df X G 24
  d_gap := c.df X G 25
  d_flipped := c.df X G 26
  d_size_of := c.df X G 27
  d_is_real := c.df X G 28
  d_check_kinds := c.df X G 29
  d_is_true_map := c.df X G 30
  d_factor_in := c.df X G 31
  d_is_line_mirror := c.df X G 32
  d_fewest_plain_kept := c.df X G 33
  d_fewest_plain_moved := c.df X G 34
  d_fewest_mirrored_kept := c.df X G 35
  d_fewest_mirrored_moved := c.df X G 36
  d_fewest_of := c.df X G 37
  d_fewest_cells := c.df X G 38
  d__law_spring := c.df X G 39
  d__law_draw := c.df X G 40
  d__law_one_of := c.df X G 41
  d__law_about := c.df X G 42
  d__law_shuffled := c.df X G 43
  d__law_gcd := c.df X G 44
  d__law_thin := c.df X G 45
  d__law_upright := c.df X G 46
  d__law_times := c.df X G 47
  d__law_plus := c.df X G 48
  d__law_minus := c.df X G 49
  d__law_bar := c.df X G 50
  d__law_norm := c.df X G 51
  d__law_over := c.df X G 52
  d__law_common := c.df X G 53
  d__law_quarter := c.df X G 54
  d__law_form := c.df X G 55
  d__law_joined := c.df X G 56
  d__law_home := c.df X G 57
  d__law_still := c.df X G 58
  d__law_cell_map := c.df X G 59
  d__law_way := c.df X G 60
  d__law_quotient := c.df X G 61
  d__law_spot := c.df X G 62
  d__law_scale := c.df X G 63
  d__law_span := c.df X G 64
  d__law_stroke := c.df X G 65
  d__law_power := c.df X G 66
  d__law_box := c.df X G 67
  d__law_boxes := c.df X G 68
  d__law_pair := c.df X G 69
  d__law_some_words := c.df X G 70
  d__law_is_whole := c.df X G 71
  d__law_right := c.df X G 72
  d_law := c.df X G 73
  z_abs := c.fr X G 0
  z_all := c.fr X G 1
  z_bool := c.fr X G 2
  z_divmod := c.fr X G 3
  z_enumerate := c.fr X G 4
  z_int := c.fr X G 5
  z_isinstance := c.fr X G 6
  z_len := c.fr X G 7
  z_list := c.fr X G 8
  z_range := c.fr X G 9
  z_str := c.fr X G 10
  z_sum := c.fr X G 11
  z_tuple := c.fr X G 12
  b_gcd := c.bf X G 0
  b_isqrt := c.bf X G 1
  c_UNITS := c.gc X G 0
  c_ZERO := c.gc X G 1
  c_FAR := c.gc X G 2
  c_WORDS := c.gc X G 3
  c_STAYS := c.gc X G 4
  c_UNITY := c.gc X G 5
  mk_Parts := c.mkc X G 0 rfl
  }
private theorem forL_c {g : dG} {f : dS} {k : dEnds} {d : D} {r : List D} {ρ : En} {T : Tk} : forL g f k (d :: r) ρ T = g d ρ T fun ρ1 T1 => f { nx := forL g f k r, rt := k.rt, bk := k.nx, ct := forL g f k r } ρ1 T1 := rfl
private theorem forL_n {g : dG} {f : dS} {k : dEnds} {ρ : En} {T : Tk} : forL g f k [] ρ T = k.nx ρ T := rfl
private theorem repD_succ {xs : List D} {n : Nat} : repD xs (n + 1) = xs ++ repD xs n := by unfold repD; rw [List.replicate_succ, List.flatten_cons]
private theorem repD_zero {xs : List D} : repD xs 0 = [] := rfl
local macro_rules | `(tactic| walk_at "ev") => `(tactic| try simp (maxSteps := 2000000) only [dVar, dC, dOp, dNeg, dIsN, dNotN, dTst, dAnd, dOr, dNot, dAndV, dOrV, dNotV, dIf, aNil, aCons, aTank, aStar, dTup, dLst, vals?, oF, oG, fAdd_int, fAdd_lst, fAdd_tup, fAdd_str, fSub_int, fSub_bl, fMul_int, fMul_lst, fDiv_int, fMod_int, fPow_int, fShl_int, fLt_int, fLe_int, fGt_int, fGe_int, fEq_int, fEq_str, fEq_bl, fEq_tup, fEq_lst, fEq_tn, fEq_nt, fEq_nn,
  fNe_int, fNe_str, fNe_bl, fNe_tup, fNe_lst, fNe_tn, fNe_nt, fNe_nn, fIn_lst, fNotIn_lst, fInS_lst, fInS_tup, fNotInS_lst, fNotInS_tup, gTL, iZA, zip2_lst, zip2_tup, zipD_nil, zipD_cons, enD, iEn, sOwnC, sParC, sPar3C, gOs, sFrq, dView, dViewT, noL_int, noL_bl, noL_str, noL_non, noL_tup, noLL_nil, noLL_cons, fIx_tup, fIx_lst, fIx_scr, ixR_some, it_tup, it_lst, cutq_lst, cutq_scr, cutq_tup, dSlQ, pSome, sSeq, sRet, sExpr, sIf, sAsg, gN, gsNil, gsCons, gT, sPar, sPar3, sParO, sForI, iQ, iR1, iR2, iR3, iZ, dCall, dCallT, dBlt, fLen_tup, fLen_lst, fLen_scr, fI1_int, fI2_int, fInt_int, fInt_bl, fSqrt_isq, fDivmod_int, fAll_lst, fAny_lst, fSum_lst, blR_some, nuR_some, fTuple_lst, fTuple_tup, fList_lst, fList_tup, fList_scr, fRepr_int, fRepr_tup, fRepr_lst, dIsi, isTy, sOwn, sFrz, sApp,
  dTix, gTs, isTank, dLc, cN, cT, setAll, dYes, wipeD, no0, isNon_non, isNon_int, isNon_bl, isNon_str, isNon_tup, isNon_lst, eqD_int, eqD_str, eqD_bl, eqD_nn, eqD_ni, eqD_in, eqD_nt, eqD_tn, eqD_tup, eqD_lst, eqDL_nil, eqDL_nc, eqDL_cn, eqDL_cons, Bool.and_eq_true, List.any_cons, List.any_nil, ifT, ifF, ifA, ifO, List.length_cons, List.length_nil, List.cons_append, List.nil_append, List.getElem?_cons_zero, List.getElem?_cons_succ, List.set_cons_zero, List.set_cons_succ, Option.map_some, Nat.reduceAdd, Nat.reduceSub, atI_lit, ixN_lit, atI_m1, Nat.reduceLT, reduceIte, Nat.reduceLeDiff, true_and,
  and_true, List.append_nil, List.map_cons, List.map_nil, decide_eq_true_eq, Bool.not_eq_true', decide_eq_false_iff_not, Int.cast_ofNat_Int, Int.reduceLT, Int.reduceLE, decide_true, decide_false, Bool.false_eq_true, Bool.not_true, Bool.not_false, lcD, forL_c, forL_n, cut_none, cut_to, cut_from, cut_fromto, List.take_succ_cons, List.take_zero, List.drop_succ_cons, List.drop_zero, List.take_nil, List.drop_nil, bls_nil, bls_cons, nums_nil, nums_cons, all_nil', all_cons', any_nil', any_cons', Bool.and_true, Bool.true_and, Bool.or_false, Bool.false_or, Bool.and_false, Bool.false_and])
local macro_rules | `(tactic| walk_at "evn") => `(tactic| try simp (maxSteps := 2000000) only [dVar, dC, dOp, dNeg, dIsN, dNotN, dTst, dAnd, dOr, dNot, dAndV, dOrV, dNotV, dIf, aNil, aCons, aTank, aStar, dTup, dLst, vals?, oF, oG, fAdd_int, fAdd_lst, fAdd_tup, fAdd_str, fSub_int, fSub_bl, fMul_int, fMul_lst, fDiv_int, fMod_int, fPow_int, fShl_int, fLt_int, fLe_int, fGt_int, fGe_int, fEq_int, fEq_str, fEq_bl, fEq_tup, fEq_lst, fEq_tn, fEq_nt, fEq_nn,
  fNe_int, fNe_str, fNe_bl, fNe_tup, fNe_lst, fNe_tn, fNe_nt, fNe_nn, fIn_lst, fNotIn_lst, fInS_lst, fInS_tup, fNotInS_lst, fNotInS_tup, gTL, iZA, zip2_lst, zip2_tup, zipD_nil, zipD_cons, enD, iEn, sOwnC, sParC, sPar3C, gOs, sFrq, dView, dViewT, noL_int, noL_bl, noL_str, noL_non, noL_tup, noLL_nil, noLL_cons, fIx_tup, fIx_lst, fIx_scr, ixR_some, it_tup, it_lst, cutq_lst, cutq_scr, cutq_tup, dSlQ, pSome, sSeq, sRet, sExpr, sIf, sAsg, gN, gsNil, gsCons, gT, sPar, sPar3, sParO, sForI, iQ, iR1, iR2, iR3, iZ, dCall, dCallT, dBlt, fLen_tup, fLen_lst, fLen_scr, fI1_int, fI2_int, fInt_int, fInt_bl, fSqrt_isq, fDivmod_int, fAll_lst, fAny_lst, fSum_lst, blR_some, nuR_some, fTuple_lst, fTuple_tup, fList_lst, fList_tup, fList_scr, fRepr_int, fRepr_tup, fRepr_lst, dIsi, isTy, sOwn, sFrz, sApp,
  dTix, gTs, isTank, dLc, cN, cT, setAll, dYes, wipeD, no0, isNon_non, isNon_int, isNon_bl, isNon_str, isNon_tup, isNon_lst, eqD_int, eqD_str, eqD_bl, eqD_nn, eqD_ni, eqD_in, eqD_nt, eqD_tn, eqD_tup, eqD_lst, eqDL_nil, eqDL_nc, eqDL_cn, eqDL_cons, Bool.and_eq_true, List.any_cons, List.any_nil, ifT, ifF, ifA, ifO, List.length_cons, List.length_nil, List.cons_append, List.nil_append, List.getElem?_cons_zero, List.getElem?_cons_succ, List.set_cons_zero, List.set_cons_succ, Option.map_some, Nat.reduceAdd, Nat.reduceSub, atI_lit, ixN_lit, atI_m1, Nat.reduceLT, reduceIte, Nat.reduceLeDiff, true_and,
  and_true, List.append_nil, List.map_cons, List.map_nil, decide_eq_true_eq, Bool.not_eq_true', decide_eq_false_iff_not, Int.cast_ofNat_Int, Int.reduceLT, Int.reduceLE, decide_true, decide_false, Bool.false_eq_true, Bool.not_true, Bool.not_false, lcD, forL_c, forL_n, cut_none, cut_to, cut_from, cut_fromto, List.take_succ_cons, List.take_zero, List.drop_succ_cons, List.drop_zero, List.take_nil, List.drop_nil, bls_nil, bls_cons, nums_nil, nums_cons, all_nil', all_cons', any_nil', any_cons', Bool.and_true, Bool.true_and, Bool.or_false, Bool.false_or, Bool.and_false, Bool.false_and, intsL, Int.reduceToNat, Int.reduceAdd, Int.reduceSub, Int.reduceMul, Int.reduceMod, Int.reduceNeg, Int.reducePow, Int.reduceEq, Int.reduceNe, Int.one_mul, Int.neg_mul, ne_eq, not_true_eq_false, not_false_eq_true, repD_succ, repD_zero, Nat.reduceMul])
local macro_rules | `(tactic| walk_at "mok") => `(tactic| (apply Sz.mulOk; (repeat' (first | assumption | apply Sz.mul | apply Sz.add | apply Sz.sub | apply Sz.neg)); all_goals omega))
local macro_rules | `(tactic| walk_at "evs") => `(tactic| try simp (maxSteps := 2000000) only [dVar, dC, dOp, dNeg, dIsN, dNotN, dTst, dAnd, dOr, dNot, dAndV, dOrV, dNotV, dIf, aNil, aCons, aTank, aStar, dTup, dLst, vals?, oF, oG, fAdd_int, fAdd_lst, fAdd_tup, fAdd_str, fSub_int, fSub_bl, fMul_int, fMul_lst, fDiv_int, fMod_int, fPow_int, fShl_int, fLt_int, fLe_int, fGt_int, fGe_int, fEq_int, fEq_str, fEq_bl, fEq_tup, fEq_lst, fEq_tn, fEq_nt, fEq_nn,
  fNe_int, fNe_str, fNe_bl, fNe_tup, fNe_lst, fNe_tn, fNe_nt, fNe_nn, fIn_lst, fNotIn_lst, fInS_lst, fInS_tup, fNotInS_lst, fNotInS_tup, gTL, iZA, zip2_lst, zip2_tup, zipD_nil, zipD_cons, iEn, sOwnC, sParC, sPar3C, gOs, sFrq, dView, dViewT, noL_int, noL_bl, noL_str, noL_non, noL_tup, noLL_nil, noLL_cons, fIx_tup, fIx_lst, fIx_scr, ixR_some, it_tup, it_lst, cutq_lst, cutq_scr, cutq_tup, dSlQ, pSome, sSeq, sRet, sExpr, sIf, sAsg, gN, gsNil, gsCons, gT, sPar, sPar3, sParO, sForI, iQ, iR1, iR2, iR3, iZ, dCall, dCallT, dBlt, fLen_tup, fLen_lst, fLen_scr, fI1_int, fI2_int, fInt_int, fInt_bl, fSqrt_isq, fDivmod_int, fAll_lst, fAny_lst, fSum_lst, blR_some, nuR_some, fTuple_lst, fTuple_tup, fList_lst, fList_tup, fList_scr, fRepr_int, fRepr_tup, fRepr_lst, dIsi, isTy, sOwn, sFrz, sApp,
  dTix, gTs, isTank, dLc, cN, cT, setAll, dYes, wipeD, no0, isNon_non, isNon_int, isNon_bl, isNon_str, isNon_tup, isNon_lst, eqD_int, eqD_str, eqD_bl, eqD_nn, eqD_ni, eqD_in, eqD_nt, eqD_tn, eqD_tup, eqD_lst, eqDL_nil, eqDL_nc, eqDL_cn, eqDL_cons, Bool.and_eq_true, List.any_cons, List.any_nil, ifT, ifF, ifA, ifO, List.length_cons, List.length_nil, List.cons_append, List.nil_append, List.getElem?_cons_zero, List.getElem?_cons_succ, List.set_cons_zero, List.set_cons_succ, Option.map_some, Nat.reduceAdd, Nat.reduceSub, atI_lit, ixN_lit, atI_m1, Nat.reduceLT, reduceIte, Nat.reduceLeDiff, true_and,
  and_true, List.append_nil, List.map_cons, List.map_nil, decide_eq_true_eq, Bool.not_eq_true', decide_eq_false_iff_not, Int.cast_ofNat_Int, Int.reduceLT, Int.reduceLE, decide_true, decide_false, Bool.false_eq_true, Bool.not_true, Bool.not_false, lcD, cut_none, cut_to, cut_from, cut_fromto, List.take_succ_cons, List.take_zero, List.drop_succ_cons, List.drop_zero, List.take_nil, List.drop_nil, bls_nil, bls_cons, nums_nil, nums_cons, all_nil', all_cons', any_nil', any_cons', Bool.and_true, Bool.true_and, Bool.or_false, Bool.false_or, Bool.and_false, Bool.false_and, intsL, Int.reduceToNat, Int.reduceAdd, Int.reduceSub, Int.reduceMul, Int.reduceMod, Int.reduceNeg, Int.reducePow, Int.reduceEq, Int.reduceNe, Int.one_mul, Int.neg_mul, ne_eq, not_true_eq_false, not_false_eq_true, repD_succ, repD_zero, Nat.reduceMul])
local macro_rules | `(tactic| walk_at "evm") => `(tactic| try simp (maxSteps := 2000000) only [dVar, dC, dOp, dNeg, dIsN, dNotN, dTst, dAnd, dOr, dNot, dAndV, dOrV, dNotV, dIf, aNil, aCons, aTank, aStar, dTup, dLst, vals?, oF, oG, fAdd_int, fAdd_lst, fAdd_tup, fAdd_str, fSub_int, fSub_bl, fMul_int, fMul_lst, fDiv_int, fMod_int, fPow_int, fShl_int, fLt_int, fLe_int, fGt_int, fGe_int, fEq_int, fEq_str, fEq_bl, fEq_tup, fEq_lst, fEq_tn, fEq_nt, fEq_nn,
  fNe_int, fNe_str, fNe_bl, fNe_tup, fNe_lst, fNe_tn, fNe_nt, fNe_nn, fIn_lst, fNotIn_lst, fInS_lst, fInS_tup, fNotInS_lst, fNotInS_tup, gTL, iZA, zip2_lst, zip2_tup, zipD_nil, zipD_cons, iEn, sOwnC, sParC, sPar3C, gOs, sFrq, dView, dViewT, noL_int, noL_bl, noL_str, noL_non, noL_tup, noLL_nil, noLL_cons, fIx_tup, fIx_lst, fIx_scr, ixR_some, it_tup, it_lst, cutq_lst, cutq_scr, cutq_tup, dSlQ, pSome, sSeq, sRet, sExpr, sIf, sAsg, gN, gsNil, gsCons, gT, sPar, sPar3, sParO, sForI, iQ, iR1, iR2, iR3, iZ, dCall, dCallT, dBlt, fLen_tup, fLen_lst, fLen_scr, fI1_int, fI2_int, fInt_int, fInt_bl, fSqrt_isq, fDivmod_int, fAll_lst, fAny_lst, fSum_lst, blR_some, nuR_some, fTuple_lst, fTuple_tup, fList_lst, fList_tup, fList_scr, fRepr_int, fRepr_tup, fRepr_lst, dIsi, isTy, sOwn, sFrz, sApp,
  dTix, gTs, isTank, dLc, cN, cT, setAll, dYes, wipeD, no0, isNon_non, isNon_int, isNon_bl, isNon_str, isNon_tup, isNon_lst, eqD_int, eqD_str, eqD_bl, eqD_nn, eqD_ni, eqD_in, eqD_nt, eqD_tn, eqD_tup, eqD_lst, eqDL_nil, eqDL_nc, eqDL_cn, eqDL_cons, Bool.and_eq_true, List.any_cons, List.any_nil, ifT, ifF, ifA, ifO, List.length_cons, List.length_nil, List.cons_append, List.nil_append, List.getElem?_cons_zero, List.getElem?_cons_succ, List.set_cons_zero, List.set_cons_succ, Option.map_some, Nat.reduceAdd, Nat.reduceSub, atI_lit, ixN_lit, atI_m1, Nat.reduceLT, reduceIte, Nat.reduceLeDiff, true_and,
  and_true, List.append_nil, List.map_cons, List.map_nil, decide_eq_true_eq, Bool.not_eq_true', decide_eq_false_iff_not, Int.cast_ofNat_Int, Int.reduceLT, Int.reduceLE, decide_true, decide_false, Bool.false_eq_true, Bool.not_true, Bool.not_false, cut_none, cut_to, cut_from, cut_fromto, List.take_succ_cons, List.take_zero, List.drop_succ_cons, List.drop_zero, List.take_nil, List.drop_nil, bls_nil, bls_cons, nums_nil, nums_cons, all_nil', all_cons', any_nil', any_cons', Bool.and_true, Bool.true_and, Bool.or_false, Bool.false_or, Bool.and_false, Bool.false_and, intsL, Int.reduceToNat, Int.reduceAdd, Int.reduceSub, Int.reduceMul, Int.reduceMod, Int.reduceNeg, Int.reducePow, Int.reduceEq, Int.reduceNe, Int.one_mul, Int.neg_mul, ne_eq, not_true_eq_false, not_false_eq_true, repD_succ, repD_zero, Nat.reduceMul])
local macro_rules | `(tactic| walk_at "evq") => `(tactic| try simp (maxSteps := 2000000) only [dVar, dC, dOp, dNeg, dIsN, dNotN, dTst, dAnd, dOr, dNot, dAndV, dOrV, dNotV, dIf, aNil, aCons, aTank, aStar, dTup, dLst, vals?, oF, oG, fAdd_int, fAdd_lst, fAdd_tup, fAdd_str, fSub_int, fSub_bl, fMul_int, fMul_lst, fDiv_int, fMod_int, fPow_int, fShl_int, fLt_int, fLe_int, fGt_int, fGe_int, fEq_int, fEq_str, fEq_bl, fEq_tup, fEq_lst, fEq_tn, fEq_nt, fEq_nn,
  fNe_int, fNe_str, fNe_bl, fNe_tup, fNe_lst, fNe_tn, fNe_nt, fNe_nn, fIn_lst, fNotIn_lst, fInS_lst, fInS_tup, fNotInS_lst, fNotInS_tup, gTL, iZA, zip2_lst, zip2_tup, zipD_nil, zipD_cons, iEn, sOwnC, sParC, sPar3C, gOs, sFrq, dView, dViewT, noL_int, noL_bl, noL_str, noL_non, noL_tup, noLL_nil, noLL_cons, fIx_tup, fIx_lst, fIx_scr, ixR_some, it_tup, it_lst, cutq_lst, cutq_scr, cutq_tup, dSlQ, pSome, sSeq, sRet, sExpr, sIf, sAsg, gN, gsNil, gsCons, gT, sPar, sPar3, sParO, sForI, iQ, iR1, iR2, iR3, iZ, dCall, dCallT, dBlt, fLen_tup, fLen_lst, fLen_scr, fI1_int, fI2_int, fInt_int, fInt_bl, fSqrt_isq, fDivmod_int, fAll_lst, fAny_lst, fSum_lst, blR_some, nuR_some, fTuple_lst, fTuple_tup, fList_lst, fList_tup, fList_scr, fRepr_int, fRepr_tup, fRepr_lst, dIsi, isTy, sOwn, sFrz, sApp,
  dTix, gTs, isTank, dLc, cN, cT, setAll, dYes, wipeD, no0, isNon_non, isNon_int, isNon_bl, isNon_str, isNon_tup, isNon_lst, eqD_int, eqD_str, eqD_bl, eqD_nn, eqD_ni, eqD_in, eqD_nt, eqD_tn, eqD_tup, eqD_lst, eqDL_nil, eqDL_nc, eqDL_cn, eqDL_cons, Bool.and_eq_true, List.any_cons, List.any_nil, ifT, ifF, ifA, ifO, List.length_cons, List.length_nil, List.cons_append, List.nil_append, List.getElem?_cons_zero, List.getElem?_cons_succ, List.set_cons_zero, List.set_cons_succ, Option.map_some, Nat.reduceAdd, Nat.reduceSub, atI_lit, ixN_lit, atI_m1, Nat.reduceLT, reduceIte, Nat.reduceLeDiff, true_and,
  and_true, List.append_nil, List.map_cons, List.map_nil, decide_eq_true_eq, Bool.not_eq_true', decide_eq_false_iff_not, Int.cast_ofNat_Int, Int.reduceLT, Int.reduceLE, decide_true, decide_false, Bool.false_eq_true, Bool.not_true, Bool.not_false, cut_none, cut_to, cut_from, cut_fromto, List.take_succ_cons, List.take_zero, List.drop_succ_cons, List.drop_zero, List.take_nil, List.drop_nil, bls_nil, bls_cons, nums_nil, nums_cons, all_nil', all_cons', any_nil', any_cons', Bool.and_true, Bool.true_and, Bool.or_false, Bool.false_or, Bool.and_false, Bool.false_and, Int.reduceAdd, Int.reduceSub, Int.reduceMul, Int.reduceMod, Int.reduceNeg, Int.reducePow, Int.reduceEq, Int.reduceNe, Int.one_mul, Int.neg_mul, ne_eq, not_true_eq_false, not_false_eq_true, repD_succ, repD_zero, Nat.reduceMul])
local macro_rules | `(tactic| walk_at "wk") => `(tactic| (try simp (maxSteps := 2000000) (dsimp := false) (implicitDefEqProofs := false) only [↓h_var, ↓h_c, ↓h_op, ↓h_neg, ↓h_isN, ↓h_notN, ↓h_tst, ↓h_and, ↓h_or, ↓h_not, ↓h_andV, ↓h_orV, ↓h_notV, ↓h_if, ↓h_anil, ↓h_acons, ↓h_atank, ↓h_astar, ↓h_tup, ↓h_lst, ↓h_call, ↓h_callX, ↓h_callVX, ↓h_tupIx, ↓h_raise1, ↓h_raise0, ↓h_isE, ↓h_givE, ↓h_mt, ↓h_callT, ↓h_callP, ↓h_aApp, ↓h_blt, ↓h_psome, ↓h_slq, ↓h_rev, ↓h_stp, ↓h_dct0, ↓h_dct1, ↓h_isi, ↓h_iQ, ↓h_iR1, ↓h_iR2, ↓h_iR3, ↓h_iZA, ↓h_iZB, ↓h_iZ3, ↓h_iEn, ↓h_seq, ↓h_ret, ↓h_expr, ↓h_sif, ↓h_asg, ↓h_gN, ↓h_gsnil, ↓h_gscons, ↓h_gTL, ↓h_gT, ↓h_par, ↓h_par3, ↓h_parO, ↓h_parF, ↓h_parC, ↓h_par3C, ↓h_own, ↓h_ownC, ↓h_frz, ↓h_frq, ↓h_app, ↓h_view, ↓h_viewT, ↓h_gOs, ↓h_for, ↓h_lc, ↓h_lc2, ↓h_lcO, ↓h_yes, ↓h_getT, ↓h_lenSet, ↓h_setEq, ↓h_chn, ↓h_chnV, ↓h_popA, ↓h_aug, ↓h_vVal, ↓h_me, ↓h_fld, ↓h_sMe, ↓h_lsR, ↓h_rvR, ↓h_vLsO, ↓h_vMulO, ↓h_vLst, ↓h_vLc, ↓h_setV, ↓h_par2V, ↓h_par3V, ↓h_ins, ↓h_unpP, ↓h_pixT, ↓h_lam, ↓h_callXP, ↓h_tupP, ↓h_pix, ↓oF_pd, ↓orVK_t, ↓andVK_f, ↓orK_t, ↓andK_f, mulOK_lst, lc2K_nil, lc2K_cons, meK_go, objK_go, noMe_nil, noMe_none, noMe_val, noMe_own, augK_int, lsoK_lst, lsoK_tup, hid_nil, hid_c, hidS_val, hidS_own, hidS_tank, hidS_none, hidS_ptup, varK_pt, tuPK_go, pixK_go, varK_go, tixK_go, exK_0, exK_1, gvK_1, mtK_go, raiK_go, iteB_t, iteB_f, iteB_not, iteB_tt, setE_go, pdK_c, pdK_t, negK_go, bolK_go, tstK_go, andK_t, andK_f, andK_p, andK_q, orK_t, orK_f, orK_p, orK_q, andVK_t, andVK_f, andVK_p, andVK_q, orVK_t, orVK_f, orVK_p, orVK_q, notVK_go, tnkK_go, sqK_go, vals_val, vals_nil, callN_go, callP_go, lstK_go, opK_go, intK_go, blqK_go, r1K_go, r2K_go, r3K_go, zpK_go, zp3K_go, parK_go, parK3_go, ownK_o, ownK_v, ownK_n, natK_go, forK_nil, forK_cons, lcK_nil, lcK_cons, enK_go, h_cN, h_cT, h_cP, cpB_some, setAll_nil, setAll_cons, wipe_nil, wipe_cons, okN_t, okN_non, okN_int, okN_bl, okN_tup, okN_lst, okL_nil, okL_cons, fAddB_bl, fDivN_int, fMinT_tup, mnT_some, stp_tup, stp3_4, tupN_tup, getK_some, fReprE_lst, fReprG_lst, fNeE_lst, fMulU_tup, List.isEmpty_cons, List.isEmpty_nil, fReprE_tup, fReprE_int, fReprE_bl, fReprE_non, fCntD_lst, fCntT_lst, fIdxT_lst, cntC_some, idxC_some, ixR2_some, idxI_t, idxI_f, cntT_nil, cntT_t, cntT_f, fSortT_lst, stR_some, tups_nil, tups_c, tpC_some, fBitL_int, permL_n, permL_c, pmC_s, fMaxL_lst, mxR_some, isTy_dct, isNon_dct, fIs_bl, fIsn_bl, bIs_t, bIs_f, bIs_s, rev_lst, rev_tup, rev_scr, List.reverse_cons, List.reverse_nil, fAdd_int, fAdd_lst, fAdd_tup, fAdd_str, fSub_int, fSub_bl, fMul_int, fMul_lst, fDiv_int, fMod_int, fPow_int, fShl_int, fLt_int, fLe_int, fGt_int, fGe_int, fEq_int, fEq_str, fEq_bl, fEq_tup, fEq_lst, fEq_tn, fEq_nt, fEq_nn, fEq_it, fEq_ti, fEq_in, fEq_ni, fNe_in, fNe_ni, fNe_int, fNe_str, fNe_bl, fNe_tup, fNe_lst, fNe_tn, fNe_nt, fNe_nn, fInS_lst, fInS_tup, fNotInS_lst, fNotInS_tup, zipB_ll, zipB_tt, zipB_lt, zipB_tl, zip2_lst, zip2_tup, zip3_tup, zipD3_cons, zipD3_nil, zipD_nil, zipD_cons, enD, noL_int, noL_bl, noL_str, noL_non, noL_tup, noLL_nil, noLL_cons, fIx_tup, fIx_lst, fIx_scr, ixR_some, it_tup, it_lst, cutq_lst, cutq_scr, cutq_tup, fLen_tup, fLen_lst, fLen_scr, fI1_int, fI2_int, fInt_int, fInt_bl, fSqrt_isq, fDivmod_int, fAll_lst, fAny_lst, fSum_lst, blR_some, nuR_some, fTuple_lst, fTuple_tup, fList_lst, fList_tup, fList_scr, fRepr_int, fRepr_bl, fRepr_non, fRepr_tup, fRepr_lst, isTy, isNon_non, isNon_int, isNon_bl, isNon_str, isNon_tup, isNon_lst, eqD_int, eqD_str, eqD_bl, eqD_nn, eqD_ni, eqD_in, eqD_nt, eqD_tn, eqD_tup, eqD_lst, eqDL_nil, eqDL_nc, eqDL_cn, eqDL_cons, List.any_cons, List.any_nil, List.length_cons, List.length_nil, List.cons_append, List.nil_append, List.getElem?_cons_zero, List.getElem?_cons_succ, List.set_cons_zero, List.set_cons_succ, Option.map_some, Nat.reduceAdd, Nat.reduceSub, atI_lit, ixN_lit, atI_m1, Nat.reduceLT, reduceIte, Nat.reduceLeDiff, true_and, and_true, List.append_nil, List.map_cons, List.map_nil, Bool.not_eq_true', Int.cast_ofNat_Int, Int.reduceLT, Int.reduceLE, decide_true, decide_false, Bool.false_eq_true, Bool.not_true, Bool.not_false, cut_none, cut_to, cut_from, cut_fromto, List.take_succ_cons, List.take_zero, List.drop_succ_cons, List.drop_zero, List.take_nil, List.drop_nil, bls_nil, bls_cons, nums_nil, nums_cons, all_nil', all_cons', any_nil', any_cons', Bool.and_true, Bool.true_and, Bool.or_false, Bool.false_or, Bool.and_false, Bool.false_and, Bool.true_or, Bool.or_true, Int.reduceToNat, Int.reduceAdd, Int.reduceSub, Int.reduceMul, Int.reduceMod, Int.reduceNeg, Int.reducePow, Int.reduceEq, Int.reduceNe, Int.one_mul, Int.neg_mul, ne_eq, not_true_eq_false, not_false_eq_true, repD_succ, repD_zero, Nat.reduceMul, Bool.not_not, eq_self, and_self, false_implies, true_implies, implies_true, Nat.reduceEqDiff]); try rewrite [callS_eq]; try (refine lamK_in ?_))
local macro_rules | `(tactic| walk_at "wki") => `(tactic| (try simp (maxSteps := 2000000) (dsimp := false) (implicitDefEqProofs := false) only [↓h_var, ↓h_c, ↓h_op, ↓h_neg, ↓h_isN, ↓h_notN, ↓h_tst, ↓h_and, ↓h_or, ↓h_not, ↓h_andV, ↓h_orV, ↓h_notV, ↓h_if, ↓h_anil, ↓h_acons, ↓h_atank, ↓h_astar, ↓h_tup, ↓h_lst, ↓h_call, ↓h_callX, ↓h_callVX, ↓h_tupIx, ↓h_raise1, ↓h_raise0, ↓h_isE, ↓h_givE, ↓h_mt, ↓h_callT, ↓h_callP, ↓h_aApp, ↓h_blt, ↓h_psome, ↓h_slq, ↓h_rev, ↓h_stp, ↓h_dct0, ↓h_dct1, ↓h_isi, ↓h_iQ, ↓h_iR1, ↓h_iR2, ↓h_iR3, ↓h_iZA, ↓h_iZB, ↓h_iZ3, ↓h_iEn, ↓h_seq, ↓h_ret, ↓h_expr, ↓h_sif, ↓h_asg, ↓h_gN, ↓h_gsnil, ↓h_gscons, ↓h_gTL, ↓h_gT, ↓h_par, ↓h_par3, ↓h_parO, ↓h_parF, ↓h_parC, ↓h_par3C, ↓h_own, ↓h_ownC, ↓h_frz, ↓h_frq, ↓h_app, ↓h_view, ↓h_viewT, ↓h_gOs, ↓h_for, ↓h_lc, ↓h_lc2, ↓h_lcO, ↓h_yes, ↓h_getT, ↓h_lenSet, ↓h_setEq, ↓h_chn, ↓h_chnV, ↓h_popA, ↓h_aug, ↓h_vVal, ↓h_me, ↓h_fld, ↓h_sMe, ↓h_lsR, ↓h_rvR, ↓h_vLsO, ↓h_vMulO, ↓h_vLst, ↓h_vLc, ↓h_setV, ↓h_par2V, ↓h_par3V, ↓h_ins, ↓h_unpP, ↓h_pixT, ↓h_lam, ↓h_callXP, ↓h_tupP, ↓h_pix, ↓oF_pd, ↓orVK_t, ↓andVK_f, ↓orK_t, ↓andK_f, mulOK_lst, lc2K_nil, lc2K_cons, meK_go, objK_go, noMe_nil, noMe_none, noMe_val, noMe_own, augK_int, lsoK_lst, lsoK_tup, hid_nil, hid_c, hidS_val, hidS_own, hidS_tank, hidS_none, hidS_ptup, varK_pt, tuPK_go, pixK_go, varK_go, tixK_go, exK_0, exK_1, gvK_1, mtK_go, raiK_go, iteB_t, iteB_f, iteB_not, iteB_tt, setE_go, pdK_c, pdK_t, negK_go, bolK_go, tstK_go, andK_t, andK_f, andK_p, andK_q, orK_t, orK_f, orK_p, orK_q, andVK_t, andVK_f, andVK_p, andVK_q, orVK_t, orVK_f, orVK_p, orVK_q, notVK_go, tnkK_go, sqK_go, vals_val, vals_nil, callN_go, callP_go, lstK_go, opK_go, intK_go, blqK_go, r1K_go, r2K_go, r3K_go, zpK_go, zp3K_go, parK_go, parK3_go, ownK_o, ownK_v, ownK_n, natK_go, forK_nil, forK_cons, lcK_nil, lcK_cons, enK_go, h_cN, h_cT, h_cP, cpB_some, setAll_nil, setAll_cons, wipe_nil, wipe_cons, okN_t, okN_non, okN_int, okN_bl, okN_tup, okN_lst, okL_nil, okL_cons, fAddB_bl, fDivN_int, fMinT_tup, mnT_some, stp_tup, stp3_4, tupN_tup, getK_some, fReprE_lst, fReprG_lst, fNeE_lst, fMulU_tup, List.isEmpty_cons, List.isEmpty_nil, fReprE_tup, fReprE_int, fReprE_bl, fReprE_non, fCntD_lst, fCntT_lst, fIdxT_lst, cntC_some, idxC_some, ixR2_some, idxI_t, idxI_f, cntT_nil, cntT_t, cntT_f, fSortT_lst, stR_some, tups_nil, tups_c, tpC_some, fBitL_int, permL_n, permL_c, pmC_s, fMaxL_lst, mxR_some, isTy_dct, isNon_dct, fIs_bl, fIsn_bl, bIs_t, bIs_f, bIs_s, rev_lst, rev_tup, rev_scr, List.reverse_cons, List.reverse_nil, fAdd_int, fAdd_lst, fAdd_tup, fAdd_str, fSub_int, fSub_bl, fMul_int, fMul_lst, fDiv_int, fMod_int, fPow_int, fShl_int, fLt_int, fLe_int, fGt_int, fGe_int, fEq_int, fEq_str, fEq_bl, fEq_tup, fEq_lst, fEq_tn, fEq_nt, fEq_nn, fEq_it, fEq_ti, fEq_in, fEq_ni, fNe_in, fNe_ni, fNe_int, fNe_str, fNe_bl, fNe_tup, fNe_lst, fNe_tn, fNe_nt, fNe_nn, fInS_lst, fInS_tup, fNotInS_lst, fNotInS_tup, zipB_ll, zipB_tt, zipB_lt, zipB_tl, zip2_lst, zip2_tup, zip3_tup, zipD3_cons, zipD3_nil, zipD_nil, zipD_cons, enD, noL_int, noL_bl, noL_str, noL_non, noL_tup, noLL_nil, noLL_cons, fIx_tup, fIx_lst, fIx_scr, ixR_some, it_tup, it_lst, cutq_lst, cutq_scr, cutq_tup, fLen_tup, fLen_lst, fLen_scr, fI1_int, fI2_int, fInt_int, fInt_bl, fSqrt_isq, fDivmod_int, fAll_lst, fAny_lst, fSum_lst, blR_some, nuR_some, fTuple_lst, fTuple_tup, fList_lst, fList_tup, fList_scr, fRepr_int, fRepr_bl, fRepr_non, fRepr_tup, fRepr_lst, isTy, isNon_non, isNon_int, isNon_bl, isNon_str, isNon_tup, isNon_lst, eqD_int, eqD_str, eqD_bl, eqD_nn, eqD_ni, eqD_in, eqD_nt, eqD_tn, eqD_tup, eqD_lst, eqDL_nil, eqDL_nc, eqDL_cn, eqDL_cons, List.any_cons, List.any_nil, List.length_cons, List.length_nil, List.cons_append, List.nil_append, List.getElem?_cons_zero, List.getElem?_cons_succ, List.set_cons_zero, List.set_cons_succ, Option.map_some, Nat.reduceAdd, Nat.reduceSub, atI_lit, ixN_lit, atI_m1, Nat.reduceLT, reduceIte, Nat.reduceLeDiff, true_and, and_true, List.append_nil, List.map_cons, List.map_nil, Bool.not_eq_true', Int.cast_ofNat_Int, Int.reduceLT, Int.reduceLE, decide_true, decide_false, Bool.false_eq_true, Bool.not_true, Bool.not_false, cut_none, cut_to, cut_from, cut_fromto, List.take_succ_cons, List.take_zero, List.drop_succ_cons, List.drop_zero, List.take_nil, List.drop_nil, bls_nil, bls_cons, nums_nil, nums_cons, all_nil', all_cons', any_nil', any_cons', Bool.and_true, Bool.true_and, Bool.or_false, Bool.false_or, Bool.and_false, Bool.false_and, Bool.true_or, Bool.or_true, Int.reduceToNat, Int.reduceAdd, Int.reduceSub, Int.reduceMul, Int.reduceMod, Int.reduceNeg, Int.reducePow, Int.reduceEq, Int.reduceNe, Int.one_mul, Int.neg_mul, ne_eq, not_true_eq_false, not_false_eq_true, repD_succ, repD_zero, Nat.reduceMul, Bool.not_not, eq_self, and_self, false_implies, true_implies, implies_true, Nat.reduceEqDiff, intsL]); try rewrite [callS_eq]; try (refine lamK_in ?_))
local macro_rules | `(tactic| walk_at "wkn") => `(tactic| (try simp (maxSteps := 2000000) (dsimp := false) (implicitDefEqProofs := false) only [↓h_var, ↓h_c, ↓h_op, ↓h_neg, ↓h_isN, ↓h_notN, ↓h_tst, ↓h_and, ↓h_or, ↓h_not, ↓h_andV, ↓h_orV, ↓h_notV, ↓h_if, ↓h_anil, ↓h_acons, ↓h_atank, ↓h_astar, ↓h_tup, ↓h_lst, ↓h_call, ↓h_callX, ↓h_callVX, ↓h_tupIx, ↓h_raise1, ↓h_raise0, ↓h_isE, ↓h_givE, ↓h_mt, ↓h_callT, ↓h_callP, ↓h_aApp, ↓h_blt, ↓h_psome, ↓h_slq, ↓h_rev, ↓h_stp, ↓h_dct0, ↓h_dct1, ↓h_isi, ↓h_iQ, ↓h_iR1, ↓h_iR2, ↓h_iR3, ↓h_iZA, ↓h_iZB, ↓h_iZ3, ↓h_iEn, ↓h_seq, ↓h_ret, ↓h_expr, ↓h_sif, ↓h_asg, ↓h_gN, ↓h_gsnil, ↓h_gscons, ↓h_gTL, ↓h_gT, ↓h_par, ↓h_par3, ↓h_parO, ↓h_parF, ↓h_parC, ↓h_par3C, ↓h_own, ↓h_ownC, ↓h_frz, ↓h_frq, ↓h_app, ↓h_view, ↓h_viewT, ↓h_gOs, ↓h_for, ↓h_lc, ↓h_lc2, ↓h_lcO, ↓h_yes, ↓h_getT, ↓h_lenSet, ↓h_setEq, ↓h_chn, ↓h_chnV, ↓h_popA, ↓h_aug, ↓h_vVal, ↓h_me, ↓h_fld, ↓h_sMe, ↓h_lsR, ↓h_rvR, ↓h_vLsO, ↓h_vMulO, ↓h_vLst, ↓h_vLc, ↓h_setV, ↓h_par2V, ↓h_par3V, ↓h_ins, ↓h_unpP, ↓h_pixT, ↓h_lam, ↓h_callXP, ↓h_tupP, ↓h_pix, ↓oF_pd, ↓orVK_t, ↓andVK_f, ↓orK_t, ↓andK_f, mulOK_lst, lc2K_nil, meK_go, objK_go, noMe_nil, noMe_none, noMe_val, noMe_own, augK_int, lsoK_lst, lsoK_tup, hid_nil, hid_c, hidS_val, hidS_own, hidS_tank, hidS_none, hidS_ptup, varK_pt, tuPK_go, pixK_go, varK_go, tixK_go, exK_0, exK_1, gvK_1, mtK_go, raiK_go, iteB_t, iteB_f, iteB_not, iteB_tt, setE_go, pdK_c, pdK_t, negK_go, bolK_go, tstK_go, andK_t, andK_f, andK_p, andK_q, orK_t, orK_f, orK_p, orK_q, andVK_t, andVK_f, andVK_p, andVK_q, orVK_t, orVK_f, orVK_p, orVK_q, notVK_go, tnkK_go, sqK_go, vals_val, vals_nil, callN_go, callP_go, lstK_go, opK_go, intK_go, blqK_go, r1K_go, r2K_go, r3K_go, zpK_go, zp3K_go, parK_go, parK3_go, ownK_o, ownK_v, ownK_n, natK_go, forK_nil, lcK_nil, enK_go, h_cN, h_cT, h_cP, cpB_some, setAll_nil, setAll_cons, wipe_nil, wipe_cons, okN_t, okN_non, okN_int, okN_bl, okN_tup, okN_lst, okL_nil, okL_cons, fAddB_bl, fDivN_int, fMinT_tup, mnT_some, stp_tup, stp3_4, tupN_tup, getK_some, fReprE_lst, fReprG_lst, fNeE_lst, fMulU_tup, List.isEmpty_cons, List.isEmpty_nil, fReprE_tup, fReprE_int, fReprE_bl, fReprE_non, fCntD_lst, fCntT_lst, fIdxT_lst, cntC_some, idxC_some, ixR2_some, idxI_t, idxI_f, cntT_nil, cntT_t, cntT_f, fSortT_lst, stR_some, tups_nil, tups_c, tpC_some, fBitL_int, permL_n, permL_c, pmC_s, fMaxL_lst, mxR_some, isTy_dct, isNon_dct, fIs_bl, fIsn_bl, bIs_t, bIs_f, bIs_s, rev_lst, rev_tup, rev_scr, List.reverse_cons, List.reverse_nil, fAdd_int, fAdd_lst, fAdd_tup, fAdd_str, fSub_int, fSub_bl, fMul_int, fMul_lst, fDiv_int, fMod_int, fPow_int, fShl_int, fLt_int, fLe_int, fGt_int, fGe_int, fEq_int, fEq_str, fEq_bl, fEq_tup, fEq_lst, fEq_tn, fEq_nt, fEq_nn, fEq_it, fEq_ti, fEq_in, fEq_ni, fNe_in, fNe_ni, fNe_int, fNe_str, fNe_bl, fNe_tup, fNe_lst, fNe_tn, fNe_nt, fNe_nn, fInS_lst, fInS_tup, fNotInS_lst, fNotInS_tup, zipB_ll, zipB_tt, zipB_lt, zipB_tl, zip2_lst, zip2_tup, zip3_tup, zipD3_cons, zipD3_nil, zipD_nil, zipD_cons, enD, noL_int, noL_bl, noL_str, noL_non, noL_tup, noLL_nil, noLL_cons, fIx_tup, fIx_lst, fIx_scr, ixR_some, it_tup, it_lst, cutq_lst, cutq_scr, cutq_tup, fLen_tup, fLen_lst, fLen_scr, fI1_int, fI2_int, fInt_int, fInt_bl, fSqrt_isq, fDivmod_int, fAll_lst, fAny_lst, fSum_lst, blR_some, nuR_some, fTuple_lst, fTuple_tup, fList_lst, fList_tup, fList_scr, fRepr_int, fRepr_bl, fRepr_non, fRepr_tup, fRepr_lst, isTy, isNon_non, isNon_int, isNon_bl, isNon_str, isNon_tup, isNon_lst, eqD_int, eqD_str, eqD_bl, eqD_nn, eqD_ni, eqD_in, eqD_nt, eqD_tn, eqD_tup, eqD_lst, eqDL_nil, eqDL_nc, eqDL_cn, eqDL_cons, List.any_cons, List.any_nil, List.length_cons, List.length_nil, List.cons_append, List.nil_append, List.getElem?_cons_zero, List.getElem?_cons_succ, List.set_cons_zero, List.set_cons_succ, Option.map_some, Nat.reduceAdd, Nat.reduceSub, atI_lit, ixN_lit, atI_m1, Nat.reduceLT, reduceIte, Nat.reduceLeDiff, true_and, and_true, List.append_nil, List.map_cons, List.map_nil, Bool.not_eq_true', Int.cast_ofNat_Int, Int.reduceLT, Int.reduceLE, decide_true, decide_false, Bool.false_eq_true, Bool.not_true, Bool.not_false, cut_none, cut_to, cut_from, cut_fromto, List.take_succ_cons, List.take_zero, List.drop_succ_cons, List.drop_zero, List.take_nil, List.drop_nil, bls_nil, bls_cons, nums_nil, nums_cons, all_nil', all_cons', any_nil', any_cons', Bool.and_true, Bool.true_and, Bool.or_false, Bool.false_or, Bool.and_false, Bool.false_and, Bool.true_or, Bool.or_true, Int.reduceToNat, Int.reduceAdd, Int.reduceSub, Int.reduceMul, Int.reduceMod, Int.reduceNeg, Int.reducePow, Int.reduceEq, Int.reduceNe, Int.one_mul, Int.neg_mul, ne_eq, not_true_eq_false, not_false_eq_true, repD_succ, repD_zero, Nat.reduceMul, Bool.not_not, eq_self, and_self, false_implies, true_implies, implies_true, Nat.reduceEqDiff]); try rewrite [callS_eq]; try (refine lamK_in ?_))

def TkOk (T : Tk) : Prop := ∃ a b c, T = [.int a, .int b, .int c] ∧ 0 ≤ a ∧ 0 ≤ b
set_option exponentiation.threshold 20000
theorem lit_mul {i j : Int} (h : i.natAbs < 2 ^ 64) : MulOk i j := .inl (.inl h)
theorem lit_mul' {i j : Int} (h : j.natAbs < 2 ^ 64) : MulOk i j := .inl (.inr h)
theorem lit_div {i j : Int} (h : 0 < j) (q : j.natAbs < 2 ^ 64) : DivOk i j := ⟨h, Nat.lt_of_lt_of_le q (Nat.pow_le_pow_right (by decide) (by decide))⟩
theorem lit_dm {i j : Int} (h : 0 < j) (q : j.natAbs < 2 ^ 64) : DmOk i j := ⟨h, Nat.lt_of_lt_of_le q (Nat.pow_le_pow_right (by decide) (by decide))⟩
theorem mul_self_nonneg' (a : Int) : 0 ≤ a * a := by
  rcases Int.le_total 0 a with h | h
  · exact Int.mul_nonneg h h
  · exact Int.mul_nonneg_of_nonpos_of_nonpos h h
theorem imul_self_pos {a : Int} (h : a ≠ 0) : 0 < a * a := by
  rcases Int.lt_or_gt_of_ne h with q | q
  · exact Int.mul_pos_of_neg_of_neg q q
  · exact Int.mul_pos q q
abbrev Cx2 := Int × Int
def Cz (n : Nat) (z : Cx2) : Prop := Sz n z.1 ∧ Sz n z.2
def cadd (z w : Cx2) : Cx2 := (z.1 + w.1, z.2 + w.2)
def csub (z w : Cx2) : Cx2 := (z.1 - w.1, z.2 - w.2)
def cmul (z w : Cx2) : Cx2 := (z.1 * w.1 - z.2 * w.2, z.1 * w.2 + z.2 * w.1)
def cconj (z : Cx2) : Cx2 := (z.1, -z.2)
def cnrm (z : Cx2) : Int := z.1 * z.1 + z.2 * z.2
theorem Cz.mono {m n : Nat} {z : Cx2} (h : Cz m z) (l : m ≤ n) : Cz n z := ⟨h.1.mono l, h.2.mono l⟩
theorem Cz.add {n : Nat} {z w : Cx2} (h : Cz n z) (q : Cz n w) : Cz (n + 1) (cadd z w) := ⟨by simpa [cadd] using h.1.add q.1, by simpa [cadd] using h.2.add q.2⟩
theorem Cz.sub {n : Nat} {z w : Cx2} (h : Cz n z) (q : Cz n w) : Cz (n + 1) (csub z w) := ⟨by simpa [csub] using h.1.sub q.1, by simpa [csub] using h.2.sub q.2⟩
theorem Cz.mul {m n : Nat} {z w : Cx2} (h : Cz m z) (q : Cz n w) : Cz (m + n + 1) (cmul z w) := ⟨by simpa [cmul] using (h.1.mul q.1).sub (h.2.mul q.2), by simpa [cmul] using (h.1.mul q.2).add (h.2.mul q.1)⟩
theorem Cz.conj {n : Nat} {z : Cx2} (h : Cz n z) : Cz n (cconj z) := ⟨h.1, h.2.neg⟩
theorem Cz.nrm {n : Nat} {z : Cx2} (h : Cz n z) : Sz (n + n + 1) (cnrm z) := by simpa [cnrm] using (h.1.mul h.1).add (h.2.mul h.2)
theorem nums_map : ∀ ns : List Int, nums? (ns.map D.int) = some ns
  | [] => rfl
  | n :: ns => by rw [List.map_cons, nums_cons, nums_map ns]; rfl
/-- a spring: the digits left, the stirred number, the count -/
def TkS (T : Tk) : Prop := ∃ a b c, T = [.int a, .int b, .int c] ∧ 0 ≤ a ∧ 0 ≤ b ∧ b < 1099511627776
theorem TkS.noL {T : Tk} (h : TkS T) : D.noLL T := by
  obtain ⟨a, b, c, rfl, _⟩ := h
  simp only [noLL_cons, noLL_nil, noL_int, and_true]
theorem w_spring_loop {F : En → Tk → Prop} {A B C : Option SV} {T : Tk} : ∀ (ns : List Int) (s : Int) (c : Option SV), 0 ≤ s ∧ s < 1099511627776 → (∀ s' c', 0 ≤ s' ∧ s' < 1099511627776 → F [A, B, C, some (.val (.int s')), c'] T) →
    forL (gN 4) (sAsg (dOp (oF fMod) (dBlt (oG fInt) (aCons (dOp (oF fAdd) (dOp (oF fAdd) (dOp (oF fMul) (dVar 3) (dC (.int 47293))) (dOp (oF fMod) (dBlt (oG fInt) (aCons (dVar 4) (aNil))) (dC (.int 2147483563)))) (dC (.int 19))) (aNil))) (dC (.int 2147483563))) (gN 3)) { no0 with nx := F } (ns.map D.int) [A, B, C, some (.val (.int s)), c] T
  | [], s, c, h0, h => h s c h0
  | n :: ns, s, c, h0, h => by
    rw [List.map_cons]
    walk_at "ev"
    exact ⟨lit_mul' (by decide), w_spring_loop ns _ _ ⟨Int.emod_nonneg _ (by decide), by have := Int.emod_lt_of_pos (s * 47293 + n % 2147483563 + 19) (b := 2147483563) (by decide); omega⟩ h⟩
theorem w__law_spring {ns : List Int} {i : Int} {k : KD} (hi : 0 ≤ i) (hi2 : i ≤ 1000) (hl : ns.length ≤ 1000) (h : ∀ T, TkS T → k (.lst T) []) : sm__law_spring [.val (scrD ns), .val (.int i)] [] k := by
  rw [e__law_spring, b__law_spring, scrD]
  walk_at "ev"
  have l7 : (List.take 7 (ns.map D.int)).length ≤ 7 := List.length_take_le _ _
  have lp : ∀ o : Int, (List.take 7 (ns.map D.int) ++ [D.int o]) = (ns.take 7 ++ [o]).map D.int := fun o => by rw [← List.map_take, List.map_append]; rfl
  have hk : ∀ o : Int, ∀ s : Int, 0 ≤ s ∧ s < 1099511627776 → ∀ p : Int, 0 ≤ p → k (.lst [.int p, .int s, .int 0]) [] := fun o s hs p hp => h _ ⟨_, _, _, rfl, hp, hs⟩
  have hp : ∀ o : Int, 0 ≤ iAbs o := fun o => by unfold iAbs; split <;> omega
  have fin : ∀ o s : Int, 0 ≤ s ∧ s < 1099511627776 → (if o < 0 then k (.lst [.int (iAbs o), .int s, .int 0]) [] else CPow 10 18 ∧ if 10 ^ Int.toNat 18 ≤ o then k (.lst [.int (iAbs o), .int s, .int 0]) [] else k (.lst [.int 0, .int s, .int 0]) []) := by
    intro o s hs
    have := hp o
    generalize iAbs o = q at this ⊢
    split
    · exact hk 0 s hs _ this
    refine ⟨by unfold CPow; decide, ?_⟩
    split
    · exact hk 0 s hs _ this
    · exact hk 0 s hs _ (Int.le_refl _)
  split
  · rename_i c
    obtain ⟨n, rfl⟩ := Int.eq_ofNat_of_zero_le hi
    rw [atI_nat', List.getElem?_map, List.getElem?_eq_getElem (by simpa using c)]
    walk_at "ev"
    refine ⟨lit_mul (by decide), by omega, by rw [List.length_append]; simp; omega, ?_⟩
    rw [lp]
    refine w_spring_loop _ _ _ (by omega) fun s c hs => ?_
    walk_at "ev"
    exact fin _ s hs
  · rw [← List.map_take, nums_map]
    walk_at "ev"
    refine ⟨lit_mul (by decide), lit_mul (by decide), by omega, by rw [List.length_append]; simp; omega, ?_⟩
    rw [lp]
    refine w_spring_loop _ _ _ (by omega) fun s c hs => ?_
    walk_at "ev"
    exact fin _ s hs
theorem w__law_draw {T : Tk} {m : Int} {k : KD} (hT : TkS T) (h0 : 0 < m) (h1 : m.natAbs < 2 ^ 64) (h : ∀ r T', 0 ≤ r → r < m → TkS T' → k (.int r) T') : sm__law_draw [.tank, .val (.int m)] T k := by
  obtain ⟨a, b, c, rfl, ha, hb, hb2⟩ := hT
  rw [e__law_draw, b__law_draw]
  walk_at "ev"
  split
  · exact ⟨lit_dm h0 h1, h _ _ (Int.emod_nonneg _ (by omega)) (Int.emod_lt_of_pos _ h0) ⟨_, _, _, rfl, Int.ediv_nonneg ha (by omega), hb, hb2⟩⟩
  · refine ⟨lit_mul (by decide), lit_mul (by omega), lit_mul (by decide), lit_div (by decide) (by decide), h0, h _ _ (Int.emod_nonneg _ (by omega)) (Int.emod_lt_of_pos _ h0) ⟨_, _, _, rfl, ha, Int.emod_nonneg _ (by decide), ?_⟩⟩
    exact Int.lt_of_lt_of_le (Int.emod_lt_of_pos _ (by decide)) (by decide)
theorem w__law_one_of {T : Tk} {xs : List D} {k : KD} (hT : TkS T) (h0 : xs ≠ []) (h1 : xs.length < 1000000) (h : ∀ x T', x ∈ xs → TkS T' → k x T') : sm__law_one_of [.tank, .val (.lst xs)] T k := by
  rw [e__law_one_of, b__law_one_of]
  walk_at "ev"
  have hl : 0 < xs.length := List.length_pos_iff.mpr h0
  refine w__law_draw hT (by omega) (by omega) fun r T' h2 h3 hT' => ?_
  obtain ⟨n, rfl⟩ := Int.eq_ofNat_of_zero_le h2
  have hn : n < xs.length := by omega
  walk_at "ev"
  simp only [atI_nat', List.getElem?_eq_getElem hn, ixR_some]
  exact ⟨trivial, h _ _ (List.getElem_mem hn) hT'⟩
theorem w__law_about {T : Tk} {w : Int} {n : Nat} {k : KD} (hT : TkS T) (w0 : 0 ≤ w) (w1 : w ≤ 1000000) (h : ∀ r T', -w ≤ r → r ≤ w → TkS T' → k (.int r) T') : sm__law_about [.tank, .val (.int w)] T k := by
  rw [e__law_about, b__law_about]
  walk_at "ev"
  refine ⟨lit_mul (by decide), ?_⟩
  refine w__law_draw hT (by omega) (by omega) fun r T' h2 h3 hT' => ?_
  walk_at "ev"
  exact h _ _ (by omega) (by omega) hT'

theorem w_is_whole {T : Tk} {i : Int} {k : KD} (h : k (.bl true) T) : sm_is_whole [.val (.int i)] T k := by
  rw [e_is_whole, b_is_whole]
  walk_at "ev"
  exact h
theorem w_are_wholes_2 {T : Tk} {i j : Int} {k : KD} (h : k (.bl true) T) : sm_are_wholes [.val (.tup [.int i, .int j]), .val (.int 2)] T k := by
  rw [e_are_wholes, b_are_wholes]
  walk_at "ev"
  refine w_is_whole (w_is_whole ?_)
  walk_at "ev"
  exact h
theorem w_is_complex {T : Tk} {a b : Int} {k : KD} (h : k (.bl true) T) : sm_is_complex [.val (.tup [.int a, .int b])] T k := by
  rw [e_is_complex, b_is_complex]
  walk_at "ev"
  exact w_are_wholes_2 h
theorem w_plus {T : Tk} {a b c d : Int} {k : KD} (h : k (.tup [.int (a + c), .int (b + d)]) T) : sm_plus [.val (.tup [.int a, .int b]), .val (.tup [.int c, .int d])] T k := by
  rw [e_plus, b_plus]
  walk_at "ev"
  exact h
theorem w_minus {T : Tk} {a b c d : Int} {k : KD} (h : k (.tup [.int (a - c), .int (b - d)]) T) : sm_minus [.val (.tup [.int a, .int b]), .val (.tup [.int c, .int d])] T k := by
  rw [e_minus, b_minus]
  walk_at "ev"
  exact h
theorem w_times {T : Tk} {a b c d : Int} {k : KD} (hz : Cz 100000 (a, b)) (hw : Cz 100000 (c, d)) (h : ∀ p, p = cmul (a, b) (c, d) → k (.tup [.int p.1, .int p.2]) T) : sm_times [.val (.tup [.int a, .int b]), .val (.tup [.int c, .int d])] T k := by
  rw [e_times, b_times]
  walk_at "ev"
  exact ⟨hz.1.mulOk hw.1 (by decide) (by decide), hz.2.mulOk hw.2 (by decide) (by decide), hz.1.mulOk hw.2 (by decide) (by decide), hz.2.mulOk hw.1 (by decide) (by decide), h _ rfl⟩
theorem w_turned_over {T : Tk} {a b : Int} {k : KD} (h : k (.tup [.int a, .int (-b)]) T) : sm_turned_over [.val (.tup [.int a, .int b])] T k := by
  rw [e_turned_over, b_turned_over]
  walk_at "ev"
  exact h
theorem w_square_size {T : Tk} {a b : Int} {k : KD} (hz : Cz 100000 (a, b)) (h : k (.int (cnrm (a, b))) T) : sm_square_size [.val (.tup [.int a, .int b])] T k := by
  rw [e_square_size, b_square_size]
  walk_at "ev"
  exact ⟨hz.1.mulOk hz.1 (by decide) (by decide), hz.2.mulOk hz.2 (by decide) (by decide), h⟩
def cunit (z : Cx2) : Cx2 := if 0 < z.1 ∧ 0 ≤ z.2 then (1, 0) else if 0 < -z.2 ∧ 0 ≤ z.1 then (0, 1) else if 0 < -z.1 ∧ 0 ≤ -z.2 then (-1, 0) else (0, -1)
theorem cz_unit {N : Nat} (hN : 1 ≤ N) {a b : Int} (ha : -1 ≤ a ∧ a ≤ 1) (hb : -1 ≤ b ∧ b ≤ 1) : Cz N (a, b) := by
  have t : (2 : Nat) ^ 1 ≤ 2 ^ N := Nat.pow_le_pow_right (by decide) hN
  constructor
  · show a.natAbs < 2 ^ N; omega
  · show b.natAbs < 2 ^ N; omega
theorem w_unit_for {T : Tk} {a b : Int} {k : KD} (hz : Cz 100000 (a, b)) (h : ∀ p, p = cunit (a, b) → k (.tup [.int p.1, .int p.2]) T) : sm_unit_for [.val (.tup [.int a, .int b])] T k := by
  rw [e_unit_for, b_unit_for, k_UNITS]
  walk_at "ev"
  have h1 : cmul (a, b) (1, 0) = (a, b) := by simp [cmul]
  have h2 : cmul (a, b) (0, 1) = (-b, a) := by simp [cmul]
  have h3 : cmul (a, b) (-1, 0) = (-a, -b) := by simp [cmul]
  have h0 := h _ rfl
  unfold cunit at h0
  simp only at h0
  refine w_times hz (cz_unit (by decide) (by decide) (by decide)) ?_
  rintro _ rfl
  rw [h1]
  walk_at "ev"
  split
  · rename_i c1; rw [if_pos c1] at h0; exact h0
  rename_i c1
  rw [if_neg c1] at h0
  refine w_times hz (cz_unit (by decide) (by decide) (by decide)) ?_
  rintro _ rfl
  rw [h2]
  walk_at "ev"
  split
  · rename_i c2; rw [if_pos c2] at h0; exact h0
  rename_i c2
  rw [if_neg c2] at h0
  refine w_times hz (cz_unit (by decide) (by decide) (by decide)) ?_
  rintro _ rfl
  rw [h3]
  walk_at "ev"
  split
  · rename_i c3; rw [if_pos c3] at h0; exact h0
  · rename_i c3; rw [if_neg c3] at h0; exact h0
def cdivd (z w : Cx2) : Option Cx2 := if (cmul z (cconj w)).1 % cnrm w = 0 ∧ (cmul z (cconj w)).2 % cnrm w = 0 then some ((cmul z (cconj w)).1 / cnrm w, (cmul z (cconj w)).2 / cnrm w) else none
def ocx : Option Cx2 → D
  | some z => .tup [.int z.1, .int z.2]
  | none => .non
theorem w_divided {T : Tk} {a b c d : Int} {k : KD} (hz : Cz 4000 (a, b)) (hw : Cz 4000 (c, d)) (h0 : 0 < cnrm (c, d)) (h : k (ocx (cdivd (a, b) (c, d))) T) : sm_divided [.val (.tup [.int a, .int b]), .val (.tup [.int c, .int d])] T k := by
  rw [e_divided, b_divided]
  walk_at "ev"
  refine w_turned_over ?_
  walk_at "ev"
  refine w_times (hz.mono (by decide)) (hw.conj.mono (by decide)) ?_
  rintro p rfl
  walk_at "ev"
  refine w_square_size (hw.mono (by decide)) ?_
  walk_at "ev"
  have hn : Sz 8001 (cnrm (c, d)) := hw.nrm
  unfold cdivd at h
  have e1 : cconj (c, d) = (c, -d) := rfl
  rw [e1] at h
  refine ⟨h0, ?_⟩
  by_cases q1 : (cmul (a, b) (c, -d)).1 % cnrm (c, d) = 0
  · rw [if_neg (not_not_intro q1)]
    refine ⟨h0, ?_⟩
    by_cases q2 : (cmul (a, b) (c, -d)).2 % cnrm (c, d) = 0
    · rw [if_neg (not_not_intro q2)]
      rw [if_pos ⟨q1, q2⟩] at h
      exact ⟨hn.divOk (by decide) h0, hn.divOk (by decide) h0, h⟩
    · rw [if_pos q2]
      rw [if_neg fun e => q2 e.2] at h
      exact h
  · rw [if_pos q1]
    rw [if_neg fun e => q1 e.1] at h
    exact h
theorem cnrm_pos {w : Cx2} (h : ¬(w.1 = 0 ∧ w.2 = 0)) : 0 < cnrm w := by
  unfold cnrm
  have h1 : 0 ≤ w.1 * w.1 := mul_self_nonneg' w.1
  have h2 : 0 ≤ w.2 * w.2 := mul_self_nonneg' w.2
  by_cases q : w.1 = 0
  · have : w.2 ≠ 0 := fun e => h ⟨q, e⟩
    have := imul_self_pos this
    omega
  · have := imul_self_pos q
    omega
theorem sz_0 {n : Nat} : Sz n 0 := Nat.two_pow_pos n

def gcdL (g : Int) : List Int → Int
  | [] => g | n :: r => gcdL (iGcd g n) r
theorem iGcd_nn (a b : Int) : 0 ≤ iGcd a b := Int.natCast_nonneg _
theorem gcdL_nn : ∀ (ns : List Int) (g : Int), 0 ≤ g → 0 ≤ gcdL g ns
  | [], _, h => h
  | n :: r, g, _ => gcdL_nn r _ (iGcd_nn g n)
theorem iGcd_dvd_l (a b : Int) : iGcd a b ∣ a := Int.natAbs_dvd_natAbs.mp (by rw [Int.natAbs_natCast]; exact Nat.gcd_dvd_left _ _)
theorem iGcd_dvd_r (a b : Int) : iGcd a b ∣ b := Int.natAbs_dvd_natAbs.mp (by rw [Int.natAbs_natCast]; exact Nat.gcd_dvd_right _ _)
theorem gcdL_dvd0 : ∀ (ns : List Int) (g : Int), gcdL g ns ∣ g
  | [], g => Int.dvd_refl g
  | n :: r, g => Int.dvd_trans (gcdL_dvd0 r _) (iGcd_dvd_l g n)
theorem gcdL_dvd : ∀ (ns : List Int) (g : Int), ∀ n ∈ ns, gcdL g ns ∣ n
  | [], _, _, h => by simp at h
  | m :: r, g, n, h => by
    rcases List.mem_cons.mp h with rfl | h
    · exact Int.dvd_trans (gcdL_dvd0 r _) (iGcd_dvd_r g n)
    · exact gcdL_dvd r _ n h
theorem gcdL_pos {ns : List Int} {n : Int} (hn : n ∈ ns) (h0 : n ≠ 0) : 0 < gcdL 0 ns := by
  have h1 := gcdL_nn ns 0 (Int.le_refl _)
  have h2 := gcdL_dvd ns 0 n hn
  rcases Int.lt_or_eq_of_le h1 with q | q
  · exact q
  · rw [← q] at h2
    exact absurd (Int.zero_dvd.mp h2) h0
def lowL (ns : List Int) : List Int := ns.map (· / gcdL 0 ns)
/-- a common divisor is no longer than a number it divides -/
theorem sz_dvd {m : Nat} {g n : Int} (h : g ∣ n) (h0 : n ≠ 0) (s : Sz m n) : Sz m g := by
  have := Nat.le_of_dvd (Int.natAbs_pos.mpr h0) (Int.natAbs_dvd_natAbs.mpr h)
  unfold Sz at *
  omega
theorem lc_div {A : Option SV} {B : En} {g : Int} {K : List D → Tk → Prop} (hg : ∀ i, DivOk i g) : ∀ (ns : List Int) (c : Option SV) (acc : List D) (T : Tk), K (acc ++ (ns.map (· / g)).map D.int) T →
    lcD (A :: some (.val (.int g)) :: c :: B) (cN 2) dYes (dOp (oF fDiv) (dVar 2) (dVar 1)) K (ns.map D.int) acc T
  | [], c, acc, T, h => by
    rw [List.map_nil, List.map_nil, List.append_nil] at h
    exact h
  | n :: ns, c, acc, T, h => by
    rw [List.map_cons]
    walk_at "ev"
    refine ⟨hg _, lc_div hg ns _ _ _ ?_⟩
    rw [List.append_assoc]
    exact h
theorem div_loop {A : Option SV} {F B C : En → Tk → Prop} {R : KD} {T : Tk} : ∀ (ns : List Int) (g : Int) (c : Option SV), (∀ c', F [A, some (.val (.int (gcdL g ns))), c'] T) →
    forL (gN 2) (sAsg (dBlt (oG (fI2 iGcd)) (aCons (dVar 1) (aCons (dVar 2) (aNil)))) (gN 1)) { nx := F, rt := R, bk := B, ct := C } (ns.map D.int) [A, some (.val (.int g)), c] T
  | [], g, c, h => h c
  | n :: ns, g, c, h => by
    rw [List.map_cons]
    walk_at "ev"
    exact div_loop ns _ _ h
theorem w_divisor_of {T : Tk} {ns : List Int} {k : KD} (hl : ns.length ≤ 1000000) (h : k (.int (gcdL 0 ns)) T) : sm_divisor_of [.val (.tup (ns.map D.int))] T k := by
  rw [e_divisor_of, b_divisor_of]
  walk_at "ev"
  refine ⟨by simpa using hl, ?_⟩
  refine div_loop ns 0 _ fun c => ?_
  walk_at "ev"
  exact h
theorem w_lowest {T : Tk} {ns : List Int} {k : KD} (hl : ns.length ≤ 1000000) {n : Int} (hn : n ∈ ns) (h0 : n ≠ 0) (hs : Sz 9000 n) (h : k (.tup ((lowL ns).map D.int)) T) : sm_lowest [.val (.tup (ns.map D.int))] T k := by
  rw [e_lowest, b_lowest]
  walk_at "ev"
  refine w_divisor_of hl ?_
  walk_at "ev"
  refine ⟨by simpa using hl, ?_⟩
  have hp := gcdL_pos hn h0
  have hd := sz_dvd (gcdL_dvd ns 0 n hn) h0 hs
  refine lc_div (fun i => hd.divOk (Nat.le_refl _) hp) ns _ _ _ ?_
  walk_at "ev"
  exact h
theorem iGcd_comm (a b : Int) : iGcd a b = iGcd b a := by show ((Nat.gcd _ _ : Nat) : Int) = ((Nat.gcd _ _ : Nat) : Int); rw [Nat.gcd_comm]
theorem iGcd_mod {a b : Int} (ha : 0 ≤ a) (hb : 0 < b) : iGcd b (a % b) = iGcd a b := by
  obtain ⟨x, rfl⟩ := Int.eq_ofNat_of_zero_le ha
  obtain ⟨y, rfl⟩ := Int.eq_ofNat_of_zero_le (Int.le_of_lt hb)
  show ((Nat.gcd _ _ : Nat) : Int) = ((Nat.gcd _ _ : Nat) : Int)
  rw [← Int.natCast_emod, Int.natAbs_natCast, Int.natAbs_natCast, Int.natAbs_natCast, Nat.gcd_comm x y, Nat.gcd_rec y x, Nat.gcd_comm]
theorem iGcd_zero {a : Int} (h : 0 ≤ a) : iGcd a 0 = a := by
  show ((Nat.gcd _ _ : Nat) : Int) = a
  rw [Int.natAbs_zero, Nat.gcd_zero_right]
  omega
theorem iGcd_abs (a b : Int) : iGcd a (iAbs b) = iGcd a b := by
  show ((Nat.gcd _ _ : Nat) : Int) = ((Nat.gcd _ _ : Nat) : Int)
  have : (iAbs b).natAbs = b.natAbs := by unfold iAbs; split <;> omega
  rw [this]
theorem iAbs_nn (a : Int) : 0 ≤ iAbs a := by unfold iAbs; split <;> omega
theorem gcdL_scale {c : Int} (hc : 0 ≤ c) : ∀ (ns : List Int) (g : Int), 0 ≤ g → gcdL (c * g) (ns.map (c * ·)) = c * gcdL g ns
  | [], g, _ => rfl
  | n :: r, g, hg => by
    rw [List.map_cons]
    show gcdL (iGcd (c * g) (c * n)) _ = c * gcdL (iGcd g n) r
    have e : iGcd (c * g) (c * n) = c * iGcd g n := by
      show ((Nat.gcd _ _ : Nat) : Int) = c * ((Nat.gcd _ _ : Nat) : Int)
      rw [Int.natAbs_mul, Int.natAbs_mul, Nat.gcd_mul_left]
      rw [Int.natCast_mul]
      congr 1
      omega
    rw [e]
    exact gcdL_scale hc r _ (iGcd_nn _ _)
theorem lowL_scale {c : Int} (hc : 0 < c) (ns : List Int) : lowL (ns.map (c * ·)) = lowL ns := by
  unfold lowL
  have e := gcdL_scale (Int.le_of_lt hc) ns 0 (Int.le_refl _)
  rw [Int.mul_zero] at e
  rw [e, List.map_map]
  apply List.map_congr_left
  intro n _
  show c * n / (c * gcdL 0 ns) = n / gcdL 0 ns
  exact Int.mul_ediv_mul_of_pos _ _ hc
theorem lowL_same {c d : Int} (hc : 0 < c) (hd : 0 < d) {ns ms : List Int} (h : ns.map (c * ·) = ms.map (d * ·)) : lowL ns = lowL ms := by rw [← lowL_scale hc ns, h, lowL_scale hd ms]
theorem lowL_back {ns : List Int} : (lowL ns).map (gcdL 0 ns * ·) = ns := by
  unfold lowL
  rw [List.map_map]
  conv => rhs; rw [← List.map_id ns]
  apply List.map_congr_left
  intro n hn
  exact Int.mul_ediv_cancel' (gcdL_dvd ns 0 n hn)
theorem lowL_gcd {ns : List Int} (h : 0 < gcdL 0 ns) : gcdL 0 (lowL ns) = 1 := by
  have e := gcdL_scale (Int.le_of_lt h) (lowL ns) 0 (Int.le_refl _)
  rw [Int.mul_zero, lowL_back] at e
  have e' : gcdL 0 ns * 1 = gcdL 0 ns * gcdL 0 (lowL ns) := by rw [Int.mul_one]; exact e
  exact (Int.eq_of_mul_eq_mul_left (by omega) e').symm
theorem lowL_one {ns : List Int} (h : gcdL 0 ns = 1) : lowL ns = ns := by
  unfold lowL
  rw [h]
  conv => rhs; rw [← List.map_id ns]
  apply List.map_congr_left
  intro n _
  exact Int.ediv_one n
theorem gcd_uniq {c d : Int} (hc : 0 < c) (hd : 0 < d) {ns ms : List Int} (h1 : gcdL 0 ns = 1) (h2 : gcdL 0 ms = 1) (h : ns.map (c * ·) = ms.map (d * ·)) : ns = ms := by
  rw [← lowL_one h1, ← lowL_one h2]
  exact lowL_same hc hd h
abbrev P3 := Int × Int × Int
def P3.d (q : P3) : D := .tup [.int q.1, .int q.2.1, .int q.2.2]
/-- a place by its two rational coordinates -/
structure PlQ (n : Nat) (q : P3) (u v : Rat) : Prop where
  pos : 0 < q.2.2
  one : gcdL 0 [q.1, q.2.1, q.2.2] = 1
  s1 : Sz n q.1
  s2 : Sz n q.2.1
  s3 : Sz n q.2.2
  e1 : (q.1 : Rat) = u * (q.2.2 : Rat)
  e2 : (q.2.1 : Rat) = v * (q.2.2 : Rat)
theorem PlQ.mono {m n : Nat} {q : P3} {u v : Rat} (h : PlQ m q u v) (l : m ≤ n) : PlQ n q u v := ⟨h.pos, h.one, h.s1.mono l, h.s2.mono l, h.s3.mono l, h.e1, h.e2⟩
theorem cast_inj {a b : Int} (h : (a : Rat) = (b : Rat)) : a = b := Rat.intCast_inj.mp h
theorem PlQ.uniq {m n : Nat} {p q : P3} {u v : Rat} (h : PlQ m p u v) (h' : PlQ n q u v) : p = q := by
  obtain ⟨a, b, c⟩ := p
  obtain ⟨a', b', c'⟩ := q
  obtain ⟨p1, o1, _, _, _, x1, y1⟩ := h
  obtain ⟨p2, o2, _, _, _, x2, y2⟩ := h'
  simp only at *
  have q1 : c' * a = c * a' := cast_inj (by push_cast; rw [x1, x2]; grind)
  have q2 : c' * b = c * b' := cast_inj (by push_cast; rw [y1, y2]; grind)
  have := gcd_uniq p2 p1 o1 o2 (show [a, b, c].map (c' * ·) = [a', b', c'].map (c * ·) by simp [q1, q2, Int.mul_comm])
  simpa using this
theorem plq_low {n : Nat} {x y z : Int} {u v : Rat} (hz : 0 < z) (s1 : Sz n x) (s2 : Sz n y) (s3 : Sz n z) (e1 : (x : Rat) = u * z) (e2 : (y : Rat) = v * z) : PlQ n (x / gcdL 0 [x, y, z], y / gcdL 0 [x, y, z], z / gcdL 0 [x, y, z]) u v := by
  have hp : 0 < gcdL 0 [x, y, z] := gcdL_pos (n := z) (by simp) (by omega)
  have hb := lowL_back (ns := [x, y, z])
  have ho := lowL_gcd hp
  unfold lowL at hb ho
  generalize gcdL 0 [x, y, z] = g at *
  simp only [List.map_cons, List.map_nil, List.cons.injEq, and_true] at hb ho
  obtain ⟨b1, b2, b3⟩ := hb
  have gz : (g : Rat) ≠ 0 := fun e => by have := cast_inj (b := 0) e; omega
  have c1 : (g : Rat) * ((x / g : Int) : Rat) = x := by rw [← Rat.intCast_mul, b1]
  have c2 : (g : Rat) * ((y / g : Int) : Rat) = y := by rw [← Rat.intCast_mul, b2]
  have c3 : (g : Rat) * ((z / g : Int) : Rat) = z := by rw [← Rat.intCast_mul, b3]
  refine ⟨?_, ho, s1.ediv, s2.ediv, s3.ediv, ?_, ?_⟩
  · rcases Int.lt_or_le 0 (z / g) with q | q
    · exact q
    · have := Int.mul_nonpos_of_nonneg_of_nonpos (Int.le_of_lt hp) q
      omega
  · simp only; generalize ((x / g : Int) : Rat) = X at *; generalize ((z / g : Int) : Rat) = Z at *; grind
  · simp only; generalize ((y / g : Int) : Rat) = X at *; generalize ((z / g : Int) : Rat) = Z at *; grind
theorem w_low3 {T : Tk} {n : Nat} {x y z : Int} {u v : Rat} {k : KD} (hz : 0 < z) (s1 : Sz n x) (s2 : Sz n y) (s3 : Sz n z) (hn : n ≤ 9000) (e1 : (x : Rat) = u * z) (e2 : (y : Rat) = v * z) (h : ∀ q : P3, PlQ n q u v → k (.tup [.int q.1, .int q.2.1, .int q.2.2]) T) : sm_lowest [.val (.tup [.int x, .int y, .int z])] T k :=
  w_lowest (ns := [x, y, z]) (by simp) (n := z) (by simp) (by omega) (s3.mono hn) (h _ (plq_low hz s1 s2 s3 e1 e2))
theorem PlQ.ne {n : Nat} {p : P3} {u v : Rat} (h : PlQ n p u v) : (p.2.2 : Rat) ≠ 0 := fun e => by have := cast_inj (b := 0) e; have := h.pos; omega
theorem PlQ.e1' {n : Nat} {p : P3} {u v : Rat} (h : PlQ n p u v) : ((p.1 : Int) : Rat) = u * ((p.2.2 : Int) : Rat) := h.e1
theorem plq_cast {n : Nat} {p : P3} {u v : Rat} (h : PlQ n p u v) : ((p.1 : Int) : Rat) = u * ((p.2.2 : Int) : Rat) ∧ ((p.2.1 : Int) : Rat) = v * ((p.2.2 : Int) : Rat) ∧ 0 < p.2.2 := ⟨h.e1, h.e2, h.pos⟩
/-- a fraction by its value -/
structure FrQ (n : Nat) (q : Int × Int) (u : Rat) : Prop where
  pos : 0 < q.2
  one : gcdL 0 [q.1, q.2] = 1
  s1 : Sz n q.1
  s2 : Sz n q.2
  e1 : (q.1 : Rat) = u * (q.2 : Rat)
theorem FrQ.uniq {m n : Nat} {p q : Int × Int} {u : Rat} (h : FrQ m p u) (h' : FrQ n q u) : p = q := by
  obtain ⟨a, c⟩ := p
  obtain ⟨a', c'⟩ := q
  obtain ⟨p1, o1, _, _, x1⟩ := h
  obtain ⟨p2, o2, _, _, x2⟩ := h'
  simp only at *
  have q1 : c' * a = c * a' := cast_inj (by push_cast; rw [x1, x2]; grind)
  have := gcd_uniq p2 p1 o1 o2 (show [a, c].map (c' * ·) = [a', c'].map (c * ·) by simp [q1, Int.mul_comm])
  simpa using this
def fnz : List Int → Int
  | [] => 0
  | x :: r => if x = 0 then fnz r else x
abbrev R4 := Int × Int × Int × Int
def bnd (r : R4) : Int := r.2.1 * r.2.1 + r.2.2.1 * r.2.2.1 - 4 * r.1 * r.2.2.2
structure Rw (n : Nat) (r : R4) : Prop where
  one : gcdL 0 [r.1, r.2.1, r.2.2.1, r.2.2.2] = 1
  bend : 0 < bnd r
  s1 : Sz n r.1
  s2 : Sz n r.2.1
  s3 : Sz n r.2.2.1
  s4 : Sz n r.2.2.2
structure Rd (n : Nat) (r : R4) : Prop extends Rw n r where
  up : 0 < fnz [r.1, r.2.1, r.2.2.1, r.2.2.2]
theorem Rw.mono {m n : Nat} {r : R4} (h : Rw m r) (l : m ≤ n) : Rw n r := ⟨h.one, h.bend, h.s1.mono l, h.s2.mono l, h.s3.mono l, h.s4.mono l⟩
theorem Rd.mono {m n : Nat} {r : R4} (h : Rd m r) (l : m ≤ n) : Rd n r := ⟨h.toRw.mono l, h.up⟩
theorem Rd.pos {n : Nat} {r : R4} (h : Rd n r) (h0 : r.1 ≠ 0) : 0 < r.1 := by
  have := h.up
  unfold fnz at this
  rw [if_neg h0] at this
  exact this
def val4 (r : R4) (p : P3) : Int := r.1 * (p.1 * p.1 + p.2.1 * p.2.1) + r.2.1 * p.1 * p.2.2 + r.2.2.1 * p.2.1 * p.2.2 + r.2.2.2 * p.2.2 * p.2.2
theorem fnz_neg : ∀ ns : List Int, fnz (ns.map fun x => 0 - x) = - fnz ns
  | [] => rfl
  | n :: r => by
    rw [List.map_cons]
    unfold fnz
    by_cases q : n = 0
    · rw [if_pos q, if_pos (by omega)]; exact fnz_neg r
    · rw [if_neg q, if_neg (by omega)]; omega
theorem fnz_zero : ∀ ns : List Int, fnz ns = 0 → ∀ n ∈ ns, n = 0
  | [], _, _, h => by simp at h
  | m :: r, h, n, hn => by
    unfold fnz at h
    by_cases q : m = 0
    · rw [if_pos q] at h
      rcases List.mem_cons.mp hn with e | e
      · rw [e]; exact q
      · exact fnz_zero r h n e
    · rw [if_neg q] at h
      exact absurd h q
theorem gcdL_neg : ∀ (ns : List Int) (g : Int), gcdL g (ns.map fun x => 0 - x) = gcdL g ns
  | [], g => rfl
  | n :: r, g => by
    rw [List.map_cons]
    show gcdL (iGcd g (0 - n)) _ = gcdL (iGcd g n) r
    have e : iGcd g (0 - n) = iGcd g n := by
      show ((Nat.gcd _ _ : Nat) : Int) = ((Nat.gcd _ _ : Nat) : Int)
      rw [Int.zero_sub, Int.natAbs_neg]
    rw [e]
    exact gcdL_neg r _
/-- a row with its bend, lowest: what is known -/
theorem low_row {n : Nat} {a b c d : Int} (h0 : 0 < bnd (a, b, c, d)) (s1 : Sz n a) (s2 : Sz n b) (s3 : Sz n c) (s4 : Sz n d) : 0 < gcdL 0 [a, b, c, d] ∧ a = gcdL 0 [a, b, c, d] * (a / gcdL 0 [a, b, c, d]) ∧ b = gcdL 0 [a, b, c, d] * (b / gcdL 0 [a, b, c, d]) ∧ c = gcdL 0 [a, b, c, d] * (c / gcdL 0 [a, b, c, d]) ∧ d = gcdL 0 [a, b, c, d] * (d / gcdL 0 [a, b, c, d]) ∧ Rw n (a / gcdL 0 [a, b, c, d], b / gcdL 0 [a, b, c, d], c / gcdL 0 [a, b, c, d], d / gcdL 0 [a, b, c, d]) := by
  have hp : 0 < gcdL 0 [a, b, c, d] := by
    by_cases hb : b = 0
    · by_cases hc : c = 0
      · by_cases ha : a = 0
        · exfalso; subst ha hb hc; unfold bnd at h0; simp at h0
        · exact gcdL_pos (n := a) (by simp) ha
      · exact gcdL_pos (n := c) (by simp) hc
    · exact gcdL_pos (n := b) (by simp) hb
  have hb := lowL_back (ns := [a, b, c, d])
  have ho := lowL_gcd hp
  unfold lowL at hb ho
  generalize gcdL 0 [a, b, c, d] = g at *
  simp only [List.map_cons, List.map_nil, List.cons.injEq, and_true] at hb ho
  obtain ⟨b1, b2, b3, b4⟩ := hb
  refine ⟨hp, b1.symm, b2.symm, b3.symm, b4.symm, ho, ?_, s1.ediv, s2.ediv, s3.ediv, s4.ediv⟩
  have e : bnd (a, b, c, d) = g * g * bnd (a / g, b / g, c / g, d / g) := by
    unfold bnd
    simp only
    generalize a / g = x at *
    generalize b / g = y at *
    generalize c / g = z at *
    generalize d / g = w at *
    subst b1 b2 b3 b4
    grind
  rw [e] at h0
  rcases Int.lt_or_le 0 (bnd (a / g, b / g, c / g, d / g)) with q | q
  · exact q
  · have := Int.mul_nonpos_of_nonneg_of_nonpos (Int.le_of_lt (Int.mul_pos hp hp)) q
    omega
theorem Rw.fnz_ne {n : Nat} {r : R4} (h : Rw n r) : fnz [r.1, r.2.1, r.2.2.1, r.2.2.2] ≠ 0 := fun e => by
  have z := fnz_zero _ e
  have h0 := h.bend
  unfold bnd at h0
  rw [z r.1 (by simp), z r.2.1 (by simp), z r.2.2.1 (by simp)] at h0
  simp at h0
theorem Rw.neg {n : Nat} {r : R4} (h : Rw n r) : Rw n (0 - r.1, 0 - r.2.1, 0 - r.2.2.1, 0 - r.2.2.2) := by
  refine ⟨?_, ?_, ?_, ?_, ?_, ?_⟩
  · have := gcdL_neg [r.1, r.2.1, r.2.2.1, r.2.2.2] 0
    rw [h.one] at this
    exact this
  · have := h.bend
    unfold bnd at this ⊢
    simp only
    grind
  · simp only [Int.zero_sub]; exact h.s1.neg
  · simp only [Int.zero_sub]; exact h.s2.neg
  · simp only [Int.zero_sub]; exact h.s3.neg
  · simp only [Int.zero_sub]; exact h.s4.neg
theorem rne' {a : Int} (h : 0 < a) : (a : Rat) ≠ 0 := fun e => by have := cast_inj (b := 0) e; omega
abbrev pD (q : P3) : D := .tup [.int q.1, .int q.2.1, .int q.2.2]
/-- a place, the far one too -/
structure Pt (n : Nat) (q : P3) : Prop where
  ok : (q.1 = 1 ∧ q.2.1 = 0 ∧ q.2.2 = 0) ∨ 0 < q.2.2
  one : gcdL 0 [q.1, q.2.1, q.2.2] = 1
  s1 : Sz n q.1
  s2 : Sz n q.2.1
  s3 : Sz n q.2.2
theorem Pt.mono {m n : Nat} {q : P3} (h : Pt m q) (l : m ≤ n) : Pt n q := ⟨h.ok, h.one, h.s1.mono l, h.s2.mono l, h.s3.mono l⟩
theorem PlQ.pt {n : Nat} {q : P3} {u v : Rat} (h : PlQ n q u v) : Pt n q := ⟨.inr h.pos, h.one, h.s1, h.s2, h.s3⟩
theorem sz_1 {n : Nat} (h : 1 ≤ n) : Sz n 1 := Nat.pow_lt_pow_right (m := 0) (n := n) (by decide) (by omega)
theorem pt_far {n : Nat} (h : 1 ≤ n) : Pt n (1, 0, 0) := ⟨.inl ⟨rfl, rfl, rfl⟩, by decide, sz_1 h, sz_0, sz_0⟩
theorem Pt.far {n : Nat} {q : P3} (h : Pt n q) (e : q.2.2 = 0) : q = (1, 0, 0) := by
  obtain ⟨a, b, c⟩ := q
  rcases h.ok with ⟨e1, e2, e3⟩ | e1
  · simp only at e1 e2 e3; subst e1 e2 e3; rfl
  · simp only at e e1; omega
theorem Pt.nn {n : Nat} {q : P3} (h : Pt n q) : 0 ≤ q.2.2 := by rcases h.ok with ⟨_, _, e3⟩ | e1 <;> omega
/-- the square of how far apart, times what is below -/
def dd (p q : P3) : Int := (p.1 * q.2.2 - q.1 * p.2.2) * (p.1 * q.2.2 - q.1 * p.2.2) + (p.2.1 * q.2.2 - q.2.1 * p.2.2) * (p.2.1 * q.2.2 - q.2.1 * p.2.2)
theorem two_sq {a b : Int} (h : a * a + b * b = 0) : a = 0 ∧ b = 0 := by
  have h1 := mul_self_nonneg' a
  have h2 := mul_self_nonneg' b
  constructor
  · by_cases c : a = 0
    · exact c
    · have := imul_self_pos c; omega
  · by_cases c : b = 0
    · exact c
    · have := imul_self_pos c; omega
theorem dd_zero {m n : Nat} {p q : P3} (hp : Pt m p) (hq : Pt n q) (h : dd p q = 0) : p = q := by
  obtain ⟨e1, e2⟩ := two_sq h
  by_cases z : p.2.2 = 0
  · have f := hp.far z
    subst f
    simp only [Int.one_mul, Int.mul_zero, Int.sub_zero] at e1
    exact (hq.far e1).symm
  by_cases z' : q.2.2 = 0
  · have f := hq.far z'
    subst f
    simp only [Int.one_mul, Int.mul_zero, Int.zero_sub] at e1
    exact absurd (by omega) z
  have p1 : 0 < p.2.2 := by have := hp.nn; omega
  have p2 : 0 < q.2.2 := by have := hq.nn; omega
  have o1 := hp.one
  have o2 := hq.one
  obtain ⟨a, b, c⟩ := p
  obtain ⟨a', b', c'⟩ := q
  simp only at *
  have := gcd_uniq p2 p1 o1 o2 (show [a, b, c].map (c' * ·) = [a', b', c'].map (c * ·) by
    simp only [List.map_cons, List.map_nil, List.cons.injEq, and_true]
    refine ⟨?_, ?_, Int.mul_comm _ _⟩
    · rw [Int.mul_comm c' a, Int.mul_comm c a']; omega
    · rw [Int.mul_comm c' b, Int.mul_comm c b']; omega)
  simpa using this
theorem TkOk.noL {T : Tk} (h : TkOk T) : D.noLL T := by
  obtain ⟨a, b, c, rfl, _⟩ := h
  simp only [D.noLL, D.noL, and_self]
theorem ok_pDs_aux : ∀ ps : List P3, D.isPyL (ps.map pD) = true ∧ PyData.canLayAll0 (D.pyL (ps.map pD)) = true ∧ PyData.depthAll (D.pyL (ps.map pD)) ≤ 1
  | [] => ⟨rfl, rfl, by simp [D.pyL, PyData.depthAll]⟩
  | p :: ps => by
    have ⟨h1, h2, h3⟩ := ok_pDs_aux ps
    refine ⟨?_, ?_, ?_⟩
    · simp only [List.map_cons, D.isPyL, pD, D.isPy, h1, Bool.and_self]
    · simp only [List.map_cons, D.pyL, pD, D.py, PyData.canLayAll0, PyData.canLay0, h2, Bool.and_self]
    · simp only [List.map_cons, D.pyL, pD, D.py, PyData.depthAll, PyData.depth]; omega
theorem ok_pDs (ps : List P3) : (D.lst (ps.map pD)).eqOk := by
  have ⟨h1, h2, h3⟩ := ok_pDs_aux ps
  refine ⟨by simpa only [D.isPy] using h1, ?_⟩
  unfold SeqAt.shaped
  simp only [D.py, PyData.canLay0, h2, Bool.true_and, PyData.depth]
  simp; omega
/-- rounds that are multiples of one another are the same -/
theorem rd_uniq {m n : Nat} {r r' : R4} (h : Rd m r) (h' : Rd n r') {g g' : Int} (g0 : g ≠ 0) (g0' : g' ≠ 0) (e1 : g * r.1 = g' * r'.1) (e2 : g * r.2.1 = g' * r'.2.1) (e3 : g * r.2.2.1 = g' * r'.2.2.1) (e4 : g * r.2.2.2 = g' * r'.2.2.2) : r = r' := by
  have fz : ∀ (c : Int) (ns : List Int), c ≠ 0 → fnz (ns.map (c * ·)) = c * fnz ns := fun c ns hc => by
    induction ns with
    | nil => simp [fnz]
    | cons x xs ih =>
      rw [List.map_cons]
      unfold fnz
      by_cases q : x = 0
      · rw [if_pos q, if_pos (by rw [q, Int.mul_zero])]; exact ih
      · rw [if_neg q, if_neg (Int.mul_ne_zero hc q)]
  have e : [r.1, r.2.1, r.2.2.1, r.2.2.2].map (g * ·) = [r'.1, r'.2.1, r'.2.2.1, r'.2.2.2].map (g' * ·) := by simp only [List.map_cons, List.map_nil, e1, e2, e3, e4]
  have f := fz g [r.1, r.2.1, r.2.2.1, r.2.2.2] g0
  rw [e, fz g' _ g0'] at f
  have u := h.up
  have u' := h'.up
  have key : ∀ {a b : Int}, 0 < a → 0 < b → a * r.1 = b * r'.1 → a * r.2.1 = b * r'.2.1 → a * r.2.2.1 = b * r'.2.2.1 → a * r.2.2.2 = b * r'.2.2.2 → r = r' := fun {a b} ha hb q1 q2 q3 q4 => by
    have := gcd_uniq ha hb h.one h'.one (show [r.1, r.2.1, r.2.2.1, r.2.2.2].map (a * ·) = [r'.1, r'.2.1, r'.2.2.1, r'.2.2.2].map (b * ·) by simp only [List.map_cons, List.map_nil, q1, q2, q3, q4])
    obtain ⟨_, _, _, _⟩ := r
    obtain ⟨_, _, _, _⟩ := r'
    simpa using this
  rcases Int.lt_or_gt_of_ne g0 with c | c
  · have c' : g' < 0 := by
      rcases Int.lt_or_gt_of_ne g0' with d | d
      · exact d
      · have := Int.mul_pos d u'; have := Int.mul_neg_of_neg_of_pos c u; omega
    exact key (a := -g) (b := -g') (by omega) (by omega) (by rw [Int.neg_mul, Int.neg_mul, e1]) (by rw [Int.neg_mul, Int.neg_mul, e2]) (by rw [Int.neg_mul, Int.neg_mul, e3]) (by rw [Int.neg_mul, Int.neg_mul, e4])
  · have c' : 0 < g' := by
      rcases Int.lt_or_gt_of_ne g0' with d | d
      · have := Int.mul_neg_of_neg_of_pos d u'; have := Int.mul_pos c u; omega
      · exact d
    exact key c c' e1 e2 e3 e4
def w4 (p : P3) : R4 := (p.1 * p.1 + p.2.1 * p.2.1, p.1 * p.2.2, p.2.1 * p.2.2, p.2.2 * p.2.2)
def mnr (a b c d : Int) : Int := a * d - b * c
def dt3 (a b c d e f g h i : Int) : Int := a * mnr e f h i - b * mnr d f g i + c * mnr d e g h
def cr4 (x y z : R4) : R4 := (dt3 x.2.1 x.2.2.1 x.2.2.2 y.2.1 y.2.2.1 y.2.2.2 z.2.1 z.2.2.1 z.2.2.2, -dt3 x.1 x.2.2.1 x.2.2.2 y.1 y.2.2.1 y.2.2.2 z.1 z.2.2.1 z.2.2.2,
  dt3 x.1 x.2.1 x.2.2.2 y.1 y.2.1 y.2.2.2 z.1 z.2.1 z.2.2.2, -dt3 x.1 x.2.1 x.2.2.1 y.1 y.2.1 y.2.2.1 z.1 z.2.1 z.2.2.1)
theorem cr4_swap (x y z : R4) : cr4 y x z = (-(cr4 x y z).1, -(cr4 x y z).2.1, -(cr4 x y z).2.2.1, -(cr4 x y z).2.2.2) := by
  simp only [cr4, dt3, mnr, Prod.mk.injEq]
  refine ⟨?_, ?_, ?_, ?_⟩ <;> grind
structure S4 (n : Nat) (r : R4) : Prop where
  s1 : Sz n r.1
  s2 : Sz n r.2.1
  s3 : Sz n r.2.2.1
  s4 : Sz n r.2.2.2
/-- the round through three places -/
structure Thr (r : R4) (p q s : P3) : Prop where
  ex : ∃ g : Int, g ≠ 0 ∧ (cr4 (w4 p) (w4 q) (w4 s)).1 = g * r.1 ∧ (cr4 (w4 p) (w4 q) (w4 s)).2.1 = g * r.2.1 ∧ (cr4 (w4 p) (w4 q) (w4 s)).2.2.1 = g * r.2.2.1 ∧ (cr4 (w4 p) (w4 q) (w4 s)).2.2.2 = g * r.2.2.2
theorem Thr.swap {r : R4} {p q s : P3} (h : Thr r p q s) : Thr r q p s := by
  obtain ⟨g, g0, e1, e2, e3, e4⟩ := h.ex
  refine ⟨-g, by omega, ?_⟩
  rw [cr4_swap]
  simp only [e1, e2, e3, e4, Int.neg_mul, and_self]
theorem Thr.uniq {m n : Nat} {r r' : R4} {p q s : P3} (h : Thr r p q s) (h' : Thr r' p q s) (hr : Rd m r) (hr' : Rd n r') : r = r' := by
  obtain ⟨g, g0, e1, e2, e3, e4⟩ := h.ex
  obtain ⟨g', g0', f1, f2, f3, f4⟩ := h'.ex
  exact rd_uniq hr hr' g0 g0' (e1.symm.trans f1) (e2.symm.trans f2) (e3.symm.trans f3) (e4.symm.trans f4)
theorem Thr.line {r : R4} {p q s : P3} (h : Thr r p q s) : r.1 = 0 ↔ p.2.2 * q.2.2 * s.2.2 * (p.1 * (q.2.1 * s.2.2 - s.2.1 * q.2.2) - p.2.1 * (q.1 * s.2.2 - s.1 * q.2.2) + p.2.2 * (q.1 * s.2.1 - s.1 * q.2.1)) = 0 := by
  obtain ⟨g, g0, e1, _, _, _⟩ := h.ex
  have e : (cr4 (w4 p) (w4 q) (w4 s)).1 = p.2.2 * q.2.2 * s.2.2 * (p.1 * (q.2.1 * s.2.2 - s.2.1 * q.2.2) - p.2.1 * (q.1 * s.2.2 - s.1 * q.2.2) + p.2.2 * (q.1 * s.2.1 - s.1 * q.2.1)) := by
    simp only [cr4, dt3, mnr, w4]; grind
  rw [← e, e1]
  constructor
  · intro z; rw [z, Int.mul_zero]
  · intro z; exact (Int.mul_eq_zero.mp z).resolve_left g0
theorem Rw.s4' {n : Nat} {r : R4} (h : Rw n r) : S4 n r := ⟨h.s1, h.s2, h.s3, h.s4⟩
theorem PlQ.cz {n : Nat} {p : P3} {u v : Rat} (h : PlQ n p u v) (l : n ≤ 100000) : Cz 100000 (p.1, p.2.1) := ⟨h.s1.mono l, h.s2.mono l⟩
theorem PlQ.nz {n : Nat} {q : P3} {u v : Rat} (h : PlQ n q u v) (h0 : ¬(q.1 = 0 ∧ q.2.1 = 0)) : u * u + v * v ≠ 0 := by
  have c := cnrm_pos (w := (q.1, q.2.1)) h0
  unfold cnrm at c
  simp only at c
  have e1 := h.e1
  have e2 := h.e2
  have e : ((q.1 * q.1 + q.2.1 * q.2.1 : Int) : Rat) = (u * u + v * v) * (q.2.2 * q.2.2 : Rat) := by push_cast; grind
  intro z
  rw [z] at e
  have : ((q.1 * q.1 + q.2.1 * q.2.1 : Int) : Rat) = ((0 : Int) : Rat) := by rw [e]; push_cast; grind
  have := cast_inj this
  omega
theorem w_quotient_place {T : Tk} {n : Nat} {a b c d : Int} {u v : Rat} {k : KD} (hz : Cz n (a, b)) (hw : Cz n (c, d)) (hn : n ≤ 4000) (h0 : 0 < cnrm (c, d)) (e1 : ((cmul (a, b) (cconj (c, d))).1 : Rat) = u * (cnrm (c, d) : Rat)) (e2 : ((cmul (a, b) (cconj (c, d))).2 : Rat) = v * (cnrm (c, d) : Rat))
    (h : ∀ q : P3, PlQ (n + n + 1) q u v → k (.tup [.int q.1, .int q.2.1, .int q.2.2]) T) : sm_quotient_place [.val (.tup [.int a, .int b]), .val (.tup [.int c, .int d])] T k := by
  rw [e_quotient_place, b_quotient_place, k_ZERO, k_FAR]
  walk_at "ev"
  refine ⟨⟨ok_cx, ok_cx⟩, ?_⟩
  rw [if_neg (fun e => by obtain ⟨rfl, rfl⟩ := e; exact absurd h0 (by decide))]
  refine w_turned_over ?_
  walk_at "ev"
  refine w_times (hz.mono (by omega)) (hw.conj.mono (by omega)) ?_
  rintro _ rfl
  walk_at "ev"
  refine w_square_size (hw.mono (by omega)) ?_
  walk_at "ev"
  have := hz.mul hw.conj
  exact w_low3 h0 this.1 this.2 hw.nrm (by omega) e1 e2 h
/-- q is the place of z over w -/
structure HP (n : Nat) (q : P3) (z w : Cx2) : Prop where
  pt : Pt n q
  e1 : q.1 * w.1 - q.2.1 * w.2 = q.2.2 * z.1
  e2 : q.1 * w.2 + q.2.1 * w.1 = q.2.2 * z.2
  nz : ¬((z.1 = 0 ∧ z.2 = 0) ∧ (w.1 = 0 ∧ w.2 = 0))
theorem HP.mono {m n : Nat} {q : P3} {z w : Cx2} (h : HP m q z w) (l : m ≤ n) : HP n q z w := ⟨h.pt.mono l, h.e1, h.e2, h.nz⟩
theorem cx_norm {a b c d : Int} (h : ¬(c = 0 ∧ d = 0)) (e1 : a * c - b * d = 0) (e2 : a * d + b * c = 0) : a = 0 ∧ b = 0 := by
  have n0 : c * c + d * d ≠ 0 := fun z => h (two_sq z)
  constructor
  · have : a * (c * c + d * d) = 0 := by
      have : a * (c * c + d * d) = (a * c - b * d) * c + (a * d + b * c) * d := by grind
      rw [this, e1, e2]; simp
    exact (Int.mul_eq_zero.mp this).resolve_right n0
  · have : b * (c * c + d * d) = 0 := by
      have : b * (c * c + d * d) = (a * d + b * c) * c - (a * c - b * d) * d := by grind
      rw [this, e1, e2]; simp
    exact (Int.mul_eq_zero.mp this).resolve_right n0
theorem HP.far {n : Nat} {q : P3} {z w : Cx2} (h : HP n q z w) : q.2.2 = 0 ↔ (w.1 = 0 ∧ w.2 = 0) := by
  constructor
  · intro e
    have := h.pt.far e
    have e1 := h.e1
    have e2 := h.e2
    rw [this] at e1 e2
    simp only [Int.one_mul, Int.zero_mul, Int.sub_zero, Int.add_zero] at e1 e2
    exact ⟨e1, e2⟩
  · rintro ⟨w1, w2⟩
    have e1 := h.e1
    have e2 := h.e2
    rw [w1, w2, Int.mul_zero, Int.mul_zero] at e1 e2
    by_cases r : q.2.2 = 0
    · exact r
    · exfalso
      apply h.nz
      refine ⟨⟨?_, ?_⟩, w1, w2⟩
      · exact (Int.mul_eq_zero.mp (by simpa using e1.symm)).resolve_left r
      · exact (Int.mul_eq_zero.mp (by simpa using e2.symm)).resolve_left r
/-- the same quotient -/
theorem HP.tr {n : Nat} {q : P3} {z w z' w' : Cx2} (h : HP n q z w) (nz : ¬((z'.1 = 0 ∧ z'.2 = 0) ∧ (w'.1 = 0 ∧ w'.2 = 0))) (e1 : z.1 * w'.1 - z.2 * w'.2 = z'.1 * w.1 - z'.2 * w.2) (e2 : z.1 * w'.2 + z.2 * w'.1 = z'.1 * w.2 + z'.2 * w.1) : HP n q z' w' := by
  have h1 := h.e1
  have h2 := h.e2
  by_cases w0 : w.1 = 0 ∧ w.2 = 0
  · have r := h.far.mpr w0
    have qf := h.pt.far r
    obtain ⟨w1, w2⟩ := w0
    rw [w1, w2] at e1 e2
    simp only [Int.mul_zero, Int.sub_zero, Int.add_zero] at e1 e2
    have z0 : ¬(z.1 = 0 ∧ z.2 = 0) := fun z0 => h.nz ⟨z0, w1, w2⟩
    have := cx_norm (a := w'.1) (b := w'.2) z0 (by rw [Int.mul_comm w'.1, Int.mul_comm w'.2]; exact e1) (by rw [Int.mul_comm w'.1, Int.mul_comm w'.2]; omega)
    refine ⟨h.pt, ?_, ?_, nz⟩
    · rw [qf, this.1, this.2]; simp
    · rw [qf, this.1, this.2]; simp
  · refine ⟨h.pt, ?_, ?_, nz⟩
    · have k := cx_norm (a := q.1 * w'.1 - q.2.1 * w'.2 - q.2.2 * z'.1) (b := q.1 * w'.2 + q.2.1 * w'.1 - q.2.2 * z'.2) w0 (by grind) (by grind)
      have := k.1
      omega
    · have k := cx_norm (a := q.1 * w'.1 - q.2.1 * w'.2 - q.2.2 * z'.1) (b := q.1 * w'.2 + q.2.1 * w'.1 - q.2.2 * z'.2) w0 (by grind) (by grind)
      have := k.2
      omega
theorem HP.self {n : Nat} {q : P3} (h : Pt n q) : HP n q (q.1, q.2.1) (q.2.2, 0) := by
  refine ⟨h, by simp only [Int.mul_zero, Int.sub_zero]; exact Int.mul_comm _ _, by simp only [Int.mul_zero, Int.zero_add]; exact Int.mul_comm _ _, ?_⟩
  rintro ⟨⟨a, b⟩, c, _⟩
  simp only at a b c
  have := h.far c
  rw [this] at a
  simp at a
theorem HP.uniq {m n : Nat} {q q' : P3} {z w : Cx2} (h : HP m q z w) (h' : HP n q' z w) : q = q' := by
  refine dd_zero h.pt h'.pt ?_
  have a1 := h.e1
  have a2 := h.e2
  have b1 := h'.e1
  have b2 := h'.e2
  by_cases w0 : w.1 = 0 ∧ w.2 = 0
  · have r := h.far.mpr w0
    have r' := h'.far.mpr w0
    unfold dd
    rw [r, r']
    simp
  · have k := cx_norm (a := q.1 * q'.2.2 - q'.1 * q.2.2) (b := q.2.1 * q'.2.2 - q'.2.1 * q.2.2) w0 (by grind) (by grind)
    unfold dd
    rw [k.1, k.2]
    rfl
theorem plq_hp {n : Nat} {q : P3} {u v : Rat} {z w : Cx2} (h : PlQ n q u v) (w0 : ¬(w.1 = 0 ∧ w.2 = 0)) (e1 : u * (w.1 : Rat) - v * (w.2 : Rat) = (z.1 : Rat)) (e2 : u * (w.2 : Rat) + v * (w.1 : Rat) = (z.2 : Rat)) : HP n q z w := by
  refine ⟨h.pt, cast_inj ?_, cast_inj ?_, fun e => w0 e.2⟩
  · push_cast; rw [h.e1, h.e2, ← e1]; generalize (q.2.2 : Rat) = R; grind
  · push_cast; rw [h.e1, h.e2, ← e2]; generalize (q.2.2 : Rat) = R; grind
theorem w_quotient_hp {T : Tk} {n : Nat} {z w : Cx2} {k : KD} (hz : Cz n z) (hw : Cz n w) (hn : n ≤ 4000) (nz : ¬((z.1 = 0 ∧ z.2 = 0) ∧ (w.1 = 0 ∧ w.2 = 0))) (h : ∀ q : P3, HP (2 * n + 1) q z w → k (.tup [.int q.1, .int q.2.1, .int q.2.2]) T) :
    sm_quotient_place [.val (.tup [.int z.1, .int z.2]), .val (.tup [.int w.1, .int w.2])] T k := by
  by_cases w0 : w.1 = 0 ∧ w.2 = 0
  · rw [e_quotient_place, b_quotient_place, k_ZERO, k_FAR]
    walk_at "ev"
    refine ⟨⟨ok_cx, ok_cx⟩, ?_⟩
    rw [if_pos w0]
    refine h (1, 0, 0) ⟨pt_far (by omega), ?_, ?_, nz⟩
    · rw [w0.1, w0.2]; simp
    · rw [w0.1, w0.2]; simp
  · have np := cnrm_pos w0
    have nr := rne' np
    refine w_quotient_place (u := ((cmul z (cconj w)).1 : Rat) / (cnrm w : Rat)) (v := ((cmul z (cconj w)).2 : Rat) / (cnrm w : Rat)) (show Cz n (z.1, z.2) from hz) (show Cz n (w.1, w.2) from hw) hn np ?_ ?_ fun q hq => h q ((plq_hp hq w0 ?_ ?_).mono (by omega))
    · show ((cmul z (cconj w)).1 : Rat) = _ * (cnrm w : Rat)
      generalize (cnrm w : Rat) = N at *
      grind
    · show ((cmul z (cconj w)).2 : Rat) = _ * (cnrm w : Rat)
      generalize (cnrm w : Rat) = N at *
      grind
    · unfold cnrm at nr ⊢
      unfold cmul cconj
      push_cast at nr ⊢
      generalize (w.1 : Rat) = a at *
      generalize (w.2 : Rat) = b at *
      generalize (z.1 : Rat) = c at *
      generalize (z.2 : Rat) = d at *
      grind
    · unfold cnrm at nr ⊢
      unfold cmul cconj
      push_cast at nr ⊢
      generalize (w.1 : Rat) = a at *
      generalize (w.2 : Rat) = b at *
      generalize (z.1 : Rat) = c at *
      generalize (z.2 : Rat) = d at *
      grind

def jn (r x : R4) : Int := r.2.1 * x.2.1 + r.2.2.1 * x.2.2.1 - 2 * (r.1 * x.2.2.2 + x.1 * r.2.2.2)
def df1 (p q : P3) : Int := p.1 * q.2.2 - q.1 * p.2.2
def df2 (p q : P3) : Int := p.2.1 * q.2.2 - q.2.1 * p.2.2
def ui (p q r s : P3) : Int := df1 p r * df2 q s + df2 p r * df1 q s
theorem jn_comm (r x : R4) : jn r x = jn x r := by unfold jn; grind
/-- complex numbers with whole parts, as a ring -/
structure Gi where
  re : Int
  im : Int
theorem Gi.ext' {a b : Gi} (h : a.re = b.re) (q : a.im = b.im) : a = b := by
  cases a; cases b; simp only at h q; subst h q; rfl
def Gi.npw (a : Gi) : Nat → Gi
  | 0 => ⟨1, 0⟩
  | n + 1 => ⟨(Gi.npw a n).re * a.re - (Gi.npw a n).im * a.im, (Gi.npw a n).re * a.im + (Gi.npw a n).im * a.re⟩
instance : Add Gi := ⟨fun a b => ⟨a.re + b.re, a.im + b.im⟩⟩
instance : Mul Gi := ⟨fun a b => ⟨a.re * b.re - a.im * b.im, a.re * b.im + a.im * b.re⟩⟩
instance : Neg Gi := ⟨fun a => ⟨-a.re, -a.im⟩⟩
instance : Sub Gi := ⟨fun a b => ⟨a.re - b.re, a.im - b.im⟩⟩
instance : NatCast Gi := ⟨fun n => ⟨n, 0⟩⟩
instance : IntCast Gi := ⟨fun n => ⟨n, 0⟩⟩
instance (n : Nat) : OfNat Gi n := ⟨⟨n, 0⟩⟩
instance : SMul Nat Gi := ⟨fun n a => (n : Gi) * a⟩
instance : SMul Int Gi := ⟨fun n a => (n : Gi) * a⟩
instance : HPow Gi Nat Gi := ⟨Gi.npw⟩
theorem Gi.add_re (a b : Gi) : (a + b).re = a.re + b.re := rfl
theorem Gi.add_im (a b : Gi) : (a + b).im = a.im + b.im := rfl
theorem Gi.sub_re (a b : Gi) : (a - b).re = a.re - b.re := rfl
theorem Gi.sub_im (a b : Gi) : (a - b).im = a.im - b.im := rfl
theorem Gi.mul_re (a b : Gi) : (a * b).re = a.re * b.re - a.im * b.im := rfl
theorem Gi.mul_im (a b : Gi) : (a * b).im = a.re * b.im + a.im * b.re := rfl
theorem Gi.neg_re (a : Gi) : (-a).re = -a.re := rfl
theorem Gi.neg_im (a : Gi) : (-a).im = -a.im := rfl
theorem Gi.zero_re : (0 : Gi).re = 0 := rfl
theorem Gi.zero_im : (0 : Gi).im = 0 := rfl
theorem Gi.one_re : (1 : Gi).re = 1 := rfl
theorem Gi.one_im : (1 : Gi).im = 0 := rfl
theorem Gi.eq0 {a : Gi} : (a.re = 0 ∧ a.im = 0) ↔ a = 0 := ⟨fun ⟨x, y⟩ => Gi.ext' x y, fun h => by rw [h]; exact ⟨rfl, rfl⟩⟩
instance : Lean.Grind.CommRing Gi where
  add_zero a := Gi.ext' (Int.add_zero _) (Int.add_zero _)
  add_comm a b := Gi.ext' (Int.add_comm _ _) (Int.add_comm _ _)
  add_assoc a b c := Gi.ext' (Int.add_assoc _ _ _) (Int.add_assoc _ _ _)
  mul_assoc a b c := Gi.ext' (by simp only [Gi.mul_re, Gi.mul_im]; grind) (by simp only [Gi.mul_re, Gi.mul_im]; grind)
  mul_one a := Gi.ext' (by simp only [Gi.mul_re, Gi.one_re, Gi.one_im]; omega) (by simp only [Gi.mul_im, Gi.one_re, Gi.one_im]; omega)
  one_mul a := Gi.ext' (by simp only [Gi.mul_re, Gi.one_re, Gi.one_im]; omega) (by simp only [Gi.mul_im, Gi.one_re, Gi.one_im]; omega)
  right_distrib a b c := Gi.ext' (by simp only [Gi.mul_re, Gi.add_re, Gi.add_im]; grind) (by simp only [Gi.mul_im, Gi.add_re, Gi.add_im]; grind)
  mul_zero a := Gi.ext' (by simp only [Gi.mul_re, Gi.zero_re, Gi.zero_im]; omega) (by simp only [Gi.mul_im, Gi.zero_re, Gi.zero_im]; omega)
  left_distrib a b c := Gi.ext' (by simp only [Gi.mul_re, Gi.add_re, Gi.add_im]; grind) (by simp only [Gi.mul_im, Gi.add_re, Gi.add_im]; grind)
  zero_mul a := Gi.ext' (by simp only [Gi.mul_re, Gi.zero_re, Gi.zero_im]; omega) (by simp only [Gi.mul_im, Gi.zero_re, Gi.zero_im]; omega)
  pow_zero a := rfl
  pow_succ a n := rfl
  ofNat_succ n := Gi.ext' (by show ((n + 1 : Nat) : Int) = (n : Int) + 1; omega) rfl
  ofNat_eq_natCast n := rfl
  nsmul_eq_natCast_mul n a := rfl
  neg_add_cancel a := Gi.ext' (Int.add_left_neg _) (Int.add_left_neg _)
  sub_eq_add_neg a b := Gi.ext' Int.sub_eq_add_neg Int.sub_eq_add_neg
  neg_zsmul i a := Gi.ext' (by show (-i) * a.re - 0 * a.im = -(i * a.re - 0 * a.im); grind) (by show (-i) * a.im + 0 * a.re = -(i * a.im + 0 * a.re); grind)
  zsmul_natCast_eq_nsmul n a := rfl
  intCast_ofNat n := rfl
  intCast_neg i := Gi.ext' rfl (by show (0 : Int) = -0; rfl)
  mul_comm a b := Gi.ext' (by simp only [Gi.mul_re]; grind) (by simp only [Gi.mul_im]; grind)
def Gi.cj (a : Gi) : Gi := ⟨a.re, -a.im⟩
def Gi.nm (a : Gi) : Int := a.re * a.re + a.im * a.im
theorem Gi.cj_add (a b : Gi) : (a + b).cj = a.cj + b.cj := Gi.ext' rfl (by show -(a.im + b.im) = -a.im + -b.im; omega)
theorem Gi.cj_sub (a b : Gi) : (a - b).cj = a.cj - b.cj := Gi.ext' rfl (by show -(a.im - b.im) = -a.im - -b.im; omega)
theorem Gi.cj_neg (a : Gi) : (-a).cj = -a.cj := rfl
theorem Gi.cj_mul (a b : Gi) : (a * b).cj = a.cj * b.cj := Gi.ext' (by show a.re * b.re - a.im * b.im = a.re * b.re - -a.im * -b.im; grind) (by show -(a.re * b.im + a.im * b.re) = a.re * -b.im + -a.im * b.re; grind)
theorem Gi.cj_cj (a : Gi) : a.cj.cj = a := Gi.ext' rfl (Int.neg_neg _)
theorem Gi.cj_zero : (0 : Gi).cj = 0 := rfl
theorem Gi.nm_mul (a b : Gi) : (a * b).nm = a.nm * b.nm := by unfold Gi.nm; simp only [Gi.mul_re, Gi.mul_im]; grind
theorem Gi.nm_cj (a : Gi) : a.cj.nm = a.nm := by unfold Gi.nm Gi.cj; simp only; grind
theorem Gi.nm_nn (a : Gi) : 0 ≤ a.nm := by
  have := mul_self_nonneg' a.re
  have := mul_self_nonneg' a.im
  unfold Gi.nm; omega
theorem Gi.nm_zero {a : Gi} (h : a.nm = 0) : a = 0 := by
  unfold Gi.nm at h
  have h1 := mul_self_nonneg' a.re
  have h2 := mul_self_nonneg' a.im
  refine Gi.ext' ?_ ?_
  · by_cases c : a.re = 0
    · exact c
    · have := imul_self_pos c; omega
  · by_cases c : a.im = 0
    · exact c
    · have := imul_self_pos c; omega
theorem Gi.nm_pos {a : Gi} (h : a ≠ 0) : 0 < a.nm := by
  rcases Int.lt_or_eq_of_le a.nm_nn with e | e
  · exact e
  · exact absurd (Gi.nm_zero e.symm) h
theorem Gi.nm_of_zero : (0 : Gi).nm = 0 := rfl
theorem Gi.mul_zero' {a b : Gi} (h : a * b = 0) : a = 0 ∨ b = 0 := by
  have e := Gi.nm_mul a b
  rw [h, Gi.nm_of_zero] at e
  rcases Int.mul_eq_zero.mp e.symm with f | f
  · exact .inl (Gi.nm_zero f)
  · exact .inr (Gi.nm_zero f)
theorem Gi.mul_ne {a b : Gi} (h : a ≠ 0) (q : b ≠ 0) : a * b ≠ 0 := fun e => (Gi.mul_zero' e).elim h q
theorem Gi.cancel {a b c : Gi} (h : c ≠ 0) (e : c * a = c * b) : a = b := by
  have : c * (a - b) = 0 := by grind
  have := (Gi.mul_zero' this).resolve_left h
  grind
theorem Gi.cj_ne {a : Gi} (h : a ≠ 0) : a.cj ≠ 0 := fun e => h (by have := congrArg Gi.cj e; rw [Gi.cj_cj] at this; exact this)
instance : DecidableEq Gi := fun a b => if h : a.re = b.re ∧ a.im = b.im then .isTrue (Gi.ext' h.1 h.2) else .isFalse fun e => h (by rw [e]; exact ⟨rfl, rfl⟩)
/-- norms below 2 ^ n -/
def Nz (n : Nat) (a : Gi) : Prop := a.nm < 2 ^ n
theorem Nz.sz {n : Nat} {a : Gi} (h : Nz n a) : Sz n a.re ∧ Sz n a.im := by
  unfold Nz Gi.nm at h
  have h1 := mul_self_nonneg' a.re
  have h2 := mul_self_nonneg' a.im
  have key : ∀ x : Int, x * x < 2 ^ n → Sz n x := fun x hx => by
    have e : ((x.natAbs * x.natAbs : Nat) : Int) = x * x := Int.natAbs_mul_self' x ▸ (by push_cast; rfl)
    have e2 : x.natAbs * x.natAbs < 2 ^ n := by
      have : ((x.natAbs * x.natAbs : Nat) : Int) < ((2 ^ n : Nat) : Int) := by rw [e]; push_cast; exact hx
      exact_mod_cast this
    have : x.natAbs ≤ x.natAbs * x.natAbs := by
      rcases Nat.eq_zero_or_pos x.natAbs with z | z
      · rw [z]; exact Nat.le_refl _
      · exact Nat.le_mul_of_pos_left _ z
    unfold Sz
    omega
  exact ⟨key _ (by omega), key _ (by omega)⟩
theorem Nz.mono {m n : Nat} {a : Gi} (h : Nz m a) (l : m ≤ n) : Nz n a := by
  have : (2 : Int) ^ m ≤ 2 ^ n := by exact_mod_cast Nat.pow_le_pow_right (n := 2) (by decide) l
  unfold Nz at *
  omega
theorem Nz.cj {n : Nat} {a : Gi} (h : Nz n a) : Nz n a.cj := by unfold Nz at *; rw [Gi.nm_cj]; exact h
theorem Nz.dvd {n : Nat} {a b : Gi} (hb : b ≠ 0) (h : Nz n (b * a)) : Nz n a := by
  unfold Nz at *
  rw [Gi.nm_mul] at h
  have h1 := Gi.nm_pos hb
  have h2 := a.nm_nn
  have : a.nm ≤ b.nm * a.nm := by
    have := Int.mul_le_mul_of_nonneg_right (show 1 ≤ b.nm by omega) h2
    omega
  omega
theorem Nz.mul {m n : Nat} {a b : Gi} (h : Nz m a) (q : Nz n b) : Nz (m + n) (a * b) := by
  unfold Nz at *
  rw [Gi.nm_mul, Int.pow_add]
  generalize (2 : Int) ^ m = A at *
  generalize (2 : Int) ^ n = B at *
  have ha := a.nm_nn
  have hb := b.nm_nn
  have h1 := Int.mul_le_mul (show a.nm ≤ A - 1 by omega) (show b.nm ≤ B - 1 by omega) hb (by omega)
  have h2 : (A - 1) * (B - 1) = A * B - A - B + 1 := by grind
  omega
theorem Nz.add {n : Nat} {a b : Gi} (h : Nz n a) (q : Nz n b) : Nz (n + 2) (a + b) := by
  unfold Nz at *
  have e : (a + b).nm ≤ 2 * a.nm + 2 * b.nm := by
    have d : 2 * a.nm + 2 * b.nm - (a + b).nm = (a - b).nm := by unfold Gi.nm; simp only [Gi.add_re, Gi.add_im, Gi.sub_re, Gi.sub_im]; grind
    have := (a - b).nm_nn
    omega
  have p : (2 : Int) ^ (n + 2) = 4 * 2 ^ n := by rw [Int.pow_add]; omega
  omega
theorem Nz.neg {n : Nat} {a : Gi} (h : Nz n a) : Nz n (-a) := by
  unfold Nz at *
  have : (-a).nm = a.nm := by unfold Gi.nm; simp only [Gi.neg_re, Gi.neg_im]; grind
  omega
/-- g is a greatest common divisor of a and b -/
structure G2 (g a b : Gi) : Prop where
  l : ∃ x, a = x * g
  r : ∃ x, b = x * g
  s : ∃ u v, g = u * a + v * b
theorem G2.zero (a : Gi) : G2 a a 0 := ⟨⟨1, by grind⟩, ⟨0, by grind⟩, ⟨1, 0, by grind⟩⟩
theorem G2.step {g a b q : Gi} (h : G2 g b (a - q * b)) : G2 g a b := by
  obtain ⟨⟨x, hx⟩, ⟨y, hy⟩, u, v, hs⟩ := h
  exact ⟨⟨y + q * x, by grind⟩, ⟨x, hx⟩, v, u - v * q, by grind⟩
def nearI (a n : Int) : Int := (2 * a + n) / (2 * n)
theorem nearI_ok {a n : Int} (h : 0 < n) : -n ≤ 2 * (a - nearI a n * n) ∧ 2 * (a - nearI a n * n) ≤ n := by
  unfold nearI
  have e := Int.mul_ediv_add_emod (2 * a + n) (2 * n)
  have l := Int.emod_nonneg (2 * a + n) (show 2 * n ≠ 0 by omega)
  have r := Int.emod_lt_of_pos (2 * a + n) (show 0 < 2 * n by omega)
  generalize (2 * a + n) / (2 * n) = q at *
  generalize (2 * a + n) % (2 * n) = t at *
  have : 2 * (q * n) = 2 * n * q := by grind
  constructor <;> grind
def nearG (a b : Gi) : Gi := ⟨nearI (a * b.cj).re b.nm, nearI (a * b.cj).im b.nm⟩
theorem sq_half {x n : Int} (h1 : -n ≤ 2 * x) (h2 : 2 * x ≤ n) : 4 * (x * x) ≤ n * n := by
  have := Int.mul_nonneg (show 0 ≤ n - 2 * x by omega) (show 0 ≤ n + 2 * x by omega)
  have : (n - 2 * x) * (n + 2 * x) = n * n - 4 * (x * x) := by grind
  omega
theorem nearG_nm {a b : Gi} (h : b ≠ 0) : 2 * (a - nearG a b * b).nm ≤ b.nm := by
  have p := Gi.nm_pos h
  have e : (a - nearG a b * b) * b.cj = ⟨(a * b.cj).re - nearI (a * b.cj).re b.nm * b.nm, (a * b.cj).im - nearI (a * b.cj).im b.nm * b.nm⟩ := by
    have f : b * b.cj = ⟨b.nm, 0⟩ := Gi.ext' (by show b.re * b.re - b.im * -b.im = b.re * b.re + b.im * b.im; grind) (by show b.re * -b.im + b.im * b.re = 0; grind)
    have g : (a - nearG a b * b) * b.cj = a * b.cj - nearG a b * (b * b.cj) := by grind
    rw [g, f]
    refine Gi.ext' ?_ ?_
    · simp only [Gi.sub_re, Gi.mul_re, nearG]; grind
    · simp only [Gi.sub_im, Gi.mul_im, nearG]; grind
  have m := Gi.nm_mul (a - nearG a b * b) b.cj
  rw [e, Gi.nm_cj] at m
  obtain ⟨h1, h2⟩ := nearI_ok (a := (a * b.cj).re) p
  obtain ⟨h3, h4⟩ := nearI_ok (a := (a * b.cj).im) p
  have q1 := sq_half h1 h2
  have q2 := sq_half h3 h4
  have : 4 * ((a - nearG a b * b).nm * b.nm) ≤ 2 * (b.nm * b.nm) := by
    have m' : (a - nearG a b * b).nm * b.nm = ((a * b.cj).re - nearI (a * b.cj).re b.nm * b.nm) * ((a * b.cj).re - nearI (a * b.cj).re b.nm * b.nm) + ((a * b.cj).im - nearI (a * b.cj).im b.nm * b.nm) * ((a * b.cj).im - nearI (a * b.cj).im b.nm * b.nm) := m.symm
    omega
  have : (2 * (a - nearG a b * b).nm) * b.nm ≤ b.nm * b.nm := by
    have : (2 * (a - nearG a b * b).nm) * b.nm = 2 * ((a - nearG a b * b).nm * b.nm) := by grind
    omega
  exact Int.le_of_mul_le_mul_right this p
theorem G2.nz {g a b : Gi} (h : G2 g a b) (z : g = 0) : a = 0 ∧ b = 0 := by
  obtain ⟨⟨x, hx⟩, ⟨y, hy⟩, _⟩ := h
  subst z
  constructor <;> grind
abbrev G4 := Gi × Gi × Gi × Gi
/-- g is a greatest common divisor of four numbers -/
structure GD (g : Gi) (m : G4) : Prop where
  d1 : ∃ x, m.1 = x * g
  d2 : ∃ x, m.2.1 = x * g
  d3 : ∃ x, m.2.2.1 = x * g
  d4 : ∃ x, m.2.2.2 = x * g
  s : ∃ u v w t, g = u * m.1 + v * m.2.1 + w * m.2.2.1 + t * m.2.2.2
theorem gd_of {a b c d g1 g2 g3 g4 : Gi} (h1 : G2 g1 0 a) (h2 : G2 g2 g1 b) (h3 : G2 g3 g2 c) (h4 : G2 g4 g3 d) : GD g4 (a, b, c, d) := by
  obtain ⟨_, ⟨x1, e1⟩, u1, v1, s1⟩ := h1
  obtain ⟨⟨y2, f2⟩, ⟨x2, e2⟩, u2, v2, s2⟩ := h2
  obtain ⟨⟨y3, f3⟩, ⟨x3, e3⟩, u3, v3, s3⟩ := h3
  obtain ⟨⟨y4, f4⟩, ⟨x4, e4⟩, u4, v4, s4⟩ := h4
  have k2 : g2 = y3 * y4 * g4 := by rw [f3, f4]; grind
  have k1 : g1 = y2 * y3 * y4 * g4 := by rw [f2, k2]; grind
  refine ⟨⟨x1 * y2 * y3 * y4, ?_⟩, ⟨x2 * y3 * y4, ?_⟩, ⟨x3 * y4, ?_⟩, ⟨x4, e4⟩, u4 * u3 * u2 * v1, u4 * u3 * v2, u4 * v3, v4, ?_⟩
  · simp only; rw [e1, k1]; grind
  · simp only; rw [e2, k2]; grind
  · simp only; rw [e3, f4]; grind
  · simp only; rw [s4, s3, s2, s1]; grind
def fst4 (m : G4) : Gi := if m.1 ≠ 0 then m.1 else if m.2.1 ≠ 0 then m.2.1 else if m.2.2.1 ≠ 0 then m.2.2.1 else m.2.2.2
def scl (c : Gi) (m : G4) : G4 := (c * m.1, c * m.2.1, c * m.2.2.1, c * m.2.2.2)
theorem fst4_scl {c : Gi} (h : c ≠ 0) (m : G4) : fst4 (scl c m) = c * fst4 m := by
  have k : ∀ x : Gi, c * x ≠ 0 ↔ x ≠ 0 := fun x => ⟨fun e z => e (by rw [z]; grind), fun e => Gi.mul_ne h e⟩
  unfold fst4 scl
  simp only [k]
  split
  · rfl
  split
  · rfl
  split
  · rfl
  · rfl
/-- in the quarter -/
def Qf (a : Gi) : Prop := 0 < a.re ∧ 0 ≤ a.im
structure Mp (m : G4) : Prop where
  bez : ∃ u v w t, u * m.1 + v * m.2.1 + w * m.2.2.1 + t * m.2.2.2 = 1
  qf : Qf (fst4 m)
theorem unit_nm {s t : Gi} (h : s * t = 1) : s.nm = 1 := by
  have e := Gi.nm_mul s t
  rw [h] at e
  have e : s.nm * t.nm = 1 := e.symm
  have h1 := s.nm_nn
  have h2 := t.nm_nn
  have s0 : s.nm ≠ 0 := fun z => by rw [z, Int.zero_mul] at e; omega
  have t0 : t.nm ≠ 0 := fun z => by rw [z, Int.mul_zero] at e; omega
  have := Int.mul_le_mul_of_nonneg_left (show 1 ≤ t.nm by omega) h1
  omega
theorem unit_4 {s : Gi} (h : s.nm = 1) : (s.re = 1 ∧ s.im = 0) ∨ (s.re = -1 ∧ s.im = 0) ∨ (s.re = 0 ∧ s.im = 1) ∨ (s.re = 0 ∧ s.im = -1) := by
  unfold Gi.nm at h
  have h1 := mul_self_nonneg' s.re
  have h2 := mul_self_nonneg' s.im
  have k : ∀ x : Int, x * x ≤ 1 → x = 0 ∨ x = 1 ∨ x = -1 := fun x hx => by
    rcases Int.lt_trichotomy x 0 with f | f | f
    · by_cases g : x = -1
      · exact .inr (.inr g)
      · have := Int.mul_le_mul_of_nonneg_left (show 2 ≤ -x by omega) (show 0 ≤ -x by omega); rw [Int.neg_mul_neg] at this; omega
    · exact .inl f
    · by_cases g : x = 1
      · exact .inr (.inl g)
      · have := Int.mul_le_mul_of_nonneg_left (show 2 ≤ x by omega) (show 0 ≤ x by omega); omega
  rcases k s.re (by omega) with f | f | f <;> rcases k s.im (by omega) with g | g | g <;> rw [f, g] at h ⊢ <;> simp at h ⊢
theorem qf_unit {s f : Gi} (h : s.nm = 1) (q : Qf f) (q' : Qf (s * f)) : s = 1 := by
  unfold Qf at q q'
  rw [Gi.mul_re, Gi.mul_im] at q'
  rcases unit_4 h with ⟨a, b⟩ | ⟨a, b⟩ | ⟨a, b⟩ | ⟨a, b⟩ <;> rw [a, b] at q'
  · exact Gi.ext' a b
  · omega
  · omega
  · omega
/-- maps along one another are the same -/
theorem mp_uniq {m m' : G4} {c c' : Gi} (h : Mp m) (h' : Mp m') (c0 : c ≠ 0) (c0' : c' ≠ 0) (e : scl c m = scl c' m') : m = m' := by
  obtain ⟨⟨u, v, w, t, hb⟩, hq⟩ := h
  obtain ⟨⟨u', v', w', t', hb'⟩, hq'⟩ := h'
  have ef := fst4_scl c0 m
  rw [e, fst4_scl c0'] at ef
  obtain ⟨a, b, p, d⟩ := m
  obtain ⟨a', b', p', d'⟩ := m'
  unfold scl at e
  simp only [Prod.mk.injEq] at e hb hb'
  obtain ⟨e1, e2, e3, e4⟩ := e
  have k1 : c = c' * (u * a' + v * b' + w * p' + t * d') := by
    have : c = c * (u * a + v * b + w * p + t * d) := by rw [hb]; grind
    have e : c * (u * a + v * b + w * p + t * d) = u * (c * a) + v * (c * b) + w * (c * p) + t * (c * d) := by grind
    rw [this, e, e1, e2, e3, e4]; grind
  have k2 : c' = c * (u' * a + v' * b + w' * p + t' * d) := by
    have : c' = c' * (u' * a' + v' * b' + w' * p' + t' * d') := by rw [hb']; grind
    have e : c' * (u' * a' + v' * b' + w' * p' + t' * d') = u' * (c' * a') + v' * (c' * b') + w' * (c' * p') + t' * (c' * d') := by grind
    rw [this, e, ← e1, ← e2, ← e3, ← e4]; grind
  generalize u * a' + v * b' + w * p' + t * d' = s at k1
  generalize u' * a + v' * b + w' * p + t' * d = s' at k2
  have ss : s * s' = 1 := by
    refine Gi.cancel (c := c') c0' ?_
    have : c' * (s * s') = c * s' := by rw [k1]; grind
    rw [this, ← k2]; grind
  have ns := unit_nm ss
  have q1 : fst4 (a', b', p', d') = s * fst4 (a, b, p, d) := by
    refine Gi.cancel (c := c') c0' ?_
    rw [ef]
    have : c' * (s * fst4 (a, b, p, d)) = (c' * s) * fst4 (a, b, p, d) := by grind
    rw [this, ← k1]
  rw [q1] at hq'
  have s1 := qf_unit ns hq hq'
  have cc : c = c' := by rw [k1, s1]; grind
  rw [cc] at e1 e2 e3 e4
  rw [Gi.cancel c0' e1, Gi.cancel c0' e2, Gi.cancel c0' e3, Gi.cancel c0' e4]

def zG (q : P3) : Gi := ⟨q.1, q.2.1⟩
def rG (q : P3) : Gi := ⟨q.2.2, 0⟩
/-- q is the place of z over w -/
structure HG (n : Nat) (q : P3) (z w : Gi) : Prop where
  pt : Pt n q
  e : zG q * w = rG q * z
  nz : ¬(z = 0 ∧ w = 0)
theorem HG.hp {n : Nat} {q : P3} {z w : Gi} (h : HG n q z w) : HP n q (z.re, z.im) (w.re, w.im) := by
  have e := h.e
  have e1 := congrArg Gi.re e
  have e2 := congrArg Gi.im e
  simp only [Gi.mul_re, Gi.mul_im, zG, rG] at e1 e2
  exact ⟨h.pt, by simp only; omega, by simp only; omega, fun ⟨a, b⟩ => h.nz ⟨Gi.eq0.mp a, Gi.eq0.mp b⟩⟩
theorem HP.hg {n : Nat} {q : P3} {z w : Gi} (h : HP n q (z.re, z.im) (w.re, w.im)) : HG n q z w := by
  have e1 := h.e1
  have e2 := h.e2
  simp only at e1 e2
  refine ⟨h.pt, Gi.ext' ?_ ?_, fun ⟨a, b⟩ => h.nz ⟨Gi.eq0.mpr a, Gi.eq0.mpr b⟩⟩
  · simp only [Gi.mul_re, zG, rG]; omega
  · simp only [Gi.mul_im, zG, rG]; omega
theorem HG.uniq {m n : Nat} {q q' : P3} {z w : Gi} (h : HG m q z w) (h' : HG n q' z w) : q = q' := h.hp.uniq h'.hp
theorem HG.tr {n : Nat} {q : P3} {z w z' w' : Gi} (h : HG n q z w) (nz : ¬(z' = 0 ∧ w' = 0)) (e : z * w' = z' * w) : HG n q z' w' := by
  refine HP.hg (h.hp.tr (fun ⟨a, b⟩ => nz ⟨Gi.eq0.mp a, Gi.eq0.mp b⟩) ?_ ?_)
  · have := congrArg Gi.re e
    simpa only [Gi.mul_re] using this
  · have := congrArg Gi.im e
    simpa only [Gi.mul_im] using this
theorem HG.self {n : Nat} {q : P3} (h : Pt n q) : HG n q (zG q) (rG q) := HP.hg (HP.self h)
/-- two ways to write one place -/
theorem HG.cross {m n : Nat} {q : P3} {z w z' w' : Gi} (h : HG m q z w) (h' : HG n q z' w') : z * w' = z' * w := by
  have a := h.e
  have b := h'.e
  have s := (HG.self h.pt).nz
  by_cases r : rG q = 0
  · have z0 : zG q ≠ 0 := fun z0 => s ⟨z0, r⟩
    rw [r] at a b
    have w0 : w = 0 := (Gi.mul_zero' (a.trans (by grind))).resolve_left z0
    have w0' : w' = 0 := (Gi.mul_zero' (b.trans (by grind))).resolve_left z0
    rw [w0, w0']
    grind
  · refine Gi.cancel (c := rG q) r ?_
    have : rG q * (z * w') = (rG q * z) * w' := by grind
    have k : rG q * (z' * w) = (rG q * z') * w := by grind
    rw [this, k, ← a, ← b]
    grind
def dtG (m : G4) : Gi := m.1 * m.2.2.2 - m.2.1 * m.2.2.1
def apz (m : G4) (z w : Gi) : Gi := m.1 * z + m.2.1 * w
def apw (m : G4) (z w : Gi) : Gi := m.2.2.1 * z + m.2.2.2 * w
theorem ap_nz {m : G4} {z w : Gi} (d : dtG m ≠ 0) (h : ¬(z = 0 ∧ w = 0)) : ¬(apz m z w = 0 ∧ apw m z w = 0) := by
  rintro ⟨a, b⟩
  unfold apz at a
  unfold apw at b
  have k1 : dtG m * z = 0 := by
    have : dtG m * z = m.2.2.2 * (m.1 * z + m.2.1 * w) - m.2.1 * (m.2.2.1 * z + m.2.2.2 * w) := by unfold dtG; grind
    rw [this, a, b]; grind
  have k2 : dtG m * w = 0 := by
    have : dtG m * w = m.1 * (m.2.2.1 * z + m.2.2.2 * w) - m.2.2.1 * (m.1 * z + m.2.1 * w) := by unfold dtG; grind
    rw [this, a, b]; grind
  exact h ⟨(Gi.mul_zero' k1).resolve_left d, (Gi.mul_zero' k2).resolve_left d⟩
theorem HG.map {l n : Nat} {m : G4} {q t : P3} {z w : Gi} (d : dtG m ≠ 0) (h : HG l q z w) (ht : HG n t (apz m (zG q) (rG q)) (apw m (zG q) (rG q))) : HG n t (apz m z w) (apw m z w) := by
  refine ht.tr (ap_nz d h.nz) ?_
  have e := h.e
  have : apz m (zG q) (rG q) * apw m z w - apz m z w * apw m (zG q) (rG q) = dtG m * (zG q * w - rG q * z) := by unfold apz apw dtG; grind
  rw [e] at this
  have : apz m (zG q) (rG q) * apw m z w - apz m z w * apw m (zG q) (rG q) = 0 := by rw [this]; grind
  grind
def cjP (q : P3) : P3 := (q.1, -q.2.1, q.2.2)
theorem zG_cj (q : P3) : zG (cjP q) = (zG q).cj := rfl
theorem rG_cj (q : P3) : rG (cjP q) = rG q := rfl
theorem rG_self (q : P3) : (rG q).cj = rG q := Gi.ext' rfl (by show -(0 : Int) = 0; rfl)
theorem gcd_cj {a b c : Int} : gcdL 0 [a, -b, c] = gcdL 0 [a, b, c] := by
  unfold gcdL gcdL gcdL gcdL
  have : iGcd (iGcd 0 a) (-b) = iGcd (iGcd 0 a) b := by
    show ((Nat.gcd _ _ : Nat) : Int) = ((Nat.gcd _ _ : Nat) : Int)
    rw [Int.natAbs_neg]
  rw [this]
theorem Pt.cj {n : Nat} {q : P3} (h : Pt n q) : Pt n (cjP q) := by
  refine ⟨?_, (gcd_cj).trans h.one, h.s1, h.s2.neg, h.s3⟩
  rcases h.ok with ⟨a, b, c⟩ | c
  · exact .inl ⟨a, by show -q.2.1 = 0; omega, c⟩
  · exact .inr c
theorem HG.cj {n : Nat} {q : P3} {z w : Gi} (h : HG n q z w) : HG n (cjP q) z.cj w.cj := by
  refine ⟨h.pt.cj, ?_, fun ⟨a, b⟩ => h.nz ⟨?_, ?_⟩⟩
  · rw [zG_cj, rG_cj, ← Gi.cj_mul, h.e, Gi.cj_mul, rG_self]
  · have := congrArg Gi.cj a; rw [Gi.cj_cj] at this; exact this
  · have := congrArg Gi.cj b; rw [Gi.cj_cj] at this; exact this
/-- the first number, conjugate if the map is mirrored -/
def fl (f : Int) (z : Gi) : Gi := if f = 1 then z.cj else z
theorem fl_ne {f : Int} {z : Gi} (h : z ≠ 0) : fl f z ≠ 0 := by unfold fl; split; exact Gi.cj_ne h; exact h
/-- t is where the map leads q -/
def Led (n : Nat) (f : Int) (m : G4) (q t : P3) : Prop := HG n t (apz m (fl f (zG q)) (rG q)) (apw m (fl f (zG q)) (rG q))
theorem Led.uniq {l n : Nat} {f : Int} {m : G4} {q t t' : P3} (h : Led l f m q t) (h' : Led n f m q t') : t = t' := HG.uniq h h'
theorem Led.inj {l n a b : Nat} {f : Int} {m : G4} {q q' t : P3} (d : dtG m ≠ 0) (hq : Pt a q) (hq' : Pt b q') (h : Led l f m q t) (h' : Led n f m q' t) : q = q' := by
  have c := HG.cross h h'
  have k : dtG m * (fl f (zG q) * rG q' - fl f (zG q') * rG q) = 0 := by
    have : dtG m * (fl f (zG q) * rG q' - fl f (zG q') * rG q) = apz m (fl f (zG q)) (rG q) * apw m (fl f (zG q')) (rG q') - apz m (fl f (zG q')) (rG q') * apw m (fl f (zG q)) (rG q) := by unfold dtG apz apw; grind
    rw [this, c]; grind
  have k := (Gi.mul_zero' k).resolve_left d
  have k2 : zG q * rG q' - zG q' * rG q = 0 := by
    unfold fl at k
    split at k
    · have := congrArg Gi.cj k
      rw [Gi.cj_sub, Gi.cj_mul, Gi.cj_mul, Gi.cj_cj, Gi.cj_cj, rG_self, rG_self] at this
      exact this
    · exact k
  refine dd_zero hq hq' ?_
  have e1 := congrArg Gi.re k2
  have e2 := congrArg Gi.im k2
  simp only [Gi.sub_re, Gi.sub_im, Gi.mul_re, Gi.mul_im, zG, rG, Gi.zero_re, Gi.zero_im] at e1 e2
  unfold dd
  have f1 : q.1 * q'.2.2 - q'.1 * q.2.2 = 0 := by omega
  have f2 : q.2.1 * q'.2.2 - q'.2.1 * q.2.2 = 0 := by omega
  rw [f1, f2]
  rfl
/-- one matrix after another; the second one's conjugate if the first map is mirrored -/
def flm (f : Int) (m : G4) : G4 := (fl f m.1, fl f m.2.1, fl f m.2.2.1, fl f m.2.2.2)
def mulm (m n : G4) : G4 := (m.1 * n.1 + m.2.1 * n.2.2.1, m.1 * n.2.1 + m.2.1 * n.2.2.2, m.2.2.1 * n.1 + m.2.2.2 * n.2.2.1, m.2.2.1 * n.2.1 + m.2.2.2 * n.2.2.2)
def Pr (f : Int) (m n : G4) : G4 := mulm m (flm f n)
def adjm (m : G4) : G4 := (m.2.2.2, -m.2.1, -m.2.2.1, m.1)
def Bk (f : Int) (m : G4) : G4 := flm f (adjm m)
theorem dt_mul (m n : G4) : dtG (mulm m n) = dtG m * dtG n := by unfold dtG mulm; simp only; grind
theorem dt_fl (f : Int) (m : G4) : dtG (flm f m) = fl f (dtG m) := by
  unfold dtG flm fl
  simp only
  split
  · rw [Gi.cj_sub, Gi.cj_mul, Gi.cj_mul]
  · rfl
theorem dt_adj (m : G4) : dtG (adjm m) = dtG m := by unfold dtG adjm; simp only; grind
theorem dt_scl (c : Gi) (m : G4) : dtG (scl c m) = c * c * dtG m := by unfold dtG scl; simp only; grind
theorem dt_fst {m : G4} (d : dtG m ≠ 0) : fst4 m ≠ 0 := fun z => by
  apply d
  unfold fst4 at z
  unfold dtG
  split at z
  · rename_i c; exact absurd z c
  · rename_i c1
    split at z
    · rename_i c; exact absurd z c
    · rename_i c2
      have a1 : m.1 = 0 := Classical.byContradiction c1
      have a2 : m.2.1 = 0 := Classical.byContradiction c2
      rw [a1, a2]
      grind
theorem ap_mul (m n : G4) (z w : Gi) : apz (mulm m n) z w = apz m (apz n z w) (apw n z w) ∧ apw (mulm m n) z w = apw m (apz n z w) (apw n z w) := by
  unfold apz apw mulm; simp only; constructor <;> grind
theorem ap_scl (c : Gi) (m : G4) (z w : Gi) : apz (scl c m) z w = c * apz m z w ∧ apw (scl c m) z w = c * apw m z w := by
  unfold apz apw scl; simp only; constructor <;> grind
/-- led by a multiple -/
theorem Led.scl {n : Nat} {f : Int} {c : Gi} {m : G4} {q t : P3} (c0 : c ≠ 0) (h : Led n f (scl c m) q t) : Led n f m q t := by
  unfold Led at *
  rw [(ap_scl _ _ _ _).1, (ap_scl _ _ _ _).2] at h
  refine h.tr (fun ⟨a, b⟩ => h.nz ⟨?_, ?_⟩) (by grind)
  · rw [a]; grind
  · rw [b]; grind
/-- led twice -/
theorem Led.two {l n a : Nat} {f g : Int} {m1 m2 : G4} {q s t : P3} (d : dtG m1 ≠ 0) (hf : f = 0 ∨ f = 1) (hg : g = 0 ∨ g = 1) (hs : Led l g m2 q s) (ht : Led n f m1 s t) : Led n ((f + g) % 2) (Pr f m1 m2) q t := by
  unfold Led at *
  have e : ∀ (z w : Gi), apz (flm 1 m2) z w = (apz m2 z.cj w.cj).cj ∧ apw (flm 1 m2) z w = (apw m2 z.cj w.cj).cj := fun z w => by
    unfold apz apw flm fl
    simp only [if_true, Gi.cj_add, Gi.cj_mul, Gi.cj_cj, and_self]
  rcases hf with rfl | rfl
  · have k := HG.map (m := m1) d hs ht
    have e0 : flm 0 m2 = m2 := rfl
    unfold Pr
    rw [e0, (ap_mul _ _ _ _).1, (ap_mul _ _ _ _).2]
    have eg : ((0 + g) % 2 : Int) = g := by rcases hg with rfl | rfl <;> rfl
    rw [eg]
    exact k
  · have k := HG.map (m := m1) (q := cjP s) d hs.cj ht
    unfold Pr
    rw [(ap_mul _ _ _ _).1, (ap_mul _ _ _ _).2, (e _ _).1, (e _ _).2, rG_self]
    have ez : (fl ((1 + g) % 2) (zG q)).cj = fl g (zG q) := by
      rcases hg with rfl | rfl
      · show ((zG q).cj).cj = zG q; exact Gi.cj_cj _
      · rfl
    rw [ez]
    exact k
theorem bk_pr {f g : Int} (hf : f = 0 ∨ f = 1) (hg : g = 0 ∨ g = 1) (m n : G4) : Bk ((f + g) % 2) (Pr f m n) = Pr g (Bk g n) (Bk f m) := by
  rcases hf with rfl | rfl <;> rcases hg with rfl | rfl <;> simp only [Bk, Pr, flm, fl, mulm, adjm, Prod.mk.injEq] <;> simp [Gi.cj_add, Gi.cj_mul, Gi.cj_cj, Gi.cj_neg] <;> grind
theorem pr_assoc {f g : Int} (hf : f = 0 ∨ f = 1) (hg : g = 0 ∨ g = 1) (m n l : G4) : Pr ((f + g) % 2) (Pr f m n) l = Pr f m (Pr g n l) := by
  rcases hf with rfl | rfl <;> rcases hg with rfl | rfl <;> simp only [Pr, flm, fl, mulm, Prod.mk.injEq] <;> simp [Gi.cj_add, Gi.cj_mul, Gi.cj_cj] <;> grind
theorem pr_back {f : Int} (hf : f = 0 ∨ f = 1) (m : G4) : Pr f (Bk f m) m = scl (fl f (dtG m)) (1, 0, 0, 1) ∧ Pr f m (Bk f m) = scl (dtG m) (1, 0, 0, 1) := by
  rcases hf with rfl | rfl <;> simp only [Bk, Pr, flm, fl, mulm, adjm, scl, dtG, Prod.mk.injEq] <;> simp [Gi.cj_add, Gi.cj_mul, Gi.cj_cj, Gi.cj_neg, Gi.cj_sub] <;> grind
theorem bk_bk {f : Int} (hf : f = 0 ∨ f = 1) (m : G4) : Bk f (Bk f m) = m := by
  obtain ⟨a, b, c, d⟩ := m
  rcases hf with rfl | rfl <;> simp only [Bk, flm, fl, adjm, Prod.mk.injEq] <;> simp [Gi.cj_cj, Gi.cj_neg] <;> grind
theorem bk_scl (f : Int) (c : Gi) (m : G4) : Bk f (scl c m) = scl (fl f c) (Bk f m) := by
  unfold Bk flm fl adjm scl
  simp only [Prod.mk.injEq]
  split <;> simp only [Gi.cj_neg, Gi.cj_mul] <;> grind
theorem pr_scl (f : Int) (c d : Gi) (m n : G4) : Pr f (scl c m) (scl d n) = scl (c * fl f d) (Pr f m n) := by
  unfold Pr mulm flm fl scl
  simp only [Prod.mk.injEq]
  split <;> (try simp only [Gi.cj_mul]) <;> grind

abbrev gD (a : Gi) : D := .tup [.int a.re, .int a.im]
theorem ok_gD {a : Gi} : (gD a).eqOk := ok_cx
theorem Nz.cz {n : Nat} {a : Gi} (h : Nz n a) : Cz n (a.re, a.im) := h.sz
theorem sz_nm {n : Nat} {a : Gi} (h : Nz n a) : Sz n a.nm := by
  have := a.nm_nn
  unfold Nz at h
  unfold Sz
  have e : ((2 ^ n : Nat) : Int) = 2 ^ n := by push_cast; rfl
  omega
theorem w_nearest {T : Tk} {a n : Int} {k : KD} (h0 : 0 < n) (hs : Sz 8000 n) (h : k (.int (nearI a n)) T) : sm_nearest [.val (.int a), .val (.int n)] T k := by
  rw [e_nearest, b_nearest]
  walk_at "evn"
  exact ⟨lit_mul (by decide), lit_mul (by decide), ((show Sz 2 2 by unfold Sz; decide).mul hs).divOk (by decide) (by omega), h⟩
theorem w_timesG {T : Tk} {m n : Nat} {a b : Gi} {k : KD} (ha : Cz m (a.re, a.im)) (hb : Cz n (b.re, b.im)) (hm : m ≤ 100000) (hn : n ≤ 100000) (h : k (gD (a * b)) T) : sm_times [.val (gD a), .val (gD b)] T k :=
  w_times (ha.mono hm) (hb.mono hn) fun p hp => by subst hp; exact h
theorem w_minusG {T : Tk} {a b : Gi} {k : KD} (h : k (gD (a - b)) T) : sm_minus [.val (gD a), .val (gD b)] T k := w_minus h
theorem w_plusG {T : Tk} {a b : Gi} {k : KD} (h : k (gD (a + b)) T) : sm_plus [.val (gD a), .val (gD b)] T k := w_plus h
theorem w_turnG {T : Tk} {a : Gi} {k : KD} (h : k (gD a.cj) T) : sm_turned_over [.val (gD a)] T k := w_turned_over h
theorem w_divisor_of_twoW {T : Tk} {n : Nat} {a b : Gi} {k : KD} (ha : Nz n a) (hb : Nz n b) (hn : n ≤ 7000) (h : ∀ g, G2 g a b → Nz n g → k (gD g) T) : sm_divisor_of_two [.val (gD a), .val (gD b)] T k := by
  rw [e_divisor_of_two, b_divisor_of_two, k_ZERO]
  walk_at "evm"
  unfold sWhile
  refine ⟨fun m ρ T' => T' = T ∧ ∃ (c d : Gi) (x y : Option SV), ρ = [some (.val (gD a)), some (.val (gD b)), some (.val (gD c)), some (.val (gD d)), x, y] ∧ m = d.nm.toNat ∧ Nz n c ∧ Nz n d ∧ ∀ g, G2 g c d → G2 g a b, ⟨_, rfl, a, b, none, none, rfl, rfl, ha, hb, fun _ q => q⟩, ?_⟩
  rintro m ρ T' ⟨rfl, c, d, x, y, rfl, rfl, hc, hd, tr⟩
  walk_at "evm"
  refine ⟨⟨ok_gD, ok_cx⟩, ?_⟩
  by_cases d0 : d = 0
  · rw [if_neg (by rw [d0]; decide)]
    subst d0
    exact h c (tr c (G2.zero c)) hc
  have p := Gi.nm_pos d0
  rw [if_pos (by
    have : ¬(d.re = 0 ∧ d.im = 0) := fun z => d0 (Gi.eq0.mp z)
    simp only [Bool.and_eq_false_imp, decide_eq_true_eq, decide_eq_false_iff_not]
    first | exact fun z1 z2 => this ⟨z1, z2⟩ | simpa using this)]
  refine w_turnG ?_
  walk_at "evm"
  refine w_timesG (b := d.cj) hc.cz (hd.cj).cz (by omega) (by omega) ?_
  walk_at "evm"
  refine w_square_size ((hd.cz).mono (by omega)) ?_
  walk_at "evm"
  refine w_nearest p ((sz_nm hd).mono (by omega)) ?_
  walk_at "evm"
  refine w_square_size ((hd.cz).mono (by omega)) ?_
  walk_at "evm"
  refine w_nearest p ((sz_nm hd).mono (by omega)) ?_
  walk_at "evm"
  have nq : Nz (n + 2) (nearG c d) := by
    have h2 : Nz n (c - nearG c d * d) := by
      have := nearG_nm (a := c) d0
      have := (c - nearG c d * d).nm_nn
      unfold Nz at hd ⊢
      omega
    refine Nz.dvd d0 ?_
    have e : d * nearG c d = c + -(c - nearG c d * d) := by grind
    rw [e]
    exact hc.add h2.neg
  refine w_timesG (a := nearG c d) (b := d) nq.cz hd.cz (by omega) (by omega) ?_
  walk_at "evm"
  refine w_minusG ?_
  walk_at "evm"
  have lt := nearG_nm (a := c) d0
  have nn := (c - nearG c d * d).nm_nn
  refine ⟨(c - nearG c d * d).nm.toNat, by omega, d, c - nearG c d * d, _, _, rfl, rfl, hd, ?_, fun g hg => tr g (G2.step hg)⟩
  unfold Nz at hd ⊢
  omega
theorem cdivd_mulG {x g : Gi} (h : g ≠ 0) : cdivd ((x * g).re, (x * g).im) (g.re, g.im) = some (x.re, x.im) := by
  have p : 0 < cnrm (g.re, g.im) := Gi.nm_pos h
  have e1 : (cmul ((x * g).re, (x * g).im) (cconj (g.re, g.im))).1 = x.re * cnrm (g.re, g.im) := by
    simp only [cmul, cconj, cnrm, Gi.mul_re, Gi.mul_im]; grind
  have e2 : (cmul ((x * g).re, (x * g).im) (cconj (g.re, g.im))).2 = x.im * cnrm (g.re, g.im) := by
    simp only [cmul, cconj, cnrm, Gi.mul_re, Gi.mul_im]; grind
  unfold cdivd
  rw [e1, e2, Int.mul_emod_left, Int.mul_emod_left, if_pos ⟨rfl, rfl⟩, Int.mul_ediv_cancel _ (by omega), Int.mul_ediv_cancel _ (by omega)]
def guni (f : Gi) : Gi := ⟨(cunit (f.re, f.im)).1, (cunit (f.re, f.im)).2⟩
theorem guni_nm (f : Gi) : (guni f).nm = 1 := by
  unfold guni cunit
  split
  · rfl
  split
  · rfl
  split
  · rfl
  · rfl
theorem guni_qf {f : Gi} (h : f ≠ 0) : Qf (f * guni f) := by
  have h' : ¬(f.re = 0 ∧ f.im = 0) := fun z => h (Gi.eq0.mp z)
  unfold Qf
  rw [Gi.mul_re, Gi.mul_im]
  unfold guni cunit
  simp only
  split
  · rename_i c; simp only; omega
  split
  · rename_i c; simp only; omega
  split
  · rename_i c; simp only; omega
  · simp only; omega
theorem nm1_inv {u : Gi} (h : u.nm = 1) : u * u.cj = 1 := Gi.ext' (by show u.re * u.re - u.im * -u.im = 1; unfold Gi.nm at h; grind) (by show u.re * -u.im + u.im * u.re = 0; grind)
theorem nm1_ne {u : Gi} (h : u.nm = 1) : u ≠ 0 := fun z => by rw [z] at h; exact absurd h (by decide)
abbrev mD (f : Int) (m : G4) : D := .tup [.int f, gD m.1, gD m.2.1, gD m.2.2.1, gD m.2.2.2]
/-- m is the map of four numbers -/
structure Fm (n : Nat) (N m : G4) : Prop where
  mp : Mp m
  c : ∃ c, c ≠ 0 ∧ N = scl c m
  s1 : Nz n m.1
  s2 : Nz n m.2.1
  s3 : Nz n m.2.2.1
  s4 : Nz n m.2.2.2
theorem Fm.uniq {n l : Nat} {N m m' : G4} (h : Fm n N m) (h' : Fm l N m') : m = m' := by
  obtain ⟨c, c0, e⟩ := h.c
  obtain ⟨c', c0', e'⟩ := h'.c
  exact mp_uniq h.mp h'.mp c0 c0' (e.symm.trans e')
/-- the quotients by a greatest common divisor, times a unit, are the map -/
theorem fm_of' {n : Nat} {x : G4} {g U : Gi} (un : U.nm = 1) (qf : Qf (fst4 x * U)) (g0 : g ≠ 0) (hd : ∃ u v w t, g = u * (x.1 * g) + v * (x.2.1 * g) + w * (x.2.2.1 * g) + t * (x.2.2.2 * g)) (s1 : Nz n (x.1 * g)) (s2 : Nz n (x.2.1 * g)) (s3 : Nz n (x.2.2.1 * g)) (s4 : Nz n (x.2.2.2 * g)) :
    Fm n (x.1 * g, x.2.1 * g, x.2.2.1 * g, x.2.2.2 * g) (x.1 * U, x.2.1 * U, x.2.2.1 * U, x.2.2.2 * U) := by
  have ui := nm1_inv un
  have u0 := nm1_ne un
  have c0 : g * U.cj ≠ 0 := Gi.mul_ne g0 (Gi.cj_ne u0)
  have ef : fst4 (x.1 * U, x.2.1 * U, x.2.2.1 * U, x.2.2.2 * U) = fst4 x * U := by
    have := fst4_scl u0 x
    have e : scl U x = (x.1 * U, x.2.1 * U, x.2.2.1 * U, x.2.2.2 * U) := by
      unfold scl
      rw [show U * x.1 = x.1 * U by grind, show U * x.2.1 = x.2.1 * U by grind, show U * x.2.2.1 = x.2.2.1 * U by grind, show U * x.2.2.2 = x.2.2.2 * U by grind]
    rw [← e, this]
    grind
  have sz : ∀ y : Gi, Nz n (y * g) → Nz n (y * U) := fun y hy => by
    unfold Nz at *
    rw [Gi.nm_mul] at hy ⊢
    rw [un]
    have := Gi.nm_pos g0
    have := y.nm_nn
    have := Int.mul_le_mul_of_nonneg_left (show 1 ≤ g.nm by omega) (show 0 ≤ y.nm by omega)
    omega
  refine ⟨⟨?_, by rw [ef]; exact qf⟩, ⟨g * U.cj, c0, ?_⟩, sz _ s1, sz _ s2, sz _ s3, sz _ s4⟩
  · obtain ⟨u, v, w, t, e⟩ := hd
    refine ⟨u * U.cj, v * U.cj, w * U.cj, t * U.cj, ?_⟩
    simp only
    have k : g * (u * x.1 + v * x.2.1 + w * x.2.2.1 + t * x.2.2.2) = g * 1 := by grind
    have k := Gi.cancel g0 k
    have : u * U.cj * (x.1 * U) + v * U.cj * (x.2.1 * U) + w * U.cj * (x.2.2.1 * U) + t * U.cj * (x.2.2.2 * U) = (u * x.1 + v * x.2.1 + w * x.2.2.1 + t * x.2.2.2) * (U * U.cj) := by grind
    rw [this, k, ui]
    grind
  · unfold scl
    simp only
    have k : ∀ y : Gi, y * g = g * U.cj * (y * U) := fun y => by
      have : g * U.cj * (y * U) = y * g * (U * U.cj) := by grind
      rw [this, ui]
      grind
    rw [← k, ← k, ← k, ← k]
theorem fm_of {n : Nat} {x : G4} {g : Gi} (g0 : g ≠ 0) (hd : ∃ u v w t, g = u * (x.1 * g) + v * (x.2.1 * g) + w * (x.2.2.1 * g) + t * (x.2.2.2 * g)) (f0 : fst4 x ≠ 0) (s1 : Nz n (x.1 * g)) (s2 : Nz n (x.2.1 * g)) (s3 : Nz n (x.2.2.1 * g)) (s4 : Nz n (x.2.2.2 * g)) :
    Fm n (x.1 * g, x.2.1 * g, x.2.2.1 * g, x.2.2.2 * g) (x.1 * guni (fst4 x), x.2.1 * guni (fst4 x), x.2.2.1 * guni (fst4 x), x.2.2.2 * guni (fst4 x)) := fm_of' (guni_nm _) (guni_qf f0) g0 hd s1 s2 s3 s4
/-- the numbers that are not 0 -/
def nzG : List Gi → List Gi
  | [] => []
  | x :: r => if x = 0 then nzG r else x :: nzG r
theorem nzG_head {x : G4} (h : fst4 x ≠ 0) : ∃ r, nzG [x.1, x.2.1, x.2.2.1, x.2.2.2] = fst4 x :: r := by
  unfold fst4 at *
  by_cases h1 : x.1 = 0
  · by_cases h2 : x.2.1 = 0
    · by_cases h3 : x.2.2.1 = 0
      · simp only [h1, h2, h3, ne_eq, not_true_eq_false, if_false] at h ⊢
        refine ⟨[], ?_⟩
        simp only [nzG, if_true, if_neg h]
      · simp only [h1, h2, h3, ne_eq, not_true_eq_false, not_false_eq_true, if_false, if_true] at h ⊢
        refine ⟨nzG [x.2.2.2], ?_⟩
        rw [nzG, if_pos rfl, nzG, if_pos rfl, nzG, if_neg h3]
    · simp only [h1, h2, ne_eq, not_true_eq_false, not_false_eq_true, if_false, if_true] at h ⊢
      refine ⟨nzG [x.2.2.1, x.2.2.2], ?_⟩
      rw [nzG, if_pos rfl, nzG, if_neg h2]
  · simp only [h1, ne_eq, not_false_eq_true, if_true] at h ⊢
    refine ⟨nzG [x.2.1, x.2.2.1, x.2.2.2], ?_⟩
    rw [nzG, if_neg h1]

theorem w_divisor_of_allW {T : Tk} {n : Nat} {N : G4} {NS : D} {k : KD} (hN : NS.it? = some [gD N.1, gD N.2.1, gD N.2.2.1, gD N.2.2.2]) (s1 : Nz n N.1) (s2 : Nz n N.2.1) (s3 : Nz n N.2.2.1) (s4 : Nz n N.2.2.2) (hn : n ≤ 7000) (h : ∀ g, GD g N → Nz n g → k (gD g) T) : sm_divisor_of_all [.val NS] T k := by
  rw [e_divisor_of_all, b_divisor_of_all, k_ZERO]
  walk_at "evm"
  simp only [hN]
  refine ⟨by simp, ?_⟩
  rw [forL_c]
  walk_at "evm"
  have z0 : Nz n 0 := by unfold Nz; rw [Gi.nm_of_zero]; exact Int.pow_pos (by decide)
  refine w_divisor_of_twoW (a := 0) z0 s1 hn fun g1 h1 n1 => ?_
  walk_at "evm"
  rw [forL_c]
  walk_at "evm"
  refine w_divisor_of_twoW n1 s2 hn fun g2 h2 n2 => ?_
  walk_at "evm"
  rw [forL_c]
  walk_at "evm"
  refine w_divisor_of_twoW n2 s3 hn fun g3 h3 n3 => ?_
  walk_at "evm"
  rw [forL_c]
  walk_at "evm"
  refine w_divisor_of_twoW n3 s4 hn fun g4 h4 n4 => ?_
  walk_at "evm"
  rw [forL_n]
  walk_at "evm"
  exact h g4 (gd_of h1 h2 h3 h4) n4
theorem w_divisor_of_all {T : Tk} {n : Nat} {N : G4} {NS : D} {k : KD} (hN : NS.it? = some [gD N.1, gD N.2.1, gD N.2.2.1, gD N.2.2.2]) (s1 : Nz n N.1) (s2 : Nz n N.2.1) (s3 : Nz n N.2.2.1) (s4 : Nz n N.2.2.2) (hn : n ≤ 2000) (h : ∀ g, GD g N → Nz n g → k (gD g) T) : sm_divisor_of_all [.val NS] T k := w_divisor_of_allW hN s1 s2 s3 s4 (by omega) h
theorem lc_nzK {A0 A1 A2 A3 A5 : Option SV} {K : List D → Tk → Prop} : ∀ (xs : List Gi) (c : Option SV) (acc : List D) (T : Tk), K (acc ++ (nzG xs).map gD) T →
    lcD [A0, A1, A2, A3, c, A5] (cN 4) (dTst (dOp (oF fNe) (dVar 4) (dC (.tup [.int 0, .int 0])))) (dVar 4) K (xs.map gD) acc T
  | [], c, acc, T, h => by
    rw [nzG, List.map_nil, List.append_nil] at h
    exact h
  | x :: xs, c, acc, T, h => by
    rw [List.map_cons]
    walk_at "evn"
    refine ⟨⟨ok_gD, ok_cx⟩, ?_⟩
    by_cases q : x = 0
    · rw [if_neg (by rw [q]; decide)]
      rw [nzG, if_pos q] at h
      exact lc_nzK xs _ _ _ h
    · rw [if_pos (by
        have : ¬(x.re = 0 ∧ x.im = 0) := fun z => q (Gi.eq0.mp z)
        simp only [Bool.and_eq_false_imp, decide_eq_true_eq, decide_eq_false_iff_not]
        first | exact fun z1 z2 => this ⟨z1, z2⟩ | simpa using this)]
      rw [nzG, if_neg q, List.map_cons] at h
      refine lc_nzK xs _ _ _ ?_
      rw [List.append_assoc]
      exact h
theorem fst4_zero {x : G4} {g : Gi} (h : fst4 (x.1 * g, x.2.1 * g, x.2.2.1 * g, x.2.2.2 * g) ≠ 0) : g ≠ 0 ∧ fst4 x ≠ 0 := by
  have g0 : g ≠ 0 := fun z => by
    subst z
    apply h
    have k : ∀ y : Gi, y * 0 = 0 := fun y => by grind
    unfold fst4
    simp only [k, ne_eq, not_true_eq_false, if_false]
  refine ⟨g0, fun z => h ?_⟩
  have := fst4_scl g0 x
  have e : scl g x = (x.1 * g, x.2.1 * g, x.2.2.1 * g, x.2.2.2 * g) := by
    unfold scl
    rw [show g * x.1 = x.1 * g by grind, show g * x.2.1 = x.2.1 * g by grind, show g * x.2.2.1 = x.2.2.1 * g by grind, show g * x.2.2.2 = x.2.2.2 * g by grind]
  rw [e, z] at this
  rw [this]
  grind
theorem fst4_nz {n : Nat} {x : G4} (s1 : Nz n x.1) (s2 : Nz n x.2.1) (s3 : Nz n x.2.2.1) (s4 : Nz n x.2.2.2) : Nz n (fst4 x) := by
  unfold fst4
  split
  · exact s1
  split
  · exact s2
  split
  · exact s3
  · exact s4
theorem w_dividedG {T : Tk} {n : Nat} {x g : Gi} {k : KD} (s : Nz n (x * g)) (sg : Nz n g) (g0 : g ≠ 0) (hn : n ≤ 2000) (h : k (gD x) T) : sm_divided [.val (gD (x * g)), .val (gD g)] T k := by
  refine w_divided (s.cz.mono (by omega)) (sg.cz.mono (by omega)) (Gi.nm_pos g0) ?_
  rw [cdivd_mulG g0]
  exact h

/-- a comprehension without a test, whose element is computed from the item alone -/
theorem lc_map {α : Type} {ρ : En} {c : dC1} {el : dE} {K : List D → Tk → Prop} {fi fo : α → D} : ∀ (xs : List α) (acc : List D) (T : Tk), (∀ x ∈ xs, ∃ ρ1, c (fi x) ρ = some ρ1 ∧ ∀ T (k : KD), k (fo x) T → el ρ1 T k) → K (acc ++ xs.map fo) T →
    lcD ρ c dYes el K (xs.map fi) acc T
  | [], acc, T, _, h => by
    rw [List.map_nil, List.append_nil] at h
    exact h
  | x :: xs, acc, T, hx, h => by
    obtain ⟨ρ1, e, q⟩ := hx x (List.mem_cons_self ..)
    rw [List.map_cons, lcD, e]
    show el ρ1 T _
    refine q _ _ ?_
    refine lc_map xs _ _ (fun y hy => hx y (List.mem_cons_of_mem _ hy)) ?_
    rw [List.append_assoc]
    exact h
theorem w_form_of {T : Tk} {n : Nat} {f : Int} {N : G4} {NS : D} {k : KD} (hN : NS.it? = some [gD N.1, gD N.2.1, gD N.2.2.1, gD N.2.2.2]) (s1 : Nz n N.1) (s2 : Nz n N.2.1) (s3 : Nz n N.2.2.1) (s4 : Nz n N.2.2.2) (hn : n ≤ 2000) (nz : fst4 N ≠ 0) (h : ∀ m, Fm n N m → k (mD f m) T) : sm_form_of [.val (.int f), .val NS] T k := by
  rw [e_form_of, b_form_of, k_ZERO]
  generalize e1 : dCall 2 sm_divided (aCons (dVar 4) (aCons (dVar 2) (aNil))) = el1
  generalize e2 : dCall 2 sm_times (aCons (dVar 4) (aCons (dVar 5) (aNil))) = el2
  walk_at "evm"
  refine w_divisor_of_all hN s1 s2 s3 s4 hn fun g gd ng => ?_
  obtain ⟨N1, N2, N3, N4⟩ := N
  obtain ⟨⟨x1, q1⟩, ⟨x2, q2⟩, ⟨x3, q3⟩, ⟨x4, q4⟩, u, v, w, t, es⟩ := gd
  simp only at q1 q2 q3 q4
  subst q1 q2 q3 q4
  obtain ⟨g0, f0⟩ := fst4_zero (x := (x1, x2, x3, x4)) nz
  have fin := h _ (fm_of (x := (x1, x2, x3, x4)) g0 ⟨u, v, w, t, es⟩ f0 s1 s2 s3 s4)
  have y1 := Nz.dvd (a := x1) g0 (by rw [show g * x1 = x1 * g by grind]; exact s1)
  have y2 := Nz.dvd (a := x2) g0 (by rw [show g * x2 = x2 * g by grind]; exact s2)
  have y3 := Nz.dvd (a := x3) g0 (by rw [show g * x3 = x3 * g by grind]; exact s3)
  have y4 := Nz.dvd (a := x4) g0 (by rw [show g * x4 = x4 * g by grind]; exact s4)
  have nf := fst4_nz (x := (x1, x2, x3, x4)) y1 y2 y3 y4
  obtain ⟨r, er⟩ := nzG_head f0
  simp only at er
  have nu : Nz 1 (guni (fst4 (x1, x2, x3, x4))) := by unfold Nz; rw [guni_nm]; decide
  walk_at "evm"
  simp only [hN]
  refine ⟨by simp, ?_⟩
  refine lc_map (fi := fun x => gD (x * g)) (fo := gD) [x1, x2, x3, x4] _ _ (fun x hx => ⟨_, rfl, fun T k hk => ?_⟩) ?_
  · have sx : Nz n (x * g) := by
      simp only [List.mem_cons, List.not_mem_nil, or_false] at hx
      rcases hx with rfl | rfl | rfl | rfl
      · exact s1
      · exact s2
      · exact s3
      · exact s4
    rw [← e1]
    walk_at "evm"
    exact w_dividedG (x := x) (g := g) sx ng g0 hn hk
  rw [List.nil_append, List.map_cons, List.map_cons, List.map_cons, List.map_cons, List.map_nil]
  walk_at "evm"
  refine lc_nzK [x1, x2, x3, x4] _ _ _ ?_
  rw [List.nil_append, er, List.map_cons]
  walk_at "evm"
  refine w_unit_for (nf.cz.mono (by omega)) fun p hp => ?_
  have ep : D.tup [.int p.1, .int p.2] = gD (guni (fst4 (x1, x2, x3, x4))) := by rw [hp]; rfl
  rw [ep]
  walk_at "evm"
  refine lc_map (fi := gD) (fo := fun x => gD (x * guni (fst4 (x1, x2, x3, x4)))) [x1, x2, x3, x4] _ _ (fun x hx => ⟨_, rfl, fun T k hk => ?_⟩) ?_
  · have sx : Nz n x := by
      simp only [List.mem_cons, List.not_mem_nil, or_false] at hx
      rcases hx with rfl | rfl | rfl | rfl
      · exact y1
      · exact y2
      · exact y3
      · exact y4
    rw [← e2]
    walk_at "evm"
    exact w_timesG sx.cz nu.cz (by omega) (by omega) hk
  rw [List.nil_append]
  walk_at "evm"
  first | exact fin | exact ⟨by simp, fin⟩ | exact ⟨by decide, fin⟩

theorem w_scaled {T : Tk} {n : Nat} {a : Gi} {c : Int} {k : KD} (ha : Cz n (a.re, a.im)) (hc : Sz n c) (hn : n ≤ 100000) (h : k (.tup [.int (c * a.re), .int (c * a.im)]) T) : sm_scaled [.val (gD a), .val (.int c)] T k := by
  rw [e_scaled, b_scaled]
  walk_at "evn"
  exact ⟨hc.mulOk ha.1 (by omega) (by omega), hc.mulOk ha.2 (by omega) (by omega), h⟩
theorem w_determinant {T : Tk} {n : Nat} {f : Int} {m : G4} {k : KD} (s1 : Nz n m.1) (s2 : Nz n m.2.1) (s3 : Nz n m.2.2.1) (s4 : Nz n m.2.2.2) (hn : n ≤ 2000) (h : k (gD (dtG m)) T) : sm_determinant [.val (mD f m)] T k := by
  rw [e_determinant, b_determinant]
  walk_at "evn"
  refine w_timesG s1.cz s4.cz (by omega) (by omega) ?_
  walk_at "evn"
  refine w_timesG s2.cz s3.cz (by omega) (by omega) ?_
  walk_at "evn"
  exact w_minusG h
theorem w_is_flag {T : Tk} {f : Int} {k : KD} (hf : f = 0 ∨ f = 1) (h : k (.bl true) T) : sm_is_flag [.val (.int f)] T k := by
  rw [e_is_flag, b_is_flag]
  walk_at "evn"
  refine w_is_whole ?_
  walk_at "evn"
  refine ⟨⟨ok_int, ok_cx⟩, ?_⟩
  rcases hf with rfl | rfl <;> simpa using h
theorem ok_mD {f : Int} {m : G4} : (mD f m).eqOk := ⟨rfl, rfl⟩
/-- a map as the program has it -/
structure Mq (n : Nat) (f : Int) (m : G4) : Prop where
  fl : f = 0 ∨ f = 1
  mp : Mp m
  dt : dtG m ≠ 0
  s1 : Nz n m.1
  s2 : Nz n m.2.1
  s3 : Nz n m.2.2.1
  s4 : Nz n m.2.2.2
theorem Mq.mono {l n : Nat} {f : Int} {m : G4} (h : Mq l f m) (q : l ≤ n) : Mq n f m := ⟨h.fl, h.mp, h.dt, h.s1.mono q, h.s2.mono q, h.s3.mono q, h.s4.mono q⟩
theorem one_ne : (1 : Gi) ≠ 0 := fun z => absurd (congrArg Gi.re z) (by decide)
theorem scl_one (m : G4) : scl 1 m = m := by
  obtain ⟨a, b, c, d⟩ := m
  unfold scl
  simp only [Prod.mk.injEq]
  refine ⟨?_, ?_, ?_, ?_⟩ <;> grind
theorem Mq.fm {n : Nat} {f : Int} {m : G4} (h : Mq n f m) : Fm n m m := ⟨h.mp, ⟨1, one_ne, (scl_one m).symm⟩, h.s1, h.s2, h.s3, h.s4⟩
theorem Fm.mq {n : Nat} {f : Int} {N m : G4} (h : Fm n N m) (hf : f = 0 ∨ f = 1) (d : dtG N ≠ 0) : Mq n f m := by
  obtain ⟨c, c0, e⟩ := h.c
  refine ⟨hf, h.mp, fun z => d ?_, h.s1, h.s2, h.s3, h.s4⟩
  rw [e, dt_scl, z]
  grind
theorem Fm.led {l n : Nat} {f : Int} {N m : G4} {q t : P3} (h : Fm l N m) (hl : Led n f N q t) : Led n f m q t := by
  obtain ⟨c, c0, e⟩ := h.c
  rw [e] at hl
  exact hl.scl c0
/-- along one another -/
theorem Fm.along {l n : Nat} {N N' m m' : G4} {c c' : Gi} (h : Fm l N m) (h' : Fm n N' m') (c0 : c ≠ 0) (c0' : c' ≠ 0) (e : scl c N = scl c' N') : m = m' := by
  obtain ⟨d, d0, k⟩ := h.c
  obtain ⟨d', d0', k'⟩ := h'.c
  rw [k, k'] at e
  have ss : ∀ (a b : Gi) (x : G4), scl a (scl b x) = scl (a * b) x := fun a b x => by
    unfold scl
    simp only [Prod.mk.injEq]
    refine ⟨?_, ?_, ?_, ?_⟩ <;> grind
  rw [ss, ss] at e
  exact mp_uniq h.mp h'.mp (Gi.mul_ne c0 d0) (Gi.mul_ne c0' d0') e

abbrev g1 : G4 := (1, 0, 0, 1)
theorem mp_g1 : Mp g1 := ⟨⟨1, 0, 0, 0, by simp only; grind⟩, by unfold Qf; decide⟩
theorem nz_01 {n : Nat} (h : 1 ≤ n) : Nz n 0 ∧ Nz n 1 := by
  have : (2 : Int) ^ 1 ≤ 2 ^ n := by exact_mod_cast Nat.pow_le_pow_right (n := 2) (by decide) h
  have e : (2 : Int) ^ 1 = 2 := rfl
  constructor
  · unfold Nz; rw [Gi.nm_of_zero]; omega
  · unfold Nz; show (1 : Int) * 1 + 0 * 0 < _; omega
theorem fm_g1 : Fm 1 g1 g1 := ⟨mp_g1, ⟨1, one_ne, (scl_one _).symm⟩, (nz_01 (Nat.le_refl _)).2, (nz_01 (Nat.le_refl _)).1, (nz_01 (Nat.le_refl _)).1, (nz_01 (Nat.le_refl _)).2⟩
theorem Fm.left {l n b : Nat} {f : Int} {m m' x : G4} (hm : Mq n f m) (h : Fm l (Bk f m) m') (h' : Fm b (Pr f m' m) x) : x = g1 := by
  obtain ⟨c, c0, e⟩ := h.c
  have k : scl (c * fl f 1) (Pr f m' m) = scl (fl f (dtG m)) g1 := by
    rw [← pr_scl, scl_one, ← e]
    exact (pr_back hm.fl m).1
  exact h'.along fm_g1 (Gi.mul_ne c0 (fl_ne one_ne)) (fl_ne hm.dt) k
theorem Fm.right {l n b : Nat} {f : Int} {m m' x : G4} (hm : Mq n f m) (h : Fm l (Bk f m) m') (h' : Fm b (Pr f m m') x) : x = g1 := by
  obtain ⟨c, c0, e⟩ := h.c
  have k : scl (1 * fl f c) (Pr f m m') = scl (dtG m) g1 := by
    rw [← pr_scl, scl_one, ← e]
    exact (pr_back hm.fl m).2
  exact h'.along fm_g1 (Gi.mul_ne one_ne (fl_ne c0)) hm.dt k
theorem Led.of_one {l n : Nat} {q t : P3} (hq : Pt l q) (h : Led n 0 g1 q t) : t = q := by
  have e : HG n t (zG q) (rG q) := by
    have := h
    unfold Led at this
    have e1 : apz g1 (fl 0 (zG q)) (rG q) = zG q := by unfold apz fl; rw [if_neg (by decide)]; simp only; grind
    have e2 : apw g1 (fl 0 (zG q)) (rG q) = rG q := by unfold apw fl; simp only; grind
    rw [e1, e2] at this
    exact this
  exact e.uniq (HG.self hq)
/-- there and back -/
theorem Led.back {a b l n c : Nat} {f : Int} {m m' : G4} {q t s : P3} (hm : Mq n f m) (h : Fm l (Bk f m) m') (hm' : dtG m' ≠ 0) (hq : Pt c q) (h1 : Led a f m q t) (h2 : Led b f m' t s) : s = q := by
  have k := Led.two (a := 0) hm' hm.fl hm.fl h1 h2
  have e0 : ((f + f) % 2 : Int) = 0 := by rcases hm.fl with e | e <;> rw [e] <;> rfl
  rw [e0] at k
  obtain ⟨d, d0, e⟩ := h.c
  have k1 : G.scl (d * fl f 1) (Pr f m' m) = G.scl (fl f (dtG m)) g1 := by
    rw [← pr_scl, scl_one, ← e]
    exact (pr_back hm.fl m).1
  have k2 : Led b 0 (G.scl (d * fl f 1) (Pr f m' m)) q s := by
    unfold Led at k ⊢
    rw [(ap_scl _ _ _ _).1, (ap_scl _ _ _ _).2]
    have d1 := Gi.mul_ne d0 (fl_ne (f := f) one_ne)
    refine k.tr (fun ⟨x, y⟩ => k.nz ⟨(Gi.mul_zero' x).resolve_left d1, (Gi.mul_zero' y).resolve_left d1⟩) (by grind)
  rw [k1] at k2
  exact (k2.scl (fl_ne hm.dt)).of_one hq
theorem dt_pr {f : Int} {m n : G4} (h : dtG m ≠ 0) (q : dtG n ≠ 0) : dtG (Pr f m n) ≠ 0 := by
  unfold Pr
  rw [dt_mul, dt_fl]
  exact Gi.mul_ne h (fl_ne q)
theorem dt_bk {f : Int} {m : G4} (h : dtG m ≠ 0) : dtG (Bk f m) ≠ 0 := by
  unfold Bk
  rw [dt_fl, dt_adj]
  exact fl_ne h
theorem nz_fl {n : Nat} {f : Int} {a : Gi} (h : Nz n a) : Nz n (fl f a) := by unfold fl; split; exact h.cj; exact h
structure N4 (n : Nat) (m : G4) : Prop where
  s1 : Nz n m.1
  s2 : Nz n m.2.1
  s3 : Nz n m.2.2.1
  s4 : Nz n m.2.2.2
theorem Mq.n4 {n : Nat} {f : Int} {m : G4} (h : Mq n f m) : N4 n m := ⟨h.s1, h.s2, h.s3, h.s4⟩
theorem n4_bk {n : Nat} {f : Int} {m : G4} (h : N4 n m) : N4 n (Bk f m) := ⟨nz_fl h.s4, nz_fl h.s2.neg, nz_fl h.s3.neg, nz_fl h.s1⟩
theorem n4_pr {l n : Nat} {f : Int} {m m' : G4} (h : N4 l m) (q : N4 n m') : N4 (l + n + 2) (Pr f m m') :=
  ⟨(h.s1.mul (nz_fl q.s1)).add (h.s2.mul (nz_fl q.s3)), (h.s1.mul (nz_fl q.s2)).add (h.s2.mul (nz_fl q.s4)), (h.s3.mul (nz_fl q.s1)).add (h.s4.mul (nz_fl q.s3)), (h.s3.mul (nz_fl q.s2)).add (h.s4.mul (nz_fl q.s4))⟩
theorem flag_add {f g : Int} (hf : f = 0 ∨ f = 1) (hg : g = 0 ∨ g = 1) : (f + g) % 2 = 0 ∨ (f + g) % 2 = 1 := by omega
theorem Mq.bk {n l : Nat} {f : Int} {m m' : G4} (h : Mq n f m) (q : Fm l (Bk f m) m') : Mq l f m' := q.mq h.fl (dt_bk h.dt)
theorem Mq.pr {n l b : Nat} {f g : Int} {m m' x : G4} (h : Mq n f m) (h' : Mq l g m') (q : Fm b (Pr f m m') x) : Mq b ((f + g) % 2) x := q.mq (flag_add h.fl h'.fl) (dt_pr h.dt h'.dt)
theorem w_is_map {T : Tk} {n : Nat} {f : Int} {m : G4} {k : KD} (hm : Mq n f m) (hn : n ≤ 2000) (h : k (.bl true) T) : sm_is_map [.val (mD f m)] T k := by
  rw [e_is_map, b_is_map, k_ZERO]
  walk_at "evn"
  refine w_is_flag hm.fl ?_
  walk_at "evn"
  refine w_is_complex ?_
  walk_at "evn"
  refine w_is_complex ?_
  walk_at "evn"
  refine w_is_complex ?_
  walk_at "evn"
  refine w_is_complex ?_
  walk_at "evn"
  rw [if_neg (by decide)]
  refine ⟨⟨ok_pDs [], ok_pDs []⟩, ?_⟩
  refine w_determinant hm.s1 hm.s2 hm.s3 hm.s4 hn ?_
  walk_at "evn"
  refine ⟨⟨ok_cx, ok_cx⟩, ?_⟩
  rw [if_neg (fun z => hm.dt (Gi.eq0.mp z))]
  refine w_form_of (NS := .tup [gD m.1, gD m.2.1, gD m.2.2.1, gD m.2.2.2]) rfl hm.s1 hm.s2 hm.s3 hm.s4 hn (dt_fst hm.dt) fun m' hm' => ?_
  obtain rfl := hm.fm.uniq hm'
  walk_at "evn"
  refine ⟨⟨ok_mD, ok_mD⟩, ?_⟩
  have e : (decide True) = true := rfl
  simpa only [and_self, decide_true] using h
theorem w_check_map {T : Tk} {n : Nat} {f : Int} {m : G4} {k : KD} (hm : Mq n f m) (hn : n ≤ 2000) (h : k .non T) : sm_check_map [.val (mD f m)] T k := by
  rw [e_check_map, b_check_map]
  walk_at "evn"
  refine w_is_map hm hn ?_
  walk_at "evn"
  simpa using h
theorem w_joined {T : Tk} {n l : Nat} {f g : Int} {m m' : G4} {k : KD} (hm : Mq n f m) (hm' : Mq l g m') (hn : n + l ≤ 1900) (h : ∀ x, Fm (n + l + 2) (Pr f m m') x → k (mD ((f + g) % 2) x) T) : sm_joined [.val (mD f m), .val (mD g m')] T k := by
  have N := n4_pr (f := f) hm.n4 hm'.n4
  have fin := fun (NS : D) (e : NS.it? = some [gD (Pr f m m').1, gD (Pr f m m').2.1, gD (Pr f m m').2.2.1, gD (Pr f m m').2.2.2]) => w_form_of (T := T) (f := (f + g) % 2) (k := k) e N.s1 N.s2 N.s3 N.s4 (by omega) (dt_fst (dt_pr hm.dt hm'.dt)) h
  rw [e_joined, b_joined]
  generalize e1 : dCall 1 sm_turned_over (aCons (dVar 3) (aNil)) = el1
  obtain ⟨a, b, c, d⟩ := m
  obtain ⟨p, q, r, s⟩ := m'
  have A1 := hm.s1
  have A2 := hm.s2
  have A3 := hm.s3
  have A4 := hm.s4
  have B1 := hm'.s1
  have B2 := hm'.s2
  have B3 := hm'.s3
  have B4 := hm'.s4
  simp only at A1 A2 A3 A4 B1 B2 B3 B4
  have tm : ∀ (u v : Gi) (k : KD) (T : Tk), Nz n u → Nz l v → k (gD (u * v)) T → sm_times [.val (gD u), .val (gD v)] T k := fun u v k T hu hv hk => w_timesG hu.cz hv.cz (by omega) (by omega) hk
  rcases hm.fl with rfl | rfl
  · walk_at "evm"
    refine tm _ _ _ _ A1 B1 ?_
    refine tm _ _ _ _ A2 B3 ?_
    refine w_plusG ?_
    refine tm _ _ _ _ A1 B2 ?_
    refine tm _ _ _ _ A2 B4 ?_
    refine w_plusG ?_
    refine tm _ _ _ _ A3 B1 ?_
    refine tm _ _ _ _ A4 B3 ?_
    refine w_plusG ?_
    refine tm _ _ _ _ A3 B2 ?_
    refine tm _ _ _ _ A4 B4 ?_
    refine w_plusG ?_
    exact fin _ rfl
  · walk_at "evm"
    refine lc_map (fi := gD) (fo := fun x => gD x.cj) [p, q, r, s] _ _ (fun x hx => ⟨_, rfl, fun T k hk => ?_⟩) ?_
    · rw [← e1]
      walk_at "evm"
      exact w_turnG hk
    rw [List.nil_append]
    walk_at "evm"
    refine tm _ _ _ _ A1 B1.cj ?_
    refine tm _ _ _ _ A2 B3.cj ?_
    refine w_plusG ?_
    refine tm _ _ _ _ A1 B2.cj ?_
    refine tm _ _ _ _ A2 B4.cj ?_
    refine w_plusG ?_
    refine tm _ _ _ _ A3 B1.cj ?_
    refine tm _ _ _ _ A4 B3.cj ?_
    refine w_plusG ?_
    refine tm _ _ _ _ A3 B2.cj ?_
    refine tm _ _ _ _ A4 B4.cj ?_
    refine w_plusG ?_
    exact fin _ rfl
theorem nz_of {n : Nat} {a b : Int} (h : Sz n a) (q : Sz n b) : Nz (2 * n + 2) ⟨a, b⟩ := by
  have h1 : Sz (n + n + 1) (a * a + b * b) := ((h.mul h).add (q.mul q)).mono (by omega)
  have nn := Gi.nm_nn ⟨a, b⟩
  unfold Nz
  unfold Sz at h1
  have e : (⟨a, b⟩ : Gi).nm = a * a + b * b := rfl
  rw [e] at nn ⊢
  have l : (2 : Int) ^ (n + n + 1) ≤ 2 ^ (2 * n + 2) := by exact_mod_cast Nat.pow_le_pow_right (n := 2) (by decide) (by omega)
  have h2 : ((a * a + b * b).natAbs : Int) < 2 ^ (n + n + 1) := by exact_mod_cast h1
  omega
theorem dec_gi {a : Gi} : (decide (a.re = 0) && decide (a.im = 0)) = decide (a = 0) := by
  by_cases q : a = 0
  · rw [q]; rfl
  · have : ¬(a.re = 0 ∧ a.im = 0) := fun z => q (Gi.eq0.mp z)
    rw [decide_eq_false q]
    simpa using this
theorem Led.pt {n : Nat} {f : Int} {m : G4} {q t : P3} (h : Led n f m q t) : Pt n t := HG.pt h
theorem dt_g1 : dtG g1 ≠ 0 := fun z => absurd (congrArg Gi.re z) (by decide)
theorem Mq.g1 : Mq 1 0 L2.G.g1 := fm_g1.mq (.inl rfl) dt_g1

/-! rows led back by maps -/
def mulR (g : Int) (r : R4) : R4 := (g * r.1, g * r.2.1, g * r.2.2.1, g * r.2.2.2)
def addR (x y : R4) : R4 := (x.1 + y.1, x.2.1 + y.2.1, x.2.2.1 + y.2.2.1, x.2.2.2 + y.2.2.2)
def be (r : R4) : Gi := ⟨r.2.1, -r.2.2.1⟩
def valG (r : R4) (z w : Gi) : Int := r.1 * z.nm + (be r * (z * w.cj)).re + r.2.2.2 * w.nm
def RB0 (m : G4) (r : R4) : R4 :=
  (r.1 * m.1.nm + (be r * (m.1 * m.2.2.1.cj)).re + r.2.2.2 * m.2.2.1.nm,
   2 * r.1 * (m.1 * m.2.1.cj).re + (be r * (m.1 * m.2.2.2.cj)).re + ((be r).cj * (m.2.1.cj * m.2.2.1)).re + 2 * r.2.2.2 * (m.2.2.1 * m.2.2.2.cj).re,
   -(2 * r.1 * (m.1 * m.2.1.cj).im + (be r * (m.1 * m.2.2.2.cj)).im + ((be r).cj * (m.2.1.cj * m.2.2.1)).im + 2 * r.2.2.2 * (m.2.2.1 * m.2.2.2.cj).im),
   r.1 * m.2.1.nm + (be r * (m.2.1 * m.2.2.2.cj)).re + r.2.2.2 * m.2.2.2.nm)
def flR (f : Int) (r : R4) : R4 := (r.1, r.2.1, if f = 1 then -r.2.2.1 else r.2.2.1, r.2.2.2)
def RB (f : Int) (m : G4) (r : R4) : R4 := flR f (RB0 m r)
theorem val_G (r : R4) (q : P3) : val4 r q = valG r (zG q) (rG q) := by
  unfold val4 valG be zG rG Gi.nm Gi.cj
  simp only [Gi.mul_re, Gi.mul_im]
  grind
theorem rb0_val (m : G4) (r : R4) (z w : Gi) : valG (RB0 m r) z w = valG r (apz m z w) (apw m z w) := by
  obtain ⟨⟨a, a'⟩, ⟨b, b'⟩, ⟨c, c'⟩, ⟨d, d'⟩⟩ := m
  obtain ⟨q, l, n, k⟩ := r
  obtain ⟨z, z'⟩ := z
  obtain ⟨w, w'⟩ := w
  unfold valG RB0 be apz apw Gi.nm Gi.cj
  simp only [Gi.mul_re, Gi.mul_im, Gi.add_re, Gi.add_im]
  grind
theorem flR_val (f : Int) (r : R4) (z w : Gi) : valG (flR f r) z w = valG r (fl f z) (fl f w) := by
  unfold valG flR fl be
  split
  · unfold Gi.nm Gi.cj
    simp only [Gi.mul_re, Gi.mul_im]
    grind
  · rfl
theorem rb_val (f : Int) (m : G4) (r : R4) (z w : Gi) : valG (RB f m r) z w = valG r (apz m (fl f z) (fl f w)) (apw m (fl f z) (fl f w)) := by
  unfold RB
  rw [flR_val, rb0_val]
theorem val_ext {r r' : R4} (h : ∀ z w, valG r z w = valG r' z w) : r = r' := by
  have h1 := h ⟨1, 0⟩ ⟨0, 0⟩
  have h2 := h ⟨0, 0⟩ ⟨1, 0⟩
  have h3 := h ⟨1, 0⟩ ⟨1, 0⟩
  have h4 := h ⟨0, 1⟩ ⟨1, 0⟩
  obtain ⟨q, l, n, k⟩ := r
  obtain ⟨q', l', n', k'⟩ := r'
  unfold valG be Gi.nm Gi.cj at h1 h2 h3 h4
  simp only [Gi.mul_re, Gi.mul_im] at h1 h2 h3 h4
  have e1 : q = q' := by omega
  have e2 : k = k' := by omega
  have e3 : l = l' := by omega
  have e4 : n = n' := by omega
  rw [e1, e2, e3, e4]
theorem mulR_val (g : Int) (r : R4) (z w : Gi) : valG (mulR g r) z w = g * valG r z w := by
  unfold valG mulR be Gi.nm Gi.cj
  simp only [Gi.mul_re, Gi.mul_im]
  grind
theorem addR_val (x y : R4) (z w : Gi) : valG (addR x y) z w = valG x z w + valG y z w := by
  unfold valG addR be Gi.nm Gi.cj
  simp only [Gi.mul_re, Gi.mul_im]
  grind
theorem val_scl (r : R4) (c z w : Gi) : valG r (c * z) (c * w) = c.nm * valG r z w := by
  unfold valG be Gi.nm Gi.cj
  simp only [Gi.mul_re, Gi.mul_im]
  grind
theorem fl_mul (f : Int) (a b : Gi) : fl f (a * b) = fl f a * fl f b := by
  unfold fl; split
  · exact Gi.cj_mul a b
  · rfl
theorem fl_add (f : Int) (a b : Gi) : fl f (a + b) = fl f a + fl f b := by
  unfold fl; split
  · exact Gi.cj_add a b
  · rfl
theorem fl_nm (f : Int) (a : Gi) : (fl f a).nm = a.nm := by
  unfold fl; split
  · exact Gi.nm_cj a
  · rfl
theorem fl_fl {f g : Int} (hf : f = 0 ∨ f = 1) (hg : g = 0 ∨ g = 1) (a : Gi) : fl g (fl f a) = fl ((f + g) % 2) a := by
  rcases hf with rfl | rfl <;> rcases hg with rfl | rfl <;> simp [fl, Gi.cj_cj]
theorem rb_mul (f g : Int) (m : G4) (r : R4) : RB f m (mulR g r) = mulR g (RB f m r) := val_ext fun z w => by rw [rb_val, mulR_val, mulR_val, rb_val]
theorem rb_add (f : Int) (m : G4) (x y : R4) : RB f m (addR x y) = addR (RB f m x) (RB f m y) := val_ext fun z w => by rw [rb_val, addR_val, addR_val, rb_val, rb_val]
theorem rb_scl (f : Int) (c : Gi) (m : G4) (r : R4) : RB f (scl c m) r = mulR c.nm (RB f m r) := val_ext fun z w => by
  rw [rb_val, mulR_val, rb_val, (ap_scl c m _ _).1, (ap_scl c m _ _).2, val_scl]
theorem rb_comp {f g : Int} (hf : f = 0 ∨ f = 1) (hg : g = 0 ∨ g = 1) (m n : G4) (r : R4) : RB f m (RB g n r) = RB ((f + g) % 2) (Pr g n m) r := val_ext fun z w => by
  rw [rb_val, rb_val, rb_val]
  have e1 : fl g (apz m (fl f z) (fl f w)) = apz (flm g m) (fl ((f + g) % 2) z) (fl ((f + g) % 2) w) := by
    unfold apz flm
    rw [fl_add, fl_mul, fl_mul, fl_fl hf hg, fl_fl hf hg]
  have e2 : fl g (apw m (fl f z) (fl f w)) = apw (flm g m) (fl ((f + g) % 2) z) (fl ((f + g) % 2) w) := by
    unfold apw flm
    rw [fl_add, fl_mul, fl_mul, fl_fl hf hg, fl_fl hf hg]
  rw [e1, e2]
  unfold Pr
  rw [(ap_mul n (flm g m) _ _).1, (ap_mul n (flm g m) _ _).2]
theorem rb_one (r : R4) : RB 0 (1, 0, 0, 1) r = r := val_ext fun z w => by
  rw [rb_val]
  have e1 : apz (1, 0, 0, 1) (fl 0 z) (fl 0 w) = z := by unfold apz fl; simp only; grind
  have e2 : apw (1, 0, 0, 1) (fl 0 z) (fl 0 w) = w := by unfold apw fl; simp only; grind
  rw [e1, e2]
/-- back and there again -/
theorem rb_back {f : Int} (hf : f = 0 ∨ f = 1) (m : G4) (r : R4) : RB f m (RB f (Bk f m) r) = mulR (dtG m).nm r := by
  have e : (f + f) % 2 = 0 := by omega
  rw [rb_comp hf hf, e, (pr_back hf m).1, rb_scl, rb_one, fl_nm]
theorem bnd_mulR (g : Int) (r : R4) : bnd (mulR g r) = g * g * bnd r := by unfold bnd mulR; simp only; grind
theorem jn_mulR (g h : Int) (x y : R4) : jn (mulR g x) (mulR h y) = g * h * jn x y := by unfold jn mulR; simp only; grind
theorem bnd_addR (x y : R4) : bnd (addR x y) = bnd x + bnd y + 2 * jn x y := by unfold bnd jn addR; simp only; grind
theorem bnd_flR (f : Int) (r : R4) : bnd (flR f r) = bnd r := by unfold bnd flR; simp only; split <;> grind
def io (n : Int) : Gi := ⟨n, 0⟩
theorem io_inj {a b : Int} (h : io a = io b) : a = b := congrArg Gi.re h
theorem bnd_io (r : R4) : io (bnd r) = be r * (be r).cj - io (2 * r.1) * io (2 * r.2.2.2) := by
  refine Gi.ext' ?_ ?_
  · unfold bnd io be Gi.cj; simp only [Gi.mul_re, Gi.sub_re]; grind
  · unfold io be Gi.cj; simp only [Gi.mul_im, Gi.sub_im]; grind
theorem nm_io (a : Gi) : io a.nm = a * a.cj := by
  refine Gi.ext' ?_ ?_
  · unfold io Gi.nm Gi.cj; simp only [Gi.mul_re]; grind
  · unfold io Gi.cj; simp only [Gi.mul_im]; grind
theorem io_mul (a b : Int) : io (a * b) = io a * io b := Gi.ext' (by unfold io; simp only [Gi.mul_re]; grind) (by unfold io; simp only [Gi.mul_im]; grind)
theorem bnd_rb (f : Int) (m : G4) (r : R4) : bnd (RB f m r) = (dtG m).nm * bnd r := by
  unfold RB
  rw [bnd_flR]
  apply io_inj
  rw [io_mul, nm_io, bnd_io, bnd_io]
  obtain ⟨a, b, c, d⟩ := m
  have q1 : io (2 * (RB0 (a, b, c, d) r).1) = (io (2 * r.1) * a + (be r).cj * c) * a.cj + (be r * a + io (2 * r.2.2.2) * c) * c.cj := by
    obtain ⟨q, l, n, k⟩ := r
    refine Gi.ext' ?_ ?_
    · unfold RB0 io be Gi.nm Gi.cj; simp only [Gi.mul_re, Gi.mul_im, Gi.add_re, Gi.add_im]; grind
    · unfold RB0 io be Gi.cj; simp only [Gi.mul_re, Gi.mul_im, Gi.add_re, Gi.add_im]; grind
  have q2 : io (2 * (RB0 (a, b, c, d) r).2.2.2) = (io (2 * r.1) * b + (be r).cj * d) * b.cj + (be r * b + io (2 * r.2.2.2) * d) * d.cj := by
    obtain ⟨q, l, n, k⟩ := r
    refine Gi.ext' ?_ ?_
    · unfold RB0 io be Gi.nm Gi.cj; simp only [Gi.mul_re, Gi.mul_im, Gi.add_re, Gi.add_im]; grind
    · unfold RB0 io be Gi.cj; simp only [Gi.mul_re, Gi.mul_im, Gi.add_re, Gi.add_im]; grind
  have q3 : be (RB0 (a, b, c, d) r) = (io (2 * r.1) * a + (be r).cj * c) * b.cj + (be r * a + io (2 * r.2.2.2) * c) * d.cj := by
    obtain ⟨q, l, n, k⟩ := r
    refine Gi.ext' ?_ ?_
    · unfold RB0 io be Gi.cj; simp only [Gi.mul_re, Gi.mul_im, Gi.add_re, Gi.add_im]; grind
    · unfold RB0 io be Gi.cj; simp only [Gi.mul_re, Gi.mul_im, Gi.add_re, Gi.add_im]; grind
  have q4 : (be (RB0 (a, b, c, d) r)).cj = (io (2 * r.1) * b + (be r).cj * d) * a.cj + (be r * b + io (2 * r.2.2.2) * d) * c.cj := by
    obtain ⟨q, l, n, k⟩ := r
    refine Gi.ext' ?_ ?_
    · unfold RB0 io be Gi.cj; simp only [Gi.mul_re, Gi.mul_im, Gi.add_re, Gi.add_im]; grind
    · unfold RB0 io be Gi.cj; simp only [Gi.mul_re, Gi.mul_im, Gi.add_re, Gi.add_im]; grind
  have q5 : (dtG (a, b, c, d)).cj = a.cj * d.cj - b.cj * c.cj := by unfold dtG; rw [Gi.cj_sub, Gi.cj_mul, Gi.cj_mul]
  rw [q1, q2, q4, q3, q5]
  unfold dtG
  generalize io (2 * r.1) = Q
  generalize io (2 * r.2.2.2) = K
  generalize (be r).cj = B'
  generalize be r = B
  generalize a.cj = A'
  generalize b.cj = B2
  generalize c.cj = C'
  generalize d.cj = D'
  simp only
  grind
theorem jn_rb (f : Int) (m : G4) (x y : R4) : jn (RB f m x) (RB f m y) = (dtG m).nm * jn x y := by
  have h := bnd_rb f m (addR x y)
  rw [rb_add, bnd_addR, bnd_addR, bnd_rb, bnd_rb] at h
  generalize (dtG m).nm = N at *
  generalize jn x y = J at *
  generalize jn (RB f m x) (RB f m y) = J' at *
  generalize bnd x = u at *
  generalize bnd y = v at *
  have : 2 * J' = 2 * (N * J) := by grind
  omega
theorem hg_val {n : Nat} {q : P3} {z w : Gi} (h : HG n q z w) (r : R4) : ((zG q).nm + (rG q).nm) * valG r z w = (z.nm + w.nm) * val4 r q := by
  rw [val_G]
  have e := h.e
  have h1 := val_scl r (rG q) z w
  have h2 := val_scl r w (zG q) (rG q)
  have h3 := val_scl r (zG q) z w
  have h4 := val_scl r z (zG q) (rG q)
  have x1 : valG r (rG q * z) (rG q * w) = valG r (w * zG q) (w * rG q) := by
    rw [show w * zG q = rG q * z by rw [← e]; grind, show w * rG q = rG q * w by grind]
  have x2 : valG r (zG q * z) (zG q * w) = valG r (z * zG q) (z * rG q) := by
    rw [show zG q * w = z * rG q by rw [e]; grind, show zG q * z = z * zG q by grind]
  rw [h1, h2] at x1
  rw [h3, h4] at x2
  rw [Int.add_mul, Int.add_mul]
  omega

/-- the round r is led to t -/
structure Lr (n : Nat) (f : Int) (m : G4) (r t : R4) : Prop where
  rd : Rd n t
  c : ∃ g h : Int, g ≠ 0 ∧ h ≠ 0 ∧ mulR h (RB f (Bk f m) r) = mulR g t
theorem mulR_mulR (a b : Int) (r : R4) : mulR a (mulR b r) = mulR (a * b) r := by unfold mulR; simp only [Int.mul_assoc]
theorem mulR_comm (a b : Int) (r : R4) : mulR a (mulR b r) = mulR b (mulR a r) := by rw [mulR_mulR, mulR_mulR, Int.mul_comm]
theorem rd_mulR {m n : Nat} {r r' : R4} (h : Rd m r) (h' : Rd n r') {g g' : Int} (g0 : g ≠ 0) (g0' : g' ≠ 0) (e : mulR g r = mulR g' r') : r = r' := by
  unfold mulR at e
  simp only [Prod.mk.injEq] at e
  exact rd_uniq h h' g0 g0' e.1 e.2.1 e.2.2.1 e.2.2.2
theorem Lr.uniq {l n : Nat} {f : Int} {m : G4} {r t t' : R4} (h : Lr l f m r t) (h' : Lr n f m r t') : t = t' := by
  obtain ⟨g, a, g0, a0, e⟩ := h.c
  obtain ⟨g', a', g0', a0', e'⟩ := h'.c
  refine rd_mulR h.rd h'.rd (g := a' * g) (g' := a * g') (Int.mul_ne_zero a0' g0) (Int.mul_ne_zero a0 g0') ?_
  rw [← mulR_mulR, ← e, mulR_comm, e', mulR_mulR]
theorem Lr.back {l n b p : Nat} {f : Int} {m m' : G4} {r t s : R4} (hm : Mq p f m) (hr : Rd b r) (hb : Fm l (Bk f m) m') (h : Lr n f m r t) {q : Nat} (h' : Lr q f m' t s) : s = r := by
  obtain ⟨c, c0, ec⟩ := hb.c
  obtain ⟨g, a, g0, a0, e⟩ := h.c
  obtain ⟨g', a', g0', a0', e'⟩ := h'.c
  have np := Gi.nm_pos c0
  have nd := Gi.nm_pos hm.dt
  have e1 : m = scl (fl f c) (Bk f m') := by rw [← bk_scl, ← ec, bk_bk hm.fl]
  have e2 := congrArg (RB f m) e
  rw [rb_mul, rb_mul, rb_back hm.fl] at e2
  have e3 : RB f m t = mulR c.nm (RB f (Bk f m') t) := by
    have := rb_scl f (fl f c) (Bk f m') t
    rw [← e1, fl_nm] at this
    exact this
  rw [e3] at e2
  refine rd_mulR h'.rd hr (g := g * c.nm * g') (g' := a' * a * (dtG m).nm) (Int.mul_ne_zero (Int.mul_ne_zero g0 (by omega)) g0') (Int.mul_ne_zero (Int.mul_ne_zero a0' a0) (by omega)) ?_
  rw [← mulR_mulR, ← e', mulR_comm, ← mulR_mulR g, ← e2, mulR_mulR, mulR_mulR, Int.mul_assoc]
theorem Lr.two {l n b p q : Nat} {f g : Int} {m1 m2 x : G4} {r s t : R4} (h1 : Mq p f m1) (h2 : Mq q g m2) (hx : Fm b (Pr f m1 m2) x) (hs : Lr l g m2 r s) (ht : Lr n f m1 s t) : Lr n ((f + g) % 2) x r t := by
  obtain ⟨c, c0, ec⟩ := hx.c
  obtain ⟨u, a, u0, a0, e⟩ := hs.c
  obtain ⟨u', a', u0', a0', e'⟩ := ht.c
  have np := Gi.nm_pos c0
  refine ⟨ht.rd, u * u', a * a' * c.nm, Int.mul_ne_zero u0 u0', Int.mul_ne_zero (Int.mul_ne_zero a0 a0') (by omega), ?_⟩
  have e1 : RB ((f + g) % 2) (Bk ((f + g) % 2) (Pr f m1 m2)) r = mulR c.nm (RB ((f + g) % 2) (Bk ((f + g) % 2) x) r) := by rw [ec, bk_scl, rb_scl, fl_nm]
  rw [← mulR_mulR, ← e1, bk_pr h1.fl h2.fl, ← rb_comp h1.fl h2.fl, Int.mul_comm a a', ← mulR_mulR, ← rb_mul, e, rb_mul, mulR_comm, e', mulR_mulR]
theorem ne_zero_of {a b c d : Int} (hb : b ≠ 0) (hd : d ≠ 0) (e : b * a = d * c) : a = 0 ↔ c = 0 := by
  constructor
  · rintro rfl
    rw [Int.mul_zero] at e
    exact (Int.mul_eq_zero.mp e.symm).resolve_left hd
  · rintro rfl
    rw [Int.mul_zero] at e
    exact (Int.mul_eq_zero.mp e).resolve_left hb
theorem hg_zero {n : Nat} {q : P3} {z w : Gi} (h : HG n q z w) (r : R4) : valG r z w = 0 ↔ val4 r q = 0 := by
  have s := (HG.self h.pt).nz
  have p1 : (zG q).nm + (rG q).nm ≠ 0 := by
    have := (zG q).nm_nn
    have := (rG q).nm_nn
    intro e
    exact s ⟨Gi.nm_zero (by omega), Gi.nm_zero (by omega)⟩
  have p2 : z.nm + w.nm ≠ 0 := by
    have := z.nm_nn
    have := w.nm_nn
    intro e
    exact h.nz ⟨Gi.nm_zero (by omega), Gi.nm_zero (by omega)⟩
  exact ne_zero_of p1 p2 (hg_val h r)
theorem fl_io {f : Int} (a : Int) : fl f ⟨a, 0⟩ = ⟨a, 0⟩ := by
  unfold fl; split
  · exact Gi.ext' rfl (by show -(0 : Int) = 0; rfl)
  · rfl
theorem val_10 (r : R4) : valG r ⟨1, 0⟩ ⟨0, 0⟩ = r.1 := by
  unfold valG be Gi.nm Gi.cj; simp only [Gi.mul_re, Gi.mul_im]; grind
/-- led to a line just if the place that goes to the far one lies on it -/
theorem Lr.line {l n b : Nat} {f : Int} {m m' : G4} {r t : R4} {q : P3} (hb : Fm l (Bk f m) m') (h : Lr n f m r t) (hq : Led b f m' (1, 0, 0) q) : t.1 = 0 ↔ val4 r q = 0 := by
  obtain ⟨c, c0, ec⟩ := hb.c
  obtain ⟨g, a, g0, a0, e⟩ := h.c
  have np := Gi.nm_pos c0
  rw [← hg_zero hq r]
  rw [ec, rb_scl, mulR_mulR] at e
  have e1 : valG (mulR (a * c.nm) (RB f m' r)) ⟨1, 0⟩ ⟨0, 0⟩ = valG (mulR g t) ⟨1, 0⟩ ⟨0, 0⟩ := by rw [e]
  rw [mulR_val, mulR_val, rb_val, val_10] at e1
  have e2 : fl f (zG (1, 0, 0)) = ⟨1, 0⟩ := fl_io 1
  have e3 : rG (1, 0, 0) = ⟨0, 0⟩ := rfl
  rw [fl_io, fl_io] at e1
  rw [e2, e3]
  exact ne_zero_of g0 (Int.mul_ne_zero a0 (by omega)) e1.symm
theorem Lr.on {l n b : Nat} {f : Int} {m : G4} {r t : R4} {p q : P3} (hm : Mq l f m) (h : Lr n f m r t) (hq : Led b f m p q) : val4 r p = 0 ↔ val4 t q = 0 := by
  obtain ⟨g, a, g0, a0, e⟩ := h.c
  have nd := Gi.nm_pos hm.dt
  rw [← hg_zero hq t]
  have e2 := congrArg (RB f m) e
  rw [rb_mul, rb_mul, rb_back hm.fl, mulR_mulR] at e2
  have e1 := congrArg (fun x => valG x (zG p) (rG p)) e2
  simp only [mulR_val, rb_val] at e1
  have e3 : fl f (rG p) = rG p := fl_io p.2.2
  rw [e3, ← val_G] at e1
  exact ne_zero_of (Int.mul_ne_zero a0 (by omega)) g0 e1
theorem Lr.bnd {n l : Nat} {f : Int} {m : G4} {r t : R4} (hm : Mq l f m) (h : Lr n f m r t) : ∃ g a : Int, g ≠ 0 ∧ a ≠ 0 ∧ mulR a (RB f (Bk f m) r) = mulR g t ∧ a * a * ((dtG m).nm * L2.G.bnd r) = g * g * L2.G.bnd t := by
  obtain ⟨g, a, g0, a0, e⟩ := h.c
  refine ⟨g, a, g0, a0, e, ?_⟩
  have e1 := congrArg L2.G.bnd e
  rw [bnd_mulR, bnd_mulR, bnd_rb] at e1
  have e2 : (dtG (Bk f m)).nm = (dtG m).nm := by unfold Bk; rw [dt_fl, fl_nm, dt_adj]
  rw [e2] at e1
  exact e1
theorem Lr.jn {n n' l : Nat} {f : Int} {m : G4} {r t r' t' : R4} (hm : Mq l f m) (h : Lr n f m r t) (h' : Lr n' f m r' t') : ∃ x y z w : Int, 0 < x ∧ 0 < y ∧ 0 < z ∧ 0 < w ∧ x * (L2.G.bnd r) = y * L2.G.bnd t ∧ z * (L2.G.bnd r') = w * L2.G.bnd t' ∧ (x * z) * (L2.G.jn r r' * L2.G.jn r r') = (y * w) * (L2.G.jn t t' * L2.G.jn t t') := by
  obtain ⟨g, a, g0, a0, e, e1⟩ := h.bnd hm
  obtain ⟨g', a', g0', a0', e', e1'⟩ := h'.bnd hm
  have nd := Gi.nm_pos hm.dt
  have e2 : (dtG (Bk f m)).nm = (dtG m).nm := by unfold Bk; rw [dt_fl, fl_nm, dt_adj]
  have e3 := jn_mulR a a' (RB f (Bk f m) r) (RB f (Bk f m) r')
  rw [e, e', jn_mulR, jn_rb, e2] at e3
  refine ⟨a * a * (dtG m).nm, g * g, a' * a' * (dtG m).nm, g' * g', Int.mul_pos (imul_self_pos a0) nd, imul_self_pos g0, Int.mul_pos (imul_self_pos a0') nd, imul_self_pos g0', ?_, ?_, ?_⟩
  · rw [← e1, Int.mul_assoc]
  · rw [← e1', Int.mul_assoc]
  · generalize (dtG m).nm = N at *
    generalize L2.G.jn r r' = J at *
    generalize L2.G.jn t t' = J' at *
    have e4 : (g * g' * J') * (g * g' * J') = (a * a' * (N * J)) * (a * a' * (N * J)) := by rw [e3]
    clear e e' e1 e1' e3
    grind

abbrev rD (r : R4) : D := .tup [.int r.1, .int r.2.1, .int r.2.2.1, .int r.2.2.2]
def scG (c : Int) (a : Gi) : Gi := ⟨c * a.re, c * a.im⟩
theorem Cz.mulG {m n : Nat} {a b : Gi} (h : Cz m (a.re, a.im)) (q : Cz n (b.re, b.im)) : Cz (m + n + 1) ((a * b).re, (a * b).im) := h.mul q
theorem Cz.addG {m n : Nat} {a b : Gi} (h : Cz m (a.re, a.im)) (q : Cz n (b.re, b.im)) : Cz (m + n + 1) ((a + b).re, (a + b).im) := ((h.mono (Nat.le_add_right m n)).add (q.mono (Nat.le_add_left n m)))
theorem Cz.cjG {n : Nat} {a : Gi} (h : Cz n (a.re, a.im)) : Cz n (a.cj.re, a.cj.im) := h.conj
theorem Cz.scG {m n : Nat} {c : Int} {a : Gi} (hc : Sz m c) (h : Cz n (a.re, a.im)) : Cz (m + n) ((scG c a).re, (scG c a).im) := ⟨hc.mul h.1, hc.mul h.2⟩
theorem Cz.reG {n : Nat} {a : Gi} (h : Cz n (a.re, a.im)) : Sz n a.re := h.1
theorem Cz.imG {n : Nat} {a : Gi} (h : Cz n (a.re, a.im)) : Sz n a.im := h.2
theorem sz2x : Sz 2 2 := by unfold Sz; decide
theorem szm2x : Sz 2 (-2) := by unfold Sz; decide
local macro_rules | `(tactic| walk_at "gz") => `(tactic| (repeat' (first | assumption | exact sz2x | exact szm2x | apply Cz.mulG | apply Cz.addG | apply Cz.cjG | apply Cz.scG | apply Cz.reG | apply Cz.imG | apply Sz.mul | apply Sz.neg)))
local macro_rules | `(tactic| walk_at "mk") => `(tactic| (apply Sz.mulOk; (repeat' (first | assumption | exact sz2x | exact szm2x | apply Cz.reG | apply Cz.imG | apply Cz.mulG | apply Cz.addG | apply Cz.cjG | apply Cz.scG | apply Sz.mul | apply Sz.add | apply Sz.sub | apply Sz.neg)); all_goals omega))
theorem w_scaledG {T : Tk} {m n : Nat} {a : Gi} {c : Int} {k : KD} (ha : Cz n (a.re, a.im)) (hc : Sz m c) (hn : n ≤ 50000) (hm : m ≤ 50000) (h : k (gD (scG c a)) T) : sm_scaled [.val (gD a), .val (.int c)] T k := w_scaled (n := n + m) (ha.mono (Nat.le_add_right n m)) (hc.mono (Nat.le_add_left m n)) (by omega) h
theorem S4.two {n : Nat} {r : R4} (h : S4 n r) : S4 (n + 2) (mulR 2 r) := ⟨(sz2x.mul h.s1).mono (by omega), (sz2x.mul h.s2).mono (by omega), (sz2x.mul h.s3).mono (by omega), (sz2x.mul h.s4).mono (by omega)⟩
def mirR (x y : R4) : R4 := (bnd x * y.1 - 2 * jn x y * x.1, bnd x * y.2.1 - 2 * jn x y * x.2.1, bnd x * y.2.2.1 - 2 * jn x y * x.2.2.1, bnd x * y.2.2.2 - 2 * jn x y * x.2.2.2)
def rowR (x y : R4) : R4 := (jn x y * x.1 - bnd x * y.1, jn x y * x.2.1 - bnd x * y.2.1, jn x y * x.2.2.1 - bnd x * y.2.2.1, jn x y * x.2.2.2 - bnd x * y.2.2.2)
/-- the place of a row that has it alone -/
def PlR (n : Nat) (q : P3) (R : R4) : Prop := (R.1 = 0 ∧ q = (1, 0, 0)) ∨ (R.1 ≠ 0 ∧ PlQ n q (-(R.2.1 : Rat) / (2 * (R.1 : Rat))) (-(R.2.2.1 : Rat) / (2 * (R.1 : Rat))))
theorem PlR.uniq {m n : Nat} {q q' : P3} {R : R4} (h : PlR m q R) (h' : PlR n q' R) : q = q' := by
  rcases h with ⟨a, b⟩ | ⟨a, b⟩ <;> rcases h' with ⟨c, d⟩ | ⟨c, d⟩
  · rw [b, d]
  · exact absurd a c
  · exact absurd c a
  · exact b.uniq d
theorem cast_ne {a : Int} (h : a ≠ 0) : (a : Rat) ≠ 0 := fun e => h (cast_inj (b := 0) e)
theorem PlR.scale {n : Nat} {q : P3} {R R' : R4} (h : PlR n q R) {c d : Int} (c0 : c ≠ 0) (d0 : d ≠ 0) (e1 : c * R.1 = d * R'.1) (e2 : c * R.2.1 = d * R'.2.1) (e3 : c * R.2.2.1 = d * R'.2.2.1) : PlR n q R' := by
  rcases h with ⟨a, b⟩ | ⟨a, b⟩
  · left
    rw [a, Int.mul_zero] at e1
    exact ⟨(Int.mul_eq_zero.mp e1.symm).resolve_left d0, b⟩
  · right
    have r0 : R'.1 ≠ 0 := fun z => by
      rw [z, Int.mul_zero] at e1
      exact (Int.mul_eq_zero.mp e1).elim c0 a
    refine ⟨r0, ?_⟩
    have k1 : (c : Rat) * (R.1 : Rat) = d * (R'.1 : Rat) := by rw [← Rat.intCast_mul, e1, Rat.intCast_mul]
    have k2 : (c : Rat) * (R.2.1 : Rat) = d * (R'.2.1 : Rat) := by rw [← Rat.intCast_mul, e2, Rat.intCast_mul]
    have k3 : (c : Rat) * (R.2.2.1 : Rat) = d * (R'.2.2.1 : Rat) := by rw [← Rat.intCast_mul, e3, Rat.intCast_mul]
    have z1 := cast_ne a
    have z2 := cast_ne r0
    have z3 := cast_ne c0
    have z4 := cast_ne d0
    have u : -(R.2.1 : Rat) / (2 * (R.1 : Rat)) = -(R'.2.1 : Rat) / (2 * (R'.1 : Rat)) := by
      generalize (R.1 : Rat) = a1 at *
      generalize (R.2.1 : Rat) = a2 at *
      generalize (R'.1 : Rat) = b1 at *
      generalize (R'.2.1 : Rat) = b2 at *
      generalize (c : Rat) = cc at *
      generalize (d : Rat) = dd at *
      grind
    have v : -(R.2.2.1 : Rat) / (2 * (R.1 : Rat)) = -(R'.2.2.1 : Rat) / (2 * (R'.1 : Rat)) := by
      generalize (R.1 : Rat) = a1 at *
      generalize (R.2.2.1 : Rat) = a2 at *
      generalize (R'.1 : Rat) = b1 at *
      generalize (R'.2.2.1 : Rat) = b2 at *
      generalize (c : Rat) = cc at *
      generalize (d : Rat) = dd at *
      grind
    rw [← u, ← v]
    exact b
def TPl (n : Nat) (x y : R4) (d : D) : Prop := ((x = y ∨ jn x y * jn x y ≠ bnd x * bnd y) ∧ d = .non) ∨ (x ≠ y ∧ jn x y * jn x y = bnd x * bnd y ∧ ∃ q, d = pD q ∧ PlR n q (rowR x y))
theorem TPl.uniq {m n : Nat} {x y : R4} {d d' : D} (h : TPl m x y d) (h' : TPl n x y d') : d = d' := by
  rcases h with ⟨a, b⟩ | ⟨a1, a2, q, b, c⟩ <;> rcases h' with ⟨a', b'⟩ | ⟨a1', a2', q', b', c'⟩
  · rw [b, b']
  · rcases a with a | a
    · exact absurd a a1'
    · exact absurd a2' a
  · rcases a' with a' | a'
    · exact absurd a' a1
    · exact absurd a2 a'
  · rw [b, b', c.uniq c']
theorem TPl.symm {n m : Nat} {x y : R4} {d : D} (rx : Rw m x) (ry : Rw m y) (h : TPl n x y d) : TPl n y x d := by
  rcases h with ⟨a, b⟩ | ⟨a1, a2, q, b, c⟩
  · left
    refine ⟨?_, b⟩
    rcases a with a | a
    · exact .inl a.symm
    · right
      rw [jn_comm y x, Int.mul_comm (bnd y)]
      exact a
  · right
    refine ⟨fun e => a1 e.symm, by rw [jn_comm y x, Int.mul_comm (bnd y)]; exact a2, q, b, ?_⟩
    have j0 : jn x y ≠ 0 := fun z => by
      rw [z] at a2
      have := Int.mul_pos rx.bend ry.bend
      omega
    have b0 : bnd x ≠ 0 := by have := rx.bend; omega
    have key : ∀ s t : Int, -jn x y * (jn x y * s - bnd x * t) = bnd x * (jn y x * t - bnd y * s) := fun s t => by
      rw [jn_comm y x]
      have : -jn x y * (jn x y * s - bnd x * t) = -(jn x y * jn x y) * s + jn x y * bnd x * t := by grind
      rw [this, a2]
      grind
    exact c.scale (c := -jn x y) (d := bnd x) (by omega) b0 (key _ _) (key _ _) (key _ _)
theorem TPl.form {n : Nat} {x y : R4} {d : D} (h : TPl n x y d) : d = .non ∨ ∃ q, d = pD q := by
  rcases h with ⟨_, b⟩ | ⟨_, _, q, b, _⟩
  · exact .inl b
  · exact .inr ⟨q, b⟩
theorem PlQ.cj {n : Nat} {q : P3} {u v : Rat} (h : PlQ n q u v) : PlQ n (q.1, 0 - q.2.1, q.2.2) u (-v) := by
  refine ⟨h.pos, ?_, h.s1, by simp only [Int.zero_sub]; exact h.s2.neg, h.s3, h.e1, ?_⟩
  · have := h.one
    have e : ∀ g a b c : Int, gcdL g [a, 0 - b, c] = gcdL g [a, b, c] := fun g a b c => by
      unfold gcdL gcdL gcdL gcdL
      have : iGcd (iGcd g a) (0 - b) = iGcd (iGcd g a) b := by
        show ((Nat.gcd _ _ : Nat) : Int) = ((Nat.gcd _ _ : Nat) : Int)
        rw [Int.zero_sub, Int.natAbs_neg]
      rw [this]
    rw [e]
    exact this
  · simp only
    push_cast
    rw [h.e2]
    generalize (q.2.2 : Rat) = R
    grind

/-! mirrors as maps -/
def MM (r : R4) : G4 := (⟨-r.2.1, -r.2.2.1⟩, ⟨-(2 * r.2.2.2), 0⟩, ⟨2 * r.1, 0⟩, ⟨r.2.1, -r.2.2.1⟩)
theorem mm_dt (r : R4) : dtG (MM r) = io (-bnd r) := by
  unfold dtG MM io bnd
  refine Gi.ext' ?_ ?_
  · simp only [Gi.mul_re, Gi.sub_re]; grind
  · simp only [Gi.mul_im, Gi.sub_im]; grind
theorem io_ne {a : Int} (h : a ≠ 0) : io a ≠ 0 := fun z => h (congrArg Gi.re z)
theorem mm_nz {n : Nat} {r : R4} (h : Rw n r) : dtG (MM r) ≠ 0 := by
  rw [mm_dt]
  exact io_ne (by have := h.bend; omega)
theorem g4_ext {x y : G4} (h1 : x.1.re = y.1.re) (h2 : x.1.im = y.1.im) (h3 : x.2.1.re = y.2.1.re) (h4 : x.2.1.im = y.2.1.im) (h5 : x.2.2.1.re = y.2.2.1.re) (h6 : x.2.2.1.im = y.2.2.1.im) (h7 : x.2.2.2.re = y.2.2.2.re) (h8 : x.2.2.2.im = y.2.2.2.im) : x = y := by
  obtain ⟨a, b, c, d⟩ := x
  obtain ⟨a', b', c', d'⟩ := y
  simp only at h1 h2 h3 h4 h5 h6 h7 h8
  rw [Gi.ext' h1 h2, Gi.ext' h3 h4, Gi.ext' h5 h6, Gi.ext' h7 h8]
theorem mm_bk (r : R4) : Bk 1 (MM r) = scl (io (-1)) (MM r) := by
  obtain ⟨q, l, n, k⟩ := r
  refine g4_ext ?_ ?_ ?_ ?_ ?_ ?_ ?_ ?_
  all_goals
    simp only [Bk, adjm, flm, fl, MM, scl, io, Gi.cj, Gi.mul_re, Gi.mul_im, Gi.neg_re, Gi.neg_im, if_true]
    grind
theorem mm_rb (x y : R4) : RB 1 (MM x) y = mirR x y := by
  obtain ⟨q, l, n, k⟩ := x
  obtain ⟨q', l', n', k'⟩ := y
  unfold mirR RB flR RB0 MM be bnd jn Gi.nm Gi.cj
  simp only [Gi.mul_re, Gi.mul_im, if_true, Prod.mk.injEq]
  refine ⟨?_, ?_, ?_, ?_⟩
  all_goals grind
/-- the image of a row in a round -/
structure Lm (n : Nat) (x y t : R4) : Prop where
  rd : Rd n t
  c : ∃ g h : Int, g ≠ 0 ∧ h ≠ 0 ∧ mulR h (mirR x y) = mulR g t
theorem Lm.uniq {l n : Nat} {x y t t' : R4} (h : Lm l x y t) (h' : Lm n x y t') : t = t' := by
  obtain ⟨g, a, g0, a0, e⟩ := h.c
  obtain ⟨g', a', g0', a0', e'⟩ := h'.c
  refine rd_mulR h.rd h'.rd (g := a' * g) (g' := a * g') (Int.mul_ne_zero a0' g0) (Int.mul_ne_zero a0 g0') ?_
  rw [← mulR_mulR, ← e, mulR_comm, e', mulR_mulR]
theorem Lr.lm {l n : Nat} {x y t : R4} {m' : G4} (hm : Fm l (MM x) m') (h : Lr n 1 m' y t) : Lm n x y t := by
  obtain ⟨c, c0, e⟩ := hm.c
  obtain ⟨g, a, g0, a0, e1⟩ := h.c
  have np := Gi.nm_pos c0
  refine ⟨h.rd, c.nm * g, a, Int.mul_ne_zero (by omega) g0, a0, ?_⟩
  have e2 : mirR x y = mulR c.nm (RB 1 (Bk 1 m') y) := by
    have e3 : RB 1 (Bk 1 (MM x)) y = mirR x y := by
      rw [mm_bk, rb_scl, mm_rb]
      show mulR 1 _ = _
      unfold mulR; simp only [Int.one_mul]
    rw [← e3, e, bk_scl, rb_scl, fl_nm]
  rw [e2, mulR_comm, e1, mulR_mulR]
/-! a map is settled by three places -/
theorem quad3 {a b c z1 w1 z2 w2 z3 w3 : Gi} (d12 : z1 * w2 - z2 * w1 ≠ 0) (d13 : z1 * w3 - z3 * w1 ≠ 0) (d23 : z2 * w3 - z3 * w2 ≠ 0) (h1 : a * z1 * z1 + b * z1 * w1 + c * w1 * w1 = 0) (h2 : a * z2 * z2 + b * z2 * w2 + c * w2 * w2 = 0) (h3 : a * z3 * z3 + b * z3 * w3 + c * w3 * w3 = 0) : a = 0 ∧ b = 0 ∧ c = 0 := by
  have B0 : 2 * a * z1 * z2 + b * (z1 * w2 + z2 * w1) + 2 * c * w1 * w2 = 0 := by
    have k : (z1 * w3 - z3 * w1) * ((z2 * w3 - z3 * w2) * (2 * a * z1 * z2 + b * (z1 * w2 + z2 * w1) + 2 * c * w1 * w2)) = 0 := by
      have e : (z1 * w3 - z3 * w1) * ((z2 * w3 - z3 * w2) * (2 * a * z1 * z2 + b * (z1 * w2 + z2 * w1) + 2 * c * w1 * w2)) = (z2 * w3 - z3 * w2) * (z2 * w3 - z3 * w2) * (a * z1 * z1 + b * z1 * w1 + c * w1 * w1) + (z1 * w3 - z3 * w1) * (z1 * w3 - z3 * w1) * (a * z2 * z2 + b * z2 * w2 + c * w2 * w2) - (z1 * w2 - z2 * w1) * (z1 * w2 - z2 * w1) * (a * z3 * z3 + b * z3 * w3 + c * w3 * w3) := by
        clear h1 h2 h3 d12 d13 d23
        grind
      rw [e, h1, h2, h3]
      grind
    exact (Gi.mul_zero' ((Gi.mul_zero' k).resolve_left d13)).resolve_left d23
  have dd := Gi.mul_ne d12 d12
  refine ⟨?_, ?_, ?_⟩
  · refine (Gi.mul_zero' (a := (z1 * w2 - z2 * w1) * (z1 * w2 - z2 * w1)) ?_).resolve_left dd
    have e : (z1 * w2 - z2 * w1) * (z1 * w2 - z2 * w1) * a = w2 * w2 * (a * z1 * z1 + b * z1 * w1 + c * w1 * w1) + w1 * w1 * (a * z2 * z2 + b * z2 * w2 + c * w2 * w2) - w1 * w2 * (2 * a * z1 * z2 + b * (z1 * w2 + z2 * w1) + 2 * c * w1 * w2) := by
      clear h1 h2 h3 d12 d13 d23 B0 dd
      grind
    rw [e, h1, h2, B0]
    grind
  · refine (Gi.mul_zero' (a := (z1 * w2 - z2 * w1) * (z1 * w2 - z2 * w1)) ?_).resolve_left dd
    have e : (z1 * w2 - z2 * w1) * (z1 * w2 - z2 * w1) * b = -(2 * z2 * w2 * (a * z1 * z1 + b * z1 * w1 + c * w1 * w1)) - 2 * z1 * w1 * (a * z2 * z2 + b * z2 * w2 + c * w2 * w2) + (z1 * w2 + z2 * w1) * (2 * a * z1 * z2 + b * (z1 * w2 + z2 * w1) + 2 * c * w1 * w2) := by
      clear h1 h2 h3 d12 d13 d23 B0 dd
      grind
    rw [e, h1, h2, B0]
    grind
  · refine (Gi.mul_zero' (a := (z1 * w2 - z2 * w1) * (z1 * w2 - z2 * w1)) ?_).resolve_left dd
    have e : (z1 * w2 - z2 * w1) * (z1 * w2 - z2 * w1) * c = z2 * z2 * (a * z1 * z1 + b * z1 * w1 + c * w1 * w1) + z1 * z1 * (a * z2 * z2 + b * z2 * w2 + c * w2 * w2) - z1 * z2 * (2 * a * z1 * z2 + b * (z1 * w2 + z2 * w1) + 2 * c * w1 * w2) := by
      clear h1 h2 h3 d12 d13 d23 B0 dd
      grind
    rw [e, h1, h2, B0]
    grind
theorem fl_im {f : Int} {a : Int} : fl f (⟨a, 0⟩ : Gi) = ⟨a, 0⟩ := by
  unfold fl; split
  · exact Gi.ext' rfl (by show -(0 : Int) = 0; rfl)
  · rfl
theorem fl_inj' {f : Int} {a b : Gi} (h : fl f a = fl f b) : a = b := by
  unfold fl at h
  split at h
  · have := congrArg Gi.cj h; rw [Gi.cj_cj, Gi.cj_cj] at this; exact this
  · exact h
/-- unlike places are not along one another -/
theorem pt_cross {a b : Nat} {f : Int} {p q : P3} (hp : Pt a p) (hq : Pt b q) (ne : p ≠ q) : fl f (zG p) * rG q - fl f (zG q) * rG p ≠ 0 := fun e => by
  apply ne
  have e1 : fl f (zG p * rG q) = fl f (zG q * rG p) := by
    have r1 : fl f (rG q) = rG q := fl_im
    have r2 : fl f (rG p) = rG p := fl_im
    have m1 : ∀ a b : Gi, fl f (a * b) = fl f a * fl f b := fun a b => by
      unfold fl; split
      · exact Gi.cj_mul a b
      · rfl
    rw [m1, m1, r1, r2]
    grind
  have e2 := fl_inj' e1
  have h := HG.self hq
  have h2 := HG.self hp
  have s := h2.nz
  exact HG.uniq h2 (h.tr s (by rw [show zG q * rG p = zG p * rG q from e2.symm]))
theorem Led.three {l n a b c n1 n2 n3 l1 l2 l3 : Nat} {f : Int} {m m' : G4} {p q s t u v : P3} (hm : Mq l f m) (hm' : Mq n f m') (hp : Pt a p) (hq : Pt b q) (hs : Pt c s) (pq : p ≠ q) (ps : p ≠ s) (qs : q ≠ s)
    (h1 : Led n1 f m p t) (h1' : Led l1 f m' p t) (h2 : Led n2 f m q u) (h2' : Led l2 f m' q u) (h3 : Led n3 f m s v) (h3' : Led l3 f m' s v) : m = m' := by
  have c1 := HG.cross h1 h1'
  have c2 := HG.cross h2 h2'
  have c3 := HG.cross h3 h3'
  have d12 := pt_cross (f := f) hp hq pq
  have d13 := pt_cross (f := f) hp hs ps
  have d23 := pt_cross (f := f) hq hs qs
  have fm := hm.fm
  have fm' := hm'.fm
  have dt := hm.dt
  have dt' := hm'.dt
  clear h1 h1' h2 h2' h3 h3' hm hm'
  generalize fl f (zG p) = z1 at *
  generalize fl f (zG q) = z2 at *
  generalize fl f (zG s) = z3 at *
  generalize rG p = w1 at *
  generalize rG q = w2 at *
  generalize rG s = w3 at *
  obtain ⟨A, B, C, D⟩ := m
  obtain ⟨A', B', C', D'⟩ := m'
  unfold apz apw at c1 c2 c3
  unfold dtG at dt dt'
  simp only at c1 c2 c3 dt dt'
  obtain ⟨q1, q2, q3⟩ := quad3 (a := A * C' - A' * C) (b := A * D' + B * C' - A' * D - B' * C) (c := B * D' - B' * D) d12 d13 d23 (by clear c2 c3 d12 d13 d23 dt dt'; grind) (by clear c1 c3 d12 d13 d23 dt dt'; grind) (by clear c1 c2 d12 d13 d23 dt dt'; grind)
  clear c1 c2 c3 d12 d13 d23
  have x0 : D' * A - B' * C ≠ 0 := fun z => by
    have k1 : A' * D - C' * B = 0 := by grind
    have : (A' * D' - B' * C') * (A * D - B * C) = 0 := by
      have e : (A' * D' - B' * C') * (A * D - B * C) = (D' * A - B' * C) * (A' * D - C' * B) + (B * D' - B' * D) * (A * C' - A' * C) := by clear z k1 q1 q2 q3 dt dt'; grind
      rw [e, z, q3]
      grind
    exact (Gi.mul_ne dt' dt) this
  refine fm.along fm' dt' x0 ?_
  unfold L2.G.scl
  simp only [Prod.mk.injEq]
  refine ⟨?_, ?_, ?_, ?_⟩
  · clear x0 dt dt' fm fm'; grind
  · clear x0 dt dt' fm fm'; grind
  · clear x0 dt dt' fm fm'; grind
  · clear x0 dt dt' fm fm'; grind

def apG (p q : P3) : Gi := zG p * rG q - zG q * rG p
/-- leads p to 0, q to the far place, s to 1 -/
def C3 (p q s : P3) : G4 := (apG s q * rG p, apG s q * -(zG p), apG s p * rG q, apG s p * -(zG q))
abbrev pZ : P3 := (0, 0, 1)
abbrev pF : P3 := (1, 0, 0)
abbrev pU : P3 := (1, 0, 1)
theorem fl_0 (z : Gi) : fl 0 z = z := by unfold fl; simp
/-- m leads three places to three -/
structure L3 (f : Int) (m : G4) (p q s p' q' s' : P3) : Prop where
  a : ∃ n, Led n f m p p'
  b : ∃ n, Led n f m q q'
  c : ∃ n, Led n f m s s'
theorem L3.uniq {l n a b c : Nat} {f : Int} {m m' : G4} {p q s t u v : P3} (hm : Mq l f m) (hm' : Mq n f m') (hp : Pt a p) (hq : Pt b q) (hs : Pt c s) (pq : p ≠ q) (ps : p ≠ s) (qs : q ≠ s) (h : L3 f m p q s t u v) (h' : L3 f m' p q s t u v) : m = m' := by
  obtain ⟨_, a1⟩ := h.a
  obtain ⟨_, a2⟩ := h.b
  obtain ⟨_, a3⟩ := h.c
  obtain ⟨_, b1⟩ := h'.a
  obtain ⟨_, b2⟩ := h'.b
  obtain ⟨_, b3⟩ := h'.c
  exact Led.three hm hm' hp hq hs pq ps qs a1 b1 a2 b2 a3 b3
theorem cz_zG {n : Nat} {p : P3} (h : Pt n p) : Cz n ((zG p).re, (zG p).im) := ⟨h.s1, h.s2⟩
theorem cz_rG {n : Nat} {p : P3} (h : Pt n p) : Cz n ((rG p).re, (rG p).im) := ⟨h.s3, sz_0⟩
theorem scl_scl (a b : Gi) (m : G4) : scl a (scl b m) = scl (a * b) m := by
  unfold scl
  simp only [Prod.mk.injEq]
  refine ⟨?_, ?_, ?_, ?_⟩ <;> grind
theorem pr_along {f : Int} {c d : Gi} {m n m' n' : G4} (e1 : m = scl c m') (e2 : n = scl d n') : Pr f m n = scl (c * fl f d) (Pr f m' n') := by rw [e1, e2, pr_scl]
theorem n4_mm {l : Nat} {r : R4} (h : S4 l r) : N4 (2 * l + 10) (MM r) := by
  have z : Sz (l + 2) 0 := sz_0
  refine ⟨(nz_of (n := l + 2) (h.s2.neg.mono (by omega)) (h.s3.neg.mono (by omega))).mono (by omega), (nz_of (n := l + 2) ((sz2x.mul h.s4).neg.mono (by omega)) z).mono (by omega), (nz_of (n := l + 2) ((sz2x.mul h.s1).mono (by omega)) z).mono (by omega), (nz_of (n := l + 2) (h.s2.mono (by omega)) (h.s3.neg.mono (by omega))).mono (by omega)⟩
theorem Fm.self {n : Nat} {N m : G4} (h : Fm n N m) : Fm n m m := ⟨h.mp, ⟨1, one_ne, (scl_one m).symm⟩, h.s1, h.s2, h.s3, h.s4⟩
abbrev F2 := Int × Int
abbrev fD (q : F2) : D := .tup [.int q.1, .int q.2]
/-- a fraction above 0 -/
structure Fr2 (n : Nat) (q : F2) : Prop where
  p1 : 0 < q.1
  p2 : 0 < q.2
  one : gcdL 0 [q.1, q.2] = 1
  s1 : Sz n q.1
  s2 : Sz n q.2
structure Pw (n : Nat) (q : F2) : Prop where
  p1 : q.1 ≠ 0
  p2 : 0 < q.2
  one : gcdL 0 [q.1, q.2] = 1
  s1 : Sz n q.1
  s2 : Sz n q.2
abbrev R2g := F2 × F2
abbrev rgD (r : R2g) : D := .tup [fD r.1, fD r.2]
structure Rg (n : Nat) (r : R2g) : Prop where
  a : Fr2 n r.1
  b : Fr2 n r.2
  lt : r.1.1 * r.2.2 < r.2.1 * r.1.2
/-- a near place -/
structure Nr (n : Nat) (p : P3) : Prop extends Pt n p where
  pos : 0 < p.2.2
theorem Nr.mono {m n : Nat} {p : P3} (h : Nr m p) (l : m ≤ n) : Nr n p := ⟨h.toPt.mono l, h.pos⟩
theorem Nr.nf {n : Nat} {p : P3} (h : Nr n p) : p ≠ pF := fun e => by
  have := h.pos
  rw [e] at this
  exact absurd this (by decide)
theorem Pt.nr {n : Nat} {p : P3} (h : Pt n p) (ne : p ≠ pF) : Nr n p := ⟨h, by
  have := h.nn
  have : p.2.2 ≠ 0 := fun e => ne (h.far e)
  omega⟩
theorem PlQ.nr {n : Nat} {q : P3} {u v : Rat} (h : PlQ n q u v) : Nr n q := ⟨h.pt, h.pos⟩
theorem Nr.r0 {n : Nat} {p : P3} (h : Nr n p) : rG p ≠ 0 := fun e => by
  have := h.pos
  have e := congrArg Gi.re e
  unfold rG at e
  simp only at e
  rw [e] at this
  exact absurd this (by decide)
theorem HG.near {n : Nat} {q : P3} {z w : Gi} (h : HG n q z w) (w0 : w ≠ 0) : Nr n q := h.pt.nr fun e => by
  have k := h.e
  rw [e] at k
  have z1 : zG pF = 1 := rfl
  have r1 : rG pF = 0 := rfl
  rw [z1, r1] at k
  exact w0 (by rw [show w = 1 * w by grind, k]; grind)
/-- a cell of an arm -/
inductive Ce where
  | carry (p : P3)
  | mirror (r : R4)
  | grow (p q : P3) (g : R2g)
  | turn (p : P3) (w : F2) (g : R2g)
def cD : Ce → D
  | .carry p => .tup [.str "carry", pD p]
  | .mirror r => .tup [.str "mirror", rD r]
  | .grow p q g => .tup [.str "grow", pD p, pD q, rgD g]
  | .turn p w g => .tup [.str "turnabout", pD p, fD w, rgD g]
def CeOk (n : Nat) : Ce → Prop
  | .carry p => Nr n p ∧ p ≠ pZ
  | .mirror r => Rd n r ∧ r.1 = 0
  | .grow p q g => Nr n p ∧ Nr n q ∧ q ≠ pZ ∧ q ≠ pU ∧ Rg 10 g
  | .turn p w g => Nr n p ∧ Pw n w ∧ Rg 10 g
def ceF : Ce → Int
  | .carry _ => 0
  | .mirror _ => 1
  | .grow _ _ _ => 0
  | .turn _ _ _ => 1
def ceN : Ce → G4
  | .carry p => (rG p, zG p, 0, rG p)
  | .mirror r => MM r
  | .grow p q _ => (zG q * rG p, zG p * (rG q - zG q), 0, rG q * rG p)
  | .turn p w _ => (zG p * rG p * io w.2, io (w.1 * p.2.2 * p.2.2 - w.2 * (zG p).nm), io (w.2 * p.2.2 * p.2.2), -((zG p).cj * rG p * io w.2))
theorem ceF_fl (c : Ce) : ceF c = 0 ∨ ceF c = 1 := by cases c <;> simp [ceF]
theorem zG_z {n : Nat} {p : P3} (h : Nr n p) (e : zG p = 0) : p = pZ := by
  have h1 := congrArg Gi.re e
  have h2 := congrArg Gi.im e
  unfold zG at h1 h2
  simp only [Gi.zero_re, Gi.zero_im] at h1 h2
  have h3 := h.one
  have h4 := h.pos
  obtain ⟨a, b, c⟩ := p
  simp only at h1 h2 h3 h4
  subst h1 h2
  have : c = 1 := by
    unfold gcdL gcdL gcdL gcdL iGcd at h3
    simp only [Int.natAbs_zero, Nat.gcd_zero_left, Nat.gcd_self] at h3
    simp at h3
    omega
  subst this
  rfl
theorem io_sub (a b : Int) : io (a - b) = io a - io b := Gi.ext' rfl (by show (0 : Int) = 0 - 0; omega)
theorem rG_io (p : P3) : rG p = io p.2.2 := rfl
theorem ceN_dt {n : Nat} {c : Ce} (h : CeOk n c) : dtG (ceN c) ≠ 0 := by
  cases c with
  | carry p =>
    obtain ⟨hp, _⟩ := h
    have e : dtG (ceN (.carry p)) = rG p * rG p := by unfold dtG ceN; simp only; grind
    rw [e]
    exact Gi.mul_ne hp.r0 hp.r0
  | mirror r => exact mm_nz h.1.toRw
  | grow p q g =>
    obtain ⟨hp, hq, z, _, _⟩ := h
    have e : dtG (ceN (.grow p q g)) = (zG q * rG p) * (rG q * rG p) := by unfold dtG ceN; simp only; grind
    rw [e]
    exact Gi.mul_ne (Gi.mul_ne (fun e => z (zG_z hq e)) hp.r0) (Gi.mul_ne hq.r0 hp.r0)
  | turn p w g =>
    obtain ⟨hp, hw, _⟩ := h
    have e : dtG (ceN (.turn p w g)) = -(io w.1 * rG p * rG p * io w.2 * (rG p * rG p)) := by
      unfold dtG ceN
      simp only
      rw [io_sub, io_mul, io_mul, io_mul, io_mul, io_mul, nm_io, ← rG_io]
      grind
    rw [e]
    have n1 : io w.1 * rG p * rG p * io w.2 * (rG p * rG p) ≠ 0 := Gi.mul_ne (Gi.mul_ne (Gi.mul_ne (Gi.mul_ne (io_ne hw.p1) hp.r0) hp.r0) (io_ne (by have := hw.p2; omega))) (Gi.mul_ne hp.r0 hp.r0)
    intro z
    apply n1
    rw [show io w.1 * rG p * rG p * io w.2 * (rG p * rG p) = -(-(io w.1 * rG p * rG p * io w.2 * (rG p * rG p))) by grind, z]
    grind
theorem n4_of {n : Nat} {m : G4} (a : Cz n (m.1.re, m.1.im)) (b : Cz n (m.2.1.re, m.2.1.im)) (c : Cz n (m.2.2.1.re, m.2.2.1.im)) (d : Cz n (m.2.2.2.re, m.2.2.2.im)) : N4 (2 * n + 2) m := ⟨nz_of a.1 a.2, nz_of b.1 b.2, nz_of c.1 c.2, nz_of d.1 d.2⟩
theorem cz_0 {n : Nat} : Cz n ((0 : Gi).re, (0 : Gi).im) := ⟨sz_0, sz_0⟩
theorem cz_io {n : Nat} {a : Int} (h : Sz n a) : Cz n ((io a).re, (io a).im) := ⟨h, sz_0⟩
theorem ceN_n4 {n : Nat} {c : Ce} (h : CeOk n c) : N4 (6 * n + 12) (ceN c) := by
  cases c with
  | carry p =>
    obtain ⟨hp, _⟩ := h
    have k := n4_of (n := n) (m := ceN (.carry p)) (cz_rG hp.toPt) (cz_zG hp.toPt) cz_0 (cz_rG hp.toPt)
    exact ⟨k.s1.mono (by omega), k.s2.mono (by omega), k.s3.mono (by omega), k.s4.mono (by omega)⟩
  | mirror r =>
    have k := n4_mm h.1.toRw.s4'
    exact ⟨k.s1.mono (by omega), k.s2.mono (by omega), k.s3.mono (by omega), k.s4.mono (by omega)⟩
  | grow p q g =>
    obtain ⟨hp, hq, _⟩ := h
    have a := (cz_zG hq.toPt).mulG (cz_rG hp.toPt)
    have b := (cz_zG hp.toPt).mulG (show Cz (n + 1) ((rG q - zG q).re, (rG q - zG q).im) from (cz_rG hq.toPt).sub (cz_zG hq.toPt))
    have d := (cz_rG hq.toPt).mulG (cz_rG hp.toPt)
    have k := n4_of (n := 2 * n + 3) (m := ceN (.grow p q g)) (a.mono (by omega)) (Cz.mono b (by omega)) cz_0 (d.mono (by omega))
    exact ⟨k.s1.mono (by omega), k.s2.mono (by omega), k.s3.mono (by omega), k.s4.mono (by omega)⟩
  | turn p w g =>
    obtain ⟨hp, hw, _⟩ := h
    have a := ((cz_zG hp.toPt).mulG (cz_rG hp.toPt)).mulG (cz_io hw.s2)
    have sn : Sz (2 * n + 1) (zG p).nm := ((hp.s1.mul hp.s1).add (hp.s2.mul hp.s2)).mono (by omega)
    have b := cz_io (((hw.s1.mul hp.s3).mul hp.s3).sub (hw.s2.mul sn))
    have c := cz_io ((hw.s2.mul hp.s3).mul hp.s3)
    have d := (((cz_zG hp.toPt).cjG).mulG (cz_rG hp.toPt)).mulG (cz_io hw.s2)
    have k := n4_of (n := 3 * n + 5) (m := ceN (.turn p w g)) (a.mono (by omega)) (Cz.mono b (by omega)) (c.mono (by omega)) ⟨(d.mono (by omega)).1.neg, (d.mono (by omega)).2.neg⟩
    exact ⟨k.s1.mono (by omega), k.s2.mono (by omega), k.s3.mono (by omega), k.s4.mono (by omega)⟩

/-- the ring lets the place -/
def kpB (g : R2g) (c p : P3) : Bool := decide (g.1.1 * (c.2.2 * p.2.2 * (c.2.2 * p.2.2)) ≤ dd c p * g.1.2) && decide (dd c p * g.2.2 ≤ g.2.1 * (c.2.2 * p.2.2 * (c.2.2 * p.2.2)))
def letsB : Ce → P3 → Bool
  | .carry _, _ => true
  | .mirror _, _ => true
  | .grow c _ g, p => kpB g c p
  | .turn c _ g, p => kpB g c p
open Classical in
/-- the place to which a cell leads a place -/
noncomputable def ledC (c : Ce) (p : P3) : P3 := if h : ∃ n t, Led n (ceF c) (ceN c) p t then h.choose_spec.choose else p
/-- the places of an arm's walk, as far as it comes -/
noncomputable def pinsC : List Ce → P3 → List P3
  | [], p => [p]
  | c :: cs, p => if letsB c p = true then p :: pinsC cs (ledC c p) else [p]
noncomputable def pinsO : List Ce → P3 → Option (List P3)
  | [], p => some [p]
  | c :: cs, p => if letsB c p = true then (pinsO cs (ledC c p)).map (p :: ·) else none
noncomputable def penO : List Ce → P3 → Option P3
  | [], p => some p
  | c :: cs, p => if letsB c p = true then penO cs (ledC c p) else none
/-- how large places may become -/
def gb (n : Nat) : Nat → Nat → Nat
  | 0, a => a
  | i + 1, a => gb n i (2 * (6 * n + 12 + a + 2) + 1)
/-- the map of an arm -/
def arF : List Ce → Int
  | [] => 0
  | c :: cs => (arF cs + ceF c) % 2
def arN : List Ce → G4
  | [] => g1
  | c :: cs => Pr (arF cs) (arN cs) (ceN c)
theorem arF_fl : ∀ cs : List Ce, arF cs = 0 ∨ arF cs = 1
  | [] => .inl rfl
  | c :: cs => by unfold arF; omega
theorem arN_dt {n : Nat} : ∀ {cs : List Ce}, (∀ c ∈ cs, CeOk n c) → dtG (arN cs) ≠ 0
  | [], _ => dt_g1
  | c :: cs, h => dt_pr (arN_dt fun c k => h c (List.mem_cons_of_mem _ k)) (ceN_dt (h c List.mem_cons_self))
theorem arF_app (ds : List Ce) : ∀ cs : List Ce, arF (cs ++ ds) = (arF ds + arF cs) % 2
  | [] => by
    have := arF_fl ds
    show arF ds = (arF ds + 0) % 2
    omega
  | c :: cs => by
    show (arF (cs ++ ds) + ceF c) % 2 = (arF ds + (arF cs + ceF c) % 2) % 2
    rw [arF_app ds cs]
    omega
theorem pr_one {f : Int} (hf : f = 0 ∨ f = 1) (m : G4) : Pr f m g1 = m := by
  have e : flm f g1 = g1 := by rcases hf with rfl | rfl <;> rfl
  unfold Pr
  rw [e]
  obtain ⟨a, b, c, d⟩ := m
  unfold mulm g1
  simp only [Prod.mk.injEq]
  grind
theorem one_pr (m : G4) : Pr 0 g1 m = m := by
  have e : flm 0 m = m := by
    unfold flm
    rw [fl_0, fl_0, fl_0, fl_0]
  unfold Pr
  rw [e]
  obtain ⟨a, b, c, d⟩ := m
  unfold mulm g1
  simp only [Prod.mk.injEq]
  grind
theorem arN_app (ds : List Ce) : ∀ cs : List Ce, arN (cs ++ ds) = Pr (arF ds) (arN ds) (arN cs)
  | [] => (pr_one (arF_fl ds) _).symm
  | c :: cs => by
    show Pr (arF (cs ++ ds)) (arN (cs ++ ds)) (ceN c) = Pr (arF ds) (arN ds) (Pr (arF cs) (arN cs) (ceN c))
    rw [arF_app, arN_app ds cs, pr_assoc (arF_fl ds) (arF_fl cs)]
theorem arN_one (c : Ce) : arF [c] = ceF c ∧ arN [c] = ceN c := by
  have := ceF_fl c
  exact ⟨by show (0 + ceF c) % 2 = ceF c; omega, one_pr _⟩
theorem st_cm : decide (("carry" : Str) = "mirror") = false := by decide
theorem st_cg : decide (("carry" : Str) = "grow") = false := by decide
theorem st_ct : decide (("carry" : Str) = "turnabout") = false := by decide
theorem st_mc : decide (("mirror" : Str) = "carry") = false := by decide
theorem st_mg : decide (("mirror" : Str) = "grow") = false := by decide
theorem st_mt : decide (("mirror" : Str) = "turnabout") = false := by decide
theorem st_gc : decide (("grow" : Str) = "carry") = false := by decide
theorem st_gm : decide (("grow" : Str) = "mirror") = false := by decide
theorem st_gt : decide (("grow" : Str) = "turnabout") = false := by decide
theorem st_tc : decide (("turnabout" : Str) = "carry") = false := by decide
theorem st_tm : decide (("turnabout" : Str) = "mirror") = false := by decide
theorem st_tg : decide (("turnabout" : Str) = "grow") = false := by decide
local macro_rules | `(tactic| walk_at "wc") => `(tactic| (walk_at "wk"; repeat (simp only [st_cm, st_cg, st_ct, st_mc, st_mg, st_mt, st_gc, st_gm, st_gt, st_tc, st_tm, st_tg]; walk_at "wk")))
local macro_rules | `(tactic| walk_at "wc") => `(tactic| (walk_at "wk"; repeat (simp only [st_cm, st_cg, st_ct, st_mc, st_mg, st_mt, st_gc, st_gm, st_gt, st_tc, st_tm, st_tg]; walk_at "wk")))
theorem Fm.mono {m n : Nat} {N x : G4} (h : Fm m N x) (l : m ≤ n) : Fm n N x := ⟨h.mp, h.c, h.s1.mono l, h.s2.mono l, h.s3.mono l, h.s4.mono l⟩
theorem rr_D (q p : P3) : D.tup [.int (q.2.2 * p.2.2), .int 0] = gD (rG q * rG p) := by rw [rG_io, rG_io, ← io_mul]; rfl
theorem ce_mq {n l : Nat} {c : Ce} {m : G4} (h : CeOk n c) (hm : Fm l (ceN c) m) : Mq l (ceF c) m := hm.mq (ceF_fl c) (ceN_dt h)
theorem along_self (m : G4) : ∃ c : Gi, c ≠ 0 ∧ m = scl c m := ⟨1, one_ne, (scl_one m).symm⟩
theorem w__law_gcdI {T : Tk} {a b : Int} {k : KD} (h : k (.int (iGcd a b)) T) : sm__law_gcd [.val (.int a), .val (.int b)] T k := by
  rw [e__law_gcd, b__law_gcd]
  walk_at "wkn"
  unfold sWhile
  refine ⟨fun m ρ T' => T' = T ∧ ∃ l r : Int, 0 ≤ l ∧ 0 ≤ r ∧ m = r.toNat ∧ iGcd l r = iGcd a b ∧ ρ = [some (.val (.int l)), some (.val (.int r))], ⟨_, rfl, iAbs a, iAbs b, iAbs_nn a, iAbs_nn b, rfl, ?_, rfl⟩, ?_⟩
  · rw [iGcd_abs, iGcd_comm, iGcd_abs, iGcd_comm]
  rintro m ρ T' ⟨rfl, l, r, h1, h2, rfl, h4, rfl⟩
  walk_at "wk"
  refine iteB_of (fun e => ?_) (fun e => ?_)
  · have q : 0 < r := by simpa using e
    walk_at "wk"
    refine ⟨q, (l % r).toNat, ?_, r, l % r, h2, Int.emod_nonneg _ (by omega), rfl, ?_, rfl⟩
    · have := Int.emod_lt_of_pos l q
      omega
    · rw [← h4, iGcd_mod h1 q]
  · have q : ¬ 0 < r := by simpa using e
    have q : r = 0 := by omega
    subst q
    rw [← h4, iGcd_zero h1] at h
    walk_at "wk"
    exact h
theorem thin_loop {F : dEnds} {A : Option SV} {T : Tk} : ∀ (ns : List Int) (g : Int) (c : Option SV), (∀ c', F.nx [A, some (.val (.int (gcdL g ns))), c'] T) →
    forL (gN 2) (sAsg (dCall 2 sm__law_gcd (aCons (dVar 1) (aCons (dVar 2) (aNil)))) (gN 1)) F (ns.map D.int) [A, some (.val (.int g)), c] T
  | [], g, c, h => by
    rw [List.map_nil]
    exact h c
  | n :: ns, g, c, h => by
    rw [List.map_cons, forL_c]
    walk_at "wkn"
    refine w__law_gcdI ?_
    walk_at "wkn"
    exact thin_loop ns _ _ h
theorem w__law_thin {T : Tk} {ns : List Int} {k : KD} (hl : ns.length ≤ 1000000) {n : Int} (hn : n ∈ ns) (h0 : n ≠ 0) (hs : Sz 9000 n) (h : k (.tup ((lowL ns).map D.int)) T) : sm__law_thin [.val (.lst (ns.map D.int))] T k := by
  rw [e__law_thin, b__law_thin]
  walk_at "wkn"
  refine ⟨by rw [List.length_map]; exact hl, ?_⟩
  refine thin_loop ns 0 _ fun c => ?_
  have hp := gcdL_pos hn h0
  have hd := sz_dvd (gcdL_dvd ns 0 n hn) h0 hs
  walk_at "wkn"
  refine iteB_of (fun e => ?_) (fun e => ?_)
  · walk_at "wkn"
    refine ⟨by rw [List.length_map]; exact hl, ?_⟩
    refine lc_div (fun i => hd.divOk (Nat.le_refl _) hp) ns _ _ _ ?_
    walk_at "wkn"
    exact h
  · walk_at "wkn"
    have e1 : gcdL 0 ns = 1 := by have : ¬ 1 < gcdL 0 ns := by simpa using e
                                  omega
    rw [lowL_one e1] at h
    exact h
theorem w_thin3i {T : Tk} {n : Nat} {x y z : Int} {k : KD} (hz : 0 < z) (s1 : Sz n x) (s2 : Sz n y) (s3 : Sz n z) (hn : n ≤ 9000) (h : ∀ q : P3, Nr n q → HG n q ⟨x, y⟩ (io z) → k (pD q) T) : sm__law_thin [.val (.lst [.int x, .int y, .int z])] T k := by
  have z0 := rne' hz
  refine w__law_thin (ns := [x, y, z]) (by simp) (n := z) (by simp) (by omega) (s3.mono hn) ?_
  have hq := plq_low (u := (x : Rat) / (z : Rat)) (v := (y : Rat) / (z : Rat)) hz s1 s2 s3 (by generalize (z : Rat) = Z at *; grind) (by generalize (z : Rat) = Z at *; grind)
  refine h (x / gcdL 0 [x, y, z], y / gcdL 0 [x, y, z], z / gcdL 0 [x, y, z]) hq.nr ⟨hq.pt, ?_, fun ⟨_, e⟩ => by have := congrArg Gi.re e; unfold io at this; simp only [Gi.zero_re] at this; omega⟩
  obtain ⟨e1, e2, e3⟩ := plq_cast hq
  generalize (x / gcdL 0 [x, y, z], y / gcdL 0 [x, y, z], z / gcdL 0 [x, y, z]) = q at *
  have i1 : q.1 * z = q.2.2 * x := cast_inj (by push_cast; rw [e1]; generalize (z : Rat) = Z at *; grind)
  have i2 : q.2.1 * z = q.2.2 * y := cast_inj (by push_cast; rw [e2]; generalize (z : Rat) = Z at *; grind)
  unfold zG rG io
  refine Gi.ext' ?_ ?_
  · simp only [Gi.mul_re]; omega
  · simp only [Gi.mul_im]; omega
/-- a fraction -/
theorem w_thin2i {T : Tk} {n : Nat} {x z : Int} {k : KD} (hz : 0 < z) (s1 : Sz n x) (s3 : Sz n z) (hn : n ≤ 9000) (h : ∀ q : F2, 0 < q.2 → gcdL 0 [q.1, q.2] = 1 → Sz n q.1 → Sz n q.2 → q.1 * z = q.2 * x → k (fD q) T) : sm__law_thin [.val (.lst [.int x, .int z])] T k := by
  refine w__law_thin (ns := [x, z]) (by simp) (n := z) (by simp) (by omega) (s3.mono hn) ?_
  have hp : 0 < gcdL 0 [x, z] := gcdL_pos (n := z) (by simp) (by omega)
  have hb := lowL_back (ns := [x, z])
  have ho := lowL_gcd hp
  unfold lowL at hb ho
  refine h (x / gcdL 0 [x, z], z / gcdL 0 [x, z]) ?_ ho s1.ediv s3.ediv ?_
  · generalize gcdL 0 [x, z] = g at *
    simp only [List.map_cons, List.map_nil, List.cons.injEq, and_true] at hb
    rcases Int.lt_or_le 0 (z / g) with q | q
    · exact q
    · have := Int.mul_nonpos_of_nonneg_of_nonpos (Int.le_of_lt hp) q
      omega
  · generalize gcdL 0 [x, z] = g at *
    simp only [List.map_cons, List.map_nil, List.cons.injEq, and_true] at hb
    obtain ⟨b1, b2⟩ := hb
    show x / g * z = z / g * x
    generalize x / g = a at *
    generalize z / g = b at *
    subst b1 b2
    grind

theorem w__law_timesG {T : Tk} {m n : Nat} {a b : Gi} {k : KD} (ha : Cz m (a.re, a.im)) (hb : Cz n (b.re, b.im)) (hm : m ≤ 100000) (hn : n ≤ 100000) (h : k (gD (a * b)) T) : sm__law_times [.val (gD a), .val (gD b)] T k := by
  rw [e__law_times, b__law_times]
  walk_at "wk"
  have hm' : m ≤ 400000 := by omega
  have hn' : n ≤ 400000 := by omega
  exact ⟨ha.1.mulOk hb.1 hm' hn', ha.2.mulOk hb.2 hm' hn', ha.1.mulOk hb.2 hm' hn', ha.2.mulOk hb.1 hm' hn', h⟩
theorem w__law_plusG {T : Tk} {a b : Gi} {k : KD} (h : k (gD (a + b)) T) : sm__law_plus [.val (gD a), .val (gD b)] T k := by
  rw [e__law_plus, b__law_plus]
  walk_at "wk"
  exact h
theorem w__law_minusG {T : Tk} {a b : Gi} {k : KD} (h : k (gD (a - b)) T) : sm__law_minus [.val (gD a), .val (gD b)] T k := by
  rw [e__law_minus, b__law_minus]
  walk_at "wk"
  exact h
theorem w__law_barG {T : Tk} {a : Gi} {k : KD} (h : k (gD a.cj) T) : sm__law_bar [.val (gD a)] T k := by
  rw [e__law_bar, b__law_bar]
  walk_at "wk"
  rw [Int.zero_sub]
  exact h
theorem w__law_normG {T : Tk} {n : Nat} {a : Gi} {k : KD} (ha : Cz n (a.re, a.im)) (hn : n ≤ 100000) (h : k (.int a.nm) T) : sm__law_norm [.val (gD a)] T k := by
  rw [e__law_norm, b__law_norm]
  walk_at "wk"
  exact ⟨ha.1.mulOk ha.1 (by omega) (by omega), ha.2.mulOk ha.2 (by omega) (by omega), h⟩
theorem w__law_overG {T : Tk} {n : Nat} {x g : Gi} {k : KD} (s : Nz n (x * g)) (sg : Nz n g) (g0 : g ≠ 0) (hn : n ≤ 2000) (h : k (gD x) T) : sm__law_over [.val (gD (x * g)), .val (gD g)] T k := by
  rw [e__law_over, b__law_over]
  walk_at "wk"
  have p := Gi.nm_pos g0
  refine w__law_barG ?_
  walk_at "wk"
  refine w__law_timesG s.cz sg.cj.cz (by omega) (by omega) ?_
  walk_at "wk"
  refine w__law_normG sg.cz (by omega) ?_
  have e1 : (x * g * g.cj).re = x.re * g.nm := by simp only [Gi.mul_re, Gi.mul_im, Gi.cj, Gi.nm]; grind
  have e2 : (x * g * g.cj).im = x.im * g.nm := by simp only [Gi.mul_re, Gi.mul_im, Gi.cj, Gi.nm]; grind
  have e : gD (x * g * g.cj) = .tup [.int (x.re * g.nm), .int (x.im * g.nm)] := by show D.tup [.int (x * g * g.cj).re, .int (x * g * g.cj).im] = _; rw [e1, e2]
  rw [e]
  walk_at "wk"
  have sn : Sz 9000 g.nm := (sz_nm sg).mono (by omega)
  rw [Int.mul_ediv_cancel _ (by omega), Int.mul_ediv_cancel _ (by omega)]
  exact ⟨sn.divOk (by decide) p, sn.divOk (by decide) p, h⟩
theorem w__law_quarterG {T : Tk} {f : Gi} {k : KD} {n : Nat} (sf : Nz n f) (hn : n ≤ 90000) (f0 : f ≠ 0) (h : ∀ u, u.nm = 1 → Qf (u * f) → k (gD (u * f)) T) : sm__law_quarter [.val (gD f)] T k := by
  rw [e__law_quarter, b__law_quarter]
  have h' : ∀ u g, g = f * u → u.nm = 1 → Qf g → k (gD g) T := fun u g e hu hq => by
    subst e
    rw [show f * u = u * f by grind] at hq ⊢
    exact h u hu hq
  have ci : Cz 2 ((⟨0, 1⟩ : Gi).re, (⟨0, 1⟩ : Gi).im) := ⟨by unfold Sz; decide, by unfold Sz; decide⟩
  have qf : ∀ g : Gi, (decide (0 < g.re) && decide (0 ≤ g.im)) = true → Qf g := fun g e => by
    rw [Bool.and_eq_true, decide_eq_true_eq, decide_eq_true_eq] at e
    exact e
  have nq : ∀ g : Gi, (decide (0 < g.re) && decide (0 ≤ g.im)) = false → ¬(0 < g.re ∧ 0 ≤ g.im) := fun g e ⟨x, y⟩ => by
    rw [decide_eq_true x, decide_eq_true y] at e
    exact absurd e (by decide)
  walk_at "wki"
  refine iteB_of (fun e => ?_) (fun e1 => ?_)
  · walk_at "wki"
    exact h' 1 f (by grind) rfl (qf f e)
  walk_at "wki"
  refine w__law_timesG (b := ⟨0, 1⟩) sf.cz ci (by omega) (by decide) ?_
  have c2 := sf.cz.mul ci
  generalize g2 : f * ⟨0, 1⟩ = f2
  have c2 : Cz (n + 2 + 1) (f2.re, f2.im) := by rw [← g2]; exact c2
  walk_at "wki"
  refine iteB_of (fun e => ?_) (fun e2 => ?_)
  · walk_at "wki"
    exact h' ⟨0, 1⟩ f2 g2.symm rfl (qf f2 e)
  walk_at "wki"
  refine w__law_timesG (b := ⟨0, 1⟩) c2 ci (by omega) (by decide) ?_
  have c3 := c2.mul ci
  generalize g3 : f2 * ⟨0, 1⟩ = f3
  have c3 : Cz (n + 2 + 1 + 2 + 1) (f3.re, f3.im) := by rw [← g3]; exact c3
  walk_at "wki"
  refine iteB_of (fun e => ?_) (fun e3 => ?_)
  · walk_at "wki"
    exact h' (⟨0, 1⟩ * ⟨0, 1⟩) f3 (by rw [← g3, ← g2]; grind) rfl (qf f3 e)
  walk_at "wki"
  refine w__law_timesG (b := ⟨0, 1⟩) c3 ci (by omega) (by decide) ?_
  generalize g4 : f3 * ⟨0, 1⟩ = f4
  walk_at "wki"
  refine iteB_of (fun e => ?_) (fun e4 => ?_)
  · walk_at "wki"
    exact h' (⟨0, 1⟩ * ⟨0, 1⟩ * ⟨0, 1⟩) f4 (by rw [← g4, ← g3, ← g2]; grind) rfl (qf f4 e)
  exfalso
  have n1 := nq _ e1
  have n2 := nq _ e2
  have n3 := nq _ e3
  have n4 := nq _ e4
  have f0' : ¬(f.re = 0 ∧ f.im = 0) := fun z => f0 (Gi.eq0.mp z)
  subst g4 g3 g2
  simp only [Gi.mul_re, Gi.mul_im, Int.mul_zero, Int.mul_one] at n1 n2 n3 n4
  omega
theorem common_sp {F : dEnds} {T : Tk} {a b : Gi} {n : Nat} (hn : n ≤ 1999)
    (h1 : ∀ g x2 x3 x4 x5 x1, G2 g a b → Nz n g → F.nx [some (.val (gD g)), x1, x2, x3, x4, x5] T) :
    ∀ (j : Nat) (s : Int) (c d : Gi) (x2 x3 x4 x5 : Option SV), d.nm < 2 ^ j → Nz n c → Nz n d → (∀ g, G2 g c d → G2 g a b) →
    forL (gN 2) (sSeq (sIf (dTst (dOp (oF fEq) (dVar 1) (dTup (aCons (dC (.int 0)) (aCons (dC (.int 0)) (aNil)))))) ((fun k ρ T => k.bk ρ T)) ((fun k ρ T => k.nx ρ T))) (sSeq (sPar 3 4 (aCons (dCall 1 sm__law_norm (aCons (dVar 1) (aNil))) (aCons (dCall 2 sm__law_times (aCons (dVar 0) (aCons (dCall 1 sm__law_bar (aCons (dVar 1) (aNil))) (aNil)))) (aNil)))) (sSeq (sAsg (dTup (aCons (dOp (oF fDiv) (dOp (oF fAdd) (dOp (oF fMul) (dC (.int 2)) (dOp (oF fIx) (dVar 4) (dC (.int 0)))) (dVar 3)) (dOp (oF fMul) (dC (.int 2)) (dVar 3))) (aCons (dOp (oF fDiv) (dOp (oF fAdd) (dOp (oF fMul) (dC (.int 2)) (dOp (oF fIx) (dVar 4) (dC (.int 1)))) (dVar 3)) (dOp (oF fMul) (dC (.int 2)) (dVar 3))) (aNil)))) (gN 5)) (sPar 0 1 (aCons (dVar 1) (aCons (dCall 2 sm__law_minus (aCons (dVar 0) (aCons (dCall 2 sm__law_times (aCons (dVar 5) (aCons (dVar 1) (aNil)))) (aNil)))) (aNil))))))) F (intsL s (j + 1)) [some (.val (gD c)), some (.val (gD d)), x2, x3, x4, x5] T := by
  intro j
  induction j with
  | zero =>
    intro s c d x2 x3 x4 x5 hd nc nd tr
    have d0 : d = 0 := Gi.nm_zero (by have := d.nm_nn; have e : (2 : Int) ^ 0 = 1 := rfl; omega)
    subst d0
    rw [intsL, forL_c]
    walk_at "wkn"
    exact h1 c _ _ _ _ _ (tr c (G2.zero c)) nc
  | succ j ih =>
    intro s c d x2 x3 x4 x5 hd nc nd tr
    rw [intsL, forL_c]
    walk_at "wkn"
    rw [dec_gi]
    by_cases d0 : d = 0
    · refine iteB_p (by simp [d0]) ?_
      subst d0
      exact h1 c _ _ _ _ _ (tr c (G2.zero c)) nc
    have p := Gi.nm_pos d0
    refine iteB_n (by simp [d0]) ?_
    walk_at "wkn"
    refine w__law_normG nd.cz (by omega) ?_
    walk_at "wkn"
    refine w__law_barG ?_
    walk_at "wkn"
    refine w__law_timesG nc.cz nd.cj.cz (by omega) (by omega) ?_
    walk_at "wkn"
    have hs : Sz 8000 d.nm := (sz_nm nd).mono (by omega)
    have dv := ((show Sz 2 2 by unfold Sz; decide).mul hs)
    refine ⟨lit_mul (by decide), lit_mul (by decide), dv.divOk (by decide) (by omega), lit_mul (by decide), lit_mul (by decide), dv.divOk (by decide) (by omega), ?_⟩
    have lt := nearG_nm (a := c) d0
    have nn := (c - nearG c d * d).nm_nn
    have h2 : Nz n (c - nearG c d * d) := by
      unfold Nz at nd ⊢
      omega
    have nq : Nz (n + 2) (nearG c d) := by
      refine Nz.dvd d0 ?_
      have e : d * nearG c d = c + -(c - nearG c d * d) := by grind
      rw [e]
      exact nc.add h2.neg
    refine w__law_timesG (a := nearG c d) (b := d) nq.cz nd.cz (by omega) (by omega) ?_
    walk_at "wkn"
    refine w__law_minusG ?_
    walk_at "wkn"
    refine ih _ _ _ _ _ _ _ ?_ nd h2 fun g hg => tr g (G2.step hg)
    have e : (2 : Int) ^ (j + 1) = 2 * 2 ^ j := by rw [Int.pow_succ, Int.mul_comm]
    omega
theorem w__law_common2 {T : Tk} {n : Nat} {a b : Gi} {k : KD} (sa : Nz n a) (sb : Nz n b) (hn : n ≤ 1999) (h : ∀ g, G2 g a b → Nz n g → k (gD g) T) : sm__law_common [.val (gD a), .val (gD b)] T k := by
  rw [e__law_common, b__law_common]
  walk_at "wkn"
  refine common_sp hn (fun g x2 x3 x4 x5 x1 hg ng => ?_) 3999 0 a b _ _ _ _ (sb.mono (show n ≤ 3999 by omega)) sa sb (fun g hg => hg)
  walk_at "wk"
  exact h g hg ng

theorem w__law_formG {T : Tk} {n : Nat} {f : Int} {N : G4} {k : KD} (s1 : Nz n N.1) (s2 : Nz n N.2.1) (s3 : Nz n N.2.2.1) (s4 : Nz n N.2.2.2) (hn : n ≤ 1999) (nz : fst4 N ≠ 0) (h : ∀ m, Fm n N m → k (mD f m) T) : sm__law_form [.val (.int f), .val (.lst [gD N.1, gD N.2.1, gD N.2.2.1, gD N.2.2.2])] T k := by
  have z0 : Nz n 0 := by unfold Nz; rw [Gi.nm_of_zero]; exact Int.pow_pos (by decide)
  rw [e__law_form, b__law_form]
  walk_at "wk"
  refine w__law_common2 (a := 0) z0 s1 hn fun g1 h1 n1 => ?_
  walk_at "wk"
  refine w__law_common2 n1 s2 hn fun g2 h2 n2 => ?_
  walk_at "wk"
  refine w__law_common2 n2 s3 hn fun g3 h3 n3 => ?_
  walk_at "wk"
  refine w__law_common2 n3 s4 hn fun g ge ng => ?_
  have gd : GD g (N.1, N.2.1, N.2.2.1, N.2.2.2) := gd_of h1 h2 h3 ge
  clear h1 h2 h3 ge n1 n2 n3
  obtain ⟨N1, N2, N3, N4⟩ := N
  obtain ⟨⟨x1, q1⟩, ⟨x2, q2⟩, ⟨x3, q3⟩, ⟨x4, q4⟩, u, v, w, t, es⟩ := gd
  simp only at q1 q2 q3 q4
  subst q1 q2 q3 q4
  obtain ⟨g0, f0⟩ := fst4_zero (x := (x1, x2, x3, x4)) nz
  have y1 := Nz.dvd (a := x1) g0 (by rw [show g * x1 = x1 * g by grind]; exact s1)
  have y2 := Nz.dvd (a := x2) g0 (by rw [show g * x2 = x2 * g by grind]; exact s2)
  have y3 := Nz.dvd (a := x3) g0 (by rw [show g * x3 = x3 * g by grind]; exact s3)
  have y4 := Nz.dvd (a := x4) g0 (by rw [show g * x4 = x4 * g by grind]; exact s4)
  have nf := fst4_nz (x := (x1, x2, x3, x4)) y1 y2 y3 y4
  walk_at "wk"
  refine w__law_overG s1 ng g0 (by omega) ?_
  walk_at "wk"
  refine w__law_overG s2 ng g0 (by omega) ?_
  walk_at "wk"
  refine w__law_overG s3 ng g0 (by omega) ?_
  walk_at "wk"
  refine w__law_overG s4 ng g0 (by omega) ?_
  walk_at "wk"
  rw [dec_gi]
  by_cases z1 : x1 = 0
  rotate_left
  · refine iteB_n (by simp [z1]) ?_
    have ef : fst4 (x1, x2, x3, x4) = x1 := by unfold fst4; simp only; rw [if_pos z1]
    rw [ef] at f0 nf
    walk_at "wk"
    refine w__law_quarterG nf (by omega) f0 fun U un qf => ?_
    have nU : Nz 1 U := by unfold Nz; rw [un]; decide
    have nUf : Nz (1 + n) (U * x1) := nU.mul nf
    walk_at "wk"
    refine w__law_overG (x := U) (g := x1) (n := 1 + n) nUf (nf.mono (by omega)) f0 (by omega) ?_
    have fin := h _ (fm_of' (x := (x1, x2, x3, x4)) (U := U) un (by rw [ef, show x1 * U = U * x1 by grind]; exact qf) g0 ⟨u, v, w, t, es⟩ s1 s2 s3 s4)
    walk_at "wk"
    refine w__law_timesG y1.cz nU.cz (by omega) (by omega) ?_
    walk_at "wk"
    refine w__law_timesG y2.cz nU.cz (by omega) (by omega) ?_
    walk_at "wk"
    refine w__law_timesG y3.cz nU.cz (by omega) (by omega) ?_
    walk_at "wk"
    refine w__law_timesG y4.cz nU.cz (by omega) (by omega) ?_
    walk_at "wk"
    exact fin
  refine iteB_p (by simp [z1]) ?_
  walk_at "wk"
  rw [dec_gi]
  by_cases z2 : x2 = 0
  rotate_left
  · refine iteB_n (by simp [z2]) ?_
    have ef : fst4 (x1, x2, x3, x4) = x2 := by unfold fst4; simp only; rw [if_neg (not_not_intro z1), if_pos z2]
    rw [ef] at f0 nf
    walk_at "wk"
    refine w__law_quarterG nf (by omega) f0 fun U un qf => ?_
    have nU : Nz 1 U := by unfold Nz; rw [un]; decide
    have nUf : Nz (1 + n) (U * x2) := nU.mul nf
    walk_at "wk"
    refine w__law_overG (x := U) (g := x2) (n := 1 + n) nUf (nf.mono (by omega)) f0 (by omega) ?_
    have fin := h _ (fm_of' (x := (x1, x2, x3, x4)) (U := U) un (by rw [ef, show x2 * U = U * x2 by grind]; exact qf) g0 ⟨u, v, w, t, es⟩ s1 s2 s3 s4)
    walk_at "wk"
    refine w__law_timesG y1.cz nU.cz (by omega) (by omega) ?_
    walk_at "wk"
    refine w__law_timesG y2.cz nU.cz (by omega) (by omega) ?_
    walk_at "wk"
    refine w__law_timesG y3.cz nU.cz (by omega) (by omega) ?_
    walk_at "wk"
    refine w__law_timesG y4.cz nU.cz (by omega) (by omega) ?_
    walk_at "wk"
    exact fin
  refine iteB_p (by simp [z2]) ?_
  walk_at "wk"
  rw [dec_gi]
  by_cases z3 : x3 = 0
  rotate_left
  · refine iteB_n (by simp [z3]) ?_
    have ef : fst4 (x1, x2, x3, x4) = x3 := by unfold fst4; simp only; rw [if_neg (not_not_intro z1), if_neg (not_not_intro z2), if_pos z3]
    rw [ef] at f0 nf
    walk_at "wk"
    refine w__law_quarterG nf (by omega) f0 fun U un qf => ?_
    have nU : Nz 1 U := by unfold Nz; rw [un]; decide
    have nUf : Nz (1 + n) (U * x3) := nU.mul nf
    walk_at "wk"
    refine w__law_overG (x := U) (g := x3) (n := 1 + n) nUf (nf.mono (by omega)) f0 (by omega) ?_
    have fin := h _ (fm_of' (x := (x1, x2, x3, x4)) (U := U) un (by rw [ef, show x3 * U = U * x3 by grind]; exact qf) g0 ⟨u, v, w, t, es⟩ s1 s2 s3 s4)
    walk_at "wk"
    refine w__law_timesG y1.cz nU.cz (by omega) (by omega) ?_
    walk_at "wk"
    refine w__law_timesG y2.cz nU.cz (by omega) (by omega) ?_
    walk_at "wk"
    refine w__law_timesG y3.cz nU.cz (by omega) (by omega) ?_
    walk_at "wk"
    refine w__law_timesG y4.cz nU.cz (by omega) (by omega) ?_
    walk_at "wk"
    exact fin
  refine iteB_p (by simp [z3]) ?_
  walk_at "wk"
  rw [dec_gi]
  have ef : fst4 (x1, x2, x3, x4) = x4 := by unfold fst4; simp only; rw [if_neg (not_not_intro z1), if_neg (not_not_intro z2), if_neg (not_not_intro z3)]
  rw [ef] at f0 nf
  refine iteB_n (by simp [f0]) ?_
  walk_at "wk"
  refine w__law_quarterG nf (by omega) f0 fun U un qf => ?_
  have nU : Nz 1 U := by unfold Nz; rw [un]; decide
  have nUf : Nz (1 + n) (U * x4) := nU.mul nf
  walk_at "wk"
  refine w__law_overG (x := U) (g := x4) (n := 1 + n) nUf (nf.mono (by omega)) f0 (by omega) ?_
  have fin := h _ (fm_of' (x := (x1, x2, x3, x4)) (U := U) un (by rw [ef, show x4 * U = U * x4 by grind]; exact qf) g0 ⟨u, v, w, t, es⟩ s1 s2 s3 s4)
  walk_at "wk"
  refine w__law_timesG y1.cz nU.cz (by omega) (by omega) ?_
  walk_at "wk"
  refine w__law_timesG y2.cz nU.cz (by omega) (by omega) ?_
  walk_at "wk"
  refine w__law_timesG y3.cz nU.cz (by omega) (by omega) ?_
  walk_at "wk"
  refine w__law_timesG y4.cz nU.cz (by omega) (by omega) ?_
  walk_at "wk"
  exact fin

theorem sz_22 : Sz 2 2 := by unfold Sz; decide
local macro_rules | `(tactic| walk_at "wc") => `(tactic| (walk_at "wk"; repeat (simp only [st_cm, st_cg, st_ct, st_mc, st_mg, st_mt, st_gc, st_gm, st_gt, st_tc, st_tm, st_tg]; walk_at "wk")))
theorem w__law_joinedM {T : Tk} {n l : Nat} {f g : Int} {m m' : G4} {k : KD} (hm : Mq n f m) (hm' : Mq l g m') (hn : n + l ≤ 1900) (h : ∀ x, Fm (n + l + 2) (Pr f m m') x → k (mD ((f + g) % 2) x) T) : sm__law_joined [.val (mD g m'), .val (mD f m)] T k := by
  have N := n4_pr (f := f) hm.n4 hm'.n4
  have fin := w__law_formG (T := T) (f := (g + f) % 2) (k := k) N.s1 N.s2 N.s3 N.s4 (by omega) (dt_fst (dt_pr hm.dt hm'.dt)) (fun x hx => by rw [Int.add_comm g f]; exact h x hx)
  obtain ⟨a, b, c, d⟩ := m
  obtain ⟨p, q, r, s⟩ := m'
  have A1 := hm.s1
  have A2 := hm.s2
  have A3 := hm.s3
  have A4 := hm.s4
  have B1 := hm'.s1
  have B2 := hm'.s2
  have B3 := hm'.s3
  have B4 := hm'.s4
  simp only at A1 A2 A3 A4 B1 B2 B3 B4
  have tm : ∀ (u v : Gi) (k : KD) (T : Tk), Nz n u → Nz l v → k (gD (u * v)) T → sm__law_times [.val (gD u), .val (gD v)] T k := fun u v k T hu hv hk => w__law_timesG hu.cz hv.cz (by omega) (by omega) hk
  have C1 := B1.cj
  have C2 := B2.cj
  have C3 := B3.cj
  have C4 := B4.cj
  rw [e__law_joined, b__law_joined]
  rcases hm.fl with rfl | rfl <;> rcases hm'.fl with rfl | rfl
  all_goals
    walk_at "wk"
    repeat ((first | refine w__law_barG ?_ | refine tm _ _ _ _ (by assumption) (by assumption) ?_ | refine w__law_plusG ?_); walk_at "wk")
    exact fin
theorem w__law_joinedN {T : Tk} {n l : Nat} {f g : Int} {m m' N N' : G4} {k : KD} (hm : Mq n f m) (hm' : Mq l g m') (hN : ∃ c, c ≠ 0 ∧ N = scl c m) (hN' : ∃ c, c ≠ 0 ∧ N' = scl c m') (hn : n + l ≤ 1900) (h : ∀ x, Fm (n + l + 2) (Pr f N N') x → k (mD ((f + g) % 2) x) T) : sm__law_joined [.val (mD g m'), .val (mD f m)] T k := by
  refine w__law_joinedM hm hm' hn fun x hx => h x ?_
  obtain ⟨c, c0, e⟩ := hN
  obtain ⟨c', c0', e'⟩ := hN'
  obtain ⟨d, d0, ed⟩ := hx.c
  refine ⟨hx.mp, ⟨c * fl f c' * d, Gi.mul_ne (Gi.mul_ne c0 (fl_ne c0')) d0, ?_⟩, hx.s1, hx.s2, hx.s3, hx.s4⟩
  rw [pr_along e e', ed, scl_scl]
theorem w__law_homeM {T : Tk} {n : Nat} {f : Int} {m : G4} {k : KD} (hm : Mq n f m) (hn : n ≤ 1900) (h : ∀ x, Fm n (Bk f m) x → k (mD f x) T) : sm__law_home [.val (mD f m)] T k := by
  have N := n4_bk (f := f) hm.n4
  have fin := w__law_formG (T := T) (f := f) (k := k) N.s1 N.s2 N.s3 N.s4 (by omega) (dt_fst (dt_bk hm.dt)) h
  obtain ⟨a, b, c, d⟩ := m
  rw [e__law_home, b__law_home]
  have z : ∀ u : Gi, (0 : Gi) - u = -u := fun u => by grind
  rcases hm.fl with rfl | rfl
  all_goals
    walk_at "wk"
    refine w__law_minusG (a := 0) ?_
    rw [z]
    walk_at "wk"
    refine w__law_minusG (a := 0) ?_
    rw [z]
    walk_at "wk"
    repeat (refine w__law_barG ?_; walk_at "wk")
    exact fin
theorem w__law_cell_map {T : Tk} {n : Nat} {c : Ce} {k : KD} (hc : CeOk n c) (hn : n ≤ 200) (h : ∀ m, Fm (6 * n + 12) (ceN c) m → k (mD (ceF c) m) T) : sm__law_cell_map [.val (cD c)] T k := by
  rw [e__law_cell_map, b__law_cell_map]
  have n4 := ceN_n4 hc
  have f4 := dt_fst (ceN_dt hc)
  cases c with
  | carry p =>
    rw [cD]
    walk_at "wc"
    exact w__law_formG (N := ceN (.carry p)) n4.s1 n4.s2 n4.s3 n4.s4 (by omega) f4 h
  | mirror r =>
    obtain ⟨hr, z⟩ := hc
    have eN : ceN (.mirror r) = (⟨0 - r.2.1, 0 - r.2.2.1⟩, ⟨0 - 2 * r.2.2.2, 0⟩, ⟨0, 0⟩, ⟨r.2.1, 0 - r.2.2.1⟩) := by
      show MM r = _
      unfold MM
      rw [z, Int.zero_sub, Int.zero_sub, Int.zero_sub]
      rfl
    rw [eN] at n4 f4 h
    rw [cD]
    walk_at "wc"
    refine ⟨sz_22.mulOk hr.s4 (by omega) (by omega), ?_⟩
    exact w__law_formG (N := (⟨0 - r.2.1, 0 - r.2.2.1⟩, ⟨0 - 2 * r.2.2.2, 0⟩, ⟨0, 0⟩, ⟨r.2.1, 0 - r.2.2.1⟩)) n4.s1 n4.s2 n4.s3 n4.s4 (by omega) f4 h
  | grow p q g =>
    obtain ⟨hp, hq, _⟩ := hc
    rw [cD]
    walk_at "wc"
    refine w__law_timesG (a := zG q) (b := rG p) (cz_zG hq.toPt) (cz_rG hp.toPt) (by omega) (by omega) ?_
    walk_at "wk"
    refine w__law_minusG (a := rG q) (b := zG q) ?_
    walk_at "wk"
    refine w__law_timesG (a := zG p) (b := rG q - zG q) (cz_zG hp.toPt) (show Cz (n + 1) ((rG q - zG q).re, (rG q - zG q).im) from (cz_rG hq.toPt).sub (cz_zG hq.toPt)) (by omega) (by omega) ?_
    walk_at "wk"
    refine ⟨hq.s3.mulOk hp.s3 (by omega) (by omega), ?_⟩
    rw [rr_D]
    exact w__law_formG (N := ceN (.grow p q g)) n4.s1 n4.s2 n4.s3 n4.s4 (by omega) f4 h
  | turn p w g =>
    obtain ⟨hp, hw, _⟩ := hc
    have eN : ceN (.turn p w g) = (⟨p.1 * p.2.2 * w.2, p.2.1 * p.2.2 * w.2⟩, ⟨w.1 * p.2.2 * p.2.2 - (p.1 * p.1 + p.2.1 * p.2.1) * w.2, 0⟩, ⟨p.2.2 * p.2.2 * w.2, 0⟩, ⟨0 - p.1 * p.2.2 * w.2, p.2.1 * p.2.2 * w.2⟩) := by
      unfold ceN zG rG io Gi.nm Gi.cj
      simp only [Prod.mk.injEq]
      refine ⟨Gi.ext' ?_ ?_, Gi.ext' ?_ rfl, Gi.ext' ?_ rfl, Gi.ext' ?_ ?_⟩
      · simp only [Gi.mul_re, Gi.mul_im]; grind
      · simp only [Gi.mul_re, Gi.mul_im]; grind
      · simp only; grind
      · show w.2 * p.2.2 * p.2.2 = p.2.2 * p.2.2 * w.2; grind
      · simp only [Gi.mul_re, Gi.mul_im, Gi.neg_re]; grind
      · simp only [Gi.mul_re, Gi.mul_im, Gi.neg_im]; grind
    rw [eN] at n4 f4 h
    have sn : Sz (2 * n + 1) (p.1 * p.1 + p.2.1 * p.2.1) := ((hp.s1.mul hp.s1).add (hp.s2.mul hp.s2)).mono (by omega)
    rw [cD]
    walk_at "wc"
    refine ⟨hw.s1.mulOk hp.s3 (by omega) (by omega), (hw.s1.mul hp.s3).mulOk hp.s3 (by omega) (by omega), hp.s1.mulOk hp.s1 (by omega) (by omega), hp.s2.mulOk hp.s2 (by omega) (by omega), sn.mulOk hw.s2 (by omega) (by omega), hp.s1.mulOk hp.s3 (by omega) (by omega), (hp.s1.mul hp.s3).mulOk hw.s2 (by omega) (by omega), hp.s2.mulOk hp.s3 (by omega) (by omega), (hp.s2.mul hp.s3).mulOk hw.s2 (by omega) (by omega), hp.s3.mulOk hp.s3 (by omega) (by omega), (hp.s3.mul hp.s3).mulOk hw.s2 (by omega) (by omega), hp.s1.mulOk hp.s3 (by omega) (by omega), (hp.s1.mul hp.s3).mulOk hw.s2 (by omega) (by omega), hp.s2.mulOk hp.s3 (by omega) (by omega), (hp.s2.mul hp.s3).mulOk hw.s2 (by omega) (by omega), ?_⟩
    exact w__law_formG (N := (⟨p.1 * p.2.2 * w.2, p.2.1 * p.2.2 * w.2⟩, ⟨w.1 * p.2.2 * p.2.2 - (p.1 * p.1 + p.2.1 * p.2.1) * w.2, 0⟩, ⟨p.2.2 * p.2.2 * w.2, 0⟩, ⟨0 - p.1 * p.2.2 * w.2, p.2.1 * p.2.2 * w.2⟩)) n4.s1 n4.s2 n4.s3 n4.s4 (by omega) f4 h
theorem lway_loop {F : dEnds} {n : Nat} : ∀ (cs done : List Ce) (i : Nat) (m : G4) (A0 A2 : Option SV) (T : Tk), (∀ c ∈ cs, CeOk n c) → n ≤ 200 → Mq i (arF done) m → (∃ c, c ≠ 0 ∧ arN done = scl c m) → i + cs.length * (6 * n + 14) ≤ 1900 →
    (∀ x m', Fm (i + cs.length * (6 * n + 14)) (arN (done ++ cs)) m' → F.nx [A0, some (.val (mD (arF (done ++ cs)) m')), x] T) →
    forL (gN 2) (sAsg (dCall 2 sm__law_joined (aCons (dVar 1) (aCons (dCall 1 sm__law_cell_map (aCons (dVar 2) (aNil))) (aNil)))) (gN 1)) F (cs.map cD) [A0, some (.val (mD (arF done) m)), A2] T
  | [], done, i, m, A0, A2, T, _, _, hm, hN, _, fin => by
    rw [List.map_nil]
    walk_at "wk"
    rw [List.append_nil] at fin
    exact fin _ m ⟨hm.mp, hN, hm.s1.mono (by simp), hm.s2.mono (by simp), hm.s3.mono (by simp), hm.s4.mono (by simp)⟩
  | c :: cs, done, i, m, A0, A2, T, hc, hn, hm, hN, hi, fin => by
    rw [List.map_cons]
    have h0 := hc c List.mem_cons_self
    have hl : (c :: cs).length * (6 * n + 14) = cs.length * (6 * n + 14) + (6 * n + 14) := by rw [List.length_cons, Nat.succ_mul]
    rw [forL_c]
    walk_at "wkn"
    refine w__law_cell_map h0 hn fun mc hmc => ?_
    walk_at "wkn"
    refine w__law_joinedN (ce_mq h0 hmc) hm hmc.c hN (by omega) fun x hx => ?_
    walk_at "wkn"
    have ea : arN (done ++ [c]) = Pr (ceF c) (ceN c) (arN done) := by rw [arN_app, (arN_one c).1, (arN_one c).2]
    have ef : arF (done ++ [c]) = (ceF c + arF done) % 2 := by rw [arF_app, (arN_one c).1]
    rw [← ea] at hx
    rw [← ef]
    have es : done ++ c :: cs = (done ++ [c]) ++ cs := by simp
    have dx : dtG (arN (done ++ [c])) ≠ 0 := by
      obtain ⟨d, d0, ed⟩ := hN
      rw [ea]
      refine dt_pr (ceN_dt h0) ?_
      rw [ed, dt_scl]
      exact Gi.mul_ne (Gi.mul_ne d0 d0) hm.dt
    refine lway_loop cs (done ++ [c]) _ x _ _ _ (fun c h => hc c (List.mem_cons_of_mem _ h)) hn (hx.mq (arF_fl _) dx) hx.c (by omega) fun y m' hm' => ?_
    rw [← es] at hm' ⊢
    exact fin y m' (hm'.mono (by omega))
theorem w__law_way {T : Tk} {n : Nat} {cs : List Ce} {k : KD} (hc : ∀ c ∈ cs, CeOk n c) (hn : n ≤ 200) (hl : 1 + cs.length * (6 * n + 14) ≤ 1900) (h : ∀ m, Fm (1 + cs.length * (6 * n + 14)) (arN cs) m → k (mD (arF cs) m) T) : sm__law_way [.val (.tup (cs.map cD))] T k := by
  rw [e__law_way, b__law_way]
  walk_at "wkn"
  rw [e__law_still, b__law_still]
  walk_at "wkn"
  refine ⟨by rw [List.length_map]; exact Nat.le_trans (Nat.le_mul_of_pos_right _ (show 0 < 6 * n + 14 by omega)) (by omega), ?_⟩
  rw [show D.tup [.int 0, .tup [.int 1, .int 0], .tup [.int 0, .int 0], .tup [.int 0, .int 0], .tup [.int 1, .int 0]] = mD (arF []) g1 from rfl]
  refine lway_loop cs [] 1 g1 _ _ _ hc hn Mq.g1 (along_self _) hl fun x m' hm' => ?_
  walk_at "wkn"
  exact h m' hm'

theorem w__law_quotientG {T : Tk} {n : Nat} {z w : Gi} {k : KD} (hz : Cz n (z.re, z.im)) (hw : Cz n (w.re, w.im)) (hn : n ≤ 4000) (nz : ¬(z = 0 ∧ w = 0)) (h : ∀ q : P3, HG (2 * n + 1) q z w → k (pD q) T) : sm__law_quotient [.val (gD z), .val (gD w)] T k := by
  rw [e__law_quotient, b__law_quotient]
  walk_at "wk"
  rw [dec_gi]
  have nz' : ¬(((z.re = 0 ∧ z.im = 0) ∧ (w.re = 0 ∧ w.im = 0))) := fun ⟨a, b⟩ => nz ⟨Gi.eq0.mp a, Gi.eq0.mp b⟩
  by_cases w0 : w = 0
  · refine iteB_p (by simp [w0]) ?_
    walk_at "wk"
    subst w0
    exact h (1, 0, 0) (HP.hg ⟨pt_far (by omega), by simp [Gi.zero_re, Gi.zero_im], by simp [Gi.zero_re, Gi.zero_im], nz'⟩)
  · refine iteB_n (by simp [w0]) ?_
    walk_at "wk"
    refine w__law_barG ?_
    walk_at "wk"
    refine w__law_timesG (b := w.cj) hz hw.conj (by omega) (by omega) ?_
    have e : gD (z * w.cj) = .tup [.int (z * w.cj).re, .int (z * w.cj).im] := rfl
    rw [e]
    walk_at "wk"
    refine w__law_normG hw (by omega) ?_
    walk_at "wk"
    have np := Gi.nm_pos w0
    have sp : Sz (n + n + 1) (z * w.cj).re ∧ Sz (n + n + 1) (z * w.cj).im := hz.mul hw.conj
    have sn : Sz (n + n + 1) w.nm := hw.nrm
    refine w_thin3i (n := 2 * n + 1) np (sp.1.mono (by omega)) (sp.2.mono (by omega)) (sn.mono (by omega)) (by omega) fun q hq hg => h q (hg.tr nz ?_)
    show z * w.cj * w = z * io w.nm
    rw [nm_io]
    grind
open Classical in
/-- the form of a map -/
noncomputable def frm (N : G4) : G4 := if h : ∃ n m, Fm n N m then h.choose_spec.choose else N
theorem frm_eq {n : Nat} {N m : G4} (h : Fm n N m) : frm N = m := by
  have e : ∃ n m, Fm n N m := ⟨n, m, h⟩
  unfold frm
  rw [dif_pos e]
  exact e.choose_spec.choose_spec.uniq h
theorem Fm.frm {n : Nat} {N m : G4} (h : Fm n N m) : Fm n N (frm N) := by rw [frm_eq h]; exact h
/-- how large the map between stages is -/
def ts (n l : Nat) : Nat := 2 * (1 + l * (6 * n + 14)) + 2
local macro_rules | `(tactic| walk_at "wc") => `(tactic| (walk_at "wk"; repeat (simp only [st_cm, st_cg, st_ct, st_mc, st_mg, st_mt, st_gc, st_gm, st_gt, st_tc, st_tm, st_tg]; walk_at "wk")))
local macro_rules | `(tactic| walk_at "wc") => `(tactic| (walk_at "wk"; repeat (simp only [st_cm, st_cg, st_ct, st_mc, st_mg, st_mt, st_gc, st_gm, st_gt, st_tc, st_tm, st_tg]; walk_at "wk")))
theorem sz_le {n : Nat} {b a : Int} (h1 : -b ≤ a) (h2 : a ≤ b) (h : b.toNat < 2 ^ n) : Sz n a := by
  unfold Sz
  omega
theorem fr_ofS {q : F2} {x z : Int} (hx : 0 < x) (hz : 0 < z) (q2 : 0 < q.2) (e : q.1 * z = q.2 * x) : 0 < q.1 := by
  have : 0 < q.1 * z := by rw [e]; exact Int.mul_pos q2 hx
  rcases Int.lt_or_le 0 q.1 with o | o
  · exact o
  · have := Int.mul_nonpos_of_nonpos_of_nonneg o (Int.le_of_lt hz)
    omega
theorem sq_nnS (a : Int) : 0 ≤ a * a := by
  rcases Int.le_total 0 a with o | o
  · exact Int.mul_nonneg o o
  · exact Int.mul_nonneg_of_nonpos_of_nonpos o o
theorem w__law_spot {T : Tk} {w : Int} {n : Nat} {k : KD} (hT : TkS T) (w1 : 1 ≤ w) (w2 : w ≤ 1000000) (hn : w.toNat < 2 ^ n) (l : n ≤ 60) (h : ∀ p T', Nr n p → TkS T' → k (pD p) T') : sm__law_spot [.tank, .val (.int w)] T k := by
  rw [e__law_spot, b__law_spot]
  walk_at "wk"
  refine w__law_about (n := n) hT (by omega) w2 fun a T1 a0 a1 hT1 => ?_
  walk_at "wk"
  refine w__law_about (n := n) hT1 (by omega) w2 fun b T2 b0 b1 hT2 => ?_
  walk_at "wk"
  refine w__law_draw hT2 (by omega) (by omega) fun c T3 c0 c1 hT3 => ?_
  walk_at "wk"
  refine w_thin3i (n := n) (by omega) (sz_le a0 a1 hn) (sz_le b0 b1 hn) (sz_le (b := w) (by omega) (by omega) hn) (by omega) fun q hq _ => h q T3 hq hT3
theorem w__law_scale {T : Tk} {w : Int} {n : Nat} {k : KD} (hT : TkS T) (w1 : 1 ≤ w) (w2 : w ≤ 1000000) (hn : w.toNat < 2 ^ n) (l : n ≤ 60) (l2 : 2 ≤ n) (h : ∀ p T', Nr (2 * n + 1) p → p ≠ pZ → p ≠ pU → TkS T' → k (pD p) T') : sm__law_scale [.tank, .val (.int w)] T k := by
  rw [e__law_scale, b__law_scale]
  walk_at "wk"
  refine w__law_draw hT (by decide) (by decide) fun way T1 _ _ hT1 => ?_
  walk_at "wk"
  refine w__law_spot hT1 w1 w2 hn l fun p T2 hp hT2 => ?_
  walk_at "wk"
  have nl : ∀ {m : Nat}, 2 ≤ m → Nr m (2, 0, 1) ∧ Nr m (0, 1, 1) ∧ Nr m (-1, 0, 1) ∧ Nr m (1, 1, 2) ∧ Nr m (1, 0, 3) := fun {m} hm => by
    have g : ∀ a b c : Int, -3 ≤ a → a ≤ 3 → -3 ≤ b → b ≤ 3 → 0 < c → c ≤ 3 → gcdL 0 [a, b, c] = 1 → Nr m (a, b, c) := fun a b c a0 a1 b0 b1 c0 c1 e => by
      have s : ∀ i : Int, -3 ≤ i → i ≤ 3 → Sz m i := fun i i0 i1 => (sz_le (n := 2) i0 i1 (by decide)).mono hm
      exact ⟨⟨.inr c0, e, s a a0 a1, s b b0 b1, s c (by omega) c1⟩, c0⟩
    exact ⟨g _ _ _ (by decide) (by decide) (by decide) (by decide) (by decide) (by decide) (by decide), g _ _ _ (by decide) (by decide) (by decide) (by decide) (by decide) (by decide) (by decide), g _ _ _ (by decide) (by decide) (by decide) (by decide) (by decide) (by decide) (by decide), g _ _ _ (by decide) (by decide) (by decide) (by decide) (by decide) (by decide) (by decide), g _ _ _ (by decide) (by decide) (by decide) (by decide) (by decide) (by decide) (by decide)⟩
  have ones : ∀ x T3, x ∈ [D.tup [.int 2, .int 0, .int 1], D.tup [.int 0, .int 1, .int 1], D.tup [.int (-1), .int 0, .int 1], D.tup [.int 1, .int 1, .int 2], D.tup [.int 1, .int 0, .int 3]] → TkS T3 → k x T3 := fun x T3 hx hT3 => by
    obtain ⟨n1, n2, n3, n4, n5⟩ := nl (m := 2 * n + 1) (by omega)
    simp only [List.mem_cons, List.not_mem_nil, or_false] at hx
    rcases hx with rfl | rfl | rfl | rfl | rfl
    · exact h (2, 0, 1) T3 n1 (by decide) (by decide) hT3
    · exact h (0, 1, 1) T3 n2 (by decide) (by decide) hT3
    · exact h (-1, 0, 1) T3 n3 (by decide) (by decide) hT3
    · exact h (1, 1, 2) T3 n4 (by decide) (by decide) hT3
    · exact h (1, 0, 3) T3 n5 (by decide) (by decide) hT3
  by_cases w0 : way = 0
  · refine iteB_p (decide_eq_true w0) ?_
    subst w0
    walk_at "wk"
    refine iteB_of (fun c => ?_) (fun c => ?_)
    · walk_at "wk"
      refine w_thin3i (n := n) hp.pos (sz_le (n := n) (b := 2) (by decide) (by decide) (Nat.lt_of_lt_of_le (show Int.toNat 2 < 2 ^ 2 by decide) (Nat.pow_le_pow_right (by decide) l2))) sz_0 hp.s3 (by omega) fun q hq _ => ?_
      walk_at "wk"
      refine iteB_of (fun e => ?_) (fun e => ?_)
      · walk_at "wk"
        refine w__law_one_of hT2 (by simp) (by simp) fun x T3 hx hT3 => ?_
        exact ones x T3 hx hT3
      · walk_at "wk"
        exact h q T2 (hq.mono (by omega)) (fun z => by subst z; exact absurd e (by decide)) (fun z => by subst z; exact absurd e (by decide)) hT2
    · walk_at "wk"
      refine w_thin3i (n := n) hp.pos hp.s1 sz_0 hp.s3 (by omega) fun q hq _ => ?_
      walk_at "wk"
      refine iteB_of (fun e => ?_) (fun e => ?_)
      · walk_at "wk"
        refine w__law_one_of hT2 (by simp) (by simp) fun x T3 hx hT3 => ?_
        exact ones x T3 hx hT3
      · walk_at "wk"
        exact h q T2 (hq.mono (by omega)) (fun z => by subst z; exact absurd e (by decide)) (fun z => by subst z; exact absurd e (by decide)) hT2
  · refine iteB_n (decide_eq_false w0) ?_
    walk_at "wk"
    by_cases w1 : way = 1
    · subst w1
      walk_at "wk"
      refine iteB_of (fun c => ?_) (fun c => ?_)
      · walk_at "wk"
        walk_at "wk"
        refine iteB_of (fun e => ?_) (fun e => ?_)
        · walk_at "wk"
          refine w__law_one_of hT2 (by simp) (by simp) fun x T3 hx hT3 => ?_
          exact ones x T3 hx hT3
        · walk_at "wk"
          exact h p T2 (hp.mono (by omega)) (fun z => by subst z; exact absurd e (by decide)) (fun z => by subst z; exact absurd e (by decide)) hT2
      · walk_at "wk"
        have nz : zG p ≠ 0 := fun z => by
          have h1 := congrArg Gi.re z
          have h2 := congrArg Gi.im z
          unfold zG at h1 h2
          simp only [Gi.zero_re, Gi.zero_im] at h1 h2
          rw [h1, h2] at c
          exact absurd c (by decide)
        rw [show D.tup [.int p.1, .int (0 - p.2.1)] = gD (zG p).cj by rw [Int.zero_sub]; rfl]
        refine w__law_quotientG (n := n) (z := zG p) (w := (zG p).cj) (cz_zG hp.toPt) (cz_zG hp.toPt).conj (by omega) (fun z => nz z.1) fun q hg => ?_
        have hq := hg.near (Gi.cj_ne nz)
        walk_at "wk"
        refine iteB_of (fun e => ?_) (fun e => ?_)
        · walk_at "wk"
          refine w__law_one_of hT2 (by simp) (by simp) fun x T3 hx hT3 => ?_
          exact ones x T3 hx hT3
        · walk_at "wk"
          exact h q T2 hq (fun z => by subst z; exact absurd e (by decide)) (fun z => by subst z; exact absurd e (by decide)) hT2
    · rw [decide_eq_false w1]
      walk_at "wk"
      refine iteB_of (fun e => ?_) (fun e => ?_)
      · walk_at "wk"
        refine w__law_one_of hT2 (by simp) (by simp) fun x T3 hx hT3 => ?_
        exact ones x T3 hx hT3
      · walk_at "wk"
        exact h p T2 (hp.mono (by omega)) (fun z => by subst z; exact absurd e (by decide)) (fun z => by subst z; exact absurd e (by decide)) hT2
theorem w__law_spanS {T : Tk} {k : KD} (hT : TkS T) (h : ∀ g T', Rg 10 g → TkS T' → k (rgD g) T') : sm__law_span [.tank] T k := by
  rw [e__law_span, b__law_span]
  walk_at "wk"
  refine w__law_draw hT (by decide) (by decide) fun a T1 a0 a1 hT1 => ?_
  walk_at "wk"
  refine w__law_draw hT1 (by decide) (by decide) fun b T2 b0 b1 hT2 => ?_
  walk_at "wk"
  refine w_thin2i (n := 9) (by omega) (by unfold Sz; omega) (by unfold Sz; omega) (by decide) fun x x2 xone xs1 xs2 xe => ?_
  have x1 : 0 < x.1 := fr_ofS (by omega) (by omega) x2 xe
  walk_at "wk"
  refine w__law_draw hT2 (by decide) (by decide) fun c T3 c0 c1 hT3 => ?_
  walk_at "wk"
  refine w__law_draw hT3 (by decide) (by decide) fun d T4 d0 d1 hT4 => ?_
  walk_at "wk"
  refine w_thin2i (n := 9) (by omega) (by unfold Sz; omega) (by unfold Sz; omega) (by decide) fun y y2 yone ys1 ys2 ye => ?_
  have y1 : 0 < y.1 := fr_ofS (by omega) (by omega) y2 ye
  walk_at "wk"
  have fx : Fr2 10 x := ⟨x1, x2, xone, xs1.mono (by decide), xs2.mono (by decide)⟩
  have fy : Fr2 10 y := ⟨y1, y2, yone, ys1.mono (by decide), ys2.mono (by decide)⟩
  refine iteB_of (fun e => ?_) (fun e => ?_)
  · walk_at "wk"
    refine h (x, (x.1 + x.2, x.2)) T4 ⟨fx, ⟨by simp only; omega, x2, ?_, (xs1.add xs2).mono (by decide), fx.s2⟩, ?_⟩ hT4
    · have o := xone
      obtain ⟨a, b⟩ := x
      simp only at o x1 x2 ⊢
      obtain ⟨a, rfl⟩ := Int.eq_ofNat_of_zero_le (Int.le_of_lt x1)
      obtain ⟨b, rfl⟩ := Int.eq_ofNat_of_zero_le (Int.le_of_lt x2)
      unfold gcdL gcdL gcdL iGcd at o ⊢
      simp only [Int.natAbs_zero, Nat.gcd_zero_left, Int.natAbs_natCast] at o ⊢
      rw [← Int.natCast_add, Int.natAbs_natCast, Nat.gcd_add_self_left]
      exact o
    · show x.1 * x.2 < (x.1 + x.2) * x.2
      rw [Int.add_mul]
      have := Int.mul_pos x2 x2
      omega
  · walk_at "wk"
    refine ⟨xs1.mulOk ys2 (by decide) (by decide), ys1.mulOk xs2 (by decide) (by decide), ?_⟩
    refine iteB_of (fun c => ?_) (fun c => ?_)
    · walk_at "wk"
      exact h (x, y) T4 ⟨fx, fy, by simpa using c⟩ hT4
    · walk_at "wk"
      refine h (y, x) T4 ⟨fy, fx, ?_⟩ hT4
      have c : ¬ x.1 * y.2 < y.1 * x.2 := by simpa using c
      show y.1 * x.2 < x.1 * y.2
      rcases Int.lt_or_eq_of_le (Int.not_lt.mp c) with o | o
      · exact o
      · exfalso
        have u := gcd_uniq (c := y.2) (d := x.2) y2 x2 xone yone (by simp only [List.map_cons, List.map_nil]; rw [Int.mul_comm y.2 x.1, ← o, Int.mul_comm y.1, Int.mul_comm y.2])
        simp only [List.cons.injEq, and_true] at u
        rw [decide_eq_true u.1, decide_eq_true u.2] at e
        exact absurd e (by decide)
theorem up_loop {F : dEnds} {T : Tk} {ms : List Int} (hl : ms.length ≤ 100) : ∀ (ns : List Int) (c1 c2 : Option SV), (0 < fnz ns → F.rt (.tup (ms.map D.int)) T) → (fnz ns < 0 → F.rt (.tup ((ms.map fun x => 0 - x).map D.int)) T) → fnz ns ≠ 0 →
    forL (gN 1) (sIf (dTst (dOp (oF fNe) (dVar 1) (dC (.int 0)))) (sRet (dIf (dTst (dOp (oF fGt) (dVar 1) (dC (.int 0)))) (dBlt (oG fTuple) (aCons (dVar 0) (aNil))) (dBlt (oG fTuple) (aCons (dLc [2] (iQ (dVar 0)) (cN 2) dYes (dOp (oF fSub) (dC (.int 0)) (dVar 2))) (aNil))))) ((fun k ρ T => k.nx ρ T))) F (ns.map D.int) [some (.val (.tup (ms.map D.int))), c1, c2] T
  | [], c1, c2, _, _, h0 => absurd rfl h0
  | n :: ns, c1, c2, h1, h2, h0 => by
    rw [List.map_cons, forL_c]
    walk_at "wkn"
    unfold fnz at h1 h2 h0
    by_cases z : n = 0
    · rw [if_pos z] at h1 h2 h0
      refine iteB_p (decide_eq_true z) ?_
      exact up_loop hl ns _ _ h1 h2 h0
    · rw [if_neg z] at h1 h2 h0
      refine iteB_n (decide_eq_false z) ?_
      walk_at "wkn"
      by_cases p : 0 < n
      · refine iteB_p (decide_eq_true p) ?_
        walk_at "wkn"
        exact h1 p
      · refine iteB_n (decide_eq_false p) ?_
        walk_at "wkn"
        refine ⟨by rw [List.length_map]; omega, ?_⟩
        refine lc_map (fi := D.int) (fo := fun x => D.int (0 - x)) ms [] T (fun x _ => ⟨_, rfl, fun T k hk => ?_⟩) ?_
        · walk_at "wk"
          exact hk
        · walk_at "wkn"
          have e := h2 (by omega)
          rw [List.map_map] at e
          exact e
theorem w__law_upright4 {T : Tk} {n : Nat} {r : R4} {k : KD} (hr : Rw n r) (h : ∀ r' g, g ≠ 0 → r = mulR g r' → Rd n r' → k (rD r') T) : sm__law_upright [.val (rD r)] T k := by
  rw [e__law_upright, b__law_upright]
  walk_at "wkn"
  have f0 := hr.fnz_ne
  refine up_loop (ms := [r.1, r.2.1, r.2.2.1, r.2.2.2]) (by simp) [r.1, r.2.1, r.2.2.1, r.2.2.2] _ _ (fun p => ?_) (fun p => ?_) f0
  · exact h r 1 (by decide) (by unfold mulR; simp only [Int.one_mul]) ⟨hr, p⟩
  · refine h (0 - r.1, 0 - r.2.1, 0 - r.2.2.1, 0 - r.2.2.2) (-1) (by decide) (by unfold mulR; simp only [Int.zero_sub, Int.neg_mul, Int.one_mul, Int.neg_neg]) ⟨hr.neg, ?_⟩
    have e := fnz_neg [r.1, r.2.1, r.2.2.1, r.2.2.2]
    simp only [List.map_cons, List.map_nil] at e
    simp only
    rw [e]
    omega
def lowR (a b c d : Int) : R4 := (a / gcdL 0 [a, b, c, d], b / gcdL 0 [a, b, c, d], c / gcdL 0 [a, b, c, d], d / gcdL 0 [a, b, c, d])
theorem lowL4 {a b c d : Int} : D.tup ((lowL [a, b, c, d]).map D.int) = rD (lowR a b c d) := rfl
theorem stroke_low {n : Nat} {a b c : Int} (sa : Sz n a) (sb : Sz n b) (sc : Sz n c) (l : n ≤ 60) (nz : ¬(a = 0 ∧ b = 0)) : (∃ x ∈ [0, a, b, c], x ≠ 0 ∧ Sz 9000 x) ∧ Rw n (lowR 0 a b c) ∧ (lowR 0 a b c).1 = 0 := by
  have bp : 0 < bnd (0, a, b, c) := by
    unfold bnd
    simp only
    have ha := sq_nnS a
    have hb := sq_nnS b
    rcases Decidable.em (a = 0) with z | z
    · have z2 : b ≠ 0 := fun e => nz ⟨z, e⟩
      have := imul_self_pos z2
      omega
    · have := imul_self_pos z
      omega
  obtain ⟨g0, e1, e2, e3, e4, hw⟩ := low_row bp sz_0 sa sb sc
  refine ⟨?_, hw, ?_⟩
  · rcases Decidable.em (a = 0) with z | z
    · exact ⟨b, by simp, fun e => nz ⟨z, e⟩, sb.mono (by omega)⟩
    · exact ⟨a, by simp, z, sa.mono (by omega)⟩
  · unfold lowR
    simp only [Int.zero_ediv]
theorem w__law_stroke {T : Tk} {w : Int} {n : Nat} {k : KD} (hT : TkS T) (w1 : 1 ≤ w) (w2 : w ≤ 1000000) (hn : w.toNat < 2 ^ n) (l : n ≤ 60) (l1 : 1 ≤ n) (h : ∀ r T', Rd n r → r.1 = 0 → TkS T' → k (rD r) T') : sm__law_stroke [.tank, .val (.int w)] T k := by
  rw [e__law_stroke, b__law_stroke]
  walk_at "wk"
  refine w__law_about (n := n) hT (by omega) w2 fun a T1 a0 a1 hT1 => ?_
  walk_at "wk"
  refine w__law_about (n := n) hT1 (by omega) w2 fun b T2 b0 b1 hT2 => ?_
  walk_at "wk"
  refine iteB_of (fun e => ?_) (fun e => ?_)
  · walk_at "wk"
    refine w__law_one_of hT2 (by simp) (by simp) fun x T3 hx hT3 => ?_
    have s1 : ∀ i : Int, -1 ≤ i → i ≤ 1 → Sz n i := fun i i0 i1 => (sz_le (n := 1) i0 i1 (by decide)).mono l1
    simp only [List.mem_cons, List.not_mem_nil, or_false] at hx
    rcases hx with rfl | rfl | rfl
    · walk_at "wk"
      refine w__law_about (n := n) hT3 (by omega) w2 fun c T3 c0 c1 hT3 => ?_
      obtain ⟨⟨x, x1, x2, x3⟩, hw, z0⟩ := stroke_low (s1 1 (by decide) (by decide)) (s1 0 (by decide) (by decide)) (sz_le c0 c1 hn) l (by decide)
      walk_at "wk"
      refine w__law_thin (ns := [0, 1, 0, c]) (by simp) x1 x2 x3 ?_
      rw [lowL4]
      walk_at "wkn"
      refine w__law_upright4 (r := lowR 0 1 0 c) hw fun r' g g0 e hr' => ?_
      exact h r' T3 hr' (by have e1 := congrArg Prod.fst e; rw [z0] at e1; exact (Int.mul_eq_zero.mp e1.symm).resolve_left g0) hT3
    · walk_at "wk"
      refine w__law_about (n := n) hT3 (by omega) w2 fun c T3 c0 c1 hT3 => ?_
      obtain ⟨⟨x, x1, x2, x3⟩, hw, z0⟩ := stroke_low (s1 0 (by decide) (by decide)) (s1 1 (by decide) (by decide)) (sz_le c0 c1 hn) l (by decide)
      walk_at "wk"
      refine w__law_thin (ns := [0, 0, 1, c]) (by simp) x1 x2 x3 ?_
      rw [lowL4]
      walk_at "wkn"
      refine w__law_upright4 (r := lowR 0 0 1 c) hw fun r' g g0 e hr' => ?_
      exact h r' T3 hr' (by have e1 := congrArg Prod.fst e; rw [z0] at e1; exact (Int.mul_eq_zero.mp e1.symm).resolve_left g0) hT3
    · walk_at "wk"
      refine w__law_about (n := n) hT3 (by omega) w2 fun c T3 c0 c1 hT3 => ?_
      obtain ⟨⟨x, x1, x2, x3⟩, hw, z0⟩ := stroke_low (s1 1 (by decide) (by decide)) (s1 (-1) (by decide) (by decide)) (sz_le c0 c1 hn) l (by decide)
      walk_at "wk"
      refine w__law_thin (ns := [0, 1, (-1), c]) (by simp) x1 x2 x3 ?_
      rw [lowL4]
      walk_at "wkn"
      refine w__law_upright4 (r := lowR 0 1 (-1) c) hw fun r' g g0 e hr' => ?_
      exact h r' T3 hr' (by have e1 := congrArg Prod.fst e; rw [z0] at e1; exact (Int.mul_eq_zero.mp e1.symm).resolve_left g0) hT3
  · walk_at "wk"
    have nz : ¬(a = 0 ∧ b = 0) := fun ⟨z1, z2⟩ => by
      rw [z1, z2] at e
      exact absurd e (by decide)
    refine w__law_about (n := n) hT2 (by omega) w2 fun c T3 c0 c1 hT3 => ?_
    obtain ⟨⟨x, x1, x2, x3⟩, hw, z0⟩ := stroke_low (sz_le a0 a1 hn) (sz_le b0 b1 hn) (sz_le c0 c1 hn) l nz
    walk_at "wk"
    refine w__law_thin (ns := [0, a, b, c]) (by simp) x1 x2 x3 ?_
    rw [lowL4]
    walk_at "wkn"
    refine w__law_upright4 (r := lowR 0 a b c) hw fun r' g g0 e hr' => ?_
    exact h r' T3 hr' (by have e1 := congrArg Prod.fst e; rw [z0] at e1; exact (Int.mul_eq_zero.mp e1.symm).resolve_left g0) hT3
theorem w__law_power {T : Tk} {w : Int} {n : Nat} {k : KD} (hT : TkS T) (w1 : 1 ≤ w) (w2 : w ≤ 1000000) (hn : w.toNat < 2 ^ n) (l : n ≤ 60) (l1 : 3 ≤ n) (h : ∀ q T', Pw n q → TkS T' → k (fD q) T') : sm__law_power [.tank, .val (.int w)] T k := by
  have fin : ∀ a b T, Sz n a → a ≠ 0 → 0 ≤ b → b < w → TkS T → sm__law_thin [.val (.lst [.int a, .int (1 + b)])] T k := fun a b T sa a0 b0 b1 hT => by
    refine w_thin2i (n := n) (by omega) sa (sz_le (b := w) (by omega) (by omega) hn) (by omega) fun q q2 qone qs1 qs2 qe => h q T ⟨fun z => ?_, q2, qone, qs1, qs2⟩ hT
    rw [z, Int.zero_mul] at qe
    rcases Int.mul_eq_zero.mp qe.symm with o | o
    · omega
    · exact a0 o
  have lp : (4 : Int).toNat < 2 ^ n := Nat.lt_of_lt_of_le (show (4 : Int).toNat < 2 ^ 3 by decide) (Nat.pow_le_pow_right (by decide) l1)
  rw [e__law_power, b__law_power]
  walk_at "wk"
  refine w__law_about (n := n) hT (by omega) w2 fun a T1 a0 a1 hT1 => ?_
  walk_at "wk"
  refine iteB_of (fun e => ?_) (fun e => ?_)
  · walk_at "wk"
    refine w__law_draw hT1 (by decide) (by decide) fun c T2 c0 c1 hT2 => ?_
    walk_at "wk"
    refine w__law_draw hT2 (by omega) (by omega) fun d T3 d0 d1 hT3 => ?_
    walk_at "wk"
    exact fin _ _ _ (sz_le (b := 4) (by omega) (by omega) lp) (by omega) d0 d1 hT3
  · walk_at "wk"
    refine w__law_draw hT1 (by omega) (by omega) fun d T3 d0 d1 hT3 => ?_
    walk_at "wk"
    exact fin _ _ _ (sz_le a0 a1 hn) (by simpa using e) d0 d1 hT3

local macro_rules | `(tactic| walk_at "wc") => `(tactic| (walk_at "wk"; repeat (simp only [st_cm, st_cg, st_ct, st_mc, st_mg, st_mt, st_gc, st_gm, st_gt, st_tc, st_tm, st_tg]; walk_at "wk")))
local macro_rules | `(tactic| walk_at "wc") => `(tactic| (walk_at "wk"; repeat (simp only [st_cm, st_cg, st_ct, st_mc, st_mg, st_mt, st_gc, st_gm, st_gt, st_tc, st_tm, st_tg]; walk_at "wk")))
theorem gi_cz9 {a : Gi} (h : Cz 9 (a.re, a.im)) : Nz 20 a := nz_of h.1 h.2
theorem nz_zero {n : Nat} : Nz n 0 := by unfold Nz; rw [Gi.nm_of_zero]; exact Int.pow_pos (by decide)
theorem w__law_pair {T : Tk} {w : Int} {k : KD} (hT : TkS T) (w1 : 1 ≤ w) (w2 : w ≤ 400) (h : ∀ (a : Gi) T', a ≠ 0 → Cz 9 (a.re, a.im) → TkS T' → k (gD a) T') : sm__law_pair [.tank, .val (.int w)] T k := by
  have hn : w.toNat < 2 ^ 9 := by omega
  rw [e__law_pair, b__law_pair]
  walk_at "wk"
  refine w__law_about (n := 9) hT (by omega) (by omega) fun a T1 a0 a1 hT1 => ?_
  walk_at "wk"
  refine w__law_about (n := 9) hT1 (by omega) (by omega) fun b T2 b0 b1 hT2 => ?_
  walk_at "wk"
  refine iteB_of (fun e => ?_) (fun e => ?_)
  · walk_at "wk"
    refine w__law_one_of hT2 (by simp) (by simp) fun x T3 hx hT3 => ?_
    have s1 : ∀ i : Int, -2 ≤ i → i ≤ 2 → Sz 9 i := fun i i0 i1 => (sz_le (n := 2) i0 i1 (by decide)).mono (by decide)
    simp only [List.mem_cons, List.not_mem_nil, or_false] at hx
    rcases hx with rfl | rfl | rfl
    · exact h ⟨1, 0⟩ T3 (by decide) ⟨s1 _ (by decide) (by decide), s1 _ (by decide) (by decide)⟩ hT3
    · exact h ⟨0, 1⟩ T3 (by decide) ⟨s1 _ (by decide) (by decide), s1 _ (by decide) (by decide)⟩ hT3
    · exact h ⟨1, -2⟩ T3 (by decide) ⟨s1 _ (by decide) (by decide), s1 _ (by decide) (by decide)⟩ hT3
  · walk_at "wk"
    refine h ⟨a, b⟩ T2 (fun z => ?_) ⟨sz_le a0 a1 hn, sz_le b0 b1 hn⟩ hT2
    have z1 := congrArg Gi.re z
    have z2 := congrArg Gi.im z
    simp only [Gi.zero_re, Gi.zero_im] at z1 z2
    rw [z1, z2] at e
    exact absurd e (by decide)
theorem isq_nonneg (n : Int) : 0 ≤ isq n := Int.natCast_nonneg _
theorem isq_spec {n : Int} (h : 0 ≤ n) : isq n * isq n ≤ n ∧ n < (isq n + 1) * (isq n + 1) := by
  obtain ⟨m, rfl⟩ := Int.eq_ofNat_of_zero_le h
  have := Float64.isqrt_spec m
  unfold isq
  rw [Int.toNat_natCast]
  generalize Float64.isqrt m = r at *
  constructor
  · exact_mod_cast this.1
  · exact_mod_cast this.2
theorem sq_le_of {a b : Int} (ha : 0 ≤ a) (hb : 0 ≤ b) (h : a * a < (b + 1) * (b + 1)) : a ≤ b := by
  rcases Int.lt_or_le b a with q | q
  · have h1 : b + 1 ≤ a := by omega
    have := Int.mul_le_mul h1 h1 (by omega) ha
    omega
  · exact q
theorem isq_of {n r : Int} (h0 : 0 ≤ r) (h1 : r * r ≤ n) (h2 : n < (r + 1) * (r + 1)) : isq n = r := by
  have hn : 0 ≤ n := Int.le_trans (mul_self_nonneg' r) h1
  obtain ⟨a, b⟩ := isq_spec hn
  have := sq_le_of h0 (isq_nonneg n) (Int.lt_of_le_of_lt h1 b)
  have := sq_le_of (isq_nonneg n) h0 (Int.lt_of_le_of_lt a h2)
  omega
theorem isq_sq {m : Int} (h : 0 ≤ m) : isq (m * m) = m := isq_of h (Int.le_refl _) (by grind)
theorem isq_le {n : Int} (h : 0 ≤ n) : isq n ≤ n := by
  obtain ⟨a, _⟩ := isq_spec h
  have h0 := isq_nonneg n
  rcases Int.lt_or_le (isq n) 1 with q | q
  · omega
  · have := Int.mul_le_mul_of_nonneg_left q h0
    omega
theorem isq_sz {m : Nat} {n : Int} (h : 0 ≤ n) (q : Sz m n) : Sz m (isq n) := by
  have := isq_le h
  have := isq_nonneg n
  unfold Sz at *
  omega
/-! kinds and kept places of plain maps -/
def trG (m : G4) : Gi := m.1 + m.2.2.2
/-- a plain map keeps the place -/
def Kpt (m : G4) (q : P3) : Prop := zG q * apw m (zG q) (rG q) = rG q * apz m (zG q) (rG q)
theorem Kpt.scl {c : Gi} {m : G4} {q : P3} (c0 : c ≠ 0) : Kpt (scl c m) q ↔ Kpt m q := by
  unfold Kpt
  obtain ⟨e1, e2⟩ := ap_scl c m (zG q) (rG q)
  rw [e1, e2]
  clear e1 e2
  generalize apw m (zG q) (rG q) = x
  generalize apz m (zG q) (rG q) = y
  generalize zG q = z
  generalize rG q = r
  clear q m
  constructor
  · intro h
    refine Gi.cancel c0 ?_
    grind
  · intro h
    grind
theorem nz_half {k : Nat} {a : Gi} (h : Nz (2 * k) a) : Cz k (a.re, a.im) := by
  have key : ∀ x y : Int, x * x + y * y < 2 ^ (2 * k) → Sz k x := fun x y q => by
    unfold Sz
    refine Nat.lt_of_not_le fun c => ?_
    have e1 : x * x = ((x.natAbs * x.natAbs : Nat) : Int) := by rw [Int.natAbs_mul_self]
    have e2 : 2 ^ k * 2 ^ k ≤ x.natAbs * x.natAbs := Nat.mul_le_mul c c
    have e3 : (2 : Nat) ^ (2 * k) = 2 ^ k * 2 ^ k := by rw [Nat.two_mul, Nat.pow_add]
    have e4 : 0 ≤ y * y := by
      rcases Int.le_total 0 y with o | o
      · exact Int.mul_nonneg o o
      · exact Int.mul_nonneg_of_nonpos_of_nonpos o o
    have e5 : ((2 : Int) ^ (2 * k)) = ((2 ^ (2 * k) : Nat) : Int) := by push_cast; rfl
    rw [e5, e3] at q
    omega
  unfold Nz Gi.nm at h
  show Sz k a.re ∧ Sz k a.im
  exact ⟨key a.re a.im h, key a.im a.re (by omega)⟩
theorem g4_dc {a b c d : Gi} {m : G4} : (decide (m.1 = a) && (decide (m.2.1 = b) && (decide (m.2.2.1 = c) && decide (m.2.2.2 = d)))) = decide (m = (a, b, c, d)) := by
  obtain ⟨m1, m2, m3, m4⟩ := m
  simp only [Prod.mk.injEq, Bool.decide_and]
theorem g1_dc {m : G4} : (decide (m.1.re = 1) && decide (m.1.im = 0) && (decide (m.2.1.re = 0) && decide (m.2.1.im = 0) && (decide (m.2.2.1.re = 0) && decide (m.2.2.1.im = 0) && (decide (m.2.2.2.re = 1) && decide (m.2.2.2.im = 0))))) = decide (m = g1) := by
  have one : ∀ a : Gi, (decide (a.re = 1) && decide (a.im = 0)) = decide (a = 1) := fun a => by
    rw [← Bool.decide_and]
    exact decide_eq_decide.mpr ⟨fun ⟨x, y⟩ => Gi.ext' x y, fun e => by rw [e]; exact ⟨rfl, rfl⟩⟩
  rw [one, one, dec_gi, dec_gi]
  exact g4_dc
theorem w_qpG {T : Tk} {n : Nat} {z w : Gi} {k : KD} (hz : Cz n (z.re, z.im)) (hw : Cz n (w.re, w.im)) (hn : n ≤ 4000) (nz : ¬(z = 0 ∧ w = 0)) (h : ∀ q : P3, HG (2 * n + 1) q z w → k (pD q) T) : sm_quotient_place [.val (gD z), .val (gD w)] T k :=
  w_quotient_hp (z := (z.re, z.im)) (w := (w.re, w.im)) hz hw hn (fun ⟨a, b⟩ => nz ⟨Gi.eq0.mp a, Gi.eq0.mp b⟩) fun q hq => h q (HP.hg hq)
theorem w_trace {T : Tk} {f : Int} {m : G4} {k : KD} (h : k (gD (trG m)) T) : sm_trace [.val (mD f m)] T k := by
  rw [e_trace, b_trace]
  walk_at "wk"
  exact w_plusG h
theorem w_trace_place {T : Tk} {n : Nat} {m : G4} {f : Int} {k : KD} (hm : Mq n f m) (hn : n ≤ 900) (h : ∀ q, HG (2 * n + 9) q (trG m * trG m) (dtG m) → k (pD q) T) : sm_trace_place [.val (mD f m)] T k := by
  rw [e_trace_place, b_trace_place]
  walk_at "wk"
  refine w_trace ?_
  walk_at "wk"
  refine w_trace ?_
  walk_at "wk"
  have st : Nz (n + 2) (trG m) := hm.s1.add hm.s4
  have s2 : Nz (2 * (n + 2)) (trG m * trG m) := (st.mul st).mono (by omega)
  have sd : Nz (2 * (n + 2)) (dtG m) := by
    have e : dtG m = m.1 * m.2.2.2 + -(m.2.1 * m.2.2.1) := by unfold dtG; grind
    rw [e]
    exact (Nz.add (hm.s1.mul hm.s4) (hm.s2.mul hm.s3).neg).mono (by omega)
  refine w_timesG st.cz st.cz (by omega) (by omega) ?_
  walk_at "wk"
  refine w_determinant hm.s1 hm.s2 hm.s3 hm.s4 (by omega) ?_
  walk_at "wk"
  exact w_qpG (nz_half s2) (nz_half sd) (by omega) (fun z => hm.dt z.2) fun q hq => h q ⟨hq.pt.mono (by omega), hq.e, hq.nz⟩
abbrev l3 (q : P3) : List Int := [q.1, q.2.1, q.2.2]
theorem w_lowest3i {T : Tk} {n : Nat} {x y z : Int} {k : KD} (hz : 0 < z) (s1 : Sz n x) (s2 : Sz n y) (s3 : Sz n z) (hn : n ≤ 9000) (h : ∀ q : P3, Nr n q → HG n q ⟨x, y⟩ (io z) → k (pD q) T) : sm_lowest [.val (.tup [.int x, .int y, .int z])] T k := by
  have z0 := rne' hz
  refine w_lowest (ns := [x, y, z]) (by simp) (n := z) (by simp) (by omega) (s3.mono hn) ?_
  have hq := plq_low (u := (x : Rat) / (z : Rat)) (v := (y : Rat) / (z : Rat)) hz s1 s2 s3 (by generalize (z : Rat) = Z at *; grind) (by generalize (z : Rat) = Z at *; grind)
  refine h (x / gcdL 0 [x, y, z], y / gcdL 0 [x, y, z], z / gcdL 0 [x, y, z]) hq.nr ⟨hq.pt, ?_, fun ⟨_, e⟩ => by have := congrArg Gi.re e; unfold io at this; simp only [Gi.zero_re] at this; omega⟩
  obtain ⟨e1, e2, e3⟩ := plq_cast hq
  generalize (x / gcdL 0 [x, y, z], y / gcdL 0 [x, y, z], z / gcdL 0 [x, y, z]) = q at *
  have i1 : q.1 * z = q.2.2 * x := cast_inj (by push_cast; rw [e1]; generalize (z : Rat) = Z at *; grind)
  have i2 : q.2.1 * z = q.2.2 * y := cast_inj (by push_cast; rw [e2]; generalize (z : Rat) = Z at *; grind)
  unfold zG rG io
  refine Gi.ext' ?_ ?_
  · simp only [Gi.mul_re]; omega
  · simp only [Gi.mul_im]; omega
theorem w_size_of {T : Tk} {n : Nat} {q : P3} {k : KD} (hq : Nr n q) (hn : n ≤ 4000) (h : ∀ t, Nr (2 * n + 1) t → HG (2 * n + 1) t ⟨q.1 * q.1 + q.2.1 * q.2.1, 0⟩ (io (q.2.2 * q.2.2)) → k (pD t) T) : sm_size_of [.val (pD q)] T k := by
  rw [e_size_of, b_size_of]
  walk_at "wk"
  refine w_square_size (a := q.1) (b := q.2.1) ((show Cz n (q.1, q.2.1) from ⟨hq.s1, hq.s2⟩).mono (by omega)) ?_
  rw [show cnrm (q.1, q.2.1) = q.1 * q.1 + q.2.1 * q.2.1 from rfl]
  walk_at "wk"
  refine ⟨hq.s3.mulOk hq.s3 (by omega) (by omega), ?_⟩
  exact w_lowest3i (n := 2 * n + 1) (Int.mul_pos hq.pos hq.pos) (((hq.s1.mul hq.s1).add (hq.s2.mul hq.s2)).mono (by omega)) sz_0 ((hq.s3.mul hq.s3).mono (by omega)) (by omega) h
open Classical in
/-- the reduced norm of the factor of a map that keeps the far place -/
noncomputable def sizD (m : G4) : D := if m.2.2.1 = 0 then (if h : ∃ s : F2, 0 < s.2 ∧ gcdL 0 [s.1, s.2] = 1 ∧ s.1 * m.2.2.2.nm = s.2 * m.1.nm then fD h.choose else .non) else .non
/-- whether a map is true -/
def trB (m : G4) : Bool := decide (isq (dtG m).nm * isq (dtG m).nm = (dtG m).nm)
open Classical in
/-- the factor of a map that keeps the far place -/
noncomputable def facD (m : G4) : D := if m.2.2.1 = 0 then (if h : ∃ q n, HG n q m.1 m.2.2.2 then pD h.choose else .non) else .non
theorem kept_nz {m : G4} (d : dtG m ≠ 0) (c : m.2.2.1 = 0) : ¬(m.1 = 0 ∧ m.2.2.2 = 0) := fun ⟨a, b⟩ => d (by
  unfold dtG
  rw [a, c]
  grind)
theorem nz_dt {n : Nat} {m : G4} (h : N4 n m) : Nz (2 * n + 2) (dtG m) := by
  unfold dtG
  have k := (h.s1.mul h.s4).add ((h.s2.mul h.s3).neg)
  rw [show m.1 * m.2.2.2 - m.2.1 * m.2.2.1 = m.1 * m.2.2.2 + -(m.2.1 * m.2.2.1) by grind]
  exact k.mono (by omega)
theorem w_is_true_map {T : Tk} {n : Nat} {f : Int} {m : G4} {k : KD} (hm : Mq n f m) (hn : n ≤ 900) (h : k (.bl (trB m)) T) : sm_is_true_map [.val (mD f m)] T k := by
  have sd := nz_dt hm.n4
  have nn := (dtG m).nm_nn
  have sn : Sz 4000 (dtG m).nm := (sz_nm sd).mono (by omega)
  have si := isq_sz nn sn
  rw [e_is_true_map, b_is_true_map]
  walk_at "wk"
  refine w_determinant hm.s1 hm.s2 hm.s3 hm.s4 (by omega) ?_
  walk_at "wk"
  refine w_square_size (sd.cz.mono (by omega)) ?_
  rw [show cnrm ((dtG m).re, (dtG m).im) = (dtG m).nm from rfl]
  walk_at "wk"
  have lim : (dtG m).nm.natAbs < 2 ^ 13000 := sn.mono (show 4000 ≤ 13000 by decide)
  exact ⟨⟨nn, lim⟩, ⟨nn, lim⟩, si.mulOk si (by decide) (by decide), h⟩
theorem sq_iff {x : Int} (h : 0 ≤ x) : isq x * isq x = x ↔ ∃ r, x = r * r := by
  constructor
  · intro e; exact ⟨isq x, e.symm⟩
  · rintro ⟨r, rfl⟩
    have : r * r = (r.natAbs : Int) * (r.natAbs : Int) := by
      rcases Int.natAbs_eq r with e | e
      · rw [← e]
      · generalize (r.natAbs : Int) = a at *
        rw [e]
        grind
    rw [this, isq_sq (by omega)]
theorem sq_div {c x r : Int} (c0 : 0 < c) (h : c * c * x = r * r) : ∃ s, x = s * s := by
  have d : c * c ∣ r * r := ⟨x, h.symm⟩
  have d2 : c.natAbs ^ 2 ∣ r.natAbs ^ 2 := by
    have k := Int.natAbs_dvd_natAbs.mpr d
    rw [Int.natAbs_mul, Int.natAbs_mul] at k
    rw [Nat.pow_two, Nat.pow_two]
    exact k
  have d3 : c ∣ r := Int.natAbs_dvd_natAbs.mp ((Nat.pow_dvd_pow_iff (by decide)).mp d2)
  obtain ⟨s, rfl⟩ := d3
  refine ⟨s, Int.eq_of_mul_eq_mul_left (show c * c ≠ 0 by have := Int.mul_pos c0 c0; omega) ?_⟩
  rw [h]
  grind
/-- which kinds are told -/
structure Kd where
  tu : Bool
  gr : Bool
  ca : Bool
  mi : Bool
structure KsD (d : D) (k : Kd) : Prop where
  tu : fInS (.str "turnabout") d = some (True, .bl k.tu)
  gr : fInS (.str "grow") d = some (True, .bl k.gr)
  ca : fInS (.str "carry") d = some (True, .bl k.ca)
  mi : fInS (.str "mirror") d = some (True, .bl k.mi)
  nt : fNotInS (.str "turnabout") d = some (True, .bl (!k.tu))
  nm : fNotInS (.str "mirror") d = some (True, .bl (!k.mi))
def rsD : Option Int → D
  | none => .non
  | some i => .int i
def rlB (m : G4) : Bool := decide ((m.1 * m.2.2.2.cj).im = 0)
def unB (m : G4) : Bool := decide (m.1.nm = m.2.2.2.nm)
def lmB (m : G4) : Bool := decide (m.1 * m.2.1.cj + m.2.1 * m.2.2.2.cj = 0)
def ppB (m : G4) : Bool := decide ((((m.1 + m.2.2.2) * (m.1 + m.2.2.2)) * (dtG m).cj).im = 0)
def rmB (m : G4) : Bool := decide ((dtG m * (m.2.2.1 * m.2.2.1).cj).im = 0)
def ceB (m : G4) : Bool := decide (m.1 * m.2.2.1.cj = -(m.2.2.2.cj * m.2.2.1))
def saB (m : G4) : Bool := decide (m.1 = m.2.2.2)
/-- the fewest cells where the far place is kept, side 0 -/
def fwA (m : G4) (k : Kd) : Option Int :=
  bif saB m then (bif k.ca then some 1 else bif k.gr || k.mi then some 2 else bif k.tu then some 4 else none)
  else bif k.gr then some 1 else bif k.tu && rlB m || k.mi && unB m then some 2 else bif k.tu && trB m then some 4 else none
def fwB (m : G4) (k : Kd) : Option Int :=
  bif k.mi then (bif unB m && lmB m then some 1 else bif k.gr then some 2 else bif unB m then (bif k.ca then some 2 else some 3) else bif k.tu && trB m then some 3 else none)
  else bif k.tu then (bif trB m then some 3 else bif k.gr then some 4 else none) else none
def fwC (m : G4) (k : Kd) : Option Int :=
  bif trB m && ppB m then some 2 else bif k.gr then some 3 else bif trB m then (bif k.ca then some 3 else some 4) else none
def fwE (m : G4) (k : Kd) : Option Int :=
  bif ceB m && rmB m then some 1 else bif k.gr || k.ca && rmB m then some 2 else bif trB m then some 3 else none
def isB (f : Int) (m : G4) : Bool := decide (f = 0 ∧ m = g1)
def zcB (m : G4) : Bool := decide (m.2.2.1 = 0)
def fw (f : Int) (m : G4) (k : Kd) : Option Int :=
  bif isB f m then some 0 else bif zcB m then (bif decide (f = 0) then fwA m k else fwB m k) else bif k.tu then (bif decide (f = 0) then fwC m k else fwE m k) else none
theorem fw_rg (f : Int) (m : G4) (k : Kd) : ∀ i, fw f m k = some i → 0 ≤ i ∧ i ≤ 4 := by
  intro i
  obtain ⟨tu, gr, ca, mi⟩ := k
  unfold fw fwA fwB fwC fwE
  generalize isB f m = b1
  generalize zcB m = b2
  generalize decide (f = 0) = b3
  generalize saB m = b4
  generalize rlB m = b5
  generalize unB m = b6
  generalize lmB m = b7
  generalize trB m = b8
  generalize ppB m = b9
  generalize rmB m = c1
  generalize ceB m = c2
  simp only
  simp only [cond_eq_ite]
  repeat' split
  all_goals (intro e; cases e; try decide)
/-- a place is real just if the quotient is -/
theorem hg_real {n : Nat} {q : P3} {z w : Gi} (h : HG n q z w) (w0 : w ≠ 0) : decide (q.2.1 = 0) = decide ((z * w.cj).im = 0) := by
  have e := h.e
  have p := (h.near w0).pos
  have nw := Gi.nm_pos w0
  have k : zG q * (w * w.cj) = rG q * (z * w.cj) := by grind
  have e1 : w * w.cj = ⟨w.nm, 0⟩ := Gi.ext' (by show w.re * w.re - w.im * -w.im = w.re * w.re + w.im * w.im; grind) (by show w.re * -w.im + w.im * w.re = 0; grind)
  rw [e1] at k
  have k2 := congrArg Gi.im k
  have k3 : q.1 * 0 + q.2.1 * w.nm = q.2.2 * (z * w.cj).im + 0 * (z * w.cj).re := k2
  refine decide_eq_decide.mpr ⟨fun o => ?_, fun o => ?_⟩
  · rw [o] at k3
    have : q.2.2 * (z * w.cj).im = 0 := by omega
    exact (Int.mul_eq_zero.mp this).resolve_left (by omega)
  · rw [o] at k3
    have : q.2.1 * w.nm = 0 := by omega
    exact (Int.mul_eq_zero.mp this).resolve_right (by omega)
theorem hg_one {n : Nat} {q : P3} {z w : Gi} (h : HG n q z w) (w0 : w ≠ 0) : (q = (1, 0, 1)) ↔ z = w := by
  constructor
  · intro e
    have k := h.e
    rw [e] at k
    have z1 : zG (1, 0, 1) = 1 := rfl
    have r1 : rG (1, 0, 1) = 1 := rfl
    rw [z1, r1] at k
    grind
  · intro e
    subst e
    refine h.uniq (n := n + 1) ⟨⟨.inr (by decide), by decide, by unfold Sz; exact Nat.one_lt_two_pow (by omega), sz_0, by unfold Sz; exact Nat.one_lt_two_pow (by omega)⟩, ?_, fun a => w0 a.1⟩
    rfl
theorem gi_re {a b : Int} : (⟨a, 0⟩ : Gi) = ⟨b, 0⟩ ↔ a = b := ⟨fun e => congrArg Gi.re e, fun e => by rw [e]⟩
theorem nm_size {n l : Nat} {q t : P3} {z w : Gi} (h : HG n q z w) (w0 : w ≠ 0) (ht : HG l t ⟨q.1 * q.1 + q.2.1 * q.2.1, 0⟩ ⟨q.2.2 * q.2.2, 0⟩) : (t = (1, 0, 1)) ↔ z.nm = w.nm := by
  have p := (h.near w0).pos
  have pp := Int.mul_pos p p
  have r0 : (⟨q.2.2 * q.2.2, 0⟩ : Gi) ≠ 0 := fun e => by have := congrArg Gi.re e; have : q.2.2 * q.2.2 = 0 := this; omega
  rw [hg_one ht r0, gi_re]
  have e := congrArg Gi.nm h.e
  rw [Gi.nm_mul, Gi.nm_mul] at e
  have e1 : (zG q).nm = q.1 * q.1 + q.2.1 * q.2.1 := rfl
  have e2 : (rG q).nm = q.2.2 * q.2.2 + 0 * 0 := rfl
  rw [e1, e2] at e
  have e : (q.1 * q.1 + q.2.1 * q.2.1) * w.nm = q.2.2 * q.2.2 * z.nm := by rw [e]; congr 1; omega
  have nw := Gi.nm_pos w0
  generalize q.1 * q.1 + q.2.1 * q.2.1 = A at *
  generalize q.2.2 * q.2.2 = B at *
  constructor
  · rintro rfl
    exact (Int.eq_of_mul_eq_mul_left (by omega) e).symm
  · intro o
    rw [o] at e
    exact Int.eq_of_mul_eq_mul_right (by omega) e
/-- the square of a mirrored map that keeps the far place -/
theorem sq_line {n : Nat} {m x : G4} (c : m.2.2.1 = 0) (dt : dtG m ≠ 0) (hx : Fm n (Pr 1 m m) x) : x = g1 ↔ (unB m && lmB m) = true := by
  obtain ⟨s, s0, e⟩ := hx.c
  obtain ⟨a, b, cc, d⟩ := m
  simp only at c
  subst c
  have e1 : Pr 1 (a, b, 0, d) (a, b, 0, d) = (a * a.cj + b * 0, a * b.cj + b * d.cj, 0 * a.cj + d * 0, 0 * b.cj + d * d.cj) := rfl
  rw [e1] at e
  have ea := congrArg Prod.fst e
  have eb := congrArg (fun m => m.2.1) e
  have ec := congrArg (fun m => m.2.2.1) e
  have ed := congrArg (fun m => m.2.2.2) e
  simp only [scl] at ea eb ec ed
  have nc : ∀ y : Gi, y * y.cj = ⟨y.nm, 0⟩ := fun y => Gi.ext' (by show y.re * y.re - y.im * -y.im = y.re * y.re + y.im * y.im; grind) (by show y.re * -y.im + y.im * y.re = 0; grind)
  unfold unB lmB
  rw [Bool.and_eq_true, decide_eq_true_eq, decide_eq_true_eq]
  simp only
  constructor
  · intro o
    rw [o] at ea eb ec ed
    have o1 : g1.1 = 1 := rfl
    have o2 : g1.2.1 = 0 := rfl
    have o4 : g1.2.2.2 = 1 := rfl
    rw [o1] at ea
    rw [o2] at eb
    rw [o4] at ed
    constructor
    · have k : a * a.cj = d * d.cj := by grind
      rw [nc, nc, gi_re] at k
      exact k
    · rw [eb]; grind
  · rintro ⟨o1, o2⟩
    have k : a * a.cj = d * d.cj := by rw [nc, nc, o1]
    have x2 : x.2.1 = 0 := by
      rw [o2] at eb
      exact (Gi.mul_zero' eb.symm).resolve_left s0
    have x3 : x.2.2.1 = 0 := by
      have : s * x.2.2.1 = 0 := by rw [← ec]; grind
      exact (Gi.mul_zero' this).resolve_left s0
    have x4 : x.2.2.2 = x.1 := by
      refine Gi.cancel s0 ?_
      rw [← ea, ← ed]
      grind
    have d0 : d ≠ 0 := fun z => dt (by unfold dtG; rw [z]; grind)
    have x1 : x.1 ≠ 0 := fun z => by
      rw [z] at ea
      have : a * a.cj = 0 := by grind
      rw [k] at this
      rcases Gi.mul_zero' this with q | q
      · exact d0 q
      · exact Gi.cj_ne d0 q
    have g : Fm 1 (Pr 1 (a, b, 0, d) (a, b, 0, d)) g1 := by
      refine ⟨Mq.g1.mp, ⟨s * x.1, Gi.mul_ne s0 x1, ?_⟩, Mq.g1.s1, Mq.g1.s2, Mq.g1.s3, Mq.g1.s4⟩
      rw [e1]
      refine Prod.ext ?_ (Prod.ext ?_ (Prod.ext ?_ ?_))
      · show _ = s * x.1 * 1
        rw [ea]; grind
      · show _ = s * x.1 * 0
        rw [o2]; grind
      · show _ = s * x.1 * 0
        grind
      · show _ = s * x.1 * 1
        rw [ed, x4]; grind
    exact hx.uniq g
theorem hg_eq2 {n l : Nat} {q q' : P3} {z w z' w' : Gi} (h : HG n q z w) (h' : HG l q' z' w') (w0 : w ≠ 0) (w0' : w' ≠ 0) : q = q' ↔ z * w' = z' * w := by
  constructor
  · intro e
    subst e
    have r0 : rG q ≠ 0 := fun o => by have := congrArg Gi.re o; have p := (h.near w0).pos; have : q.2.2 = 0 := this; omega
    have e1 := h.e
    have e2 := h'.e
    refine Gi.cancel r0 ?_
    grind
  · intro e
    exact (h.tr (fun o => w0' o.2) e).uniq h'
theorem neg_im (x : Gi) : decide ((-x).im = 0) = decide (x.im = 0) := decide_eq_decide.mpr ⟨fun e => by have : -x.im = 0 := e; omega, fun e => by show -x.im = 0; omega⟩

theorem hg_cj {n : Nat} {p : P3} {z w : Gi} (h : HG n p z w) : HG n (p.1, -p.2.1, p.2.2) (fl 1 z) (fl 1 w) := by
  obtain ⟨⟨a, b, c1, c2, c3⟩, e, nz⟩ := h
  have f : ∀ x : Gi, fl 1 x = x.cj := fun x => rfl
  rw [f, f]
  refine ⟨⟨?_, ?_, c1, ?_, c3⟩, ?_, fun o => nz ⟨?_, ?_⟩⟩
  · rcases a with ⟨a1, a2, a3⟩ | a
    · left; exact ⟨a1, by show -p.2.1 = 0; omega, a3⟩
    · exact .inr a
  · rw [← b]
    show iGcd (iGcd (iGcd 0 p.1) (-p.2.1)) p.2.2 = iGcd (iGcd (iGcd 0 p.1) p.2.1) p.2.2
    rw [show iGcd (iGcd 0 p.1) (-p.2.1) = iGcd (iGcd 0 p.1) p.2.1 from by unfold iGcd; rw [Int.natAbs_neg]]
  · unfold Sz at *; simpa using c2
  · have := congrArg Gi.cj e
    rw [Gi.cj_mul, Gi.cj_mul] at this
    have r : (rG p).cj = rG (p.1, -p.2.1, p.2.2) := rfl
    rw [r] at this
    exact this
  · have := congrArg Gi.cj o.1; rw [Gi.cj_cj] at this; exact this
  · have := congrArg Gi.cj o.2; rw [Gi.cj_cj] at this; exact this
theorem w_flipped {T : Tk} {q : P3} {k : KD} (h : k (pD (q.1, -q.2.1, q.2.2)) T) : sm_flipped [.val (pD q)] T k := by
  rw [e_flipped, b_flipped]
  walk_at "wk"
  exact h
theorem w_is_real {T : Tk} {q : P3} {k : KD} (h : k (.bl (decide (q.2.1 = 0))) T) : sm_is_real [.val (pD q)] T k := by
  rw [e_is_real, b_is_real]
  walk_at "wk"
  exact h
theorem w_gap {T : Tk} {n l : Nat} {q q' : P3} {k : KD} (hq : Nr n q) (hq' : Nr l q') (hn : n + l + 1 ≤ 9000) (h : ∀ t, Nr (n + l + 1) t → HG (n + l + 1) t (zG q * rG q' - zG q' * rG q) (rG q * rG q') → k (pD t) T) : sm_gap [.val (pD q), .val (pD q')] T k := by
  rw [e_gap, b_gap]
  walk_at "wk"
  have m1 : ∀ {x y : Int}, Sz n x → Sz l y → MulOk x y := fun a b => a.mulOk b (by omega) (by omega)
  have m2 : ∀ {x y : Int}, Sz l x → Sz n y → MulOk x y := fun a b => a.mulOk b (by omega) (by omega)
  refine ⟨m1 hq.s1 hq'.s3, m2 hq'.s1 hq.s3, m1 hq.s2 hq'.s3, m2 hq'.s2 hq.s3, m1 hq.s3 hq'.s3, ?_⟩
  have d1 := ((hq.s1.mul hq'.s3).mono (show n + l ≤ n + l by omega)).sub ((hq'.s1.mul hq.s3).mono (show l + n ≤ n + l by omega))
  have d2 := ((hq.s2.mul hq'.s3).mono (show n + l ≤ n + l by omega)).sub ((hq'.s2.mul hq.s3).mono (show l + n ≤ n + l by omega))
  refine w_lowest3i (n := n + l + 1) (Int.mul_pos hq.pos hq'.pos) (d1.mono (by omega)) (d2.mono (by omega)) ((hq.s3.mul hq'.s3).mono (by omega)) hn fun t ht hg => h t ht ?_
  have e1 : zG q * rG q' - zG q' * rG q = ⟨q.1 * q'.2.2 - q'.1 * q.2.2, q.2.1 * q'.2.2 - q'.2.1 * q.2.2⟩ := Gi.ext' (by show q.1 * q'.2.2 - q.2.1 * 0 - (q'.1 * q.2.2 - q'.2.1 * 0) = q.1 * q'.2.2 - q'.1 * q.2.2; omega) (by show q.1 * 0 + q.2.1 * q'.2.2 - (q'.1 * 0 + q'.2.1 * q.2.2) = q.2.1 * q'.2.2 - q'.2.1 * q.2.2; omega)
  have e2 : rG q * rG q' = io (q.2.2 * q'.2.2) := Gi.ext' (by show q.2.2 * q'.2.2 - 0 * 0 = q.2.2 * q'.2.2; omega) (by show q.2.2 * 0 + 0 * q'.2.2 = 0; omega)
  rw [e1, e2]
  exact hg
theorem w_factor_in {T : Tk} {n : Nat} {f : Int} {m : G4} {k : KD} (hm : Mq n f m) (hn : n ≤ 900) (c : m.2.2.1 = 0) (h : ∀ q, HG (2 * n + 1) q m.1 m.2.2.2 → k (pD q) T) : sm_factor_in [.val (mD f m)] T k := by
  rw [e_factor_in, b_factor_in]
  walk_at "wk"
  exact w_qpG hm.s1.cz hm.s4.cz (by omega) (kept_nz hm.dt c) h
theorem w_is_line_mirror {T : Tk} {n : Nat} {m : G4} {k : KD} (hm : Mq n 1 m) (hn : n ≤ 900) (c : m.2.2.1 = 0) (h : k (.bl (unB m && lmB m)) T) : sm_is_line_mirror [.val (mD 1 m)] T k := by
  rw [e_is_line_mirror, b_is_line_mirror, k_STAYS]
  walk_at "wk"
  refine w_joined hm hm (by omega) fun x hx => ?_
  have e := sq_line c hm.dt hx
  rw [show ((1 : Int) + 1) % 2 = 0 from rfl]
  walk_at "wk"
  rw [g1_dc]
  have e2 : decide (x = g1) = (unB m && lmB m) := by
    cases q : unB m && lmB m with
    | true => rw [q] at e; exact decide_eq_true (e.mpr rfl)
    | false => rw [q] at e; exact decide_eq_false (fun z => by have := e.mp z; cases this)
  rw [e2]
  exact h
theorem w_Parts {T : Tk} {n : Nat} {f : Int} {m : G4} {k : KD} (hm : Mq n f m) (hn : n ≤ 900) (c : m.2.2.1 ≠ 0) (h : ∀ g s t w, HG (2 * n + 1) g m.1 m.2.2.1 → HG (2 * n + 1) s (fl f (-m.2.2.2)) (fl f m.2.2.1) → HG (4 * n + 9) t (-dtG m) (m.2.2.1 * m.2.2.1) → HG (4 * n + 3) w (zG g * rG s - zG s * rG g) (rG g * rG s) → k (.obj "Parts" (flds "Parts") [pD g, pD s, pD t, pD w]) T) : sm_Parts [.val (mD f m)] T k := by
  rw [e_Parts, b_Parts]
  intro a
  have sg : scG (-1) m.2.2.2 = -m.2.2.2 := Gi.ext' (by show -1 * m.2.2.2.re = -m.2.2.2.re; omega) (by show -1 * m.2.2.2.im = -m.2.2.2.im; omega)
  have s1 : Sz 1 (-1) := by unfold Sz; decide
  have cc := Gi.mul_ne c c
  walk_at "wk"
  refine w_scaledG (m := 1) hm.s4.cz s1 (by omega) (by decide) ?_
  rw [sg]
  walk_at "wk"
  refine w_qpG hm.s4.neg.cz hm.s3.cz (by omega) (fun z => c z.2) fun p hp => ?_
  walk_at "wk"
  refine w_qpG hm.s1.cz hm.s3.cz (by omega) (fun z => c z.2) fun g hg => ?_
  walk_at "wk"
  have nd : ¬(-dtG m = 0 ∧ m.2.2.1 * m.2.2.1 = 0) := fun z => cc z.2
  have dz : Nz (2 * n + 4) (-dtG m) := (nz_dt hm.n4).neg.mono (by omega)
  have cz : Nz (2 * n + 4) (m.2.2.1 * m.2.2.1) := (hm.s3.mul hm.s3).mono (by omega)
  have de : m.2.1 * m.2.2.1 - m.1 * m.2.2.2 = -dtG m := by unfold dtG; grind
  have ng := hg.near c
  have pz : p.2.2 ≠ 0 := by have := (hp.near c).pos; omega
  rcases hm.fl with rfl | rfl
  · refine iteB_n (by decide) ?_
    walk_at "wk"
    refine w_timesG hm.s2.cz hm.s3.cz (by omega) (by omega) ?_
    walk_at "wk"
    refine w_timesG hm.s1.cz hm.s4.cz (by omega) (by omega) ?_
    walk_at "wk"
    refine w_minusG ?_
    walk_at "wk"
    refine w_timesG hm.s3.cz hm.s3.cz (by omega) (by omega) ?_
    walk_at "wk"
    rw [de]
    refine w_qpG dz.cz cz.cz (by omega) nd fun t ht => ?_
    walk_at "wk"
    refine w_gap ng (hp.near c) (by omega) fun w hw1 hw2 => ?_
    walk_at "wk"
    exact ⟨rfl, h g p t w hg hp ⟨ht.pt.mono (by omega), ht.e, ht.nz⟩ ⟨hw2.pt.mono (by omega), hw2.e, hw2.nz⟩⟩
  · refine iteB_p (by decide) ?_
    walk_at "wk"
    refine w_flipped ?_
    have hs : HG (2 * n + 1) (p.1, -p.2.1, p.2.2) (fl 1 (-m.2.2.2)) (fl 1 m.2.2.1) := hg_cj hp
    generalize (p.1, -p.2.1, p.2.2) = s at hs ⊢
    walk_at "wk"
    refine w_timesG hm.s2.cz hm.s3.cz (by omega) (by omega) ?_
    walk_at "wk"
    refine w_timesG hm.s1.cz hm.s4.cz (by omega) (by omega) ?_
    walk_at "wk"
    refine w_minusG ?_
    walk_at "wk"
    refine w_timesG hm.s3.cz hm.s3.cz (by omega) (by omega) ?_
    walk_at "wk"
    rw [de]
    refine w_qpG dz.cz cz.cz (by omega) nd fun t ht => ?_
    walk_at "wk"
    refine w_gap ng (hs.near (fl_ne c)) (by omega) fun w hw1 hw2 => ?_
    walk_at "wk"
    exact ⟨rfl, h g s t w hg hs ⟨ht.pt.mono (by omega), ht.e, ht.nz⟩ ⟨hw2.pt.mono (by omega), hw2.e, hw2.nz⟩⟩
theorem nd_le {α : Type} [DecidableEq α] : ∀ {l ws : List α}, ws.Nodup → (∀ w ∈ ws, w ∈ l) → ws.length ≤ l.length
  | l, [], _, _ => Nat.zero_le _
  | l, w :: ws, nd, h => by
    obtain ⟨n1, n2⟩ := List.nodup_cons.mp nd
    have hw := h w List.mem_cons_self
    have := nd_le (l := l.erase w) n2 fun v hv => (List.mem_erase_of_ne (fun e : v = w => n1 (e ▸ hv))).mpr (h v (List.mem_cons_of_mem _ hv))
    rw [List.length_erase_of_mem hw] at this
    have := List.length_pos_of_mem hw
    rw [List.length_cons]
    omega
abbrev IsKd (w : Str) : Prop := w = "carry" ∨ w = "grow" ∨ w = "turnabout" ∨ w = "mirror"
theorem kdL_ok {n : Nat} {w : Str} (h : IsKd w) : okN n (.str w) := by
  rcases h with rfl | rfl | rfl | rfl <;> (simp only [okN]; decide +kernel)
theorem kds_ok : ∀ {ws : List Str}, (∀ w ∈ ws, IsKd w) → okL 59 (ws.map D.str)
  | [], _ => by rw [List.map_nil, okL_nil]; trivial
  | w :: ws, h => by rw [List.map_cons, okL_cons]; exact ⟨kdL_ok (h w List.mem_cons_self), kds_ok fun v hv => h v (List.mem_cons_of_mem _ hv)⟩
theorem any_str (w : Str) : ∀ ws : List Str, ((ws.map D.str).any fun z => eqD z (.str w)) = decide (w ∈ ws)
  | [] => by simp
  | v :: ws => by
    rw [List.map_cons, List.any_cons, any_str w ws, eqD_str, ← Bool.decide_or]
    exact decide_eq_decide.mpr (by rw [List.mem_cons]; exact ⟨fun h => h.imp Eq.symm id, fun h => h.imp Eq.symm id⟩)
theorem in_str {w : Str} {ws : List Str} (hw : IsKd w) (h : ∀ v ∈ ws, IsKd v) : fInS (.str w) (.tup (ws.map D.str)) = some (True, .bl (decide (w ∈ ws))) := by
  rw [fInS_tup, any_str, okN_t (kdL_ok hw), okN_t (by rw [okN_tup]; exact ⟨by decide, kds_ok h⟩), and_true]
theorem nin_str {w : Str} {ws : List Str} (hw : IsKd w) (h : ∀ v ∈ ws, IsKd v) : fNotInS (.str w) (.tup (ws.map D.str)) = some (True, .bl (!decide (w ∈ ws))) := by
  rw [fNotInS_tup, any_str, okN_t (kdL_ok hw), okN_t (by rw [okN_tup]; exact ⟨by decide, kds_ok h⟩), and_true]
def kdOf (ws : List Str) : Kd := ⟨decide (("turnabout" : Str) ∈ ws), decide (("grow" : Str) ∈ ws), decide (("carry" : Str) ∈ ws), decide (("mirror" : Str) ∈ ws)⟩
theorem ks_of {ws : List Str} (h : ∀ v ∈ ws, IsKd v) : KsD (.tup (ws.map D.str)) (kdOf ws) :=
  ⟨in_str (.inr (.inr (.inl rfl))) h, in_str (.inr (.inl rfl)) h, in_str (.inl rfl) h, in_str (.inr (.inr (.inr rfl))) h, nin_str (.inr (.inr (.inl rfl))) h, nin_str (.inr (.inr (.inr rfl))) h⟩
theorem cut_pre (pre : List D) (d : List D) : cutD (pre ++ d) none (some (pre.length : Int)) = pre := by
  unfold cutD
  have l : (pre ++ d).length = pre.length + d.length := List.length_append
  rw [show HT.sIx (pre ++ d).length 0 none = 0 from rfl, show HT.sIx (pre ++ d).length (pre ++ d).length (some (pre.length : Int)) = pre.length by rw [HT.sIx_nat, l]; omega]
  simp
theorem ck_for {T : Tk} {K : dEnds} : ∀ (pre ws : List Str) (A B : Option SV), (pre ++ ws).Nodup → (∀ w ∈ pre ++ ws, w = "carry" ∨ w = "grow" ∨ w = "turnabout" ∨ w = "mirror") → (∀ A B, K.nx [some (.val (.tup ((pre ++ ws).map D.str))), A, B] T) →
    forL (gTL 2 (gsCons (gN 1) (gsCons (gN 2) (gsNil)))) (sIf (dOr (dNot (dTst (dIsi .str (dVar 2)))) (dOr (dTst (dOp (oF fNotInS) (dVar 2) (dC k_WORDS))) (dTst (dOp (oF fInS) (dVar 2) (dSlQ (dVar 0) (fun _ T k => k none T) (pSome (dVar 1))))))) ((fun _ _ _ => False)) ((fun k ρ T => k.nx ρ T))) K (enD pre.length (ws.map D.str)) [some (.val (.tup ((pre ++ ws).map D.str))), A, B] T
  | pre, [], A, B, _, _, fin => fin A B
  | pre, w :: ws, A, B, nd, hw, fin => by
    have e : pre ++ w :: ws = (pre ++ [w]) ++ ws := by simp
    have ih := ck_for (T := T) (K := K) (pre ++ [w]) ws
    rw [← e] at ih
    have ih := fun A B => ih A B nd hw fin
    rw [List.length_append, List.length_cons, List.length_nil] at ih
    have kw := hw w (by simp)
    rw [List.map_cons]
    rw [show enD (pre.length : Int) (.str w :: ws.map D.str) = .tup [.int pre.length, .str w] :: enD ((pre.length + (0 + 1) : Nat) : Int) (ws.map D.str) from rfl, forL_c]
    generalize forL (gTL 2 (gsCons (gN 1) (gsCons (gN 2) (gsNil)))) (sIf (dOr (dNot (dTst (dIsi .str (dVar 2)))) (dOr (dTst (dOp (oF fNotInS) (dVar 2) (dC k_WORDS))) (dTst (dOp (oF fInS) (dVar 2) (dSlQ (dVar 0) (fun _ T k => k none T) (pSome (dVar 1))))))) ((fun _ _ _ => False)) ((fun k ρ T => k.nx ρ T))) K (enD ((pre.length + (0 + 1) : Nat) : Int) (ws.map D.str)) = RR at ih ⊢
    generalize hv : D.tup ((pre ++ w :: ws).map D.str) = vd at *
    walk_at "wkn"
    rw [show k_WORDS = .tup (([("carry" : Str), "grow", "turnabout", "mirror"]).map D.str) from rfl, nin_str kw (fun v hv => by simpa using hv), decide_eq_true (show w ∈ [("carry" : Str), "grow", "turnabout", "mirror"] from by simpa using kw)]
    walk_at "wkn"
    have cu : vd.cut? none (some (pre.length : Int)) = some (.tup (pre.map D.str)) := by
      rw [← hv, List.map_append]
      show some (D.tup (cutD _ none (some (pre.length : Int)))) = _
      have := cut_pre (pre.map D.str) ((w :: ws).map D.str)
      rw [List.length_map] at this
      rw [this]
    rw [cu]
    walk_at "wkn"
    refine ⟨⟨okN_eqOk (kdL_ok kw), okN_eqOk (by rw [okN_tup]; exact ⟨by decide, kds_ok fun v hv => hw v (by simp [hv])⟩)⟩, ?_⟩
    rw [any_str, decide_eq_false (show w ∉ pre from fun z => by
      have := (List.nodup_append.mp nd).2.2 w z w List.mem_cons_self
      exact this rfl)]
    walk_at "wkn"
    exact ih _ _
theorem kw_len {ws : List Str} (nd : ws.Nodup) (hw : ∀ w ∈ ws, w = "carry" ∨ w = "grow" ∨ w = "turnabout" ∨ w = "mirror") : ws.length ≤ 4 := by
  refine nd_le (l := [("carry" : Str), "grow", "turnabout", "mirror"]) nd fun w h => ?_
  rcases hw w h with rfl | rfl | rfl | rfl <;> simp
theorem w_check_kinds {T : Tk} {ws : List Str} {k : KD} (nd : ws.Nodup) (hw : ∀ w ∈ ws, w = "carry" ∨ w = "grow" ∨ w = "turnabout" ∨ w = "mirror") (h : k .non T) : sm_check_kinds [.val (.tup (ws.map D.str))] T k := by
  rw [e_check_kinds, b_check_kinds]
  walk_at "wkn"
  refine ⟨by rw [List.length_map]; exact Nat.le_trans (kw_len nd hw) (by decide), ?_⟩
  refine ck_for [] ws none none nd hw fun A B => ?_
  exact h

theorem dec3_one {q : P3} {p : Prop} [Decidable p] (h : (q = (1, 0, 1)) ↔ p) : (decide (q.1 = 1) && (decide (q.2.1 = 0) && decide (q.2.2 = 1))) = decide p := by
  rw [← Bool.decide_and, ← Bool.decide_and]
  refine decide_eq_decide.mpr ⟨fun ⟨a, b, c⟩ => h.mp (Prod.ext a (Prod.ext b c)), fun o => ?_⟩
  rw [h.mpr o]
  exact ⟨rfl, rfl, rfl⟩
theorem w_fwA {T : Tk} {n : Nat} {m : G4} {d : D} {K : Kd} {k : KD} (hm : Mq n 0 m) (hn : n ≤ 900) (c : m.2.2.1 = 0) (hd : KsD d K) (h : k (rsD (fwA m K)) T) : sm_fewest_plain_kept [.val (mD 0 m), .val d] T k := by
  have d0 : m.2.2.2 ≠ 0 := fun z => hm.dt (by unfold dtG; rw [c, z]; grind)
  obtain ⟨h1, h2, h3, h4, h5, h6⟩ := hd
  obtain ⟨tu, gr, ca, mi⟩ := K
  simp only at h1 h2 h3 h4 h5 h6
  rw [e_fewest_plain_kept, b_fewest_plain_kept, k_UNITY]
  walk_at "wk"
  refine w_factor_in hm hn c fun q hq => ?_
  walk_at "wk"
  rw [dec3_one (hg_one hq d0), show decide (m.1 = m.2.2.2) = saB m from rfl]
  unfold fwA at h
  cases es : saB m with
  | true =>
    refine iteB_p rfl ?_
    walk_at "wk"
    rw [h3]
    walk_at "wk"
    cases ca with
    | true => simp only [es, Bool.true_or, Bool.false_or, Bool.or_true, Bool.or_false, Bool.true_and, Bool.false_and, Bool.and_true, Bool.and_false, cond_true, cond_false, rsD] at h; refine iteB_p rfl h
    | false =>
      refine iteB_n rfl ?_
      walk_at "wk"
      rw [h2]
      walk_at "wk"
      rw [h4]
      walk_at "wk"
      cases eo : gr || mi with
      | true => simp only [es, eo, Bool.true_or, Bool.false_or, Bool.or_true, Bool.or_false, Bool.true_and, Bool.false_and, Bool.and_true, Bool.and_false, cond_true, cond_false, rsD] at h; exact iteB_p rfl h
      | false =>
        refine iteB_n rfl ?_
        walk_at "wk"
        rw [h1]
        walk_at "wk"
        cases tu with
        | true => simp only [es, eo, Bool.true_or, Bool.false_or, Bool.or_true, Bool.or_false, Bool.true_and, Bool.false_and, Bool.and_true, Bool.and_false, cond_true, cond_false, rsD] at h; exact iteB_p rfl h
        | false => simp only [es, eo, Bool.true_or, Bool.false_or, Bool.or_true, Bool.or_false, Bool.true_and, Bool.false_and, Bool.and_true, Bool.and_false, cond_true, cond_false, rsD] at h; exact iteB_n rfl h
  | false =>
    refine iteB_n rfl ?_
    walk_at "wk"
    rw [h2]
    walk_at "wk"
    cases gr with
    | true => simp only [es, Bool.true_or, Bool.false_or, Bool.or_true, Bool.or_false, Bool.true_and, Bool.false_and, Bool.and_true, Bool.and_false, cond_true, cond_false, rsD] at h; exact iteB_p rfl h
    | false =>
      refine iteB_n rfl ?_
      walk_at "wk"
      rw [h1]
      have re := hg_real hq d0
      cases tu with
      | true =>
        walk_at "wk"
        refine w_is_real ?_
        rw [re, show decide ((m.1 * m.2.2.2.cj).im = 0) = rlB m from rfl]
        cases er : rlB m with
        | true =>
          walk_at "wk"
          simp only [es, er, Bool.true_or, Bool.false_or, Bool.or_true, Bool.or_false, Bool.true_and, Bool.false_and, Bool.and_true, Bool.and_false, cond_true, cond_false, rsD] at h; exact h
        | false =>
          walk_at "wk"
          rw [h4]
          cases mi with
          | true =>
            walk_at "wk"
            refine w_size_of (hq.near d0) (by omega) fun t _ ht => ?_
            walk_at "wk"
            rw [dec3_one (nm_size hq d0 ht), show decide (m.1.nm = m.2.2.2.nm) = unB m from rfl]
            cases eu : unB m with
            | true =>
              walk_at "wk"
              simp only [es, er, eu, Bool.true_or, Bool.false_or, Bool.or_true, Bool.or_false, Bool.true_and, Bool.false_and, Bool.and_true, Bool.and_false, cond_true, cond_false, rsD] at h; exact h
            | false =>
              walk_at "wk"
              rw [h1]
              walk_at "wk"
              refine w_is_true_map hm hn ?_
              walk_at "wk"
              cases et : trB m with
              | true => simp only [es, er, eu, et, Bool.true_or, Bool.false_or, Bool.or_true, Bool.or_false, Bool.true_and, Bool.false_and, Bool.and_true, Bool.and_false, cond_true, cond_false, rsD] at h; exact iteB_p rfl h
              | false => simp only [es, er, eu, et, Bool.true_or, Bool.false_or, Bool.or_true, Bool.or_false, Bool.true_and, Bool.false_and, Bool.and_true, Bool.and_false, cond_true, cond_false, rsD] at h; exact iteB_n rfl h
          | false =>
            walk_at "wk"
            rw [h1]
            walk_at "wk"
            refine w_is_true_map hm hn ?_
            walk_at "wk"
            cases et : trB m with
            | true => simp only [es, er, et, Bool.true_or, Bool.false_or, Bool.or_true, Bool.or_false, Bool.true_and, Bool.false_and, Bool.and_true, Bool.and_false, cond_true, cond_false, rsD] at h; exact iteB_p rfl h
            | false => simp only [es, er, et, Bool.true_or, Bool.false_or, Bool.or_true, Bool.or_false, Bool.true_and, Bool.false_and, Bool.and_true, Bool.and_false, cond_true, cond_false, rsD] at h; exact iteB_n rfl h
      | false =>
        walk_at "wk"
        rw [h4]
        cases mi with
        | true =>
          walk_at "wk"
          refine w_size_of (hq.near d0) (by omega) fun t _ ht => ?_
          walk_at "wk"
          rw [dec3_one (nm_size hq d0 ht), show decide (m.1.nm = m.2.2.2.nm) = unB m from rfl]
          cases eu : unB m with
          | true =>
            walk_at "wk"
            simp only [es, eu, Bool.true_or, Bool.false_or, Bool.or_true, Bool.or_false, Bool.true_and, Bool.false_and, Bool.and_true, Bool.and_false, cond_true, cond_false, rsD] at h; exact h
          | false =>
            walk_at "wk"
            rw [h1]
            walk_at "wk"
            simp only [es, eu, Bool.true_or, Bool.false_or, Bool.or_true, Bool.or_false, Bool.true_and, Bool.false_and, Bool.and_true, Bool.and_false, cond_true, cond_false, rsD] at h; exact h
        | false =>
          walk_at "wk"
          rw [h1]
          walk_at "wk"
          simp only [es, Bool.true_or, Bool.false_or, Bool.or_true, Bool.or_false, Bool.true_and, Bool.false_and, Bool.and_true, Bool.and_false, cond_true, cond_false, rsD] at h; exact h

theorem w_fwC {T : Tk} {n : Nat} {m : G4} {d : D} {K : Kd} {k : KD} (hm : Mq n 0 m) (hn : n ≤ 900) (hd : KsD d K) (h : k (rsD (fwC m K)) T) : sm_fewest_plain_moved [.val (mD 0 m), .val d] T k := by
  obtain ⟨h1, h2, h3, h4, h5, h6⟩ := hd
  obtain ⟨tu, gr, ca, mi⟩ := K
  simp only at h1 h2 h3 h4 h5 h6
  rw [e_fewest_plain_moved, b_fewest_plain_moved]
  walk_at "wk"
  refine w_is_true_map hm hn ?_
  unfold fwC at h
  cases et : trB m with
  | true =>
    walk_at "wk"
    refine w_trace_place hm hn fun q hq => ?_
    walk_at "wk"
    refine w_is_real ?_
    rw [hg_real hq hm.dt, show decide (((trG m * trG m) * (dtG m).cj).im = 0) = ppB m from rfl]
    cases ep : ppB m with
    | true =>
      walk_at "wk"
      simp only [et, ep, Bool.true_or, Bool.false_or, Bool.or_true, Bool.or_false, Bool.true_and, Bool.false_and, Bool.and_true, Bool.and_false, cond_true, cond_false, rsD] at h; exact h
    | false =>
      walk_at "wk"
      rw [h2]
      walk_at "wk"
      cases gr with
      | true => simp only [et, ep, Bool.true_or, Bool.false_or, Bool.or_true, Bool.or_false, Bool.true_and, Bool.false_and, Bool.and_true, Bool.and_false, cond_true, cond_false, rsD] at h; exact iteB_p rfl h
      | false =>
        refine iteB_n rfl ?_
        walk_at "wk"
        refine w_is_true_map hm hn ?_
        rw [et]
        walk_at "wk"
        rw [h3]
        walk_at "wk"
        cases ca with
        | true => simp only [et, ep, Bool.true_or, Bool.false_or, Bool.or_true, Bool.or_false, Bool.true_and, Bool.false_and, Bool.and_true, Bool.and_false, cond_true, cond_false, rsD] at h; exact iteB_p rfl h
        | false => simp only [et, ep, Bool.true_or, Bool.false_or, Bool.or_true, Bool.or_false, Bool.true_and, Bool.false_and, Bool.and_true, Bool.and_false, cond_true, cond_false, rsD] at h; exact iteB_n rfl h
  | false =>
    walk_at "wk"
    rw [h2]
    walk_at "wk"
    cases gr with
    | true => simp only [et, Bool.true_or, Bool.false_or, Bool.or_true, Bool.or_false, Bool.true_and, Bool.false_and, Bool.and_true, Bool.and_false, cond_true, cond_false, rsD] at h; exact iteB_p rfl h
    | false =>
      refine iteB_n rfl ?_
      walk_at "wk"
      refine w_is_true_map hm hn ?_
      rw [et]
      walk_at "wk"
      simp only [et, Bool.true_or, Bool.false_or, Bool.or_true, Bool.or_false, Bool.true_and, Bool.false_and, Bool.and_true, Bool.and_false, cond_true, cond_false, rsD] at h; exact h
theorem w_fwB {T : Tk} {n : Nat} {m : G4} {d : D} {K : Kd} {k : KD} (hm : Mq n 1 m) (hn : n ≤ 900) (c : m.2.2.1 = 0) (hd : KsD d K) (h : k (rsD (fwB m K)) T) : sm_fewest_mirrored_kept [.val (mD 1 m), .val d] T k := by
  have d0 : m.2.2.2 ≠ 0 := fun z => hm.dt (by unfold dtG; rw [c, z]; grind)
  obtain ⟨h1, h2, h3, h4, h5, h6⟩ := hd
  obtain ⟨tu, gr, ca, mi⟩ := K
  simp only at h1 h2 h3 h4 h5 h6
  rw [e_fewest_mirrored_kept, b_fewest_mirrored_kept, k_UNITY]
  walk_at "wk"
  rw [h6]
  unfold fwB at h
  cases mi with
  | false =>
    walk_at "wk"
    rw [h5]
    cases tu with
    | false =>
      walk_at "wk"
      simp only [Bool.true_or, Bool.false_or, Bool.or_true, Bool.or_false, Bool.true_and, Bool.false_and, Bool.and_true, Bool.and_false, cond_true, cond_false, rsD] at h; exact h
    | true =>
      walk_at "wk"
      refine w_is_true_map hm hn ?_
      cases et : trB m with
      | true =>
        walk_at "wk"
        simp only [et, Bool.true_or, Bool.false_or, Bool.or_true, Bool.or_false, Bool.true_and, Bool.false_and, Bool.and_true, Bool.and_false, cond_true, cond_false, rsD] at h; exact h
      | false =>
        walk_at "wk"
        rw [h2]
        walk_at "wk"
        cases gr with
        | true => simp only [et, Bool.true_or, Bool.false_or, Bool.or_true, Bool.or_false, Bool.true_and, Bool.false_and, Bool.and_true, Bool.and_false, cond_true, cond_false, rsD] at h; exact iteB_p rfl h
        | false => simp only [et, Bool.true_or, Bool.false_or, Bool.or_true, Bool.or_false, Bool.true_and, Bool.false_and, Bool.and_true, Bool.and_false, cond_true, cond_false, rsD] at h; exact iteB_n rfl h
  | true =>
    walk_at "wk"
    refine w_is_line_mirror hm hn c ?_
    cases el : unB m && lmB m with
    | true =>
      walk_at "wk"
      simp only [el, Bool.true_or, Bool.false_or, Bool.or_true, Bool.or_false, Bool.true_and, Bool.false_and, Bool.and_true, Bool.and_false, cond_true, cond_false, rsD] at h; exact h
    | false =>
      walk_at "wk"
      rw [h2]
      walk_at "wk"
      cases gr with
      | true => simp only [el, Bool.true_or, Bool.false_or, Bool.or_true, Bool.or_false, Bool.true_and, Bool.false_and, Bool.and_true, Bool.and_false, cond_true, cond_false, rsD] at h; exact iteB_p rfl h
      | false =>
        refine iteB_n rfl ?_
        walk_at "wk"
        refine w_factor_in hm hn c fun q hq => ?_
        walk_at "wk"
        refine w_size_of (hq.near d0) (by omega) fun t _ ht => ?_
        walk_at "wk"
        rw [dec3_one (nm_size hq d0 ht), show decide (m.1.nm = m.2.2.2.nm) = unB m from rfl]
        simp only [el, cond_true, cond_false] at h
        cases eu : unB m with
        | true =>
          refine iteB_p rfl ?_
          walk_at "wk"
          rw [h3]
          walk_at "wk"
          cases ca with
          | true => simp only [eu, Bool.true_or, Bool.false_or, Bool.or_true, Bool.or_false, Bool.true_and, Bool.false_and, Bool.and_true, Bool.and_false, cond_true, cond_false, rsD] at h; exact iteB_p rfl h
          | false => simp only [eu, Bool.true_or, Bool.false_or, Bool.or_true, Bool.or_false, Bool.true_and, Bool.false_and, Bool.and_true, Bool.and_false, cond_true, cond_false, rsD] at h; exact iteB_n rfl h
        | false =>
          refine iteB_n rfl ?_
          walk_at "wk"
          rw [h1]
          cases tu with
          | true =>
            walk_at "wk"
            refine w_is_true_map hm hn ?_
            walk_at "wk"
            cases et : trB m with
            | true => simp only [eu, et, Bool.true_or, Bool.false_or, Bool.or_true, Bool.or_false, Bool.true_and, Bool.false_and, Bool.and_true, Bool.and_false, cond_true, cond_false, rsD] at h; exact iteB_p rfl h
            | false => simp only [eu, et, Bool.true_or, Bool.false_or, Bool.or_true, Bool.or_false, Bool.true_and, Bool.false_and, Bool.and_true, Bool.and_false, cond_true, cond_false, rsD] at h; exact iteB_n rfl h
          | false =>
            walk_at "wk"
            simp only [eu, Bool.true_or, Bool.false_or, Bool.or_true, Bool.or_false, Bool.true_and, Bool.false_and, Bool.and_true, Bool.and_false, cond_true, cond_false, rsD] at h; exact h
theorem w_fwE {T : Tk} {n : Nat} {m : G4} {d : D} {K : Kd} {k : KD} (hm : Mq n 1 m) (hn : n ≤ 900) (c : m.2.2.1 ≠ 0) (hd : KsD d K) (h : k (rsD (fwE m K)) T) : sm_fewest_mirrored_moved [.val (mD 1 m), .val d] T k := by
  obtain ⟨h1, h2, h3, h4, h5, h6⟩ := hd
  obtain ⟨tu, gr, ca, mi⟩ := K
  simp only at h1 h2 h3 h4 h5 h6
  rw [e_fewest_mirrored_moved, b_fewest_mirrored_moved]
  walk_at "wk"
  refine w_Parts hm hn c fun g s t w hg hs ht _ => ?_
  have ec : decide (g = s) = ceB m := by
    refine decide_eq_decide.mpr ((hg_eq2 hg hs c (fl_ne c)).trans ?_)
    have e1 : fl 1 (-m.2.2.2) = -m.2.2.2.cj := rfl
    have e2 : fl 1 m.2.2.1 = m.2.2.1.cj := rfl
    rw [e1, e2, show -m.2.2.2.cj * m.2.2.1 = -(m.2.2.2.cj * m.2.2.1) by grind]
  have er : decide (t.2.1 = 0) = rmB m := by
    rw [hg_real ht (Gi.mul_ne c c), show -dtG m * (m.2.2.1 * m.2.2.1).cj = -(dtG m * (m.2.2.1 * m.2.2.1).cj) by grind, neg_im]
    rfl
  unfold fwE at h
  walk_at "wk"
  rw [show (decide (g.1 = s.1) && (decide (g.2.1 = s.2.1) && decide (g.2.2 = s.2.2))) = decide (g = s) by
    rw [← Bool.decide_and, ← Bool.decide_and]
    exact decide_eq_decide.mpr ⟨fun ⟨a, b, c⟩ => Prod.ext a (Prod.ext b c), fun e => by rw [e]; exact ⟨rfl, rfl, rfl⟩⟩, ec]
  cases e1 : ceB m with
  | true =>
    walk_at "wk"
    refine w_is_real ?_
    rw [er]
    cases e2 : rmB m with
    | true =>
      walk_at "wk"
      simp only [e1, e2, Bool.true_or, Bool.false_or, Bool.or_true, Bool.or_false, Bool.true_and, Bool.false_and, Bool.and_true, Bool.and_false, cond_true, cond_false, rsD] at h; exact h
    | false =>
      walk_at "wk"
      rw [h2]
      walk_at "wk"
      cases gr with
      | true =>
        walk_at "wk"
        simp only [e1, e2, Bool.true_or, Bool.false_or, Bool.or_true, Bool.or_false, Bool.true_and, Bool.false_and, Bool.and_true, Bool.and_false, cond_true, cond_false, rsD] at h; exact h
      | false =>
        walk_at "wk"
        rw [h3]
        cases ca with
        | true =>
          walk_at "wk"
          refine w_is_real ?_
          rw [er, e2]
          walk_at "wk"
          refine w_is_true_map hm hn ?_
          walk_at "wk"
          cases et : trB m with
          | true => simp only [e1, e2, et, Bool.true_or, Bool.false_or, Bool.or_true, Bool.or_false, Bool.true_and, Bool.false_and, Bool.and_true, Bool.and_false, cond_true, cond_false, rsD] at h; exact iteB_p rfl h
          | false => simp only [e1, e2, et, Bool.true_or, Bool.false_or, Bool.or_true, Bool.or_false, Bool.true_and, Bool.false_and, Bool.and_true, Bool.and_false, cond_true, cond_false, rsD] at h; exact iteB_n rfl h
        | false =>
          walk_at "wk"
          refine w_is_true_map hm hn ?_
          walk_at "wk"
          cases et : trB m with
          | true => simp only [e1, e2, et, Bool.true_or, Bool.false_or, Bool.or_true, Bool.or_false, Bool.true_and, Bool.false_and, Bool.and_true, Bool.and_false, cond_true, cond_false, rsD] at h; exact iteB_p rfl h
          | false => simp only [e1, e2, et, Bool.true_or, Bool.false_or, Bool.or_true, Bool.or_false, Bool.true_and, Bool.false_and, Bool.and_true, Bool.and_false, cond_true, cond_false, rsD] at h; exact iteB_n rfl h
  | false =>
    walk_at "wk"
    rw [h2]
    walk_at "wk"
    cases gr with
    | true =>
      walk_at "wk"
      simp only [e1, Bool.true_or, Bool.false_or, Bool.or_true, Bool.or_false, Bool.true_and, Bool.false_and, Bool.and_true, Bool.and_false, cond_true, cond_false, rsD] at h; exact h
    | false =>
      walk_at "wk"
      rw [h3]
      cases ca with
      | true =>
        walk_at "wk"
        refine w_is_real ?_
        rw [er]
        cases e2 : rmB m with
        | true =>
          walk_at "wk"
          simp only [e1, e2, Bool.true_or, Bool.false_or, Bool.or_true, Bool.or_false, Bool.true_and, Bool.false_and, Bool.and_true, Bool.and_false, cond_true, cond_false, rsD] at h; exact h
        | false =>
          walk_at "wk"
          refine w_is_true_map hm hn ?_
          walk_at "wk"
          cases et : trB m with
          | true => simp only [e1, e2, et, Bool.true_or, Bool.false_or, Bool.or_true, Bool.or_false, Bool.true_and, Bool.false_and, Bool.and_true, Bool.and_false, cond_true, cond_false, rsD] at h; exact iteB_p rfl h
          | false => simp only [e1, e2, et, Bool.true_or, Bool.false_or, Bool.or_true, Bool.or_false, Bool.true_and, Bool.false_and, Bool.and_true, Bool.and_false, cond_true, cond_false, rsD] at h; exact iteB_n rfl h
      | false =>
        walk_at "wk"
        refine w_is_true_map hm hn ?_
        walk_at "wk"
        cases et : trB m with
        | true => simp only [e1, et, Bool.true_or, Bool.false_or, Bool.or_true, Bool.or_false, Bool.true_and, Bool.false_and, Bool.and_true, Bool.and_false, cond_true, cond_false, rsD] at h; exact iteB_p rfl h
        | false => simp only [e1, et, Bool.true_or, Bool.false_or, Bool.or_true, Bool.or_false, Bool.true_and, Bool.false_and, Bool.and_true, Bool.and_false, cond_true, cond_false, rsD] at h; exact iteB_n rfl h
theorem is_dc {f : Int} {m : G4} : (decide (f = 0) && (decide (m.1.re = 1) && decide (m.1.im = 0) && (decide (m.2.1.re = 0) && decide (m.2.1.im = 0) && (decide (m.2.2.1.re = 0) && decide (m.2.2.1.im = 0) && (decide (m.2.2.2.re = 1) && decide (m.2.2.2.im = 0)))))) = isB f m := by
  rw [g1_dc, ← Bool.decide_and]
  rfl
theorem w_fewest_of {T : Tk} {n : Nat} {f : Int} {m : G4} {d : D} {K : Kd} {k : KD} (hm : Mq n f m) (hn : n ≤ 900) (hd : KsD d K) (h : k (rsD (fw f m K)) T) : sm_fewest_of [.val (mD f m), .val d] T k := by
  rw [e_fewest_of, b_fewest_of, k_STAYS, k_ZERO]
  walk_at "wk"
  rw [is_dc]
  unfold fw at h
  cases ei : isB f m with
  | true =>
    rw [ei] at h
    exact iteB_p rfl h
  | false =>
    rw [ei, cond_false] at h
    refine iteB_n rfl ?_
    walk_at "wk"
    rw [dec_gi, show decide (m.2.2.1 = 0) = zcB m from rfl]
    cases ez : zcB m with
    | true =>
      rw [ez, cond_true] at h
      have c : m.2.2.1 = 0 := of_decide_eq_true ez
      refine iteB_p rfl ?_
      walk_at "wk"
      rcases hm.fl with rfl | rfl
      · refine iteB_p (by decide) ?_
        walk_at "wk"
        exact w_fwA hm hn c hd h
      · refine iteB_n (by decide) ?_
        walk_at "wk"
        exact w_fwB hm hn c hd h
    | false =>
      rw [ez, cond_false] at h
      have c : m.2.2.1 ≠ 0 := of_decide_eq_false ez
      refine iteB_n rfl ?_
      walk_at "wk"
      rw [hd.nt]
      walk_at "wk"
      cases et : K.tu with
      | false =>
        rw [et] at h
        walk_at "wk"
        exact h
      | true =>
        rw [et, cond_true] at h
        walk_at "wk"
        rcases hm.fl with rfl | rfl
        · refine iteB_p (by decide) ?_
          walk_at "wk"
          exact w_fwC hm hn hd h
        · refine iteB_n (by decide) ?_
          walk_at "wk"
          exact w_fwE hm hn c hd h
theorem w_fewest_cells {T : Tk} {n : Nat} {f : Int} {m : G4} {ws : List Str} {k : KD} (hm : Mq n f m) (hn : n ≤ 900) (nd : ws.Nodup) (hw : ∀ w ∈ ws, IsKd w) (h : k (rsD (fw f m (kdOf ws))) T) : sm_fewest_cells [.val (mD f m), .val (.tup (ws.map D.str))] T k := by
  rw [e_fewest_cells, b_fewest_cells]
  walk_at "wk"
  refine w_check_map hm (by omega) ?_
  walk_at "wk"
  refine w_check_kinds nd hw ?_
  walk_at "wk"
  exact w_fewest_of hm hn (ks_of hw) h

theorem w__law_still {T : Tk} {k : KD} (h : k (.tup [.int 0, .tup [.int 1, .int 0], .tup [.int 0, .int 0], .tup [.int 0, .int 0], .tup [.int 1, .int 0]]) T) : sm__law_still [] T k := by
  rw [e__law_still, b__law_still]
  walk_at "wk"
  exact h
/-! what the fewest cells of a map hang on -/
theorem eqv {k x y x' y' : Gi} (k0 : k ≠ 0) (e1 : x' = k * x) (e2 : y' = k * y) : (x' = y') ↔ (x = y) := by
  rw [e1, e2]
  exact ⟨Gi.cancel k0, fun e => by rw [e]⟩
theorem im0 {x : Gi} : x.im = 0 ↔ x.cj = x :=
  ⟨fun h => Gi.ext' rfl (by show -x.im = x.im; omega), fun h => by have := congrArg Gi.im h; have e : -x.im = x.im := this; omega⟩
theorem nm_eq {a b : Gi} : a.nm = b.nm ↔ a * a.cj = b * b.cj := by
  rw [← nm_io, ← nm_io]
  exact ⟨fun h => by rw [h], fun h => congrArg Gi.re h⟩
def RlP (m : G4) : Prop := m.1.cj * m.2.2.2 = m.1 * m.2.2.2.cj
def UnP (m : G4) : Prop := m.1 * m.1.cj = m.2.2.2 * m.2.2.2.cj
def LmP (m : G4) : Prop := m.1 * m.2.1.cj + m.2.1 * m.2.2.2.cj = 0
def PpP (m : G4) : Prop := (m.1.cj + m.2.2.2.cj) * (m.1.cj + m.2.2.2.cj) * dtG m = (m.1 + m.2.2.2) * (m.1 + m.2.2.2) * (dtG m).cj
def RmP (m : G4) : Prop := (dtG m).cj * (m.2.2.1 * m.2.2.1) = dtG m * (m.2.2.1.cj * m.2.2.1.cj)
def CeP (m : G4) : Prop := m.1 * m.2.2.1.cj = -(m.2.2.2.cj * m.2.2.1)
def TrP (m : G4) : Prop := ∃ r : Int, (dtG m).nm = r * r
theorem rl_iff {m : G4} : rlB m = true ↔ RlP m := by
  unfold rlB RlP
  rw [decide_eq_true_eq, im0, Gi.cj_mul, Gi.cj_cj]
theorem un_iff {m : G4} : unB m = true ↔ UnP m := by
  unfold unB UnP
  rw [decide_eq_true_eq, nm_eq]
theorem lm_iff {m : G4} : lmB m = true ↔ LmP m := by
  unfold lmB LmP
  rw [decide_eq_true_eq]
theorem pp_iff {m : G4} : ppB m = true ↔ PpP m := by
  unfold ppB PpP
  rw [decide_eq_true_eq, im0]
  simp only [Gi.cj_mul, Gi.cj_cj, Gi.cj_add]
theorem rm_iff {m : G4} : rmB m = true ↔ RmP m := by
  unfold rmB RmP
  rw [decide_eq_true_eq, im0]
  simp only [Gi.cj_mul, Gi.cj_cj]
theorem ce_iff {m : G4} : ceB m = true ↔ CeP m := by
  unfold ceB CeP
  rw [decide_eq_true_eq]
theorem sa_iff {m : G4} : saB m = true ↔ m.1 = m.2.2.2 := by
  unfold saB
  rw [decide_eq_true_eq]
theorem zc_iff {m : G4} : zcB m = true ↔ m.2.2.1 = 0 := by
  unfold zcB
  rw [decide_eq_true_eq]
theorem tr_iff {m : G4} : trB m = true ↔ TrP m := by
  unfold trB TrP
  rw [decide_eq_true_eq]
  exact sq_iff (Gi.nm_nn _)
theorem b_ext {a b : Bool} (h : a = true ↔ b = true) : a = b := by
  cases a <;> cases b <;> simp at h ⊢
def idB (f : Int) (m : G4) : Bool := decide (f = 0) && (zcB m && (saB m && decide (m.2.1 = 0)))
/-- all that the fewest cells of a map hang on -/
structure MtF where
  f : Bool
  id : Bool
  zc : Bool
  sa : Bool
  rl : Bool
  un : Bool
  ul : Bool
  tr : Bool
  pp : Bool
  iv : Bool
  rm : Bool
def mtOf (f : Int) (m : G4) : MtF := ⟨decide (f = 0), idB f m, zcB m, decide (f = 0) && (zcB m && saB m), decide (f = 0) && (zcB m && rlB m), zcB m && unB m, !decide (f = 0) && (zcB m && (unB m && lmB m)), trB m, decide (f = 0) && ppB m, !decide (f = 0) && (!zcB m && (ceB m && rmB m)), !decide (f = 0) && (!zcB m && rmB m)⟩
def fwT (f id zc sa rl un ul tr pp iv rm : Bool) (tu gr ca mi : Bool) : Option Int :=
  bif id then some 0 else bif zc then (bif f then
      (bif sa then (bif ca then some 1 else bif gr || mi then some 2 else bif tu then some 4 else none)
       else bif gr then some 1 else bif tu && rl || mi && un then some 2 else bif tu && tr then some 4 else none)
    else (bif mi then (bif ul then some 1 else bif gr then some 2 else bif un then (bif ca then some 2 else some 3) else bif tu && tr then some 3 else none)
       else bif tu then (bif tr then some 3 else bif gr then some 4 else none) else none))
  else bif tu then (bif f then
      (bif tr && pp then some 2 else bif gr then some 3 else bif tr then (bif ca then some 3 else some 4) else none)
    else (bif iv then some 1 else bif gr || ca && rm then some 2 else bif tr then some 3 else none)) else none
def MtF.fw (t : MtF) (K : Kd) : Option Int := fwT t.f t.id t.zc t.sa t.rl t.un t.ul t.tr t.pp t.iv t.rm K.tu K.gr K.ca K.mi
theorem isB_id {n : Nat} {f : Int} {m : G4} (hm : Mq n f m) : isB f m = idB f m := by
  refine b_ext ?_
  unfold isB idB
  rw [Bool.and_eq_true, Bool.and_eq_true, Bool.and_eq_true, decide_eq_true_eq, decide_eq_true_eq, decide_eq_true_eq, zc_iff, sa_iff]
  constructor
  · rintro ⟨h, rfl⟩
    exact ⟨h, rfl, rfl, rfl⟩
  · rintro ⟨h, c, a, b⟩
    refine ⟨h, ?_⟩
    have e : m = scl m.1 g1 := by
      obtain ⟨m1, m2, m3, m4⟩ := m
      simp only at c a b
      subst a b c
      show _ = (m1 * 1, m1 * 0, m1 * 0, m1 * 1)
      rw [show m1 * 1 = m1 by grind, show m1 * 0 = 0 by grind]
    have a0 : m.1 ≠ 0 := fun z => hm.dt (by unfold dtG; rw [z, c]; grind)
    exact hm.fm.along Mq.g1.fm one_ne a0 (by rw [scl_one]; exact e)
theorem fw_mt {n : Nat} {f : Int} {m : G4} (hm : Mq n f m) (K : Kd) : fw f m K = (mtOf f m).fw K := by
  unfold fw MtF.fw mtOf fwT
  rw [isB_id hm]
  unfold fwA fwB fwC fwE
  cases decide (f = 0) <;> cases zcB m <;> rfl
theorem mt_ext {f : Int} (hf : f = 0 ∨ f = 1) {m m' : G4} (z : m'.2.2.1 = 0 ↔ m.2.2.1 = 0) (t : TrP m' ↔ TrP m)
    (h0 : f = 0 → m.2.2.1 = 0 → (m'.1 = m'.2.2.2 ↔ m.1 = m.2.2.2) ∧ (RlP m' ↔ RlP m) ∧ (m.1 = m.2.2.2 → (m'.2.1 = 0 ↔ m.2.1 = 0)))
    (hu : m.2.2.1 = 0 → (UnP m' ↔ UnP m)) (h1 : f = 1 → m.2.2.1 = 0 → UnP m → (LmP m' ↔ LmP m)) (h2 : f = 0 → (PpP m' ↔ PpP m))
    (h3 : f = 1 → m.2.2.1 ≠ 0 → (CeP m' ↔ CeP m) ∧ (RmP m' ↔ RmP m)) : mtOf f m' = mtOf f m := by
  have ez : zcB m' = zcB m := b_ext (zc_iff.trans (z.trans zc_iff.symm))
  have et : trB m' = trB m := b_ext (tr_iff.trans (t.trans tr_iff.symm))
  have eu : m.2.2.1 = 0 → unB m' = unB m := fun c => b_ext (un_iff.trans ((hu c).trans un_iff.symm))
  unfold mtOf idB
  rw [ez, et]
  rcases hf with rfl | rfl
  · have ep : ppB m' = ppB m := b_ext (pp_iff.trans ((h2 rfl).trans pp_iff.symm))
    rw [ep]
    cases hz : zcB m with
    | false => rfl
    | true =>
      have c := zc_iff.mp hz
      obtain ⟨a1, a2, a3⟩ := h0 rfl c
      have es : saB m' = saB m := b_ext (sa_iff.trans (a1.trans sa_iff.symm))
      have er : rlB m' = rlB m := b_ext (rl_iff.trans (a2.trans rl_iff.symm))
      rw [es, er, eu c]
      cases hs : saB m with
      | false => rfl
      | true => rw [show decide (m'.2.1 = 0) = decide (m.2.1 = 0) from decide_eq_decide.mpr (a3 (sa_iff.mp hs))]; rfl
  · cases hz : zcB m with
    | false =>
      have c : m.2.2.1 ≠ 0 := fun e => by rw [zc_iff.mpr e] at hz; cases hz
      obtain ⟨a1, a2⟩ := h3 rfl c
      have es : ceB m' = ceB m := b_ext (ce_iff.trans (a1.trans ce_iff.symm))
      have er : rmB m' = rmB m := b_ext (rm_iff.trans (a2.trans rm_iff.symm))
      rw [es, er]
      rfl
    | true =>
      have c := zc_iff.mp hz
      rw [eu c]
      cases hs : unB m with
      | false => rfl
      | true =>
        have el : lmB m' = lmB m := b_ext (lm_iff.trans ((h1 rfl c (un_iff.mp hs)).trans lm_iff.symm))
        rw [el]
        rfl
section
variable {c : Gi} {m : G4}
theorem scl_0 (c0 : c ≠ 0) {x : Gi} : c * x = 0 ↔ x = 0 := ⟨fun h => (Gi.mul_zero' h).elim (fun z => absurd z c0) id, fun h => by rw [h]; grind⟩
theorem tr_k {k : Gi} {m m' : G4} (k0 : k ≠ 0) (e : (dtG m').nm = k.nm * k.nm * (dtG m).nm) : TrP m' ↔ TrP m := by
  unfold TrP
  rw [e]
  constructor
  · rintro ⟨r, h⟩
    exact sq_div (Gi.nm_pos k0) h
  · rintro ⟨r, h⟩
    exact ⟨k.nm * r, by rw [h]; grind⟩
theorem mt_scl (c0 : c ≠ 0) {f : Int} (hf : f = 0 ∨ f = 1) (m : G4) : mtOf f (scl c m) = mtOf f m := by
  have cc : c * c.cj ≠ 0 := Gi.mul_ne c0 (Gi.cj_ne c0)
  have c4 := Gi.mul_ne cc cc
  refine mt_ext hf (scl_0 c0) (tr_k c0 (by rw [dt_scl, Gi.nm_mul, Gi.nm_mul])) (fun _ _ => ⟨eqv c0 rfl rfl, ?_, fun _ => scl_0 c0⟩) (fun _ => ?_) (fun _ _ _ => ?_) (fun _ => ?_) (fun _ _ => ⟨?_, ?_⟩)
  · unfold RlP scl
    simp only [Gi.cj_mul]
    exact eqv (k := c * c.cj) cc (by grind) (by grind)
  · unfold UnP scl
    simp only [Gi.cj_mul]
    exact eqv (k := c * c.cj) cc (by grind) (by grind)
  · unfold LmP scl
    simp only [Gi.cj_mul]
    exact eqv (k := c * c.cj) cc (by grind) (by grind)
  · unfold PpP
    rw [dt_scl]
    unfold scl
    simp only [Gi.cj_mul]
    exact eqv (k := (c * c.cj) * (c * c.cj)) c4 (by grind) (by grind)
  · unfold CeP scl
    simp only [Gi.cj_mul]
    exact eqv (k := c * c.cj) cc (by grind) (by grind)
  · unfold RmP
    rw [dt_scl]
    unfold scl
    simp only [Gi.cj_mul]
    exact eqv (k := (c * c.cj) * (c * c.cj)) c4 (by grind) (by grind)
end
theorem neg_0 {x : Gi} : -x = 0 ↔ x = 0 := ⟨fun h => by grind, fun h => by rw [h]; grind⟩
theorem cj_0 {x : Gi} : x.cj = 0 ↔ x = 0 := ⟨fun h => by have := congrArg Gi.cj h; rw [Gi.cj_cj] at this; exact this, fun h => by rw [h]; rfl⟩
theorem nm_one' : (1 : Gi).nm = 1 := rfl
/-- the back has the same -/
theorem mt_bk {f : Int} (hf : f = 0 ∨ f = 1) (m : G4) : mtOf f (Bk f m) = mtOf f m := by
  have o : (1 : Gi) ≠ 0 := one_ne
  rcases hf with rfl | rfl
  · have e : Bk 0 m = (m.2.2.2, -m.2.1, -m.2.2.1, m.1) := rfl
    rw [e]
    have d : dtG (m.2.2.2, -m.2.1, -m.2.2.1, m.1) = dtG m := by unfold dtG; simp only; grind
    refine mt_ext (.inl rfl) neg_0 (tr_k o (by rw [d, nm_one']; omega)) (fun _ _ => ⟨eq_comm, ?_, fun _ => neg_0⟩) (fun _ => ?_) (fun h => absurd h (by decide)) (fun _ => ?_) (fun h => absurd h (by decide))
    · unfold RlP
      simp only
      constructor <;> intro h <;> grind
    · unfold UnP
      simp only
      exact eq_comm
    · unfold PpP
      rw [d]
      simp only
      constructor <;> intro h <;> grind
  · have e : Bk 1 m = (m.2.2.2.cj, (-m.2.1).cj, (-m.2.2.1).cj, m.1.cj) := rfl
    rw [e]
    have d : dtG (m.2.2.2.cj, (-m.2.1).cj, (-m.2.2.1).cj, m.1.cj) = (dtG m).cj := by unfold dtG; simp only [Gi.cj_neg, Gi.cj_mul, Gi.cj_sub]; grind
    refine mt_ext (.inr rfl) (cj_0.trans neg_0) (tr_k o (by rw [d, nm_one', Gi.nm_cj]; omega)) (fun h => absurd h (by decide)) (fun _ => ?_) (fun _ _ _ => ?_) (fun h => absurd h (by decide)) (fun _ _ => ⟨?_, ?_⟩)
    · unfold UnP
      simp only [Gi.cj_cj]
      constructor <;> intro h <;> grind
    · unfold LmP
      simp only [Gi.cj_cj, Gi.cj_neg]
      constructor <;> intro h <;> grind
    · unfold CeP
      simp only [Gi.cj_cj, Gi.cj_neg]
      constructor <;> intro h <;> grind
    · unfold RmP
      rw [d]
      simp only [Gi.cj_cj, Gi.cj_neg]
      constructor <;> intro h <;> grind

theorem eqvX {k x y x' y' X : Gi} (k0 : k ≠ 0) (e1 : x' = k * x + X) (e2 : y' = k * y + X) : (x' = y') ↔ (x = y) := by
  rw [e1, e2]
  exact ⟨fun h => Gi.cancel k0 (by grind), fun e => by rw [e]⟩
def cjS (f : Int) (S n : G4) : G4 := mulm (mulm S n) (flm f (adjm S))
theorem flz1 (x : Gi) : fl 1 x = x.cj := rfl
theorem flz0 (x : Gi) : fl 0 x = x := rfl
theorem cj_pr {f g : Int} (hf : f = 0 ∨ f = 1) (hg : g = 0 ∨ g = 1) (S m : G4) : Pr g S (Pr f m (Bk g S)) = cjS f S (flm g m) := by
  obtain ⟨s, t, w, u⟩ := S
  obtain ⟨a, b, c, d⟩ := m
  unfold Pr Bk cjS
  rcases hf with rfl | rfl <;> rcases hg with rfl | rfl
  all_goals
    simp only [mulm, flm, adjm, flz0, flz1, Gi.cj_add, Gi.cj_mul, Gi.cj_neg, Gi.cj_cj]
    refine Prod.ext ?_ (Prod.ext ?_ (Prod.ext ?_ ?_)) <;> (simp only; grind)
theorem mt_fl {f g : Int} (hf : f = 0 ∨ f = 1) (hg : g = 0 ∨ g = 1) (m : G4) : mtOf f (flm g m) = mtOf f m := by
  rcases hg with rfl | rfl
  · rfl
  · have e : flm 1 m = (m.1.cj, m.2.1.cj, m.2.2.1.cj, m.2.2.2.cj) := rfl
    have d : dtG (flm 1 m) = (dtG m).cj := by rw [dt_fl]; rfl
    have ci : ∀ x y : Gi, x.cj = y.cj ↔ x = y := fun x y => ⟨fun h => by have := congrArg Gi.cj h; rw [Gi.cj_cj, Gi.cj_cj] at this; exact this, fun h => by rw [h]⟩
    refine mt_ext hf cj_0 (tr_k one_ne (by rw [d, nm_one', Gi.nm_cj]; omega)) (fun _ _ => ⟨ci _ _, ?_, fun _ => cj_0⟩) (fun _ => ?_) (fun _ _ _ => ?_) (fun _ => ?_) (fun _ _ => ⟨?_, ?_⟩)
    · rw [e]; unfold RlP; simp only [Gi.cj_cj]; constructor <;> intro h <;> grind
    · rw [e]; unfold UnP; simp only [Gi.cj_cj]; constructor <;> intro h <;> grind
    · rw [e]; unfold LmP; simp only [Gi.cj_cj]
      rw [← ci, Gi.cj_zero]
      simp only [Gi.cj_add, Gi.cj_mul, Gi.cj_cj]
    · unfold PpP; rw [d, e]; simp only [Gi.cj_cj]; constructor <;> intro h <;> grind
    · rw [e]; unfold CeP; simp only [Gi.cj_cj]
      rw [← ci]
      simp only [Gi.cj_neg, Gi.cj_mul, Gi.cj_cj]
    · unfold RmP; rw [d, e]; simp only [Gi.cj_cj]; constructor <;> intro h <;> grind
theorem mt_cjS {f : Int} (hf : f = 0 ∨ f = 1) {S : G4} (S0 : S.2.2.1 = 0) (dS : dtG S ≠ 0) (n : G4) : mtOf f (cjS f S n) = mtOf f n := by
  obtain ⟨s, t, w, u⟩ := S
  obtain ⟨a, b, c, d⟩ := n
  simp only at S0
  subst S0
  have eS : dtG (s, t, 0, u) = s * u := by unfold dtG; simp only; grind
  rw [eS] at dS
  have s0 : s ≠ 0 := fun z => dS (by rw [z]; grind)
  have u0 : u ≠ 0 := fun z => dS (by rw [z]; grind)
  have k1 : (s * u) * (s * u).cj ≠ 0 := Gi.mul_ne dS (Gi.cj_ne dS)
  have k2 := Gi.mul_ne k1 k1
  have ku : u * u.cj ≠ 0 := Gi.mul_ne u0 (Gi.cj_ne u0)
  have dd : dtG (cjS f (s, t, 0, u) (a, b, c, d)) = (s * u) * dtG (a, b, c, d) * fl f (s * u) := by
    unfold cjS
    rw [dt_mul, dt_mul, dt_fl, dt_adj, eS]
  have ht : TrP (cjS f (s, t, 0, u) (a, b, c, d)) ↔ TrP (a, b, c, d) := tr_k dS (by
    rw [dd, Gi.nm_mul, Gi.nm_mul, show (fl f (s * u)).nm = (s * u).nm by unfold fl; split; exact Gi.nm_cj _; rfl]
    generalize (s * u).nm = x
    generalize (dtG (a, b, c, d)).nm = y
    grind)
  rcases hf with rfl | rfl
  · have e : cjS 0 (s, t, 0, u) (a, b, c, d) = ((s * a + t * c) * u, -((s * a + t * c) * t) + (s * b + t * d) * s, u * c * u, -(u * c * t) + u * d * s) := by
      unfold cjS
      simp only [mulm, flm, adjm, flz0]
      refine Prod.ext ?_ (Prod.ext ?_ (Prod.ext ?_ ?_)) <;> (simp only; grind)
    rw [e] at dd ht ⊢
    rw [flz0] at dd
    refine mt_ext (.inl rfl) ?_ ht (fun _ hc => ⟨?_, ?_, fun had => ?_⟩) (fun hc => ?_) (fun h => absurd h (by decide)) (fun _ => ?_) (fun h => absurd h (by decide))
    · simp only
      rw [show u * c * u = (u * u) * c by grind]
      exact scl_0 (Gi.mul_ne u0 u0)
    · simp only at hc ⊢
      subst hc
      exact eqv (k := s * u) dS (by grind) (by grind)
    · simp only at hc
      subst hc
      unfold RlP
      simp only [Gi.cj_add, Gi.cj_mul, Gi.cj_neg, Gi.cj_zero] at k1 ⊢
      exact eqv k1 (by grind) (by grind)
    · simp only at hc had ⊢
      subst hc had
      rw [show -((s * a + t * 0) * t) + (s * b + t * a) * s = (s * s) * b by grind]
      exact scl_0 (Gi.mul_ne s0 s0)
    · simp only at hc
      subst hc
      unfold UnP
      simp only [Gi.cj_add, Gi.cj_mul, Gi.cj_neg, Gi.cj_zero] at k1 ⊢
      exact eqv k1 (by grind) (by grind)
    · unfold PpP
      rw [dd]
      generalize dtG (a, b, c, d) = δ
      simp only [Gi.cj_add, Gi.cj_mul, Gi.cj_neg, Gi.cj_zero] at k2 ⊢
      exact eqv k2 (by grind) (by grind)
  · have e : cjS 1 (s, t, 0, u) (a, b, c, d) = ((s * a + t * c) * u.cj, -((s * a + t * c) * t.cj) + (s * b + t * d) * s.cj, u * c * u.cj, -(u * c * t.cj) + u * d * s.cj) := by
      unfold cjS
      simp only [mulm, flm, adjm, flz1, Gi.cj_neg, Gi.cj_zero]
      refine Prod.ext ?_ (Prod.ext ?_ (Prod.ext ?_ ?_)) <;> (simp only; grind)
    rw [e] at dd ht ⊢
    rw [flz1] at dd
    refine mt_ext (.inr rfl) ?_ ht (fun h => absurd h (by decide)) (fun hc => ?_) (fun _ hc hu => ?_) (fun h => absurd h (by decide)) (fun _ hc => ⟨?_, ?_⟩)
    · simp only
      rw [show u * c * u.cj = (u * u.cj) * c by grind]
      exact scl_0 ku
    · simp only at hc
      subst hc
      unfold UnP
      simp only [Gi.cj_add, Gi.cj_mul, Gi.cj_neg, Gi.cj_zero, Gi.cj_cj] at k1 ⊢
      exact eqv k1 (by grind) (by grind)
    · simp only at hc
      subst hc
      unfold UnP at hu
      unfold LmP
      simp only [Gi.cj_add, Gi.cj_mul, Gi.cj_neg, Gi.cj_zero, Gi.cj_cj] at hu ⊢
      exact eqv (k := s * u.cj * (s * s.cj)) (Gi.mul_ne (Gi.mul_ne s0 (Gi.cj_ne u0)) (Gi.mul_ne s0 (Gi.cj_ne s0))) (by grind) (by grind)
    · unfold CeP
      simp only [Gi.cj_add, Gi.cj_mul, Gi.cj_neg, Gi.cj_zero, Gi.cj_cj]
      exact eqvX (k := s * u * u.cj * u.cj) (X := t * c * u.cj * u.cj * c.cj * u) (Gi.mul_ne (Gi.mul_ne dS (Gi.cj_ne u0)) (Gi.cj_ne u0)) (by grind) (by grind)
    · unfold RmP
      rw [dd]
      generalize dtG (a, b, c, d) = δ
      simp only [Gi.cj_add, Gi.cj_mul, Gi.cj_neg, Gi.cj_zero, Gi.cj_cj] at k1 ⊢
      exact eqv (Gi.mul_ne k1 (Gi.mul_ne ku ku)) (by grind) (by grind)
theorem mt_conj {f g : Int} (hf : f = 0 ∨ f = 1) (hg : g = 0 ∨ g = 1) {S : G4} (S0 : S.2.2.1 = 0) (dS : dtG S ≠ 0) (m : G4) : mtOf f (Pr g S (Pr f m (Bk g S))) = mtOf f m := by
  rw [cj_pr hf hg, mt_cjS hf S0 dS, mt_fl hf hg]

theorem nm_real {x : Gi} (h : x.cj = x) : x.nm = x.re * x.re := by
  have := im0.mpr h
  unfold Gi.nm
  rw [this]
  omega
theorem tr_rl {m : G4} (c : m.2.2.1 = 0) (h : RlP m) : TrP m := by
  have e : (m.1.cj * m.2.2.2).cj = m.1.cj * m.2.2.2 := by
    rw [Gi.cj_mul, Gi.cj_cj]
    exact h.symm
  refine ⟨(m.1.cj * m.2.2.2).re, ?_⟩
  rw [← nm_real e]
  unfold dtG
  rw [c, show m.1 * m.2.2.2 - m.2.1 * 0 = m.1 * m.2.2.2 by grind, Gi.nm_mul, Gi.nm_mul, Gi.nm_cj]
theorem tr_un {m : G4} (c : m.2.2.1 = 0) (h : UnP m) : TrP m := by
  refine ⟨m.1.nm, ?_⟩
  unfold dtG
  rw [c, show m.1 * m.2.2.2 - m.2.1 * 0 = m.1 * m.2.2.2 by grind, Gi.nm_mul, ← nm_eq.mpr h]
theorem tr_rm {m : G4} (c : m.2.2.1 ≠ 0) (h : RmP m) : TrP m := by
  have e : (dtG m * (m.2.2.1.cj * m.2.2.1.cj)).cj = dtG m * (m.2.2.1.cj * m.2.2.1.cj) := by
    simp only [Gi.cj_mul, Gi.cj_cj]
    exact h
  have q := nm_real e
  rw [Gi.nm_mul, Gi.nm_mul, Gi.nm_cj] at q
  exact sq_div (r := (dtG m * (m.2.2.1.cj * m.2.2.1.cj)).re) (Gi.nm_pos c) (by rw [← q]; generalize (dtG m).nm = x; generalize m.2.2.1.nm = y; grind)
theorem nz_a {m : G4} (d : dtG m ≠ 0) (c : m.2.2.1 = 0) : m.1 ≠ 0 ∧ m.2.2.2 ≠ 0 := by
  constructor <;> intro z <;> (refine d ?_; unfold dtG; rw [z, c]; grind)
theorem pr_dt (f : Int) (m n : G4) : dtG (Pr f m n) = dtG m * fl f (dtG n) := by
  unfold Pr
  rw [dt_mul, dt_fl]
theorem tr_pr {f : Int} {m n : G4} (h : TrP m) (k : TrP n) : TrP (Pr f m n) := by
  obtain ⟨r, h⟩ := h
  obtain ⟨s, k⟩ := k
  refine ⟨r * s, ?_⟩
  rw [pr_dt, Gi.nm_mul, show (fl f (dtG n)).nm = (dtG n).nm by unfold fl; split; exact Gi.nm_cj _; rfl, h, k]
  grind
theorem zc_l {f : Int} {m n : G4} (d : dtG m ≠ 0) (c : m.2.2.1 = 0) : (Pr f m n).2.2.1 = 0 ↔ n.2.2.1 = 0 := by
  show m.2.2.1 * fl f n.1 + m.2.2.2 * fl f n.2.2.1 = 0 ↔ _
  rw [c, show (0 : Gi) * fl f n.1 + m.2.2.2 * fl f n.2.2.1 = m.2.2.2 * fl f n.2.2.1 by grind]
  refine (scl_0 (nz_a d c).2).trans ?_
  unfold fl
  split
  · exact cj_0
  · exact Iff.rfl
theorem zc_r {f : Int} {m n : G4} (d : dtG n ≠ 0) (c : n.2.2.1 = 0) : (Pr f m n).2.2.1 = 0 ↔ m.2.2.1 = 0 := by
  show m.2.2.1 * fl f n.1 + m.2.2.2 * fl f n.2.2.1 = 0 ↔ _
  have z : fl f (0 : Gi) = 0 := by unfold fl; split <;> rfl
  rw [c, z, show m.2.2.1 * fl f n.1 + m.2.2.2 * 0 = fl f n.1 * m.2.2.1 by grind]
  exact scl_0 (fl_ne (nz_a d c).1)
theorem un_pr {f : Int} {m n : G4} (c : m.2.2.1 = 0) (c' : n.2.2.1 = 0) (h : UnP m) (k : UnP n) : UnP (Pr f m n) := by
  obtain ⟨a, b, c0, d⟩ := m
  obtain ⟨a', b', c1, d'⟩ := n
  simp only at c c'
  subst c c'
  unfold UnP at *
  unfold Pr
  simp only [mulm, flm, fl] at *
  split
  · simp only [Gi.cj_add, Gi.cj_mul, Gi.cj_cj, Gi.cj_zero]
    have : (a * a.cj) * (a' * a'.cj) = (d * d.cj) * (d' * d'.cj) := by rw [h, k]
    grind
  · simp only [Gi.cj_add, Gi.cj_mul, Gi.cj_cj, Gi.cj_zero]
    have : (a * a.cj) * (a' * a'.cj) = (d * d.cj) * (d' * d'.cj) := by rw [h, k]
    grind
theorem sa_pr {m n : G4} (c : m.2.2.1 = 0) (c' : n.2.2.1 = 0) (h : m.1 = m.2.2.2) (k : n.1 = n.2.2.2) : (Pr 0 m n).1 = (Pr 0 m n).2.2.2 := by
  obtain ⟨a, b, c0, d⟩ := m
  obtain ⟨a', b', c1, d'⟩ := n
  simp only at c c' h k
  subst c c' h k
  simp only [Pr, mulm, flm, flz0]
  grind
theorem rl_pr {m n : G4} (c : m.2.2.1 = 0) (c' : n.2.2.1 = 0) (h : RlP m) (k : RlP n) : RlP (Pr 0 m n) := by
  obtain ⟨a, b, c0, d⟩ := m
  obtain ⟨a', b', c1, d'⟩ := n
  unfold RlP at *
  simp only at c c' h k
  subst c c'
  simp only [Pr, mulm, flm, flz0, Gi.cj_add, Gi.cj_mul, Gi.cj_zero]
  have : (a.cj * d) * (a'.cj * d') = (a * d.cj) * (a' * d'.cj) := by rw [h, k]
  grind
theorem rm_l {m n : G4} (c : m.2.2.1 = 0) (h : m.1 = m.2.2.2) (k : RmP n) : RmP (Pr 0 m n) := by
  unfold RmP at *
  rw [pr_dt, flz0]
  have e : (Pr 0 m n).2.2.1 = m.2.2.2 * n.2.2.1 := by
    show m.2.2.1 * n.1 + m.2.2.2 * n.2.2.1 = _
    rw [c]
    grind
  have e2 : dtG m = m.2.2.2 * m.2.2.2 := by unfold dtG; rw [c, h]; grind
  rw [e, e2]
  generalize dtG n = δ at *
  simp only [Gi.cj_mul]
  have : (m.2.2.2 * m.2.2.2.cj * (m.2.2.2 * m.2.2.2.cj)) * (δ.cj * (n.2.2.1 * n.2.2.1)) = (m.2.2.2 * m.2.2.2.cj * (m.2.2.2 * m.2.2.2.cj)) * (δ * (n.2.2.1.cj * n.2.2.1.cj)) := by rw [k]
  grind
theorem rm_r {m n : G4} (c : n.2.2.1 = 0) (h : n.1 = n.2.2.2) (k : RmP m) : RmP (Pr 1 m n) := by
  unfold RmP at *
  rw [pr_dt, flz1]
  have e : (Pr 1 m n).2.2.1 = m.2.2.1 * n.2.2.2.cj := by
    show m.2.2.1 * n.1.cj + m.2.2.2 * n.2.2.1.cj = _
    rw [c, h, Gi.cj_zero]
    grind
  have e2 : dtG n = n.2.2.2 * n.2.2.2 := by unfold dtG; rw [c, h]; grind
  rw [e, e2]
  generalize dtG m = δ at *
  simp only [Gi.cj_mul, Gi.cj_cj]
  have : (n.2.2.2 * n.2.2.2.cj * (n.2.2.2 * n.2.2.2.cj)) * (δ.cj * (m.2.2.1 * m.2.2.1)) = (n.2.2.2 * n.2.2.2.cj * (n.2.2.2 * n.2.2.2.cj)) * (δ * (m.2.2.1.cj * m.2.2.1.cj)) := by rw [k]
  grind
/-- a mirror behind a turnabout -/
theorem pp_mi {m n : G4} (dm : dtG m ≠ 0) (c : m.2.2.1 = 0) (u : UnP m) (l : LmP m) (c' : n.2.2.1 ≠ 0) (ce : CeP n) (rm : RmP n) : PpP (Pr 1 m n) := by
  obtain ⟨a0, d0⟩ := nz_a dm c
  obtain ⟨a, b, c0, d⟩ := m
  obtain ⟨a', b', c1, d'⟩ := n
  simp only at c c' a0 d0
  subst c
  unfold UnP at u
  unfold LmP at l
  unfold CeP at ce
  unfold RmP at rm
  simp only at u l ce rm
  unfold PpP
  rw [pr_dt, flz1]
  have em : dtG (a, b, 0, d) = a * d := by unfold dtG; simp only; grind
  rw [em]
  generalize dtG (a', b', c1, d') = δ at rm ⊢
  simp only [Pr, mulm, flm, flz1, Gi.cj_add, Gi.cj_mul, Gi.cj_cj, Gi.cj_zero]
  have ce2 := congrArg Gi.cj ce
  simp only [Gi.cj_neg, Gi.cj_mul, Gi.cj_cj] at ce2
  have l2 := congrArg Gi.cj l
  simp only [Gi.cj_add, Gi.cj_mul, Gi.cj_cj, Gi.cj_zero] at l2
  obtain ⟨t, et⟩ : ∃ t, t = a * a'.cj + b * c1.cj + (0 * b'.cj + d * d'.cj) := ⟨_, rfl⟩
  obtain ⟨t', et'⟩ : ∃ t, t = a.cj * a' + b.cj * c1 + (0 * b' + d.cj * d') := ⟨_, rfl⟩
  rw [← et, ← et']
  have E1 : a * c1.cj * t' = -(c1 * d.cj * t) := by rw [et, et']; grind
  clear et et'
  refine Gi.cancel (c := a * (c1.cj * c1.cj)) (Gi.mul_ne a0 (Gi.mul_ne (Gi.cj_ne c') (Gi.cj_ne c'))) ?_
  have E2 : (a * c1.cj * t') * (a * c1.cj * t') = (c1 * d.cj * t) * (c1 * d.cj * t) := by rw [E1]; grind
  have E3 : (δ.cj * (c1 * c1)) * (d.cj * d.cj * d * (t * t)) = (δ * (c1.cj * c1.cj)) * (d.cj * d.cj * d * (t * t)) := by rw [rm]
  grind
/-- turnabouts: b c* is real -/
theorem bc_real {m : G4} (c : m.2.2.1 ≠ 0) (ce : CeP m) (rm : RmP m) : m.2.1 * m.2.2.1.cj = m.2.1.cj * m.2.2.1 := by
  obtain ⟨a, b, c0, d⟩ := m
  unfold CeP at ce
  unfold RmP dtG at rm
  simp only at c ce rm ⊢
  have ce2 := congrArg Gi.cj ce
  simp only [Gi.cj_neg, Gi.cj_mul, Gi.cj_cj] at ce2
  simp only [Gi.cj_sub, Gi.cj_mul] at rm
  refine Gi.cancel (c := c0 * c0.cj) (Gi.mul_ne c (Gi.cj_ne c)) ?_
  grind
/-- two turnabouts -/
theorem pp_tt {m n : G4} (c : m.2.2.1 ≠ 0) (c' : n.2.2.1 ≠ 0) (ce : CeP m) (rm : RmP m) (ce' : CeP n) (rm' : RmP n) : PpP (Pr 1 m n) := by
  have bc := bc_real c ce rm
  have bc' := bc_real c' ce' rm'
  obtain ⟨a, b, c0, d⟩ := m
  obtain ⟨a', b', c1, d'⟩ := n
  unfold CeP at ce ce'
  unfold RmP at rm rm'
  simp only at c c' ce ce' rm rm' bc bc'
  unfold PpP
  rw [pr_dt, flz1]
  generalize dtG (a, b, c0, d) = δ at rm ⊢
  generalize dtG (a', b', c1, d') = ε at rm' ⊢
  simp only [Pr, mulm, flm, flz1, Gi.cj_add, Gi.cj_mul, Gi.cj_cj]
  have ce2 := congrArg Gi.cj ce
  have ce3 := congrArg Gi.cj ce'
  simp only [Gi.cj_neg, Gi.cj_mul, Gi.cj_cj] at ce2 ce3
  obtain ⟨t, et⟩ : ∃ t, t = a * a'.cj + b * c1.cj + (c0 * b'.cj + d * d'.cj) := ⟨_, rfl⟩
  obtain ⟨t', et'⟩ : ∃ t, t = a.cj * a' + b.cj * c1 + (c0.cj * b' + d.cj * d') := ⟨_, rfl⟩
  rw [← et, ← et']
  have x1 : a * a'.cj * (c0.cj * c1) = d.cj * d' * (c0 * c1.cj) := by
    have : (a * c0.cj) * (a'.cj * c1) = (d.cj * c0) * (d' * c1.cj) := by rw [ce, ce3]; grind
    grind
  have x2 : d * d'.cj * (c0.cj * c1) = a.cj * a' * (c0 * c1.cj) := by
    have : (d * c0.cj) * (d'.cj * c1) = (a.cj * c0) * (a' * c1.cj) := by rw [ce2, ce']; grind
    grind
  have x3 : b * c1.cj * (c0.cj * c1) = b.cj * c1 * (c0 * c1.cj) := by
    have : (b * c0.cj) * (c1 * c1.cj) = (b.cj * c0) * (c1 * c1.cj) := by rw [bc]
    grind
  have x4 : c0 * b'.cj * (c0.cj * c1) = c0.cj * b' * (c0 * c1.cj) := by
    have : (b' * c1.cj) * (c0 * c0.cj) = (b'.cj * c1) * (c0 * c0.cj) := by rw [bc']
    grind
  have E1 : t * (c0.cj * c1) = t' * (c0 * c1.cj) := by rw [et, et']; grind
  clear et et' x1 x2 x3 x4
  refine Gi.cancel (c := (c0 * c0) * (c1.cj * c1.cj)) (Gi.mul_ne (Gi.mul_ne c c) (Gi.mul_ne (Gi.cj_ne c') (Gi.cj_ne c'))) ?_
  have E2 : (t * (c0.cj * c1)) * (t * (c0.cj * c1)) * (δ * ε.cj) = (t' * (c0 * c1.cj)) * (t' * (c0 * c1.cj)) * (δ * ε.cj) := by rw [E1]
  have E3 : (δ.cj * (c0 * c0)) * (ε * (c1.cj * c1.cj)) = (δ * (c0.cj * c0.cj)) * (ε.cj * (c1 * c1)) := by rw [rm, rm']
  have E4 : (t * t) * ((δ.cj * (c0 * c0)) * (ε * (c1.cj * c1.cj))) = (t * t) * ((δ * (c0.cj * c0.cj)) * (ε.cj * (c1 * c1))) := by rw [E3]
  grind
theorem rl_tt {m n : G4} (dm : dtG m ≠ 0) (dn : dtG n ≠ 0) (c : m.2.2.1 ≠ 0) (c' : n.2.2.1 ≠ 0) (rm : RmP m) (rm' : RmP n) (z : (Pr 1 m n).2.2.1 = 0) : RlP (Pr 1 m n) := by
  obtain ⟨a, b, c0, d⟩ := m
  obtain ⟨a', b', c1, d'⟩ := n
  unfold RmP at rm rm'
  have eδ : dtG (a, b, c0, d) = a * d - b * c0 := rfl
  have eε : dtG (a', b', c1, d') = a' * d' - b' * c1 := rfl
  simp only at c c' rm rm'
  unfold RlP
  simp only [Pr, mulm, flm, flz1] at z ⊢
  generalize dtG (a, b, c0, d) = δ at *
  generalize dtG (a', b', c1, d') = ε at *
  obtain ⟨A, eA⟩ : ∃ t, t = a * a'.cj + b * c1.cj := ⟨_, rfl⟩
  obtain ⟨E, eE⟩ : ∃ t, t = c0 * b'.cj + d * d'.cj := ⟨_, rfl⟩
  rw [← eA, ← eE]
  have h1 : A * c0 = -(c1.cj * δ) := by rw [eA, eδ]; grind
  have eε' := congrArg Gi.cj eε
  simp only [Gi.cj_sub, Gi.cj_mul] at eε'
  have h2 : E * c1.cj = -(c0 * ε.cj) * -1 * -1 := by rw [eE, eε']; grind
  have h2 : E * c1.cj = -(c0 * ε.cj) := by rw [h2]; grind
  have g1 := congrArg Gi.cj h1
  have g2 := congrArg Gi.cj h2
  simp only [Gi.cj_neg, Gi.cj_mul, Gi.cj_cj] at g1 g2
  clear eA eE z eδ eε eε'
  refine Gi.cancel (c := (c0 * c0.cj) * (c1 * c1.cj)) (Gi.mul_ne (Gi.mul_ne c (Gi.cj_ne c)) (Gi.mul_ne c' (Gi.cj_ne c'))) ?_
  have k1 : (A.cj * c0.cj) * (E * c1.cj) = c1 * δ.cj * (c0 * ε.cj) := by rw [g1, h2]; grind
  have k2 : (A * c0) * (E.cj * c1) = c1.cj * δ * (c0.cj * ε) := by rw [h1, g2]; grind
  have k3 : (δ.cj * (c0 * c0)) * (ε.cj * (c1 * c1)) = (δ * (c0.cj * c0.cj)) * (ε * (c1.cj * c1.cj)) := by rw [rm, rm']
  grind
theorem id_tt {m n : G4} (c : m.2.2.1 ≠ 0) (c' : n.2.2.1 ≠ 0) (ce : CeP m) (ce' : CeP n) (z : (Pr 1 m n).2.2.1 = 0) (s : (Pr 1 m n).1 = (Pr 1 m n).2.2.2) : (Pr 1 m n).2.1 = 0 := by
  obtain ⟨a, b, c0, d⟩ := m
  obtain ⟨a', b', c1, d'⟩ := n
  unfold CeP at ce ce'
  simp only at c c' ce ce'
  simp only [Pr, mulm, flm, flz1] at z s ⊢
  have z2 := congrArg Gi.cj z
  simp only [Gi.cj_add, Gi.cj_mul, Gi.cj_cj, Gi.cj_zero] at z2
  have k : (a * c1.cj + d'.cj * c0) * (c0.cj * c1) = 0 := by
    have : (a * c0.cj) * (c1 * c1.cj) + (d'.cj * c1) * (c0 * c0.cj) = 0 := by
      rw [ce, show d'.cj * c1 = -(a' * c1.cj) by rw [ce']; grind]
      have : (c0.cj * a' + d.cj * c1) * (c0 * c1.cj) = 0 := by rw [z2]; grind
      grind
    grind
  have k : a * c1.cj + d'.cj * c0 = 0 := (Gi.mul_zero' k).elim id fun h => absurd h (Gi.mul_ne (Gi.cj_ne c) c')
  refine Gi.cancel (c := c0 * c0) (Gi.mul_ne c c) ?_
  have e5 : (a * d - b * c0) * (a * c1.cj + d'.cj * c0) = 0 := by rw [k]; grind
  have z3 : a * a * (c0 * a'.cj + d * c1.cj) = 0 := by rw [z]; grind
  have s3 : c0 * (a * ((a * a'.cj + b * c1.cj) - (c0 * b'.cj + d * d'.cj))) = 0 := by rw [s]; grind
  clear ce ce' z z2 k s
  grind

def oneT (f id zc sa ul iv tu gr ca mi : Bool) : Bool := !id && (ca && sa && f && zc || gr && f && zc && !sa || mi && ul && !f && zc || tu && iv && !f && !zc)
def twoT (f zc sa rl un ul tr pp iv rm tu gr ca mi : Bool) : Bool := f && zc && sa && !ca && (gr || mi) || f && zc && !sa && !gr && (tu && rl || mi && un) || !f && zc && mi && (gr || un && ca) || f && !zc && tu && tr && pp || !f && !zc && tu && (gr || ca && rm)
def le2T (f id zc sa rl un ul tr pp iv rm tu gr ca mi : Bool) : Bool := id || f && zc && (sa && (ca || gr || mi) || !sa && (gr || tu && rl || mi && un)) || !f && zc && mi && (ul || gr || un && ca) || f && !zc && tu && tr && pp || !f && !zc && tu && (iv || gr || ca && rm)
def no4T (f zc sa rl un tr pp tu gr ca mi : Bool) : Bool := !(f && zc && sa && !ca && !gr && !mi) && !(f && zc && !sa && !gr && !(tu && rl) && !(mi && un)) && !(f && !zc && !gr && !ca && !(tr && pp)) && !(!f && zc && !mi && !tr)
def lqB (o : Option Int) (j : Int) : Bool := match o with
  | some i => decide (i ≤ j)
  | none => false
theorem T_one : ∀ f id zc sa rl un ul tr pp iv rm tu gr ca mi : Bool, fwT f id zc sa rl un ul tr pp iv rm tu gr ca mi = some 1 → oneT f id zc sa ul iv tu gr ca mi = true := by decide +kernel
theorem T_two : ∀ f id zc sa rl un ul tr pp iv rm tu gr ca mi : Bool, fwT f id zc sa rl un ul tr pp iv rm tu gr ca mi = some 2 → twoT f zc sa rl un ul tr pp iv rm tu gr ca mi = true := by decide +kernel
theorem T_le2 : ∀ f id zc sa rl un ul tr pp iv rm tu gr ca mi : Bool, le2T f id zc sa rl un ul tr pp iv rm tu gr ca mi = true → lqB (fwT f id zc sa rl un ul tr pp iv rm tu gr ca mi) 2 = true := by decide +kernel
theorem T_le3 : ∀ f id zc sa rl un ul tr pp iv rm tu gr ca mi : Bool, fwT f id zc sa rl un ul tr pp iv rm tu gr ca mi ≠ none → no4T f zc sa rl un tr pp tu gr ca mi = true → lqB (fwT f id zc sa rl un ul tr pp iv rm tu gr ca mi) 3 = true := by decide +kernel
theorem T_le4 : ∀ f id zc sa rl un ul tr pp iv rm tu gr ca mi : Bool, fwT f id zc sa rl un ul tr pp iv rm tu gr ca mi ≠ none → lqB (fwT f id zc sa rl un ul tr pp iv rm tu gr ca mi) 4 = true := by decide +kernel
theorem T_zero : ∀ f id zc sa rl un ul tr pp iv rm tu gr ca mi : Bool, fwT f id zc sa rl un ul tr pp iv rm tu gr ca mi = some 0 ↔ id = true := by decide +kernel

def okT (f id zc sa rl un ul tr iv rm : Bool) : Bool := (!id || f && zc && sa) && (!sa || f && zc && rl && un) && (!rl || f && zc && tr) && (!un || zc && tr) && (!ul || !f && un) && (!iv || !f && !zc && rm) && (!rm || !f && !zc && tr)
def nnT (f id zc sa un tr tu gr ca mi : Bool) : Bool := bif tu then gr || tr else bif gr then zc && (f || mi) else bif mi then zc && un else bif ca then sa else id
theorem T_nn : ∀ f id zc sa rl un ul tr iv rm : Bool, okT f id zc sa rl un ul tr iv rm = true → ∀ pp tu gr ca mi : Bool, (fwT f id zc sa rl un ul tr pp iv rm tu gr ca mi ≠ none ↔ nnT f id zc sa un tr tu gr ca mi = true) := by decide +kernel
theorem T_ok : ∀ p z s r u l t c e b : Bool, ((!z || !s || r && u) && (!z || !r || t) && (!z || !u || t) && (z || !e || t)) = true → okT p (p && (z && (s && b))) z (p && (z && s)) (p && (z && r)) (z && u) (!p && (z && (u && l))) t (!p && (!z && (c && e))) (!p && (!z && e)) = true := by decide +kernel
theorem T_val : ∀ f id zc sa rl un ul tr pp iv rm tu gr ca mi : Bool, fwT f id zc sa rl un ul tr pp iv rm tu gr ca mi = none ∨ fwT f id zc sa rl un ul tr pp iv rm tu gr ca mi = some 0 ∨ fwT f id zc sa rl un ul tr pp iv rm tu gr ca mi = some 1 ∨ fwT f id zc sa rl un ul tr pp iv rm tu gr ca mi = some 2 ∨ fwT f id zc sa rl un ul tr pp iv rm tu gr ca mi = some 3 ∨ fwT f id zc sa rl un ul tr pp iv rm tu gr ca mi = some 4 := by decide +kernel
theorem ok_mt (f : Int) (m : G4) : okT (mtOf f m).f (mtOf f m).id (mtOf f m).zc (mtOf f m).sa (mtOf f m).rl (mtOf f m).un (mtOf f m).ul (mtOf f m).tr (mtOf f m).iv (mtOf f m).rm = true := by
  have h1 : zcB m = true → saB m = true → rlB m = true ∧ unB m = true := fun z s => by
    have s := sa_iff.mp s
    refine ⟨rl_iff.mpr ?_, un_iff.mpr ?_⟩
    · unfold RlP; rw [s]; grind
    · unfold UnP; rw [s]
  have h2 : zcB m = true → rlB m = true → trB m = true := fun z r => tr_iff.mpr (tr_rl (zc_iff.mp z) (rl_iff.mp r))
  have h3 : zcB m = true → unB m = true → trB m = true := fun z u => tr_iff.mpr (tr_un (zc_iff.mp z) (un_iff.mp u))
  have h4 : zcB m = false → rmB m = true → trB m = true := fun z e => tr_iff.mpr (tr_rm (fun c => by rw [zc_iff.mpr c] at z; cases z) (rm_iff.mp e))
  refine T_ok (decide (f = 0)) (zcB m) (saB m) (rlB m) (unB m) (lmB m) (trB m) (ceB m) (rmB m) (decide (m.2.1 = 0)) ?_
  cases hz : zcB m <;> cases hs : saB m <;> cases hr : rlB m <;> cases hu : unB m <;> cases ht : trB m <;> cases he : rmB m <;> simp_all
theorem nn_mt (f : Int) (m : G4) (K : Kd) : (mtOf f m).fw K ≠ none ↔ nnT (mtOf f m).f (mtOf f m).id (mtOf f m).zc (mtOf f m).sa (mtOf f m).un (mtOf f m).tr K.tu K.gr K.ca K.mi = true := T_nn _ _ _ _ _ _ _ _ _ _ (ok_mt f m) _ _ _ _ _
section
variable {m : G4} {K : Kd}
theorem zc_f (c : m.2.2.1 ≠ 0) : zcB m = false := by
  cases h : zcB m with
  | false => rfl
  | true => exact absurd (zc_iff.mp h) c
theorem sa_f (c : m.1 ≠ m.2.2.2) : saB m = false := by
  cases h : saB m with
  | false => rfl
  | true => exact absurd (sa_iff.mp h) c
theorem le2_p0 (c : m.2.2.1 = 0) (h : K.gr = true ∨ K.ca = true ∧ m.1 = m.2.2.2 ∨ K.mi = true ∧ UnP m ∨ K.tu = true ∧ RlP m ∧ (m.1 = m.2.2.2 → m.2.1 = 0)) : lqB ((mtOf 0 m).fw K) 2 = true := by
  refine T_le2 _ _ _ _ _ _ _ _ _ _ _ _ _ _ _ ?_
  have z := zc_iff.mpr c
  by_cases s : m.1 = m.2.2.2
  · have s' := sa_iff.mpr s
    rcases h with h | ⟨h, _⟩ | ⟨h, _⟩ | ⟨_, _, h⟩
    · simp [le2T, mtOf, z, s', h]
    · simp [le2T, mtOf, z, s', h]
    · simp [le2T, mtOf, z, s', h]
    · simp [le2T, mtOf, idB, z, s', h s]
  · have s' := sa_f s
    rcases h with h | ⟨_, h⟩ | ⟨h, k⟩ | ⟨h, k, _⟩
    · simp [le2T, mtOf, z, s', h]
    · exact absurd h s
    · simp [le2T, mtOf, z, s', h, un_iff.mpr k]
    · simp [le2T, mtOf, z, s', h, rl_iff.mpr k]
theorem le2_m0 (c : m.2.2.1 = 0) (h : K.mi = true) (h2 : K.gr = true ∨ UnP m ∧ K.ca = true) : lqB ((mtOf 1 m).fw K) 2 = true := by
  refine T_le2 _ _ _ _ _ _ _ _ _ _ _ _ _ _ _ ?_
  have z := zc_iff.mpr c
  rcases h2 with h2 | ⟨h2, h3⟩
  · simp [le2T, mtOf, z, h, h2]
  · simp [le2T, mtOf, z, h, un_iff.mpr h2, h3]
theorem le2_p1 (c : m.2.2.1 ≠ 0) (h : K.tu = true) (t : TrP m) (p : PpP m) : lqB ((mtOf 0 m).fw K) 2 = true := by
  refine T_le2 _ _ _ _ _ _ _ _ _ _ _ _ _ _ _ ?_
  simp [le2T, mtOf, zc_f c, h, tr_iff.mpr t, pp_iff.mpr p]
theorem le2_m1 (c : m.2.2.1 ≠ 0) (h : K.tu = true) (h2 : K.gr = true ∨ RmP m ∧ K.ca = true) : lqB ((mtOf 1 m).fw K) 2 = true := by
  refine T_le2 _ _ _ _ _ _ _ _ _ _ _ _ _ _ _ ?_
  rcases h2 with h2 | ⟨h2, h3⟩
  · simp [le2T, mtOf, zc_f c, h, h2]
  · simp [le2T, mtOf, zc_f c, h, rm_iff.mpr h2, h3]
theorem le3_p0 (n : (mtOf 0 m).fw K ≠ none) (c : m.2.2.1 = 0) (h : m.1 = m.2.2.2 → K.gr = true ∨ K.ca = true ∨ K.mi = true) (h2 : m.1 ≠ m.2.2.2 → K.gr = true ∨ K.mi = true ∧ UnP m ∨ K.tu = true ∧ RlP m) : lqB ((mtOf 0 m).fw K) 3 = true := by
  refine T_le3 _ _ _ _ _ _ _ _ _ _ _ _ _ _ _ n ?_
  have z := zc_iff.mpr c
  by_cases s : m.1 = m.2.2.2
  · have s' := sa_iff.mpr s
    rcases h s with h | h | h <;> simp [no4T, mtOf, z, s', h]
  · have s' := sa_f s
    rcases h2 s with h | ⟨h, k⟩ | ⟨h, k⟩
    · simp [no4T, mtOf, z, s', h]
    · simp [no4T, mtOf, z, s', h, un_iff.mpr k]
    · simp [no4T, mtOf, z, s', h, rl_iff.mpr k]
theorem le3_p1 (n : (mtOf 0 m).fw K ≠ none) (c : m.2.2.1 ≠ 0) (h : K.gr = true ∨ K.ca = true) : lqB ((mtOf 0 m).fw K) 3 = true := by
  refine T_le3 _ _ _ _ _ _ _ _ _ _ _ _ _ _ _ n ?_
  rcases h with h | h <;> simp [no4T, mtOf, zc_f c, h]
theorem le3_m0 (n : (mtOf 1 m).fw K ≠ none) (c : m.2.2.1 = 0) (h : K.mi = true ∨ TrP m) : lqB ((mtOf 1 m).fw K) 3 = true := by
  refine T_le3 _ _ _ _ _ _ _ _ _ _ _ _ _ _ _ n ?_
  have z := zc_iff.mpr c
  rcases h with h | h
  · simp [no4T, mtOf, z, h]
  · simp [no4T, mtOf, z, tr_iff.mpr h]
theorem le3_m1 (n : (mtOf 1 m).fw K ≠ none) (c : m.2.2.1 ≠ 0) : lqB ((mtOf 1 m).fw K) 3 = true := by
  refine T_le3 _ _ _ _ _ _ _ _ _ _ _ _ _ _ _ n ?_
  simp [no4T, mtOf, zc_f c]
theorem one_of {f : Int} (hf : f = 0 ∨ f = 1) (h : (mtOf f m).fw K = some 1) : K.ca = true ∧ f = 0 ∧ m.2.2.1 = 0 ∧ m.1 = m.2.2.2 ∨ K.gr = true ∧ f = 0 ∧ m.2.2.1 = 0 ∨ K.mi = true ∧ f = 1 ∧ m.2.2.1 = 0 ∧ UnP m ∧ LmP m ∨ K.tu = true ∧ f = 1 ∧ m.2.2.1 ≠ 0 ∧ CeP m ∧ RmP m := by
  have h := T_one _ _ _ _ _ _ _ _ _ _ _ _ _ _ _ h
  rw [← zc_iff, ← sa_iff, ← un_iff, ← lm_iff, ← ce_iff, ← rm_iff]
  have z : m.2.2.1 ≠ 0 ↔ zcB m = false := ⟨zc_f, fun h e => by rw [zc_iff.mpr e] at h; cases h⟩
  rw [z]
  rcases hf with rfl | rfl <;> simp [oneT, mtOf] at h ⊢
  · rcases h.2 with ⟨⟨h1, h2⟩, h3⟩ | ⟨⟨h1, h2⟩, h3⟩ <;> simp_all
  · rcases h.2 with ⟨⟨h1, h2⟩, h3⟩ | ⟨⟨h1, h2⟩, h3⟩ <;> simp_all
theorem two_of {f : Int} (hf : f = 0 ∨ f = 1) (h : (mtOf f m).fw K = some 2) : K.ca = false ∧ (K.gr = true ∨ K.mi = true) ∧ f = 0 ∧ m.2.2.1 = 0 ∧ m.1 = m.2.2.2 ∨ K.gr = false ∧ f = 0 ∧ m.2.2.1 = 0 ∧ (K.tu = true ∧ RlP m ∨ K.mi = true ∧ UnP m) ∨ K.mi = true ∧ (K.gr = true ∨ UnP m ∧ K.ca = true) ∧ f = 1 ∧ m.2.2.1 = 0 ∨ K.tu = true ∧ f = 0 ∧ m.2.2.1 ≠ 0 ∧ TrP m ∧ PpP m ∨ K.tu = true ∧ f = 1 ∧ m.2.2.1 ≠ 0 ∧ (K.gr = true ∨ RmP m ∧ K.ca = true) := by
  have h := T_two _ _ _ _ _ _ _ _ _ _ _ _ _ _ _ h
  rw [← zc_iff, ← sa_iff, ← un_iff, ← rl_iff, ← pp_iff, ← rm_iff, ← tr_iff]
  have z : m.2.2.1 ≠ 0 ↔ zcB m = false := ⟨zc_f, fun h e => by rw [zc_iff.mpr e] at h; cases h⟩
  rw [z]
  rcases hf with rfl | rfl <;> simp [twoT, mtOf] at h ⊢
  · cases hz : zcB m <;> cases hs : saB m <;> simp_all
  · cases hz : zcB m with
    | true => simp_all
    | false =>
      simp_all
      exact h.2.imp_right And.symm
end

theorem lq_mono {o : Option Int} {j l : Int} (h : lqB o j = true) (e : j ≤ l) : lqB o l = true := by
  cases o with
  | none => exact h
  | some i =>
    have h : decide (i ≤ j) = true := h
    show decide (i ≤ l) = true
    rw [decide_eq_true_eq] at h ⊢
    omega
theorem id_of {f : Int} {m : G4} (h : idB f m = true) : f = 0 ∧ m.2.2.1 = 0 ∧ m.1 = m.2.2.2 ∧ m.2.1 = 0 := by
  unfold idB at h
  rw [Bool.and_eq_true, Bool.and_eq_true, Bool.and_eq_true, decide_eq_true_eq, decide_eq_true_eq, zc_iff, sa_iff] at h
  exact h
theorem pr_idl {m n : G4} (c : m.2.2.1 = 0) (a : m.1 = m.2.2.2) (b : m.2.1 = 0) : Pr 0 m n = scl m.1 n := by
  obtain ⟨m1, m2, m3, m4⟩ := m
  simp only at c a b
  subst a b c
  simp only [Pr, mulm, flm, flz0, scl]
  refine Prod.ext ?_ (Prod.ext ?_ (Prod.ext ?_ ?_)) <;> (simp only; grind)
theorem pr_idr {f : Int} {m n : G4} (c : n.2.2.1 = 0) (a : n.1 = n.2.2.2) (b : n.2.1 = 0) : Pr f m n = scl (fl f n.1) m := by
  obtain ⟨n1, n2, n3, n4⟩ := n
  simp only at c a b
  subst a b c
  have z : fl f (0 : Gi) = 0 := by unfold fl; split <;> rfl
  simp only [Pr, mulm, flm, scl, z]
  refine Prod.ext ?_ (Prod.ext ?_ (Prod.ext ?_ ?_)) <;> (simp only; grind)
theorem un_sa {m : G4} (h : m.1 = m.2.2.2) : UnP m := by unfold UnP; rw [h]
theorem rl_sa {m : G4} (h : m.1 = m.2.2.2) : RlP m := by unfold RlP; rw [h]; grind
theorem mt_l {g : Int} (hg : g = 0 ∨ g = 1) {m n : G4} (dm : dtG m ≠ 0) (h : m.2.2.1 = 0 ∧ m.1 = m.2.2.2 ∧ m.2.1 = 0) : mtOf ((0 + g) % 2) (Pr 0 m n) = mtOf g n := by
  rw [pr_idl h.1 h.2.1 h.2.2, show (0 + g) % 2 = g by omega]
  exact mt_scl (nz_a dm h.1).1 hg n
theorem mt_r {f : Int} (hf : f = 0 ∨ f = 1) {m n : G4} (dn : dtG n ≠ 0) (h : n.2.2.1 = 0 ∧ n.1 = n.2.2.2 ∧ n.2.1 = 0) : mtOf ((f + 0) % 2) (Pr f m n) = mtOf f m := by
  rw [pr_idr h.1 h.2.1 h.2.2, show (f + 0) % 2 = f by omega]
  exact mt_scl (fl_ne (nz_a dn h.1).1) hf m
section
variable {f g : Int} {m n : G4} {K : Kd}
theorem nn_pr (hf : f = 0 ∨ f = 1) (hg : g = 0 ∨ g = 1) (dm : dtG m ≠ 0) (dn : dtG n ≠ 0) (h1 : (mtOf f m).fw K ≠ none) (h2 : (mtOf g n).fw K ≠ none) : (mtOf ((f + g) % 2) (Pr f m n)).fw K ≠ none := by
  rw [nn_mt] at h1 h2 ⊢
  obtain ⟨tu, gr, ca, mi⟩ := K
  cases tu with
  | true =>
    have h1 : (gr || trB m) = true := h1
    have h2 : (gr || trB n) = true := h2
    show (gr || trB (Pr f m n)) = true
    rw [Bool.or_eq_true] at h1 h2 ⊢
    rcases h1 with h1 | h1
    · exact .inl h1
    rcases h2 with h2 | h2
    · exact .inl h2
    · exact .inr (tr_iff.mpr (tr_pr (tr_iff.mp h1) (tr_iff.mp h2)))
  | false =>
    cases gr with
    | true =>
      have h1 : (zcB m && (decide (f = 0) || mi)) = true := h1
      have h2 : (zcB n && (decide (g = 0) || mi)) = true := h2
      show (zcB (Pr f m n) && (decide ((f + g) % 2 = 0) || mi)) = true
      simp only [Bool.and_eq_true, Bool.or_eq_true, decide_eq_true_eq, zc_iff] at h1 h2 ⊢
      refine ⟨(zc_l dm h1.1).mpr h2.1, ?_⟩
      rcases h1.2 with a | a
      · rcases h2.2 with b | b
        · exact .inl (by omega)
        · exact .inr b
      · exact .inr a
    | false =>
      cases mi with
      | true =>
        have h1 : (zcB m && (zcB m && unB m)) = true := h1
        have h2 : (zcB n && (zcB n && unB n)) = true := h2
        show (zcB (Pr f m n) && (zcB (Pr f m n) && unB (Pr f m n))) = true
        simp only [Bool.and_eq_true, zc_iff, un_iff] at h1 h2 ⊢
        have z := (zc_l (f := f) dm h1.1).mpr h2.1
        exact ⟨z, z, un_pr h1.1 h2.1 h1.2.2 h2.2.2⟩
      | false =>
        cases ca with
        | true =>
          have h1 : (decide (f = 0) && (zcB m && saB m)) = true := h1
          have h2 : (decide (g = 0) && (zcB n && saB n)) = true := h2
          show (decide ((f + g) % 2 = 0) && (zcB (Pr f m n) && saB (Pr f m n))) = true
          simp only [Bool.and_eq_true, decide_eq_true_eq, zc_iff, sa_iff] at h1 h2 ⊢
          obtain ⟨rfl, c, s⟩ := h1
          obtain ⟨rfl, c', s'⟩ := h2
          exact ⟨rfl, (zc_l dm c).mpr c', sa_pr c c' s s'⟩
        | false =>
          have h1 : idB f m = true := h1
          obtain ⟨rfl, h⟩ := id_of h1
          rw [mt_l hg dm h]
          exact h2
theorem sub_bk (hf : f = 0 ∨ f = 1) (hg : g = 0 ∨ g = 1) {j : Int} (h : lqB ((mtOf ((g + f) % 2) (Pr g (Bk g n) (Bk f m))).fw K) j = true) : lqB ((mtOf ((f + g) % 2) (Pr f m n)).fw K) j = true := by
  rw [← bk_pr hf hg, show (g + f) % 2 = (f + g) % 2 by omega, mt_bk (by omega)] at h
  exact h
theorem bk_zc (hf : f = 0 ∨ f = 1) : (Bk f m).2.2.1 = 0 ↔ m.2.2.1 = 0 := by
  rcases hf with rfl | rfl
  · exact neg_0
  · exact cj_0.trans neg_0
theorem sub_mv (dm : dtG m ≠ 0) (dn : dtG n ≠ 0) (h1 : (mtOf 1 m).fw K = some 1) (h2 : (mtOf 1 n).fw K = some 1) (c : m.2.2.1 = 0) (c' : n.2.2.1 ≠ 0) : lqB ((mtOf 0 (Pr 1 m n)).fw K) 2 = true := by
  rcases one_of (.inr rfl) h1 with ⟨_, e, _⟩ | ⟨_, e, _⟩ | ⟨k, _, _, u, l⟩ | ⟨_, _, d, _⟩
  · exact absurd e (by decide)
  · exact absurd e (by decide)
  · rcases one_of (.inr rfl) h2 with ⟨_, e, _⟩ | ⟨_, e, _⟩ | ⟨_, _, d, _⟩ | ⟨k', _, _, ce', rm'⟩
    · exact absurd e (by decide)
    · exact absurd e (by decide)
    · exact absurd d c'
    · exact le2_p1 (fun e => c' ((zc_l dm c).mp e)) k' (tr_pr (tr_un c u) (tr_rm c' rm')) (pp_mi dm c u l c' ce' rm')
  · exact absurd c d
theorem sub11 (hf : f = 0 ∨ f = 1) (hg : g = 0 ∨ g = 1) (dm : dtG m ≠ 0) (dn : dtG n ≠ 0) (h1 : (mtOf f m).fw K = some 1) (h2 : (mtOf g n).fw K = some 1) : lqB ((mtOf ((f + g) % 2) (Pr f m n)).fw K) 2 = true := by
  rcases one_of hf h1 with ⟨k, rfl, c, s⟩ | ⟨k, rfl, c⟩ | ⟨k, rfl, c, u, l⟩ | ⟨k, rfl, c, ce, rm⟩
  · rcases one_of hg h2 with ⟨k', rfl, c', s'⟩ | ⟨k', rfl, c'⟩ | ⟨k', rfl, c', u', l'⟩ | ⟨k', rfl, c', ce', rm'⟩
    · exact le2_p0 ((zc_l dm c).mpr c') (.inr (.inl ⟨k, sa_pr c c' s s'⟩))
    · exact le2_p0 ((zc_l dm c).mpr c') (.inl k')
    · exact le2_m0 ((zc_l dm c).mpr c') k' (.inr ⟨un_pr c c' (un_sa s) u', k⟩)
    · exact le2_m1 (fun e => c' ((zc_l dm c).mp e)) k' (.inr ⟨rm_l c s rm', k⟩)
  · rcases one_of hg h2 with ⟨k', rfl, c', s'⟩ | ⟨k', rfl, c'⟩ | ⟨k', rfl, c', u', l'⟩ | ⟨k', rfl, c', ce', rm'⟩
    · exact le2_p0 ((zc_l dm c).mpr c') (.inl k)
    · exact le2_p0 ((zc_l dm c).mpr c') (.inl k)
    · exact le2_m0 ((zc_l dm c).mpr c') k' (.inl k)
    · exact le2_m1 (fun e => c' ((zc_l dm c).mp e)) k' (.inl k)
  · rcases one_of hg h2 with ⟨k', rfl, c', s'⟩ | ⟨k', rfl, c'⟩ | ⟨k', rfl, c', u', l'⟩ | ⟨k', rfl, c', ce', rm'⟩
    · exact le2_m0 ((zc_l dm c).mpr c') k (.inr ⟨un_pr c c' u (un_sa s'), k'⟩)
    · exact le2_m0 ((zc_l dm c).mpr c') k (.inl k')
    · exact le2_p0 ((zc_l dm c).mpr c') (.inr (.inr (.inl ⟨k, un_pr c c' u u'⟩)))
    · exact sub_mv dm dn h1 h2 c c'
  · rcases one_of hg h2 with ⟨k', rfl, c', s'⟩ | ⟨k', rfl, c'⟩ | ⟨k', rfl, c', u', l'⟩ | ⟨k', rfl, c', ce', rm'⟩
    · exact le2_m1 (fun e => c ((zc_r dn c').mp e)) k (.inr ⟨rm_r c' s' rm, k'⟩)
    · exact le2_m1 (fun e => c ((zc_r dn c').mp e)) k (.inl k')
    · exact sub_bk (.inr rfl) (.inr rfl) (sub_mv (dt_bk dn) (dt_bk dm) (by rw [mt_bk (.inr rfl)]; exact h2) (by rw [mt_bk (.inr rfl)]; exact h1) ((bk_zc (.inr rfl)).mpr c') fun e => c ((bk_zc (.inr rfl)).mp e))
    · by_cases z : (Pr 1 m n).2.2.1 = 0
      · exact le2_p0 z (.inr (.inr (.inr ⟨k, rl_tt dm dn c c' rm rm' z, id_tt c c' ce ce' z⟩)))
      · exact le2_p1 z k (tr_pr (tr_rm c rm) (tr_rm c' rm')) (pp_tt c c' ce rm ce' rm')
theorem sub12 (hf : f = 0 ∨ f = 1) (hg : g = 0 ∨ g = 1) (dm : dtG m ≠ 0) (dn : dtG n ≠ 0) (h1 : (mtOf f m).fw K = some 1) (h2 : (mtOf g n).fw K = some 2) : lqB ((mtOf ((f + g) % 2) (Pr f m n)).fw K) 3 = true := by
  have nn := nn_pr (K := K) hf hg dm dn (by rw [h1]; simp) (by rw [h2]; simp)
  have D := two_of hg h2
  rcases one_of hf h1 with ⟨k, rfl, c, s⟩ | ⟨k, rfl, c⟩ | ⟨k, rfl, c, u, l⟩ | ⟨k, rfl, c, ce, rm⟩
  · rcases D with ⟨k', _, rfl, c', s'⟩ | ⟨_, rfl, c', r⟩ | ⟨k', _, rfl, c'⟩ | ⟨_, rfl, c', _⟩ | ⟨_, rfl, c', _⟩
    · rw [k] at k'; cases k'
    · refine le3_p0 nn ((zc_l dm c).mpr c') (fun _ => .inr (.inl k)) fun _ => ?_
      rcases r with ⟨t, r⟩ | ⟨t, r⟩
      · exact .inr (.inr ⟨t, rl_pr c c' (rl_sa s) r⟩)
      · exact .inr (.inl ⟨t, un_pr c c' (un_sa s) r⟩)
    · exact le3_m0 nn ((zc_l dm c).mpr c') (.inl k')
    · exact le3_p1 nn (fun e => c' ((zc_l dm c).mp e)) (.inr k)
    · exact le3_m1 nn (fun e => c' ((zc_l dm c).mp e))
  · rcases D with ⟨_, _, rfl, c', s'⟩ | ⟨_, rfl, c', r⟩ | ⟨k', _, rfl, c'⟩ | ⟨_, rfl, c', _⟩ | ⟨_, rfl, c', _⟩
    · exact le3_p0 nn ((zc_l dm c).mpr c') (fun _ => .inl k) fun _ => .inl k
    · exact le3_p0 nn ((zc_l dm c).mpr c') (fun _ => .inl k) fun _ => .inl k
    · exact le3_m0 nn ((zc_l dm c).mpr c') (.inl k')
    · exact le3_p1 nn (fun e => c' ((zc_l dm c).mp e)) (.inl k)
    · exact le3_m1 nn (fun e => c' ((zc_l dm c).mp e))
  · rcases D with ⟨_, _, rfl, c', s'⟩ | ⟨_, rfl, c', r⟩ | ⟨k', r, rfl, c'⟩ | ⟨_, rfl, c', _⟩ | ⟨_, rfl, c', r⟩
    · exact le3_m0 nn ((zc_l dm c).mpr c') (.inl k)
    · exact le3_m0 nn ((zc_l dm c).mpr c') (.inl k)
    · refine le3_p0 nn ((zc_l dm c).mpr c') (fun _ => .inr (.inr k)) fun _ => ?_
      rcases r with r | ⟨r, _⟩
      · exact .inl r
      · exact .inr (.inl ⟨k, un_pr c c' u r⟩)
    · exact le3_m1 nn (fun e => c' ((zc_l dm c).mp e))
    · exact le3_p1 nn (fun e => c' ((zc_l dm c).mp e)) (r.imp id And.right)
  · rcases D with ⟨_, _, rfl, c', s'⟩ | ⟨_, rfl, c', r⟩ | ⟨k', r, rfl, c'⟩ | ⟨_, rfl, c', t, _⟩ | ⟨_, rfl, c', r⟩
    · exact le3_m1 nn (fun e => c ((zc_r dn c').mp e))
    · exact le3_m1 nn (fun e => c ((zc_r dn c').mp e))
    · exact le3_p1 nn (fun e => c ((zc_r dn c').mp e)) (r.imp id And.right)
    · by_cases z : (Pr 1 m n).2.2.1 = 0
      · exact le3_m0 nn z (.inr (tr_pr (tr_rm c rm) t))
      · exact le3_m1 nn z
    · by_cases z : (Pr 1 m n).2.2.1 = 0
      · refine le3_p0 nn z (fun _ => r.imp id fun r => .inl r.2) fun _ => ?_
        rcases r with r | ⟨r, _⟩
        · exact .inl r
        · exact .inr (.inr ⟨k, rl_tt dm dn c c' rm r z⟩)
      · exact le3_p1 nn z (r.imp id And.right)
theorem val_of (t : MtF) (K : Kd) {i : Int} (h : t.fw K = some i) : i = 0 ∨ i = 1 ∨ i = 2 ∨ i = 3 ∨ i = 4 := by
  have := T_val t.f t.id t.zc t.sa t.rl t.un t.ul t.tr t.pp t.iv t.rm K.tu K.gr K.ca K.mi
  have e : fwT t.f t.id t.zc t.sa t.rl t.un t.ul t.tr t.pp t.iv t.rm K.tu K.gr K.ca K.mi = some i := h
  rw [e] at this
  simpa using this
/-- one behind the other -/
theorem fw_sub (hf : f = 0 ∨ f = 1) (hg : g = 0 ∨ g = 1) (dm : dtG m ≠ 0) (dn : dtG n ≠ 0) {i j : Int} (h1 : (mtOf f m).fw K = some i) (h2 : (mtOf g n).fw K = some j) : lqB ((mtOf ((f + g) % 2) (Pr f m n)).fw K) (i + j) = true := by
  have v1 := val_of _ _ h1
  have v2 := val_of _ _ h2
  have nn := nn_pr (K := K) hf hg dm dn (by rw [h1]; simp) (by rw [h2]; simp)
  have four : 4 ≤ i + j → lqB ((mtOf ((f + g) % 2) (Pr f m n)).fw K) (i + j) = true := fun l => lq_mono (T_le4 _ _ _ _ _ _ _ _ _ _ _ _ _ _ _ nn) l
  by_cases i0 : i = 0
  · subst i0
    obtain ⟨rfl, h⟩ := id_of ((T_zero _ _ _ _ _ _ _ _ _ _ _ _ _ _ _).mp h1)
    rw [mt_l hg dm h, h2]
    exact decide_eq_true (by omega)
  by_cases j0 : j = 0
  · subst j0
    obtain ⟨rfl, h⟩ := id_of ((T_zero _ _ _ _ _ _ _ _ _ _ _ _ _ _ _).mp h2)
    rw [mt_r hf dn h, h1]
    exact decide_eq_true (by omega)
  by_cases l : 4 ≤ i + j
  · exact four l
  have : i = 1 ∧ j = 1 ∨ i = 1 ∧ j = 2 ∨ i = 2 ∧ j = 1 := by omega
  rcases this with ⟨rfl, rfl⟩ | ⟨rfl, rfl⟩ | ⟨rfl, rfl⟩
  · exact sub11 hf hg dm dn h1 h2
  · exact sub12 hf hg dm dn h1 h2
  · exact sub_bk hf hg (sub12 hg hf (dt_bk dn) (dt_bk dm) (by rw [mt_bk hg]; exact h2) (by rw [mt_bk hf]; exact h1))
end

def le1T (f id zc sa ul iv tu gr ca mi : Bool) : Bool := id || f && zc && (sa && ca || !sa && gr) || !f && zc && mi && ul || !f && !zc && tu && iv
def leO (o o' : Option Int) : Bool := match o with
  | none => true
  | some i => lqB o' i
theorem T_le1 : ∀ f id zc sa rl un ul tr pp iv rm tu gr ca mi : Bool, le1T f id zc sa ul iv tu gr ca mi = true → lqB (fwT f id zc sa rl un ul tr pp iv rm tu gr ca mi) 1 = true := by decide +kernel
theorem T_mt : ∀ f id zc sa rl un ul tr pp iv rm gr ca mi : Bool, leO (fwT f id zc sa rl un ul tr pp iv rm false gr ca mi) (fwT f id zc sa rl un ul tr pp iv rm true gr ca mi) = true := by decide +kernel
theorem T_mg : ∀ f id zc sa rl un ul tr pp iv rm tu ca mi : Bool, leO (fwT f id zc sa rl un ul tr pp iv rm tu false ca mi) (fwT f id zc sa rl un ul tr pp iv rm tu true ca mi) = true := by decide +kernel
theorem T_mc : ∀ f id zc sa rl un ul tr pp iv rm tu gr mi : Bool, leO (fwT f id zc sa rl un ul tr pp iv rm tu gr false mi) (fwT f id zc sa rl un ul tr pp iv rm tu gr true mi) = true := by decide +kernel
theorem T_mm : ∀ f id zc sa rl un ul tr pp iv rm tu gr ca : Bool, leO (fwT f id zc sa rl un ul tr pp iv rm tu gr ca false) (fwT f id zc sa rl un ul tr pp iv rm tu gr ca true) = true := by decide +kernel
theorem lq_some {o : Option Int} {j : Int} (h : lqB o j = true) : ∃ i, o = some i ∧ i ≤ j := by
  cases o with
  | none => cases h
  | some i => exact ⟨i, rfl, of_decide_eq_true h⟩
theorem leO_rf (o : Option Int) : leO o o = true := by
  cases o with
  | none => rfl
  | some i => exact decide_eq_true (Int.le_refl i)
theorem leO_tr {a b c : Option Int} (h : leO a b = true) (k : leO b c = true) : leO a c = true := by
  cases a with
  | none => rfl
  | some i =>
    obtain ⟨j, rfl, l⟩ := lq_some h
    exact lq_mono k l
theorem leO_st {F : Bool → Option Int} (h : leO (F false) (F true) = true) {a b : Bool} (l : a = true → b = true) : leO (F a) (F b) = true := by
  cases a <;> cases b
  · exact leO_rf _
  · exact h
  · exact absurd (l rfl) (by decide)
  · exact leO_rf _
theorem fw_more (t : MtF) {K K' : Kd} (h1 : K.tu = true → K'.tu = true) (h2 : K.gr = true → K'.gr = true) (h3 : K.ca = true → K'.ca = true) (h4 : K.mi = true → K'.mi = true) : leO (t.fw K) (t.fw K') = true := by
  unfold MtF.fw
  exact leO_tr (leO_st (F := fun x => fwT t.f t.id t.zc t.sa t.rl t.un t.ul t.tr t.pp t.iv t.rm x K.gr K.ca K.mi) (T_mt _ _ _ _ _ _ _ _ _ _ _ _ _ _) h1)
    (leO_tr (leO_st (F := fun x => fwT t.f t.id t.zc t.sa t.rl t.un t.ul t.tr t.pp t.iv t.rm K'.tu x K.ca K.mi) (T_mg _ _ _ _ _ _ _ _ _ _ _ _ _ _) h2)
    (leO_tr (leO_st (F := fun x => fwT t.f t.id t.zc t.sa t.rl t.un t.ul t.tr t.pp t.iv t.rm K'.tu K'.gr x K.mi) (T_mc _ _ _ _ _ _ _ _ _ _ _ _ _ _) h3)
    (leO_st (F := fun x => fwT t.f t.id t.zc t.sa t.rl t.un t.ul t.tr t.pp t.iv t.rm K'.tu K'.gr K'.ca x) (T_mm _ _ _ _ _ _ _ _ _ _ _ _ _ _) h4)))
theorem kd_sub {ws vs : List Str} (t : MtF) (h : ∀ w ∈ ws, w ∈ vs) : leO (t.fw (kdOf ws)) (t.fw (kdOf vs)) = true := by
  have g : ∀ w : Str, decide (w ∈ ws) = true → decide (w ∈ vs) = true := fun w e => decide_eq_true (h w (of_decide_eq_true e))
  exact fw_more t (g _) (g _) (g _) (g _)
def wdC : Ce → Str
  | .carry _ => "carry"
  | .mirror _ => "mirror"
  | .grow _ _ _ => "grow"
  | .turn _ _ _ => "turnabout"
theorem io_cj (x : Int) : (io x).cj = io x := rfl
theorem rGc (p : P3) : (rG p).cj = rG p := rfl
theorem cell_le {n : Nat} {c : Ce} {ws : List Str} (hc : CeOk n c) (h : wdC c ∈ ws) : lqB ((mtOf (ceF c) (ceN c)).fw (kdOf ws)) 1 = true := by
  refine T_le1 _ _ _ _ _ _ _ _ _ _ _ _ _ _ _ ?_
  cases c with
  | carry p =>
    have hk : ("carry" : Str) ∈ ws := h
    clear h
    have z : zcB (ceN (.carry p)) = true := zc_iff.mpr rfl
    have s : saB (ceN (.carry p)) = true := sa_iff.mpr rfl
    simp [le1T, mtOf, z, s, kdOf, hk, ceF]
  | grow p q g =>
    have hk : ("grow" : Str) ∈ ws := h
    clear h
    obtain ⟨hp, hq, q0, q1, _⟩ := hc
    have z : zcB (ceN (.grow p q g)) = true := zc_iff.mpr rfl
    have s : saB (ceN (.grow p q g)) = false := sa_f fun e => by
      have e : zG q * rG p = rG q * rG p := e
      have e : zG q = rG q := Gi.cancel hp.r0 (by grind)
      exact q1 ((hg_one (HG.self hq.toPt) hq.r0).mpr e)
    simp [le1T, mtOf, z, s, kdOf, hk, ceF]
  | mirror r =>
    have hk : ("mirror" : Str) ∈ ws := h
    clear h
    obtain ⟨hr, r0⟩ := hc
    obtain ⟨q, l, m, k⟩ := r
    simp only at r0
    subst r0
    have z : zcB (ceN (.mirror (0, l, m, k))) = true := zc_iff.mpr (by unfold ceN MM; rfl)
    have u : unB (ceN (.mirror (0, l, m, k))) = true := un_iff.mpr (by
      unfold ceN MM UnP
      refine Gi.ext' ?_ ?_
      · simp only [Gi.mul_re, Gi.cj]; grind
      · simp only [Gi.mul_im, Gi.cj]; grind)
    have l : lmB (ceN (.mirror (0, l, m, k))) = true := lm_iff.mpr (by
      unfold ceN MM LmP
      refine Gi.ext' ?_ ?_
      · simp only [Gi.add_re, Gi.mul_re, Gi.cj, Gi.zero_re]; grind
      · simp only [Gi.add_im, Gi.mul_im, Gi.cj, Gi.zero_im]; grind)
    simp [le1T, mtOf, z, u, l, kdOf, hk, ceF]
  | turn p w g =>
    have hk : ("turnabout" : Str) ∈ ws := h
    clear h
    obtain ⟨hp, hw, _⟩ := hc
    have pz := hp.pos
    have w2 := hw.p2
    have c0 : (ceN (.turn p w g)).2.2.1 ≠ 0 := fun e => by
      have e := congrArg Gi.re e
      have e : w.2 * p.2.2 * p.2.2 = 0 := e
      have := Int.mul_pos (Int.mul_pos w2 pz) pz
      omega
    have ce : ceB (ceN (.turn p w g)) = true := ce_iff.mpr (by
      unfold ceN CeP
      simp only [io_cj, Gi.cj_neg, Gi.cj_mul, Gi.cj_cj, rGc]
      grind)
    have rm : rmB (ceN (.turn p w g)) = true := rm_iff.mpr (by
      unfold ceN RmP dtG
      simp only [io_cj, Gi.cj_neg, Gi.cj_sub, Gi.cj_mul, Gi.cj_cj, rGc]
      grind)
    simp [le1T, mtOf, zc_f c0, ce, rm, kdOf, hk, ceF]
theorem id_g1 : idB 0 g1 = true := by
  unfold idB
  rw [zc_iff.mpr (show g1.2.2.1 = 0 from rfl), sa_iff.mpr (show g1.1 = g1.2.2.2 from rfl)]
  rfl
theorem row_le {n : Nat} {ws : List Str} : ∀ {cs : List Ce}, (∀ c ∈ cs, CeOk n c) → (∀ c ∈ cs, wdC c ∈ ws) → lqB ((mtOf (arF cs) (arN cs)).fw (kdOf ws)) (cs.length : Int) = true
  | [], _, _ => by
    have : (mtOf 0 g1).fw (kdOf ws) = some 0 := (T_zero _ _ _ _ _ _ _ _ _ _ _ _ _ _ _).mpr id_g1
    show lqB ((mtOf 0 g1).fw (kdOf ws)) 0 = true
    rw [this]
    rfl
  | c :: cs, hc, hw => by
    obtain ⟨i, e1, l1⟩ := lq_some (row_le (cs := cs) (fun c h => hc c (by simp [h])) fun c h => hw c (by simp [h]))
    obtain ⟨j, e2, l2⟩ := lq_some (cell_le (hc c (by simp)) (hw c (by simp)))
    have := fw_sub (arF_fl cs) (ceF_fl c) (arN_dt fun c h => hc c (by simp [h])) (ceN_dt (hc c (by simp))) e1 e2
    refine lq_mono this ?_
    rw [List.length_cons]
    omega
theorem mt_fm {n : Nat} {f : Int} {N x : G4} (hf : f = 0 ∨ f = 1) (h : Fm n N x) : mtOf f x = mtOf f N := by
  obtain ⟨c, c0, e⟩ := h.c
  rw [e, mt_scl c0 hf]

local macro_rules | `(tactic| walk_at "wc") => `(tactic| (walk_at "wk"; repeat (simp only [st_cm, st_cg, st_ct, st_mc, st_mg, st_mt, st_gc, st_gm, st_gt, st_tc, st_tm, st_tg]; walk_at "wk")))
theorem w__law_boxK {T : Tk} {w : Int} {wd : Str} {n : Nat} {k : KD} (hT : TkS T) (hw : IsKd wd) (w1 : 1 ≤ w) (w2 : w ≤ 1000000) (hn : w.toNat < 2 ^ n) (l : n ≤ 60) (l1 : 3 ≤ n) (h : ∀ c T', CeOk (2 * n + 1) c → wdC c = wd → TkS T' → k (cD c) T') : sm__law_box [.tank, .val (.str wd), .val (.int w)] T k := by
  rw [e__law_box, b__law_box]
  have nl : Nr (2 * n + 1) (1, 0, 1) ∧ Nr (2 * n + 1) (0, -1, 2) ∧ Nr (2 * n + 1) (3, 4, 5) := by
    have g : ∀ a b c : Int, -5 ≤ a → a ≤ 5 → -5 ≤ b → b ≤ 5 → 0 < c → c ≤ 5 → gcdL 0 [a, b, c] = 1 → Nr (2 * n + 1) (a, b, c) := fun a b c a0 a1 b0 b1 c0 c1 e => by
      have s : ∀ i : Int, -5 ≤ i → i ≤ 5 → Sz (2 * n + 1) i := fun i i0 i1 => (sz_le (n := 3) i0 i1 (by decide)).mono (by omega)
      exact ⟨⟨.inr c0, e, s a a0 a1, s b b0 b1, s c (by omega) c1⟩, c0⟩
    exact ⟨g _ _ _ (by decide) (by decide) (by decide) (by decide) (by decide) (by decide) (by decide), g _ _ _ (by decide) (by decide) (by decide) (by decide) (by decide) (by decide) (by decide), g _ _ _ (by decide) (by decide) (by decide) (by decide) (by decide) (by decide) (by decide)⟩
  rcases hw with rfl | rfl | rfl | rfl
  · walk_at "wc"
    refine w__law_spot hT w1 w2 hn l fun p T1 hp hT1 => ?_
    walk_at "wk"
    refine iteB_of (fun e => ?_) (fun e => ?_)
    · walk_at "wk"
      refine w__law_one_of hT1 (by simp) (by simp) fun x T2 hx hT2 => ?_
      simp only [List.mem_cons, List.not_mem_nil, or_false] at hx
      rcases hx with rfl | rfl | rfl
      · walk_at "wk"
        exact h (.carry (1, 0, 1)) T2 ⟨nl.1, by decide⟩ rfl hT2
      · walk_at "wk"
        exact h (.carry (0, -1, 2)) T2 ⟨nl.2.1, by decide⟩ rfl hT2
      · walk_at "wk"
        exact h (.carry (3, 4, 5)) T2 ⟨nl.2.2, by decide⟩ rfl hT2
    · walk_at "wk"
      exact h (.carry p) T1 ⟨hp.mono (by omega), fun z => by subst z; exact absurd e (by decide)⟩ rfl hT1
  · walk_at "wc"
    refine w__law_spot hT w1 w2 hn l fun p T1 hp hT1 => ?_
    walk_at "wc"
    refine w__law_scale hT1 w1 w2 hn l (by omega) fun q T2 hq z u hT2 => ?_
    walk_at "wk"
    refine w__law_spanS hT2 fun g T3 hg hT3 => ?_
    walk_at "wk"
    exact h (.grow p q g) T3 ⟨hp.mono (by omega), hq, z, u, hg⟩ rfl hT3
  · walk_at "wc"
    refine w__law_spot hT w1 w2 hn l fun p T1 hp hT1 => ?_
    walk_at "wc"
    refine w__law_power hT1 w1 w2 hn l l1 fun q T2 hq hT2 => ?_
    walk_at "wk"
    refine w__law_spanS hT2 fun g T3 hg hT3 => ?_
    walk_at "wk"
    exact h (.turn p q g) T3 ⟨hp.mono (by omega), ⟨hq.p1, hq.p2, hq.one, hq.s1.mono (by omega), hq.s2.mono (by omega)⟩, hg⟩ rfl hT3
  · walk_at "wc"
    refine w__law_stroke hT w1 w2 hn l (by omega) fun r T1 hr z hT1 => ?_
    walk_at "wk"
    exact h (.mirror r) T1 ⟨hr.mono (by omega), z⟩ rfl hT1
theorem boxesK_loop {F : dEnds} {A2 : Option SV} {ws : List Str} {cnt : Int} {n : Nat} (hws : ws ≠ []) (hwl : ws.length < 1000) (hw : ∀ x ∈ ws, IsKd x) (hn : if 2 < cnt then n = 9 else n = 19) :
    ∀ (j : Nat) (s : Int) (done : List Ce) (x5 x6 : Option SV) (T : Tk), TkS T → (∀ c ∈ done, CeOk n c ∧ wdC c ∈ ws) → done.length + j ≤ 100 →
    (∀ (cs : List Ce) x5 x6 T, (∀ c ∈ cs, CeOk n c ∧ wdC c ∈ ws) → cs.length = done.length + j → TkS T → F.nx [some .tank, some (.val (.lst (ws.map D.str))), A2, some (.val (.int cnt)), some (.own (cs.map cD)), x5, x6] T) →
    forL (gN 5) (sSeq (sAsg (dCall 2 sm__law_one_of (aTank 0 (aCons (dIf (dTst (dOp (oF fGt) (dVar 3) (dC (.int 2)))) (dLst (aCons (dC (.int 1)) (aCons (dC (.int 1)) (aCons (dC (.int 2)) (aCons (dC (.int 3)) (aCons (dC (.int 5)) (aCons (dC (.int 9)) (aNil)))))))) (dLst (aCons (dC (.int 1)) (aCons (dC (.int 2)) (aCons (dC (.int 3)) (aCons (dC (.int 9)) (aCons (dC (.int 9)) (aCons (dC (.int 400)) (aNil))))))))) (aNil)))) (gN 6)) (sApp 4 (dCall 3 sm__law_box (aTank 0 (aCons (dCall 2 sm__law_one_of (aTank 0 (aCons (dVar 1) (aNil)))) (aCons (dVar 6) (aNil))))))) F (intsL s j) [some .tank, some (.val (.lst (ws.map D.str))), A2, some (.val (.int cnt)), some (.own (done.map cD)), x5, x6] T := by
  intro j
  induction j with
  | zero => intro s done x5 x6 T hT hd hl fin; exact fin done _ _ T hd (by omega) hT
  | succ j ih =>
    intro s done x5 x6 T hT hd hl fin
    rw [intsL, forL_c]
    walk_at "wkn"
    refine iteB_of (fun e => ?_) (fun e => ?_)
    · have c2 : 2 < cnt := by simpa using e
      rw [if_pos c2] at hn
      subst hn
      walk_at "wkn"
      refine w__law_one_of hT (by simp) (by simp) fun x T1 hx hT1 => ?_
      obtain ⟨w, rfl, w1, w2⟩ : ∃ w : Int, x = .int w ∧ 1 ≤ w ∧ w ≤ 9 := by
        simp only [List.mem_cons, List.not_mem_nil, or_false] at hx
        rcases hx with rfl | rfl | rfl | rfl | rfl | rfl <;> exact ⟨_, rfl, by decide, by decide⟩
      walk_at "wkn"
      refine w__law_one_of hT1 (fun e => hws (List.map_eq_nil_iff.mp e)) (by rw [List.length_map]; omega) fun x T2 hx hT2 => ?_
      obtain ⟨y, hy, rfl⟩ := List.mem_map.mp hx
      walk_at "wkn"
      refine w__law_boxK (n := 4) hT2 (hw y hy) w1 (by omega) (by omega) (by decide) (by decide) fun c T3 hc hk hT3 => ?_
      walk_at "wkn"
      refine ⟨by rw [List.length_map]; omega, ?_⟩
      rw [show List.map cD done ++ [cD c] = (done ++ [c]).map cD by simp]
      refine ih _ (done ++ [c]) _ _ T3 hT3 (fun d hd' => ?_) (by simp; omega) fun cs y5 y6 T' h1 h2 h3 => fin cs y5 y6 T' h1 (by simp at h2; omega) h3
      rcases List.mem_append.mp hd' with o | o
      · exact hd d o
      · rw [List.mem_singleton] at o; subst o; exact ⟨hc, by rw [hk]; exact hy⟩
    · have c2 : ¬ 2 < cnt := by simpa using e
      rw [if_neg c2] at hn
      subst hn
      walk_at "wkn"
      refine w__law_one_of hT (by simp) (by simp) fun x T1 hx hT1 => ?_
      obtain ⟨w, rfl, w1, w2⟩ : ∃ w : Int, x = .int w ∧ 1 ≤ w ∧ w ≤ 400 := by
        simp only [List.mem_cons, List.not_mem_nil, or_false] at hx
        rcases hx with rfl | rfl | rfl | rfl | rfl | rfl <;> exact ⟨_, rfl, by decide, by decide⟩
      walk_at "wkn"
      refine w__law_one_of hT1 (fun e => hws (List.map_eq_nil_iff.mp e)) (by rw [List.length_map]; omega) fun x T2 hx hT2 => ?_
      obtain ⟨y, hy, rfl⟩ := List.mem_map.mp hx
      walk_at "wkn"
      refine w__law_boxK (n := 9) hT2 (hw y hy) w1 (by omega) (by omega) (by decide) (by decide) fun c T3 hc hk hT3 => ?_
      walk_at "wkn"
      refine ⟨by rw [List.length_map]; omega, ?_⟩
      rw [show List.map cD done ++ [cD c] = (done ++ [c]).map cD by simp]
      refine ih _ (done ++ [c]) _ _ T3 hT3 (fun d hd' => ?_) (by simp; omega) fun cs y5 y6 T' h1 h2 h3 => fin cs y5 y6 T' h1 (by simp at h2; omega) h3
      rcases List.mem_append.mp hd' with o | o
      · exact hd d o
      · rw [List.mem_singleton] at o; subst o; exact ⟨hc, by rw [hk]; exact hy⟩
theorem w__law_boxesK {T : Tk} {ws : List Str} {most : Nat} {k : KD} (hT : TkS T) (hws : ws ≠ []) (hwl : ws.length < 1000) (hw : ∀ x ∈ ws, IsKd x) (hm : most ≤ 50)
    (h : ∀ (n : Nat) (cs : List Ce) T', (∀ c ∈ cs, CeOk n c ∧ wdC c ∈ ws) → (n = 9 ∧ cs.length ≤ most ∨ n = 19 ∧ cs.length ≤ 2 ∧ cs.length ≤ most) → TkS T' → k (.tup (cs.map cD)) T') : sm__law_boxes [.tank, .val (.lst (ws.map D.str)), .val (.int (most : Int))] T k := by
  rw [e__law_boxes, b__law_boxes]
  walk_at "wkn"
  refine w__law_draw hT (by omega) (by omega) fun cnt T1 c0 c1 hT1 => ?_
  obtain ⟨cn, rfl⟩ := Int.eq_ofNat_of_zero_le c0
  walk_at "wkn"
  refine ⟨by omega, ?_⟩
  refine boxesK_loop (n := if 2 < (cn : Int) then 9 else 19) hws hwl hw (by split <;> rfl) _ 0 [] none none T1 hT1 (fun c hc => by simp at hc) (by simp; omega) fun cs x5 x6 T2 hc hl hT2 => ?_
  have hl : cs.length = cn := by simpa using hl
  walk_at "wkn"
  refine h _ cs T2 hc ?_ hT2
  split
  · left; exact ⟨rfl, by omega⟩
  · right; exact ⟨rfl, by omega, by omega⟩

theorem er_perm' {α : Type} : ∀ (l : List α) (i : Nat) (h : i < l.length), List.Perm (l[i] :: l.eraseIdx i) l
  | [], _, h => absurd h (Nat.not_lt_zero _)
  | x :: l, 0, _ => List.Perm.refl _
  | x :: l, i + 1, h => by
    have hi : i < l.length := Nat.lt_of_succ_lt_succ h
    have ih := er_perm' l i hi
    exact (List.Perm.swap x l[i] (l.eraseIdx i)).trans (List.Perm.cons x ih)
theorem ixN_nat' {n i : Nat} (h : i < n) : ixN n (i : Int) = some i := by
  unfold ixN
  rw [if_pos (by omega), if_pos (by omega), Int.toNat_natCast]
theorem shD_for {K : dEnds} {A1 : Option SV} {ms : List D} (hm : ms.length ≤ 100) : ∀ (js : List D) (l f : List D) (s4 : Option SV) (T : Tk), TkS T → l.length = js.length → List.Perm (f ++ l) ms → D.noLL l → (∀ f' s4 T', TkS T' → List.Perm f' ms → K.nx [some .tank, A1, some (.own []), some (.own f'), s4] T') →
    forL (gN 4) (sPopA 3 2 (dView 2 (dCall 2 sm__law_draw (aTank 0 (aCons (dBlt (oG fLen) (aCons (dVar 2) (aNil))) (aNil)))))) K js [some .tank, A1, some (.own l), some (.own f), s4] T
  | [], l, f, s4, T, hT, e, hp, _, fin => by
    have l0 : l = [] := List.eq_nil_of_length_eq_zero (by simpa using e)
    subst l0
    rw [List.append_nil] at hp
    exact fin f s4 T hT hp
  | j :: js, l, f, s4, T, hT, e, hp, nl, fin => by
    rw [List.length_cons] at e
    have lm := hp.length_eq
    rw [List.length_append] at lm
    have nle : ∀ (l : List D) (i : Nat), D.noLL l → D.noLL (l.eraseIdx i) := fun l => by
      induction l with
      | nil => exact fun i h => h
      | cons x l ih =>
        intro i h
        simp only [D.noLL] at h
        cases i with
        | zero => exact h.2
        | succ i => show D.noLL (x :: l.eraseIdx i); simp only [D.noLL]; exact ⟨h.1, ih i h.2⟩
    have ih := fun l f s4 T a b c d => shD_for (K := K) (A1 := A1) hm js l f s4 T a b c d fin
    rw [forL_c]
    generalize forL (gN 4) (sPopA 3 2 (dView 2 (dCall 2 sm__law_draw (aTank 0 (aCons (dBlt (oG fLen) (aCons (dVar 2) (aNil))) (aNil)))))) K js = RR at ih ⊢
    walk_at "wkn"
    refine w__law_draw hT (by omega) (by omega) fun r T1 r0 r1 hT1 => ?_
    obtain ⟨i, rfl⟩ := Int.eq_ofNat_of_zero_le r0
    have il : i < l.length := by omega
    walk_at "wkn"
    refine ⟨hT1.noL, ?_⟩
    rw [ixN_nat' il]
    walk_at "wkn"
    rw [List.getElem?_eq_getElem il]
    walk_at "wkn"
    refine ⟨by omega, by omega, ?_⟩
    refine ih (l.eraseIdx i) (f ++ [l[i]]) _ T1 hT1 (by rw [List.length_eraseIdx_of_lt il]; omega) ?_ (nle l i nl)
    rw [List.append_assoc]
    exact (List.Perm.append_left f (er_perm' l i il)).trans hp
theorem w__law_shuffledD {T : Tk} {ms : List D} {k : KD} (hT : TkS T) (hm : ms.length ≤ 100) (nl : D.noLL ms) (h : ∀ f T', TkS T' → List.Perm f ms → k (.lst f) T') : sm__law_shuffled [.tank, .val (.lst ms)] T k := by
  rw [e__law_shuffled, b__law_shuffled]
  walk_at "wkn"
  rw [Int.toNat_natCast]
  refine ⟨by omega, by omega, ?_⟩
  refine shD_for hm (intsL 0 ms.length) ms [] none T hT (by rw [intsL_len]) (by simp) nl fun f s4 T' hT' hp => ?_
  walk_at "wkn"
  exact h f T' hT' hp
def unD : D → Str
  | .str s => s
  | _ => ""
theorem perm_str {ws : List D} {l : List Str} (h : List.Perm ws (l.map D.str)) : ∃ vs : List Str, ws = vs.map D.str ∧ List.Perm vs l := by
  refine ⟨ws.map unD, ?_, ?_⟩
  · have : ∀ d ∈ ws, D.str (unD d) = d := fun d hd => by
      obtain ⟨s, _, rfl⟩ := List.mem_map.mp (h.mem_iff.mp hd)
      rfl
    have e : ws.map (D.str ∘ unD) = ws.map id := List.map_congr_left fun d hd => this d hd
    rw [List.map_id] at e
    rw [List.map_map]
    exact e.symm
  · have := h.map unD
    rw [List.map_map] at this
    have e : l.map (unD ∘ D.str) = l := by
      have : (unD ∘ D.str) = id := rfl
      rw [this, List.map_id]
    rw [e] at this
    exact this

theorem sw_for {K : dEnds} {A1 : Option SV} {us : List Str} (fin : ∀ (fs : List Str) A3 T, fs.Nodup → (∀ w ∈ fs, IsKd w) → (∀ w ∈ us, w ∈ fs) → fs.length ≤ 10 → TkS T → K.nx [some .tank, A1, some (.own (fs.map D.str)), A3] T) : ∀ (ms fs : List Str) (A3 : Option SV) (T : Tk), (∀ w ∈ ms, IsKd w) → fs.Nodup → (∀ w ∈ fs, IsKd w) → (∀ w ∈ us, w ∈ fs) → fs.length + ms.length ≤ 10 → TkS T → forL (gN 3) (sIf (dViewT 2 (dAnd (dTst (dOp (oF fNotInS) (dVar 3) (dVar 2))) (dTst (dOp (oF fEq) (dCall 2 sm__law_draw (aTank 0 (aCons (dC (.int 2)) (aNil)))) (dC (.int 0)))))) (sApp 2 (dVar 3)) ((fun k ρ T => k.nx ρ T))) K (ms.map D.str) [some .tank, A1, some (.own (fs.map D.str)), A3] T
  | [], fs, A3, T, _, nd, hk, hu, hl, hT => fin fs A3 T nd hk hu (by rw [List.length_nil] at hl; omega) hT
  | w :: ms, fs, A3, T, hm, nd, hk, hu, hl, hT => by
    rw [List.length_cons] at hl
    have hw := hm w (by simp)
    have ih := fun fs A3 T => sw_for (K := K) (A1 := A1) fin ms fs A3 T (fun v h => hm v (by simp [h]))
    rw [List.map_cons, forL_c]
    generalize forL (gN 3) (sIf (dViewT 2 (dAnd (dTst (dOp (oF fNotInS) (dVar 3) (dVar 2))) (dTst (dOp (oF fEq) (dCall 2 sm__law_draw (aTank 0 (aCons (dC (.int 2)) (aNil)))) (dC (.int 0)))))) (sApp 2 (dVar 3)) ((fun k ρ T => k.nx ρ T))) K (ms.map D.str) = RR at ih ⊢
    walk_at "wkn"
    refine ⟨⟨okN_eqOk (kdL_ok hw), okN_eqOk (by simp only [okN]; exact ⟨by decide, kds_ok hk⟩)⟩, ?_⟩
    rw [any_str]
    by_cases c : w ∈ fs
    · rw [decide_eq_true c]
      walk_at "wkn"
      first | refine ⟨hT.noL, ?_⟩ | skip
      exact ih fs _ _ nd hk hu (by omega) hT
    · rw [decide_eq_false c]
      walk_at "wkn"
      refine w__law_draw hT (by decide) (by decide) fun r T1 r0 r1 hT1 => ?_
      walk_at "wkn"
      refine ⟨hT1.noL, ?_⟩
      refine iteB_of (fun _ => ?_) fun _ => ?_
      · walk_at "wkn"
        refine ⟨by rw [List.length_map]; omega, ?_⟩
        have := ih (fs ++ [w]) (some (.val (.str w))) T1 (List.nodup_append.mpr ⟨nd, by simp, fun a ha b hb e => c (by rw [List.mem_singleton] at hb; rw [← hb, ← e]; exact ha)⟩) (fun v hv => by
          rcases List.mem_append.mp hv with h | h
          · exact hk v h
          · rw [List.mem_singleton] at h; rw [h]; exact hw) (fun v hv => List.mem_append.mpr (.inl (hu v hv))) (by rw [List.length_append]; simp only [List.length_cons, List.length_nil]; omega) hT1
        rw [List.map_append] at this
        exact this
      · exact ih fs _ _ nd hk hu (by omega) hT1
theorem str_noL : ∀ fs : List Str, D.noLL (fs.map D.str)
  | [] => trivial
  | f :: fs => by
    rw [List.map_cons]
    simp only [D.noLL, D.noL, true_and]
    exact str_noL fs
theorem w__law_some_words {T : Tk} {us : List Str} {k : KD} (hT : TkS T) (nd : us.Nodup) (hk : ∀ w ∈ us, IsKd w) (hl : us.length ≤ 4) (h : ∀ (vs : List Str) T', vs.Nodup → (∀ w ∈ vs, IsKd w) → (∀ w ∈ us, w ∈ vs) → vs.length ≤ 10 → TkS T' → k (.tup (vs.map D.str)) T') : sm__law_some_words [.tank, .val (.lst (us.map D.str))] T k := by
  rw [e__law_some_words, b__law_some_words]
  walk_at "wkn"
  first | refine ⟨by rw [List.length_map]; omega, ?_⟩ | skip
  refine sw_for (us := us) (fun fs A3 T1 nd1 hk1 hu1 hl1 hT1 => ?_) ["carry", "grow", "turnabout", "mirror"] us _ T (fun w hw => by simpa [IsKd] using hw) nd hk (fun w hw => hw) (by show us.length + 4 ≤ 10; omega) hT
  walk_at "wkn"
  refine w__law_shuffledD hT1 (by rw [List.length_map]; omega) (str_noL fs) fun ds T2 hT2 hp => ?_
  obtain ⟨vs, rfl, hq⟩ := perm_str hp
  walk_at "wkn"
  have := hq.length_eq
  first
    | exact h vs T2 (hq.nodup_iff.mpr nd1) (fun w hw => hk1 w (hq.mem_iff.mp hw)) (fun w hw => hq.mem_iff.mpr (hu1 w hw)) (by omega) hT2
    | (refine ⟨by rw [List.length_map]; omega, ?_⟩; exact h vs T2 (hq.nodup_iff.mpr nd1) (fun w hw => hk1 w (hq.mem_iff.mp hw)) (fun w hw => hq.mem_iff.mpr (hu1 w hw)) (by omega) hT2)

section
variable {K : Kd} {f g : Int} {m n x : G4} {a b l : Nat} {i j : Int}
theorem fw_val {F : Int} (h : Mq a F m) (e : fw F m K = some i) : 0 ≤ i ∧ i ≤ 4 := fw_rg F m K i e
theorem told_row {cs : List Ce} {ws : List Str} (hc : ∀ c ∈ cs, CeOk a c) (hw : ∀ c ∈ cs, wdC c ∈ ws) (h : Fm b (arN cs) m) : ∃ i, fw (arF cs) m (kdOf ws) = some i ∧ i ≤ cs.length := by
  have hm := h.mq (arF_fl cs) (arN_dt hc)
  rw [fw_mt hm, mt_fm (arF_fl cs) h]
  exact lq_some (row_le hc hw)
theorem told_join (hm : Mq a f m) (hn : Mq b g n) (h : Fm l (Pr f m n) x) (e1 : fw f m K = some i) (e2 : fw g n K = some j) : ∃ u, fw ((f + g) % 2) x K = some u ∧ u ≤ i + j := by
  rw [fw_mt hm] at e1
  rw [fw_mt hn] at e2
  rw [fw_mt (hm.pr hn h), mt_fm (flag_add hm.fl hn.fl) h]
  exact lq_some (fw_sub hm.fl hn.fl hm.dt hn.dt e1 e2)
theorem told_home (hm : Mq a f m) (h : Fm l (Bk f m) x) : fw f x K = fw f m K := by
  rw [fw_mt hm, fw_mt (hm.bk h), mt_fm hm.fl h, mt_bk hm.fl]
theorem told_move {x1 x2 x3 S : G4} {l1 l2 l3 : Nat} (hm : Mq a f m) (hS : Mq b g S) (S0 : S.2.2.1 = 0) (h1 : Fm l1 (Bk g S) x1) (h2 : Fm l2 (Pr f m x1) x2) (h3 : Fm l3 (Pr g S x2) x3) : fw ((g + (f + g) % 2) % 2) x3 K = fw f m K := by
  have m1 := hS.bk h1
  have m2 := hm.pr m1 h2
  have m3 := hS.pr m2 h3
  have ef : (g + (f + g) % 2) % 2 = f := by
    have := hm.fl
    have := hS.fl
    omega
  rw [ef] at m3
  rw [ef, fw_mt m3, fw_mt hm]
  obtain ⟨c1, z1, e1⟩ := h1.c
  obtain ⟨c2, z2, e2⟩ := h2.c
  obtain ⟨c3, z3, e3⟩ := h3.c
  have q := mt_conj (f := f) (g := g) hm.fl hS.fl S0 hS.dt m
  have p1 : Pr f m (scl c1 x1) = scl (fl f c1) (Pr f m x1) := by
    have := pr_scl f 1 c1 m x1
    rw [scl_one, show (1 : Gi) * fl f c1 = fl f c1 by grind] at this
    exact this
  have ss : ∀ (c d : Gi) (y : G4), scl c (scl d y) = scl (c * d) y := fun c d y => by
    unfold scl
    refine Prod.ext ?_ (Prod.ext ?_ (Prod.ext ?_ ?_)) <;> (simp only; grind)
  have p2 : ∀ c y, Pr g S (scl c y) = scl (fl g c) (Pr g S y) := fun c y => by
    have := pr_scl g 1 c S y
    rw [scl_one, show (1 : Gi) * fl g c = fl g c by grind] at this
    exact this
  rw [e1, p1, e2, ss, p2, e3, ss, mt_scl (Gi.mul_ne (fl_ne (Gi.mul_ne (fl_ne z1) z2)) z3) hm.fl] at q
  rw [q]
theorem told_back (hm : Mq a f m) (hn : Mq b g n) (h : Fm l (Pr f m n) x) {u v w : Int} (e1 : fw f m K = some v) (e2 : fw g n K = some u) (e3 : fw ((f + g) % 2) x K = some w) : u ≤ v + w := by
  rw [fw_mt hm, ← mt_bk hm.fl] at e1
  rw [fw_mt hn] at e2
  have hx := hm.pr hn h
  have fl' := flag_add hm.fl hn.fl
  rw [fw_mt hx, mt_fm fl' h] at e3
  have s := fw_sub hm.fl fl' (dt_bk hm.dt) (dt_pr hm.dt hn.dt) e1 e3
  have ef : (f + (f + g) % 2) % 2 = g := by
    have := hm.fl
    have := hn.fl
    omega
  have e0 : (f + f) % 2 = 0 := by omega
  rw [ef, ← pr_assoc hm.fl hm.fl, e0, (pr_back hm.fl m).1] at s
  have k0 : fl f (dtG m) ≠ 0 := fl_ne hm.dt
  rw [pr_idl (m := scl (fl f (dtG m)) (1, 0, 0, 1)) (by unfold scl; grind) rfl (by unfold scl; grind)] at s
  have k1 : (scl (fl f (dtG m)) (1, 0, 0, 1)).1 = fl f (dtG m) := by unfold scl; grind
  rw [k1, mt_scl k0 hn.fl, e2] at s
  exact of_decide_eq_true s
theorem told_still (hm : Mq a f m) (e : fw f m K = some i) : isB f m = decide (i = 0) := by
  rw [isB_id hm]
  have h := (T_zero _ _ _ _ _ _ _ _ _ _ _ K.tu K.gr K.ca K.mi).symm.trans (show (mtOf f m).fw K = some 0 ↔ i = 0 by rw [← fw_mt hm, e]; simp)
  exact b_ext (h.trans (by rw [decide_eq_true_eq]))
end
theorem w_fewI {T : Tk} {n : Nat} {f i : Int} {m : G4} {ws : List Str} {k : KD} (hm : Mq n f m) (hn : n ≤ 900) (nd : ws.Nodup) (hw : ∀ w ∈ ws, IsKd w) (e : fw f m (kdOf ws) = some i) (h : k (.int i) T) : sm_fewest_cells [.val (mD f m), .val (.tup (ws.map D.str))] T k :=
  w_fewest_cells hm hn nd hw (by rw [e]; exact h)

theorem w__law_is_whole1 {T : Tk} {i : Int} {k : KD} (h : k (.bl true) T) : sm__law_is_whole [.val (.int i)] T k := by
  rw [e__law_is_whole, b__law_is_whole]
  walk_at "wk"
  exact h

theorem cut_toC {xs : List D} (k : Nat) : cutD xs none (some (k : Int)) = xs.take k := by
  unfold cutD
  rw [HT.sIx_nat, HT.sIx_none, List.drop_zero, Nat.sub_zero]
  by_cases h : k ≤ xs.length
  · rw [Nat.min_eq_left h]
  · rw [Nat.min_eq_right (by omega), List.take_length, List.take_of_length_le (by omega)]
theorem kinds_lc {K : List D → Tk → Prop} {T : Tk} {A0 A1 A2 A3 A4 A5 A6 A8 A9 A10 A11 A12 A13 A14 A15 A16 A17 A18 A19 : Option SV} : ∀ (cs : List Ce) (acc : List D), K (acc ++ (cs.map wdC).map D.str) T → lcK [A0, A1, A2, A3, A4, A5, A6, none, A8, A9, A10, A11, A12, A13, A14, A15, A16, A17, A18, A19] (cN 7) dYes (dOp (oF fIx) (dVar 7) (dC (.int 0))) K (cs.map cD) acc T
  | [], acc, h => by
    rw [List.map_nil, lcK_nil]
    simpa using h
  | c :: cs, acc, h => by
    rw [List.map_cons, lcK_cons]
    have go := fun acc => kinds_lc (K := K) (T := T) (A0 := A0) (A1 := A1) (A2 := A2) (A3 := A3) (A4 := A4) (A5 := A5) (A6 := A6) (A8 := A8) (A9 := A9) (A10 := A10) (A11 := A11) (A12 := A12) (A13 := A13) (A14 := A14) (A15 := A15) (A16 := A16) (A17 := A17) (A18 := A18) (A19 := A19) cs acc
    have h' : K ((acc ++ [D.str (wdC c)]) ++ (cs.map wdC).map D.str) T := by
      rw [List.append_assoc]
      exact h
    cases c <;> (rw [cD]; walk_at "wkn"; exact go _ h')
theorem used_lc {K : List D → Tk → Prop} {T : Tk} {cs es : List Ce} {A1 A2 A5 A8 A9 A10 A11 A12 A13 A14 A15 A16 A17 A18 A19 : Option SV} (hl : cs.length ≤ 100) (hl2 : es.length ≤ 100) (hkd : ∀ c ∈ cs ++ es, IsKd (wdC c)) : ∀ (ws : List Str) (acc : List D), (∀ w ∈ ws, IsKd w) → K (acc ++ (ws.filter fun w => decide (w ∈ (cs ++ es).map wdC)).map D.str) T → lcK [some .tank, A1, A2, some (.val (.tup (cs.map cD))), some (.val (.tup (es.map cD))), A5, none, none, A8, A9, A10, A11, A12, A13, A14, A15, A16, A17, A18, A19] (cN 6) (dTst (dOp (oF fInS) (dVar 6) (dLc [7] (iQ (dOp (oF fAdd) (dVar 3) (dVar 4))) (cN 7) dYes (dOp (oF fIx) (dVar 7) (dC (.int 0)))))) (dVar 6) K (ws.map D.str) acc T
  | [], acc, _, h => by
    rw [List.map_nil, lcK_nil]
    simpa using h
  | w :: ws, acc, hw, h => by
    rw [List.map_cons, lcK_cons]
    have ih := fun acc => used_lc (K := K) (T := T) (A1 := A1) (A2 := A2) (A5 := A5) (A8 := A8) (A9 := A9) (A10 := A10) (A11 := A11) (A12 := A12) (A13 := A13) (A14 := A14) (A15 := A15) (A16 := A16) (A17 := A17) (A18 := A18) (A19 := A19) hl hl2 hkd ws acc (fun v h => hw v (by simp [h]))
    have w0 := hw w (by simp)
    generalize lcK [some .tank, A1, A2, some (.val (.tup (cs.map cD))), some (.val (.tup (es.map cD))), A5, none, none, A8, A9, A10, A11, A12, A13, A14, A15, A16, A17, A18, A19] (cN 6) (dTst (dOp (oF fInS) (dVar 6) (dLc [7] (iQ (dOp (oF fAdd) (dVar 3) (dVar 4))) (cN 7) dYes (dOp (oF fIx) (dVar 7) (dC (.int 0)))))) (dVar 6) K (ws.map D.str) = RR at ih ⊢
    walk_at "wkn"
    refine ⟨by rw [List.length_map, List.length_map]; omega, by rw [List.length_append, List.length_map, List.length_map]; omega, ?_⟩
    rw [← List.map_append]
    refine kinds_lc (cs ++ es) [] ?_
    rw [List.nil_append]
    rw [List.filter_cons] at h
    walk_at "wkn"
    refine ⟨⟨okN_eqOk (kdL_ok w0), okN_eqOk (by simp only [okN]; exact ⟨by decide, kds_ok (fun v hv => by obtain ⟨c, hc, rfl⟩ := List.mem_map.mp hv; exact hkd c hc)⟩)⟩, ?_⟩
    rw [any_str]
    by_cases c : w ∈ (cs ++ es).map wdC
    · rw [if_pos (decide_eq_true c)] at h
      refine iteB_p (decide_eq_true c) ?_
      walk_at "wkn"
      refine ih _ ?_
      rw [List.append_assoc]
      exact h
    · rw [if_neg (by rw [decide_eq_true_eq]; exact c)] at h
      refine iteB_n (decide_eq_false c) ?_
      exact ih _ h
theorem whole_lc {K : List D → Tk → Prop} {T : Tk} {A0 A1 A2 A3 A4 A5 A6 A8 A9 A10 A11 A12 A13 A14 A15 A16 A17 A18 A19 : Option SV} : ∀ (is : List Int) (acc : List D), (∀ i ∈ is, 0 ≤ i ∧ i ≤ 4) → K (acc ++ List.replicate is.length (.bl true)) T → lcK [A0, A1, A2, A3, A4, A5, A6, none, A8, A9, A10, A11, A12, A13, A14, A15, A16, A17, A18, A19] (cN 7) dYes (dAndV (dCall 1 sm__law_is_whole (aCons (dVar 7) (aNil))) (dChnV (fun i j => decide (i ≤ j)) (fun i j => decide (i ≤ j)) (dC (.int 0)) (dVar 7) (dC (.int 4)))) K (is.map D.int) acc T
  | [], acc, _, h => by
    rw [List.map_nil, lcK_nil]
    simpa using h
  | i :: is, acc, hi, h => by
    have ih := fun acc => whole_lc (K := K) (T := T) (A0 := A0) (A1 := A1) (A2 := A2) (A3 := A3) (A4 := A4) (A5 := A5) (A6 := A6) (A8 := A8) (A9 := A9) (A10 := A10) (A11 := A11) (A12 := A12) (A13 := A13) (A14 := A14) (A15 := A15) (A16 := A16) (A17 := A17) (A18 := A18) (A19 := A19) is acc (fun v h => hi v (by simp [h]))
    have i0 := hi i (by simp)
    rw [List.map_cons, lcK_cons]
    walk_at "wkn"
    refine w__law_is_whole1 ?_
    walk_at "wkn"
    rw [decide_eq_true i0.1]
    walk_at "wkn"
    rw [decide_eq_true i0.2]
    refine ih _ ?_
    rw [List.append_assoc]
    exact h
theorem whole2_lc {K : List D → Tk → Prop} {T : Tk} {A0 A1 A2 A3 A4 A5 A6 A8 A9 A10 A11 A12 A13 A14 A15 A16 A17 A18 A19 : Option SV} : ∀ (is : List Int) (acc : List D), K (acc ++ List.replicate is.length (.bl true)) T → lcK [A0, A1, A2, A3, A4, A5, A6, none, A8, A9, A10, A11, A12, A13, A14, A15, A16, A17, A18, A19] (cN 7) dYes (dCall 1 sm__law_is_whole (aCons (dVar 7) (aNil))) K (is.map D.int) acc T
  | [], acc, h => by
    rw [List.map_nil, lcK_nil]
    simpa using h
  | i :: is, acc, h => by
    rw [List.map_cons, lcK_cons]
    walk_at "wkn"
    refine w__law_is_whole1 ?_
    walk_at "wkn"
    refine whole2_lc is _ ?_
    rw [List.append_assoc]
    exact h
theorem cD_0 (c : Ce) : fIx (cD c) (.int 0) = some (True, .str (wdC c)) := by cases c <;> rfl
theorem rt79 {T : Tk} {F : Int} {m1 : G4} {c : Ce} {few wide ev : List Str} {i1 : Int} {x2 x3 x4 x5 : D} {A2 A3 A4 A5 A8 A11 A12 A13 A14 A15 A16 : Option SV} {k : KD} (hT : TkS T) (evn : ev.Nodup) (evk : ∀ w ∈ ev, IsKd w) (eva : ∀ w, IsKd w → w ∈ ev) (evl : ev.length ≤ 10) (M1 : Mq 273 F m1) (hc : CeOk 7 c) (hcw : wdC c ∈ wide) (nd : wide.Nodup) (kd : ∀ w ∈ wide, IsKd w) (sub : ∀ w ∈ few, w ∈ wide) (e1 : fw F m1 (kdOf few) = some i1) (h : ∀ T, k (.bl true) T) : (sSeq (sOwn 19 (aCons (dCall 2 sm_fewest_cells (aCons (dVar 10) (aCons (dVar 18) (aNil)))) (aCons (dCall 2 sm_fewest_cells (aCons (dCall 2 sm__law_joined (aCons (dVar 10) (aCons (dCall 1 sm__law_cell_map (aCons (dVar 9) (aNil))) (aNil)))) (aCons (dVar 18) (aNil)))) (aNil)))) (sSeq (sApp 19 (dCall 2 sm_fewest_cells (aCons (dVar 10) (aCons (dBlt (oG fTuple) (aCons (dVar 1) (aNil))) (aNil))))) (sSeq (sFrq 19 (sIf (dOr (dNot (dTst (dBlt (oG fAll) (aCons (dLc [7] (iQ (dVar 19)) (cN 7) dYes (dCall 1 sm__law_is_whole (aCons (dVar 7) (aNil)))) (aNil))))) (dOr (dTst (dOp (oF fGt) (dOp (oF fIx) (dVar 19) (dC (.int 0))) (dOp (oF fIx) (dVar 17) (dC (.int 0))))) (dTst (dOp (oF fGt) (dOp (oF fIx) (dVar 19) (dC (.int 2))) (dOp (oF fIx) (dVar 19) (dC (.int 0))))))) (sRet (dC (.bl false))) ((fun k ρ T => k.nx ρ T)))) (sFrq 19 (sRet (dOp (oF fLe) (dBlt (oG (fI1 iAbs)) (aCons (dOp (oF fSub) (dOp (oF fIx) (dVar 19) (dC (.int 1))) (dOp (oF fIx) (dVar 19) (dC (.int 0)))) (aNil))) (dC (.int 1)))))))) { nx := fun _ T => k .non T, rt := k, bk := fun _ _ => False, ct := fun _ _ => False } [some .tank, some (.val (.lst (ev.map D.str))), A2, A3, A4, A5, none, none, A8, some (.val (cD c)), some (.val (mD F m1)), A11, A12, A13, A14, A15, A16, some (.val (.lst [.int i1, x2, x3, x4, x5])), some (.val (.tup (wide.map D.str))), none] T := by
  obtain ⟨u0, E0, l0⟩ : ∃ u, fw F m1 (kdOf wide) = some u ∧ u ≤ i1 := by
    have := kd_sub (mtOf F m1) sub
    rw [← fw_mt M1, ← fw_mt M1, e1] at this
    exact lq_some this
  obtain ⟨u2, E2, l2⟩ : ∃ u, fw F m1 (kdOf ev) = some u ∧ u ≤ u0 := by
    have := kd_sub (ws := wide) (vs := ev) (mtOf F m1) (fun w hw => eva w (kd w hw))
    rw [← fw_mt M1, ← fw_mt M1, E0] at this
    exact lq_some this
  walk_at "wkn"
  refine w_fewI M1 (by decide) nd kd E0 ?_
  walk_at "wkn"
  refine w__law_cell_map hc (by decide) fun mc hmc => ?_
  have MC := ce_mq hc hmc
  obtain ⟨v, EV, lv⟩ : ∃ u, fw (ceF c) mc (kdOf wide) = some u ∧ u ≤ 1 := by
    rw [fw_mt MC, mt_fm (ceF_fl c) hmc]
    exact lq_some (cell_le hc hcw)
  walk_at "wkn"
  refine w__law_joinedM MC M1 (by decide) fun y hy => ?_
  have Y := MC.pr M1 hy
  obtain ⟨u1, E1, l1⟩ := told_join MC M1 hy EV E0
  have l3 := told_back MC M1 hy EV E0 E1
  walk_at "wkn"
  refine w_fewI Y (by decide) nd kd E1 ?_
  walk_at "wkn"
  refine w_fewI M1 (by decide) evn evk E2 ?_
  walk_at "wkn"
  refine whole2_lc [u0, u1, u2] [] ?_
  rw [List.nil_append, show List.replicate [u0, u1, u2].length (D.bl true) = (List.replicate 3 true).map D.bl from rfl]
  walk_at "wkn"
  rw [show bls? (List.map D.bl (List.replicate 3 true)) = some (List.replicate 3 true) from rfl]
  walk_at "wkn"
  rw [show ((List.replicate 3 true).all fun b => b) = true from rfl]
  walk_at "wkn"
  rw [decide_eq_false (show ¬ i1 < u0 by omega), decide_eq_false (show ¬ u0 < u2 by omega)]
  walk_at "wkn"
  rw [decide_eq_true (show iAbs (u1 - u0) ≤ 1 by unfold iAbs; omega)]
  exact h T
theorem w__law_right {T : Tk} {k : KD} (hT : TkS T) (h : ∀ T, k (.bl true) T) : sm__law_right [.tank] T k := by
  rw [e__law_right, b__law_right]
  have go := @rt79
  generalize (sSeq (sOwn 19 (aCons (dCall 2 sm_fewest_cells (aCons (dVar 10) (aCons (dVar 18) (aNil)))) (aCons (dCall 2 sm_fewest_cells (aCons (dCall 2 sm__law_joined (aCons (dVar 10) (aCons (dCall 1 sm__law_cell_map (aCons (dVar 9) (aNil))) (aNil)))) (aCons (dVar 18) (aNil)))) (aNil)))) (sSeq (sApp 19 (dCall 2 sm_fewest_cells (aCons (dVar 10) (aCons (dBlt (oG fTuple) (aCons (dVar 1) (aNil))) (aNil))))) (sSeq (sFrq 19 (sIf (dOr (dNot (dTst (dBlt (oG fAll) (aCons (dLc [7] (iQ (dVar 19)) (cN 7) dYes (dCall 1 sm__law_is_whole (aCons (dVar 7) (aNil)))) (aNil))))) (dOr (dTst (dOp (oF fGt) (dOp (oF fIx) (dVar 19) (dC (.int 0))) (dOp (oF fIx) (dVar 17) (dC (.int 0))))) (dTst (dOp (oF fGt) (dOp (oF fIx) (dVar 19) (dC (.int 2))) (dOp (oF fIx) (dVar 19) (dC (.int 0))))))) (sRet (dC (.bl false))) ((fun k ρ T => k.nx ρ T)))) (sFrq 19 (sRet (dOp (oF fLe) (dBlt (oG (fI1 iAbs)) (aCons (dOp (oF fSub) (dOp (oF fIx) (dVar 19) (dC (.int 1))) (dOp (oF fIx) (dVar 19) (dC (.int 0)))) (aNil))) (dC (.int 1)))))))) = TT at go ⊢
  walk_at "wkn"
  refine w__law_shuffledD hT (by decide) (by simp only [D.noLL, D.noL, and_true]) fun ds T1 hT1 hp => ?_
  obtain ⟨vs, rfl, hq⟩ := perm_str (l := ["carry", "grow", "turnabout", "mirror"]) hp
  have lv : vs.length = 4 := hq.length_eq
  have kd : ∀ w ∈ vs, IsKd w := fun w hw => by have := hq.mem_iff.mp hw; simpa using this
  walk_at "wkn"
  refine w__law_draw hT1 (by decide) (by decide) fun r T2 r0 r1 hT2 => ?_
  walk_at "wkn"
  obtain ⟨j, rfl⟩ : ∃ n : Nat, r = n := ⟨r.toNat, by omega⟩
  rw [show (1 : Int) + (j : Int) = ((j + 1 : Nat) : Int) by omega, cut_toC, ← List.map_take]
  have wn : vs.take (j + 1) ≠ [] := by
    intro e
    have := congrArg List.length e
    rw [List.length_take, List.length_nil] at this
    omega
  have wk : ∀ w ∈ vs.take (j + 1), IsKd w := fun w hw => kd w (List.mem_of_mem_take hw)
  have wl : (vs.take (j + 1)).length < 1000 := by rw [List.length_take]; omega
  generalize vs.take (j + 1) = ws at wn wk wl ⊢
  refine w__law_boxesK (most := 3) hT2 wn wl wk (by decide) fun n1 cs T3 hcs hn1 hT3 => ?_
  walk_at "wkn"
  refine w__law_boxesK (most := 4) hT3 wn wl wk (by decide) fun n2 es T4 hes hn2 hT4 => ?_
  walk_at "wkn"
  have L1 : cs.length ≤ 3 := by omega
  have L2 : es.length ≤ 4 := by omega
  have kk : ∀ c ∈ cs ++ es, IsKd (wdC c) := fun c hc => by
    rcases List.mem_append.mp hc with h1 | h1
    · exact wk _ (hcs c h1).2
    · exact wk _ (hes c h1).2
  refine used_lc (by omega) (by omega) kk ["carry", "grow", "turnabout", "mirror"] [] (fun w hw => by simpa [IsKd] using hw) ?_
  rw [List.nil_append]
  have us1 : ((["carry", "grow", "turnabout", "mirror"] : List Str).filter fun w => decide (w ∈ (cs ++ es).map wdC)).Nodup := List.Pairwise.filter _ (show List.Nodup (["carry", "grow", "turnabout", "mirror"] : List Str) by decide +kernel)
  have us2 : ∀ w ∈ ((["carry", "grow", "turnabout", "mirror"] : List Str).filter fun w => decide (w ∈ (cs ++ es).map wdC)), IsKd w := fun w hw => by have := (List.mem_filter.mp hw).1; simpa [IsKd] using this
  have us3 : ∀ c ∈ cs ++ es, wdC c ∈ ((["carry", "grow", "turnabout", "mirror"] : List Str).filter fun w => decide (w ∈ (cs ++ es).map wdC)) := fun c hc => List.mem_filter.mpr ⟨by have := kk c hc; simpa [IsKd] using this, decide_eq_true (List.mem_map.mpr ⟨c, hc, rfl⟩)⟩
  have us4 : ((["carry", "grow", "turnabout", "mirror"] : List Str).filter fun w => decide (w ∈ (cs ++ es).map wdC)).length ≤ 4 := List.length_filter_le _ _
  generalize ((["carry", "grow", "turnabout", "mirror"] : List Str).filter fun w => decide (w ∈ (cs ++ es).map wdC)) = us at us1 us2 us3 us4 ⊢
  walk_at "wkn"
  refine w__law_some_words hT4 us1 us2 us4 fun few T5 fw1 fw2 fw3 fw4 hT5 => ?_
  walk_at "wkn"
  refine w__law_one_of hT5 (fun e => wn (List.map_eq_nil_iff.mp e)) (by rw [List.length_map]; omega) fun x T6 hx hT6 => ?_
  obtain ⟨y, hy, rfl⟩ := List.mem_map.mp hx
  walk_at "wkn"
  refine w__law_boxK (n := 3) hT6 (wk y hy) (by decide) (by decide) (by decide) (by decide) (by decide) fun c T7 hc hck hT7 => ?_
  walk_at "wkn"
  refine w__law_way (n := n1) (fun c h => (hcs c h).1) (by omega) (by rcases hn1 with ⟨rfl, _⟩ | ⟨rfl, _, _⟩ <;> omega) fun m1 hm1 => ?_
  walk_at "wkn"
  refine w__law_way (n := n2) (fun c h => (hes c h).1) (by omega) (by rcases hn2 with ⟨rfl, _⟩ | ⟨rfl, _, _⟩ <;> omega) fun m2 hm2 => ?_
  walk_at "wkn"
  refine w__law_pair hT7 (by decide) (by decide) fun a T8 a0 ca hT8 => ?_
  walk_at "wkn"
  refine w__law_pair hT8 (by decide) (by decide) fun b T9 _ cb hT9 => ?_
  walk_at "wkn"
  refine w__law_draw hT9 (by decide) (by decide) fun s T10 s0 s1 hT10 => ?_
  walk_at "wkn"
  refine w__law_pair hT10 (by decide) (by decide) fun d T11 d0 cd hT11 => ?_
  walk_at "wkn"
  have dN : dtG (a, b, 0, d) ≠ 0 := by
    rw [show dtG (a, b, 0, d) = a * d by unfold dtG; simp only; grind]
    exact Gi.mul_ne a0 d0
  rw [show D.tup [.int 0, .int 0] = gD 0 from rfl]
  refine w__law_formG (n := 20) (N := (a, b, 0, d)) (gi_cz9 ca) (gi_cz9 cb) nz_zero (gi_cz9 cd) (by decide) (dt_fst dN) fun S hS => ?_
  have qS : Mq 20 s S := hS.mq (by omega) dN
  have S0 : S.2.2.1 = 0 := by
    obtain ⟨c0, z, e⟩ := hS.c
    have e3 : (0 : Gi) = c0 * S.2.2.1 := congrArg (fun x : G4 => x.2.2.1) e
    exact (scl_0 z).mp e3.symm
  have M1 : Mq 273 (arF cs) m1 := (hm1.mq (arF_fl cs) (arN_dt fun c h => (hcs c h).1)).mono (by rcases hn1 with ⟨rfl, _⟩ | ⟨rfl, _, _⟩ <;> omega)
  have M2 : Mq 300 (arF es) m2 := (hm2.mq (arF_fl es) (arN_dt fun c h => (hes c h).1)).mono (by rcases hn2 with ⟨rfl, _⟩ | ⟨rfl, _, _⟩ <;> omega)
  walk_at "wkn"
  refine w__law_homeM qS (by decide) fun x1 hx1 => ?_
  have X1 := qS.bk hx1
  walk_at "wkn"
  refine w__law_joinedM M1 X1 (by decide) fun x2 hx2 => ?_
  have X2 := M1.pr X1 hx2
  walk_at "wkn"
  refine w__law_joinedM qS X2 (by decide) fun x3 hx3 => ?_
  have X3 := qS.pr X2 hx3
  walk_at "wkn"
  refine w__law_joinedM M2 M1 (by decide) fun x4 hx4 => ?_
  have X4 := M2.pr M1 hx4
  walk_at "wkn"
  refine w__law_homeM M1 (by decide) fun x5 hx5 => ?_
  have X5 := M1.bk hx5
  obtain ⟨i1, e1, l1⟩ := told_row (ws := few) (fun c h => (hcs c h).1) (fun c h => fw3 _ (us3 c (List.mem_append.mpr (.inl h)))) hm1
  obtain ⟨i2, e2, l2⟩ := told_row (ws := few) (fun c h => (hes c h).1) (fun c h => fw3 _ (us3 c (List.mem_append.mpr (.inr h)))) hm2
  obtain ⟨i4, e4, l4⟩ := told_join M2 M1 hx4 e2 e1
  have e5 := told_home (K := kdOf few) M1 hx5
  have e3 := told_move (K := kdOf few) M1 qS S0 hx1 hx2 hx3
  rw [e1] at e5 e3
  walk_at "wki"
  refine w_fewI M1 (by decide) fw1 fw2 e1 ?_
  walk_at "wki"
  refine w_fewI M2 (by decide) fw1 fw2 e2 ?_
  walk_at "wki"
  refine w_fewI X4 (by decide) fw1 fw2 e4 ?_
  walk_at "wki"
  refine w_fewI X5 (by decide) fw1 fw2 e5 ?_
  walk_at "wki"
  refine w_fewI X3 (by decide) fw1 fw2 e3 ?_
  walk_at "wkn"
  have v1 := fw_val M1 e1
  have v2 := fw_val M2 e2
  have v4 := fw_val X4 e4
  refine whole_lc [i1, i2, i4, i1, i1] [] (fun i hi => by
    simp only [List.mem_cons, List.not_mem_nil, or_false] at hi
    rcases hi with rfl | rfl | rfl | rfl | rfl <;> assumption) ?_
  rw [List.nil_append, show List.replicate [i1, i2, i4, i1, i1].length (D.bl true) = (List.replicate 5 true).map D.bl from rfl]
  walk_at "wkn"
  rw [show bls? (List.map D.bl (List.replicate 5 true)) = some (List.replicate 5 true) from rfl]
  walk_at "wkn"
  rw [show ((List.replicate 5 true).all fun b => b) = true from rfl]
  walk_at "wkn"
  rw [List.length_map, List.length_map, decide_eq_false (show ¬ (cs.length : Int) < i1 by omega), decide_eq_false (show ¬ (es.length : Int) < i2 by omega), decide_eq_false (show ¬ i1 + i2 < i4 by omega)]
  walk_at "wkn"
  refine w__law_still ?_
  walk_at "wkn"
  rw [is_dc, told_still M1 e1]
  walk_at "wkn"
  rw [cD_0]
  walk_at "wkn"
  refine ⟨⟨okN_eqOk (kdL_ok (by rw [hck]; exact wk y hy)), okN_eqOk (by simp only [okN]; exact ⟨by decide, kds_ok fw2⟩)⟩, ?_⟩
  rw [any_str]
  have evn : (["carry", "grow", "turnabout", "mirror"] : List Str).Nodup := by decide +kernel
  have evk : ∀ w ∈ (["carry", "grow", "turnabout", "mirror"] : List Str), IsKd w := fun w hw => by simpa [IsKd] using hw
  have eva : ∀ w, IsKd w → w ∈ (["carry", "grow", "turnabout", "mirror"] : List Str) := fun w hw => by simpa [IsKd] using hw
  by_cases cf : wdC c ∈ few
  · refine iteB_p (decide_eq_true cf) ?_
    walk_at "wkn"
    exact go (ev := ["carry", "grow", "turnabout", "mirror"]) hT11 evn evk eva (by decide) M1 hc cf fw1 fw2 (fun w hw => hw) e1 h
  · refine iteB_n (decide_eq_false cf) ?_
    walk_at "wkn"
    rw [cD_0]
    walk_at "wkn"
    refine ⟨by rw [List.length_map]; omega, ?_⟩
    rw [show List.map D.str few ++ [D.str (wdC c)] = (few ++ [wdC c]).map D.str by rw [List.map_append]; rfl]
    exact go (ev := ["carry", "grow", "turnabout", "mirror"]) hT11 evn evk eva (by decide) M1 hc (List.mem_append.mpr (.inr (by simp))) (List.nodup_append.mpr ⟨fw1, by simp, fun a ha b hb e => cf (by rw [List.mem_singleton] at hb; rw [← hb, ← e]; exact ha)⟩) (fun w hw => by
      rcases List.mem_append.mp hw with o | o
      · exact fw2 w o
      · rw [List.mem_singleton] at o; rw [o, hck]; exact wk y hy) (fun w hw => List.mem_append.mpr (.inl hw)) e1 h

theorem w_law {ns : List Int} (h : ns.length ≤ 63) : sm_law [.val (scrD ns)] [] fun r _ => r = .bl true := by
  rw [e_law, b_law, scrD]
  walk_at "wki"
  refine w__law_spring (ns := ns) (by decide) (by decide) (by omega) fun T hT => ?_
  walk_at "wki"
  refine w__law_right hT fun T' => ?_
  walk_at "wki"
  refine w__law_spring (ns := ns) (by decide) (by decide) (by omega) fun T hT => ?_
  walk_at "wki"
  refine w__law_right hT fun T' => ?_
  walk_at "wki"

theorem w_fin (ns : List Int) (h : ns.length ≤ 63) : sm_law [.val (scrD ns)] [] fun r _ => r = .bl true := w_law h
end L2.G
open PySem PySem.W PyProof.Rows in
set_option maxRecDepth 100000 in
set_option maxHeartbeats 0 in
theorem PySem.Challenge.cw_drawarms_k79_whole_no_arm_beats_the_fewe_holds : PySem.Challenge.rw_drawarms_k79_whole_no_arm_beats_the_fewe.Holds := by
  w_on; o_law
  refine HandSHeadRun.head_imp (r := PySem.W.OpenLaw.row PySem.Challenge.rw_drawarms_k79_whole_no_arm_beats_the_fewe) (q := L2.G.hdV) (H := L2.G.hdK) (ob := L2.G.hdO) (M := 20000) (loose := L2.G.hdNames) (d := HandSHeadRun.topDef (PySem.W.OpenLaw.row PySem.Challenge.rw_drawarms_k79_whole_no_arm_beats_the_fewe).prog 95) (kwd := []) L2.G.hdO_eq
    L2.G.hd_run (by kernel_rfl) (by kernel_rfl) (by kernel_rfl) (by rfl) (by first | assumption | decide +kernel) (by decide +kernel) ⟨rfl, rfl, rfl, rfl, rfl, by decide +kernel⟩ ?hw ?hc
  case hw => w_witness2
  case hc =>
    refine L2.G.g_walkE (l := PySem.Challenge.rw_drawarms_k79_whole_no_arm_beats_the_fewe) (n := 63) (k := 11) (x := "law") (y := "_law_script") (sem := L2.G.sm_law) L2.G.hd rfl rfl (by decide) (by kernel_rfl) ⟨rfl, by decide, by decide⟩ (by kernel_rfl) ?F L2.G.w_fin
    intro w mg h Y G
    obtain ⟨K, KX, c, te⟩ := Y
    exact ⟨K, KX, c, te, fun base hK hG => L2.G.ok_law (L2.G.hd_tx hK hG c)⟩
