import PyProof.Rows.All
import Wide.All
import OpenK.AllK
import Wide.FinOn
import HandS.ForMost
import HandS.Exc
import HandS.TryOnly
import HandS.ExcOwn
import HandS.ExcInit
import HandS.WordsExc
import HandS.ExcField
import HandS.Flow
import HandS.Style
import HandS.Sort
import HandS.SortOrd
import HandS.SortKw
import HandS.SortInts
import HandS.Strs
import HandS.SetFor
import HandS.TupSets
import HandS.IsInst
import HandS.Property
import HandS.OwnEq
import HandS.DictComp
import HandS.DictTup
import HandS.TupLen
import HandS.Deep
import HandS.Zip
import HandS.More
import HandS.Wide
import HandS.Steps
import HandS.Defaults
import HandS.Conv
import HandS.HeadHook1
import HandS.HeadHook2
import HandS.Lambda
import KE.SortKeyHeap
import HandS.Head0
import HandS.Head1
import HandS.Head2
import HandS.HeadHook4
import HandS.HeadWalk
import PySem.Challenge.RW_outshiners_k46_whole_brightest_of_all
set_option Elab.async false
set_option linter.all false
set_option maxRecDepth 100000
/-! ## OB -/
set_option maxHeartbeats 4000000
namespace OB
open PySem PySem.Spec PyProof.Rows L2
/-! ### the text -/
def prog : PySem.Program := PySem.Challenge.pw_outshiners_k46_whole_brightest_of_all
def top (i : Nat) : Stmt := prog.main.body.getD i (.Pass ⟨0, 0, 0, 0⟩)

/-! ### heaps that grow: B what is known for good, H what stands; what B does not know may change by its owner alone -/
def ExW (B B' : Hp) : Prop := ∀ a o, B a = some o → B' a = some o ∨ (∃ kvs, o = HO.dK kvs ∧ ∃ od, B' a = some (.frz od o))
theorem ExW.refl (B : Hp) : ExW B B := fun _ _ h => .inl h
theorem ExW.trans {A B C : Hp} (h : ExW A B) (k : ExW B C) : ExW A C := fun a o e => by
  rcases h a o e with h1 | ⟨kvs, e1, od, h1⟩
  · exact k a o h1
  · rcases k a _ h1 with h2 | ⟨_, e2, _⟩
    · exact .inr ⟨kvs, e1, od, h2⟩
    · cases e2
theorem ExW.new {B : Hp} {p : Addr} {o : HO} (h : B p = none) : ExW B (upd B p o) := fun a u e => .inl (by rw [upd_ne (ne_of_none e h)]; exact e)
theorem ExW.rd {B B' : Hp} {a : Addr} {kvs : List (Key × V)} (h : ExW B B') (r : Rd B a (.dK kvs)) : Rd B' a (.dK kvs) := by
  rcases r with r | ⟨o, r⟩
  · rcases h a _ r with q | ⟨_, _, od, q⟩
    · exact .inl q
    · exact .inr ⟨od, q⟩
  · rcases h a _ r with q | ⟨_, e, _⟩
    · exact .inr ⟨o, q⟩
    · cases e
theorem ExW.tup {B B' : Hp} {a : Addr} {xs : List V} (h : ExW B B') (r : B a = some (.tup xs)) : B' a = some (.tup xs) := by
  rcases h a _ r with q | ⟨_, e, _⟩
  · exact q
  · cases e
theorem ExW.lst {B B' : Hp} {a : Addr} {xs : List V} (h : ExW B B') (r : B a = some (.lst xs)) : B' a = some (.lst xs) := by
  rcases h a _ r with q | ⟨_, e, _⟩
  · exact q
  · cases e
theorem ExW.ins {B B' : Hp} {a C dx : Addr} {fs : List (Str × V)} (h : ExW B B') (r : B a = some (.ins C dx fs)) : B' a = some (.ins C dx fs) := by
  rcases h a _ r with q | ⟨_, e, _⟩
  · exact q
  · cases e
theorem ExW.none {B H : Hp} {a : Addr} (h : ExW B H) (e : H a = none) : B a = none := by
  cases q : B a with
  | none => rfl
  | some o =>
    rcases h a o q with z | ⟨_, _, _, z⟩ <;> rw [e] at z <;> cases z

/-- a stretch of the run: S may change; what B knows stays (a dict may be locked); what it does not know stays as it is, and stays unknown -/
structure Gr (S : List Addr) (B H B' H' : Hp) : Prop where
  keep : ∀ a o, a ∉ S → B a = none → H a = some o → H' a = some o
  up : ExW B B'
  sub : ExW B' H'
  new : ∀ a, B a = none → H a ≠ none → B' a = none
  there : ∀ a, H a ≠ none → H' a ≠ none
theorem Gr.refl {S : List Addr} {B H : Hp} (h : ExW B H) : Gr S B H B H := ⟨fun _ _ _ _ e => e, ExW.refl B, h, fun _ e _ => e, fun _ e => e⟩
theorem Gr.trans {S : List Addr} {B H B1 H1 B2 H2 : Hp} (a : Gr S B H B1 H1) (b : Gr S B1 H1 B2 H2) : Gr S B H B2 H2 :=
  ⟨fun x o hs hb e => b.keep x o hs (a.new x hb (by rw [e]; exact fun z => nomatch z)) (a.keep x o hs hb e), a.up.trans b.up, b.sub,
    fun x hb e => b.new x (a.new x hb e) (a.there x e), fun x e => b.there x (a.there x e)⟩
theorem Gr.mono {S S' : List Addr} {B H B1 H1 : Hp} (a : Gr S B H B1 H1) (h : ∀ x ∈ S, x ∈ S') : Gr S' B H B1 H1 :=
  ⟨fun x o hs hb e => a.keep x o (fun z => hs (h x z)) hb e, a.up, a.sub, a.new, a.there⟩
theorem Gr.any {S : List Addr} {B H B1 H1 : Hp} (a : Gr [] B H B1 H1) : Gr S B H B1 H1 := a.mono (fun _ z => nomatch z)
/-- a new object, not yet made known -/
theorem Gr.new_ {S : List Addr} {B H : Hp} {p : Addr} {o : HO} (h : ExW B H) (hp : H p = none) : Gr S B H B (upd H p o) :=
  ⟨fun a u _ _ e => by rw [upd_ne (ne_of_none e hp)]; exact e, ExW.refl B, h.trans (ExW.new hp), fun _ e _ => e, fun a e => by
    by_cases z : a = p
    · rw [z, upd_same]; exact fun q => nomatch q
    · rw [upd_ne z]; exact e⟩
/-- it is made known -/
theorem Gr.pub {S : List Addr} {B H B1 H1 : Hp} {p : Addr} {o : HO} (g : Gr S B H B1 H1) (hp : H p = none) (hb : B1 p = none) (ho : H1 p = some o) : Gr S B H (upd B1 p o) H1 :=
  ⟨g.keep, g.up.trans (ExW.new hb), fun a u e => by
    by_cases z : a = p
    · subst z; rw [upd_same] at e; cases e; exact .inl ho
    · rw [upd_ne z] at e; exact g.sub a u e, fun a hn e => by
    rw [upd_ne (fun z => e (by rw [z]; exact hp))]; exact g.new a hn e, g.there⟩
/-- a new object, made known at once -/
theorem Gr.newP {S : List Addr} {B H : Hp} {p : Addr} {o : HO} (h : ExW B H) (hp : H p = none) : Gr S B H (upd B p o) (upd H p o) :=
  (Gr.new_ h hp).pub hp (h.none hp) upd_same
/-- an object that B does not know is changed by its owner -/
theorem Gr.mut {S : List Addr} {B H B1 H1 : Hp} {p : Addr} {o : HO} (g : Gr S B H B1 H1) (hp : H p = none ∨ p ∈ S) (hb : B1 p = none) : Gr S B H B1 (upd H1 p o) :=
  ⟨fun a u hs hn e => by
    have z : a ≠ p := fun z => by
      rcases hp with q | q
      · rw [z, q] at e; cases e
      · exact hs (z ▸ q)
    rw [upd_ne z]; exact g.keep a u hs hn e, g.up, fun a u e => by
    have z : a ≠ p := fun z => by rw [z, hb] at e; cases e
    rw [upd_ne z]; exact g.sub a u e, g.new, fun a e => by
    by_cases z : a = p
    · rw [z, upd_same]; exact fun q => nomatch q
    · rw [upd_ne z]; exact g.there a e⟩
/-- a known dict is locked -/
theorem Gr.lock {S : List Addr} {B H B1 H1 : Hp} {d : Addr} {od : Obj} {kvs : List (Key × V)} (g : Gr S B H B1 H1) (hb : B1 d = some (.dK kvs)) (hh : H1 d = some (.dK kvs)) :
    Gr S B H (upd B1 d (.frz od (.dK kvs))) (upd H1 d (.frz od (.dK kvs))) := by
  refine ⟨fun a u hs hn e => ?_, fun a u e => ?_, fun a u e => ?_, fun a hn e => ?_, fun a e => ?_⟩
  · have z : a ≠ d := fun z => by
      have q := g.new a hn (by rw [e]; exact fun z => nomatch z)
      rw [z, hb] at q; cases q
    rw [upd_ne z]; exact g.keep a u hs hn e
  · rcases g.up a u e with q | ⟨ks, e1, o1, q⟩
    · by_cases z : a = d
      · subst z
        rw [hb] at q; cases q
        exact .inr ⟨kvs, rfl, od, upd_same⟩
      · exact .inl (by rw [upd_ne z]; exact q)
    · have z : a ≠ d := fun z => by rw [z, hb] at q; cases q
      exact .inr ⟨ks, e1, o1, by rw [upd_ne z]; exact q⟩
  · by_cases z : a = d
    · subst z; rw [upd_same] at e; cases e; exact .inl upd_same
    · rw [upd_ne z] at e; rw [upd_ne z]; exact g.sub a u e
  · have z : a ≠ d := fun z => by
      have q := g.new a hn e
      rw [z, hb] at q; cases q
    rw [upd_ne z]; exact g.new a hn e
  · by_cases z : a = d
    · rw [z, upd_same]; exact fun q => nomatch q
    · rw [upd_ne z]; exact g.there a e

/-! ### what a value stands for -/
structure Rp (α : Type) where
  rel : Hp → α → V → Prop
  mono : ∀ {B B' : Hp} {x : α} {v : V}, ExW B B' → rel B x v → rel B' x v
def vo : Option Int → V
  | none => .non
  | some i => .int i
def rInt : Rp Int := ⟨fun _ i v => v = .int i, fun _ h => h⟩
def rStr : Rp Str := ⟨fun _ i v => v = .str i, fun _ h => h⟩
def rBool : Rp Bool := ⟨fun _ i v => v = .bl i, fun _ h => h⟩
def rEnd : Rp (Option Int) := ⟨fun _ i v => v = vo i, fun _ h => h⟩
def All2 {α β : Type} (R : α → β → Prop) : List α → List β → Prop := Paired R

/-! ### a def, ready to be called -/
section
variable (P : Program) (w : World) (K : PySem.W.Frag) (mg : Str → Option Value) (base : Heap)
/-- the def of the text at the module's name x -/
def DefAt (x : Str) (st : Stmt) (dvs : List V) : Prop := ∃ f fd, FunD K x x (defArgs st) (defBody st) (defScope st) dvs [] f fd ∧ mg x = some (.ref f)
structure FnX (CX : CXT) (k : Nat) (x : Str) (ps : List Str) (dvs : List V) (sp : Sp) (f : Addr) (fd : FuncData) (ds : List Value) : Prop where
  ok : FnOk P w K mg base CX k f fd ps sp
  mg : mg x = some (.ref f)
  kp : PySem.W.keepIn K (.ref f) = true
  b : Binds K fd ps ds
  d : Vals dvs ds
def Fn (CX : CXT) (k : Nat) (x : Str) (ps : List Str) (dvs : List V) (sp : Sp) : Prop := ∃ f fd ds, FnX P w K mg base CX k x ps dvs sp f fd ds
end
section
variable {X : Cx} {k j : Nat} {x : Str} {ps : List Str} {dvs : List V} {sp : Sp} {CX : CXT} {E : XK} {e : Expr} {es : List Expr} {t : TA} {p pos : Pos}
/-- f(e, ..) -/
theorem pe_fn (F : Fn X.prog X.w X.K X.mg X.base CX0 k x ps dvs sp) (hr : Room j X.A) (hg : Gl X x) (ha : PA X (e :: es) t) (hk : k ≤ j := by decide) (hd : (x == ("__debug__" : Str)) = false := by decide)
    (he : starEach (e :: es) X.env = (false, eval e X.env) :: starEach es X.env := by rfl) (hpl : (backTo pos (starEach es X.env)).any (·.1) = false := by rfl) : PE X (.Call (.Name x p) (e :: es) [] pos) (tCall sp dvs E0 t) := by
  obtain ⟨f, fd, ds, F⟩ := F
  exact pe_call F.ok (hr.mono hk) hg F.mg F.kp F.b F.d pass0 ha hd he hpl
/-- the same for a def that may raise, where it does not -/
theorem pe_fnX (F : Fn X.prog X.w X.K X.mg X.base (L2.CX X.prog X.w) k x ps dvs sp) (hr : Room j X.A) (hg : Gl X x) (ha : PA X (e :: es) t) (hk : k ≤ j := by decide) (hd : (x == ("__debug__" : Str)) = false := by decide)
    (he : starEach (e :: es) X.env = (false, eval e X.env) :: starEach es X.env := by rfl) (hpl : (backTo pos (starEach es X.env)).any (·.1) = false := by rfl) : PE X (.Call (.Name x p) (e :: es) [] pos) (tCall sp dvs E0 t) := by
  obtain ⟨f, fd, ds, F⟩ := F
  exact pe_call F.ok (hr.mono hk) hg F.mg F.kp F.b F.d passL ha hd he hpl
end
section
variable {P : Program} {w : World} {K : PySem.W.Frag} {mg : Str → Option Value} {base : Heap}
/-- THE RULE for a def without defaults -/
theorem fn_ok {x : Str} {st : Stmt} {N ps : List Str} {k : Nat} {sp : Sp} (D : DefAt K mg x st []) (S : FnScope N ps (defScope st)) (hps : ps.Nodup)
    (hb : ∀ (kV doc pm : Value) (an : Option Addr) (cdv ct : Value) (us : List Value), us.length = ps.length → bindArgs (PySem.W.fnOf x x (defArgs st) (defBody st) (defScope st) .none kV doc pm an cdv ct) ⟨us, []⟩ = pure (ps.zip us))
    (len : ∀ vs H Q E, sp vs H Q E → vs.length = ps.length)
    (hbody : ∀ (f : Addr) (cdv : Value) (A : Around) (outer : List Env) (s : Shared) (H : Hp) (vs : List V) (Q : VK) (E : XK), Room k (A.deeper (envOfC x (defScope st) s.heap.objs.size f cdv)) → sp vs H Q E →
      ∃ t, PSs (cxOf CX0 P w K mg base N x (defScope st) f cdv A outer s H E).nox (defBody st) t ∧ t { nx := fun _ H' => Q .non H', rt := Q } (start N vs) H) : Fn P w K mg base CX0 (k + 1) x ps [] sp := by
  obtain ⟨f, fd, F, hm⟩ := D
  refine ⟨f, fd, [], F.ok S len fun cdv A outer s H vs Q E hr h => ?_, hm, F.kp, F.bindsN hb, .nil⟩
  obtain ⟨t, h1, h2⟩ := hbody f cdv A outer s H vs Q E hr h
  exact ⟨t, h1.nox, h2⟩
end
/-! ### small words -/
theorem ite_tt {A B : Prop} (h : A) : if true = true then A else B := by
  rw [if_pos rfl]
  exact h
theorem hu64 {A : Around} {k : Nat} (hr : Room k A) : A.units + 64 < cLine := hr.units
theorem hu65 {A : Around} {k : Nat} (hr : Room k A) : A.units + 65 < cLine := by have := hr.un; omega
def sp1 (F : V → Hp → VK → Prop) : Sp := fun vs H Q _ => ∃ a, vs = [a] ∧ F a H Q
def sp2 (F : V → V → Hp → VK → Prop) : Sp := fun vs H Q _ => ∃ a b, vs = [a, b] ∧ F a b H Q
def sp3 (F : V → V → V → Hp → VK → Prop) : Sp := fun vs H Q _ => ∃ a b c, vs = [a, b, c] ∧ F a b c H Q
def sp4 (F : V → V → V → V → Hp → VK → Prop) : Sp := fun vs H Q _ => ∃ a b c d, vs = [a, b, c, d] ∧ F a b c d H Q
def sp5 (F : V → V → V → V → V → Hp → VK → Prop) : Sp := fun vs H Q _ => ∃ a b c d e, vs = [a, b, c, d, e] ∧ F a b c d e H Q
def sp6 (F : V → V → V → V → V → V → Hp → VK → Prop) : Sp := fun vs H Q _ => ∃ a b c d e f, vs = [a, b, c, d, e, f] ∧ F a b c d e f H Q
def sp7 (F : V → V → V → V → V → V → V → Hp → VK → Prop) : Sp := fun vs H Q _ => ∃ a b c d e f g, vs = [a, b, c, d, e, f, g] ∧ F a b c d e f g H Q
def sp1X (F : V → Hp → VK → XK → Prop) : Sp := fun vs H Q E => ∃ a, vs = [a] ∧ F a H Q E
def sp2X (F : V → V → Hp → VK → XK → Prop) : Sp := fun vs H Q E => ∃ a b, vs = [a, b] ∧ F a b H Q E
section
variable {vs : List V} {H : Hp} {Q : VK} {E : XK}
theorem len1 {F} (h : sp1 F vs H Q E) : vs.length = 1 := by obtain ⟨_, rfl, _⟩ := h; rfl
theorem len2 {F} (h : sp2 F vs H Q E) : vs.length = 2 := by obtain ⟨_, _, rfl, _⟩ := h; rfl
theorem len3 {F} (h : sp3 F vs H Q E) : vs.length = 3 := by obtain ⟨_, _, _, rfl, _⟩ := h; rfl
theorem len4 {F} (h : sp4 F vs H Q E) : vs.length = 4 := by obtain ⟨_, _, _, _, rfl, _⟩ := h; rfl
theorem len5 {F} (h : sp5 F vs H Q E) : vs.length = 5 := by obtain ⟨_, _, _, _, _, rfl, _⟩ := h; rfl
theorem len6 {F} (h : sp6 F vs H Q E) : vs.length = 6 := by obtain ⟨_, _, _, _, _, _, rfl, _⟩ := h; rfl
theorem len7 {F} (h : sp7 F vs H Q E) : vs.length = 7 := by obtain ⟨_, _, _, _, _, _, _, rfl, _⟩ := h; rfl
theorem len1X {F} (h : sp1X F vs H Q E) : vs.length = 1 := by obtain ⟨_, rfl, _⟩ := h; rfl
theorem len2X {F} (h : sp2X F vs H Q E) : vs.length = 2 := by obtain ⟨_, _, rfl, _⟩ := h; rfl
end
/-! ### the classes by their names -/
abbrev cW (K : PySem.W.Frag) : Addr := He.ga K "World"
abbrev cN (K : PySem.W.Frag) : Addr := He.ga K "Web"
abbrev cS (K : PySem.W.Frag) : Addr := He.ga K "Span"
abbrev cU (K : PySem.W.Frag) : Addr := He.ga K "Ungranted"
section
variable (P : Program) (w : World) (K : PySem.W.Frag) (mg : Str → Option Value) (base : Heap)
/-- a method -/
def FnM (k : Nat) (C m : Str) (ps : List Str) (dvs : List V) (sp : Sp) : Prop := ∃ f fd ds, FnOk P w K mg base CX0 k f fd ps sp ∧ Meth K (He.ga K C) m f ∧ Binds K fd ps ds ∧ Vals dvs ds
/-- a property -/
def FnP (k : Nat) (C m : Str) (ps : List Str) (dvs : List V) (sp : Sp) : Prop := ∃ p g fd ds, FnOk P w K mg base CX0 k g fd ps sp ∧ PropOf K (He.ga K C) m p g ∧ Binds K fd ps ds ∧ Vals dvs ds
/-- a class, made -/
def FnI (k : Nat) (C m : Str) (ps : List Str) (dvs : List V) (sp : Sp) : Prop := ∃ f fd ds, FnOk P w K mg base CX0 k f fd ps sp ∧ Mk K (He.ga K C) f ∧ mg C = some (.ref (He.ga K C)) ∧ Binds K fd ps ds ∧ Vals dvs ds
def FnMAt (C m q : Str) (st : Stmt) (dvs : List V) : Prop := ∃ f fd, FunD K m q (defArgs st) (defBody st) (defScope st) dvs [] f fd ∧ Meth K (He.ga K C) m f
def FnPAt (C m q : Str) (st : Stmt) (dvs : List V) : Prop := ∃ p g fd, FunD K m q (defArgs st) (defBody st) (defScope st) dvs [] g fd ∧ PropOf K (He.ga K C) m p g
def FnIAt (C m q : Str) (st : Stmt) (dvs : List V) : Prop := ∃ f fd, FunD K m q (defArgs st) (defBody st) (defScope st) dvs [] f fd ∧ Mk K (He.ga K C) f ∧ mg C = some (.ref (He.ga K C))
end
section
variable {P : Program} {w : World} {K : PySem.W.Frag} {mg : Str → Option Value} {base : Heap} {x C m q : Str} {st : Stmt} {N ps : List Str} {k : Nat} {sp : Sp}
theorem fnM_ok (D : FnMAt K C m q st []) (S : FnScope N ps (defScope st)) (hps : ps.Nodup)
    (hb : ∀ (kV doc pm : Value) (an : Option Addr) (cdv ct : Value) (us : List Value), us.length = ps.length → bindArgs (PySem.W.fnOf m q (defArgs st) (defBody st) (defScope st) .none kV doc pm an cdv ct) ⟨us, []⟩ = pure (ps.zip us))
    (len : ∀ vs H Q E, sp vs H Q E → vs.length = ps.length)
    (hbody : ∀ (f : Addr) (cdv : Value) (A : Around) (outer : List Env) (s : Shared) (H : Hp) (vs : List V) (Q : VK) (E : XK), Room k (A.deeper (envOfC q (defScope st) s.heap.objs.size f cdv)) → sp vs H Q E →
      ∃ t, PSs (cxOf CX0 P w K mg base N q (defScope st) f cdv A outer s H E).nox (defBody st) t ∧ t { nx := fun _ H' => Q .non H', rt := Q } (start N vs) H) : FnM P w K mg base (k + 1) C m ps [] sp := by
  obtain ⟨f, fd, F, hm⟩ := D
  refine ⟨f, fd, [], F.ok S len fun cdv A outer s H vs Q E hr h => ?_, hm, F.bindsN hb, .nil⟩
  obtain ⟨t, h1, h2⟩ := hbody f cdv A outer s H vs Q E hr h
  exact ⟨t, h1.nox, h2⟩
theorem fnP_ok (D : FnPAt K C m q st []) (S : FnScope N ps (defScope st)) (hps : ps.Nodup)
    (hb : ∀ (kV doc pm : Value) (an : Option Addr) (cdv ct : Value) (us : List Value), us.length = ps.length → bindArgs (PySem.W.fnOf m q (defArgs st) (defBody st) (defScope st) .none kV doc pm an cdv ct) ⟨us, []⟩ = pure (ps.zip us))
    (len : ∀ vs H Q E, sp vs H Q E → vs.length = ps.length)
    (hbody : ∀ (f : Addr) (cdv : Value) (A : Around) (outer : List Env) (s : Shared) (H : Hp) (vs : List V) (Q : VK) (E : XK), Room k (A.deeper (envOfC q (defScope st) s.heap.objs.size f cdv)) → sp vs H Q E →
      ∃ t, PSs (cxOf CX0 P w K mg base N q (defScope st) f cdv A outer s H E).nox (defBody st) t ∧ t { nx := fun _ H' => Q .non H', rt := Q } (start N vs) H) : FnP P w K mg base (k + 1) C m ps [] sp := by
  obtain ⟨p, f, fd, F, hm⟩ := D
  refine ⟨p, f, fd, [], F.ok S len fun cdv A outer s H vs Q E hr h => ?_, hm, F.bindsN hb, .nil⟩
  obtain ⟨t, h1, h2⟩ := hbody f cdv A outer s H vs Q E hr h
  exact ⟨t, h1.nox, h2⟩
theorem fnI_ok (D : FnIAt K mg C m q st []) (S : FnScope N ps (defScope st)) (hps : ps.Nodup)
    (hb : ∀ (kV doc pm : Value) (an : Option Addr) (cdv ct : Value) (us : List Value), us.length = ps.length → bindArgs (PySem.W.fnOf m q (defArgs st) (defBody st) (defScope st) .none kV doc pm an cdv ct) ⟨us, []⟩ = pure (ps.zip us))
    (len : ∀ vs H Q E, sp vs H Q E → vs.length = ps.length)
    (hbody : ∀ (f : Addr) (cdv : Value) (A : Around) (outer : List Env) (s : Shared) (H : Hp) (vs : List V) (Q : VK) (E : XK), Room k (A.deeper (envOfC q (defScope st) s.heap.objs.size f cdv)) → sp vs H Q E →
      ∃ t, PSs (cxOf CX0 P w K mg base N q (defScope st) f cdv A outer s H E).nox (defBody st) t ∧ t { nx := fun _ H' => Q .non H', rt := Q } (start N vs) H) : FnI P w K mg base (k + 1) C m ps [] sp := by
  obtain ⟨f, fd, F, hm, hg⟩ := D
  refine ⟨f, fd, [], F.ok S len fun cdv A outer s H vs Q E hr h => ?_, hm, hg, F.bindsN hb, .nil⟩
  obtain ⟨t, h1, h2⟩ := hbody f cdv A outer s H vs Q E hr h
  exact ⟨t, h1.nox, h2⟩
end
section
variable {X : Cx} {k j : Nat} {x C m f : Str} {ps : List Str} {dvs : List V} {sp : Sp} {E : XK} {e o value : Expr} {es : List Expr} {t : TA} {ta tv : TE} {p pos apos pos' : Pos} {Ca : Addr}
/-- o.m(e, ..) -/
theorem pe_mt {pl : Sem Bool} (c : Cls X.K Ca) (F : FnM X.prog X.w X.K X.mg X.base k C m ps dvs sp) (hr : Room j X.A) (he : PE X o ta) (ha : PA X (e :: es) t) (hk : k ≤ j := by decide) (hC : Ca = He.ga X.K C := by rfl)
    (hst : starEach (e :: es) X.env = (false, eval e X.env) :: starEach es X.env := by rfl) (hpl : (backTo pos (starEach es X.env)).any (·.1) = false := by rfl)
    (ht : eval (.Call (.Attribute o m apos) (e :: es) [] pos) X.env = (do
      let ov ← eval o X.env
      standAt apos.atName
      let (f, first) ← holding [ov] (getMethod ov m pl)
      callWith pos f first (backTo pos (starEach (e :: es) X.env)) (backToKw pos (keywordEach [] X.env))) := by rfl) :
    PE X (.Call (.Attribute o m apos) (e :: es) [] pos) (tMeth Ca m sp dvs E0 ta t) := by
  obtain ⟨f, fd, ds, F, hm, hb, hd⟩ := F
  subst hC
  exact pe_meth he c hm F (hr.mono hk) hb hd pass0 ha hst hpl ht
/-- o.m, a property -/
theorem pe_pr (c : Cls X.K Ca) (F : FnP X.prog X.w X.K X.mg X.base k C m ps dvs sp) (hr : Room j X.A) (he : PE X e ta) (hab : attributeBase e m X.env (eval e X.env) = eval e X.env) (hk : k + 1 ≤ j := by decide) (hC : Ca = He.ga X.K C := by rfl) :
    PE X (.Attribute e m pos) (tProp Ca sp dvs E0 ta) := by
  obtain ⟨p, g, fd, ds, F, hm, hb, hd⟩ := F
  subst hC
  exact pe_prop he c hm F (hr.mono hk) hb hd (fun _ _ _ _ _ _ _ h => h.elim) hab
/-- C(e, ..) -/
theorem pe_mk (c : Cls X.K Ca) (F : FnI X.prog X.w X.K X.mg X.base k C m ps dvs sp) (hr : Room j X.A) (hg : Gl X C) (ha : PA X (e :: es) t) (hk : k + 1 ≤ j := by decide) (hC : Ca = He.ga X.K C := by rfl) (hdb : (C == ("__debug__" : Str)) = false := by decide)
    (he : starEach (e :: es) X.env = (false, eval e X.env) :: starEach es X.env := by rfl) (hpl : (backTo pos (starEach es X.env)).any (·.1) = false := by rfl) :
    PE X (.Call (.Name C p) (e :: es) [] pos) (tMake Ca sp dvs E0 t) := by
  obtain ⟨f, fd, ds, F, hm, hmg, hb, hd⟩ := F
  subst hC
  exact pe_make hm F (hr.mono hk) hg hmg hb hd pass0 ha hdb he hpl
/-- o.f, a field -/
def tFd (C : Addr) (ta : TE) (f : Str) : TE := fun σ H Q => ta σ H fun x H1 => ∃ a dx fs v, x = .ref a ∧ H1 a = some (.ins C dx fs) ∧ fs.lookup f = some v ∧ Q v H1
theorem pe_fd (c : Cls X.K Ca) (n : NoAttr X.K Ca f) (he : PE X e ta) (hb : attributeBase e f X.env (eval e X.env) = eval e X.env) : PE X (.Attribute e f pos) (tFd Ca ta f) := by
  refine ⟨fun pins s σ H Q I h => ?_⟩
  refine attr_of hb (thn (he.run pins s σ H _ I h) fun u s1 ⟨x, H1, I1, rx, a, dx, fs, v, ex, ea, l, q⟩ => ?_)
  subst ex
  obtain rfl : u = Value.ref a := rx
  exact getattr_ok I1 ea c n l fun u' s2 I2 ru => ⟨v, H1, I2, ru, q⟩
/-- o.f = value -/
def sFd (C : Addr) (ta tv : TE) (f : Str) : TS := fun D σ H => tv σ H fun y H1 => ta σ H1 fun x H2 => ∃ a dx fs, x = .ref a ∧ H2 a = some (.ins C dx fs) ∧ fs.length < 1000 ∧ D.nx σ (upd H2 a (.ins C dx (putF f y fs)))
theorem ps_fd (c : Cls X.K Ca) (n : NoAttr X.K Ca f) (ha : PE X o ta) (hv : PE X value tv) (hs : swapsWith value (some (.Attribute o f pos')) pos.line X.env = pure false) : PS X (.Assign [.Attribute o f pos'] value pos) (sFd Ca ta tv f) := by
  refine ⟨fun pins s σ H D I h => ?_⟩
  refine plainObj_wpAny_Assign_Attribute (thn (hv.run pins s σ H _ I h) fun u s1 ⟨y, H1, I1, ry, q⟩ => thn (ha.run pins s1 σ H1 _ I1 q) fun ov s2 ⟨x, H2, I2, rx, a, dx, fs, ex, ea, l, q2⟩ => ?_) hs
  subst ex
  obtain rfl : ov = Value.ref a := rx
  exact setattr_ok I2 ea c n l ry fun s3 I3 => ⟨σ, _, I3, q2⟩
/-- x in o, by the own class's __contains__ -/
def rInOwn (C : Addr) (sp : Sp) (dvs : List V) (neg : Bool) : R2 := fun x y H Q => ∃ a dx fs, y = .ref a ∧ H a = some (.ins C dx fs) ∧ sp (.ref a :: x :: dvs) H (fun v H' => ∃ b, v = .bl b ∧ Q (.bl (if neg then !b else b)) H') E0
theorem inOwn_run (F : FnM X.prog X.w X.K X.mg X.base k C "__contains__" ps dvs sp) (hr : Room k X.A) {pins : List (Addr × Obj)} {s : Shared} {σ : L2.St} {H : Hp} {x : V} {v : Value} {a dx : Addr} {fs : List (Str × V)} {Q : VK}
    (I : Inv X pins σ H s) (rx : RelV x v) (ea : H a = some (.ins (He.ga X.K C) dx fs)) (neg : Bool) (q : sp (.ref a :: x :: dvs) H (fun v H' => ∃ b, v = .bl b ∧ Q (.bl (if neg then !b else b)) H') E0) :
    wpAny (model X.prog X.w) X.A (compareOp (if neg then .NotIn else .In) v (.ref a)) (EP X pins σ Q) X.xe s := by
  obtain ⟨f, fd, ds, F, hm, hb, hd⟩ := F
  obtain ⟨mA, J, _⟩ := ins_get I.hok ea
  obtain ⟨od, J, _⟩ := J.look
  obtain ⟨m, hF⟩ := I.fr
  have run : wpAny (model X.prog X.w) X.A (call (.ref f) [.ref a, v]) (EP X pins σ (fun v H' => ∃ b, v = .bl b ∧ Q (.bl (if neg then !b else b)) H')) X.xe s :=
    run_fn (us := [.ref a, v]) (vs := [.ref a, x]) F hr hb hd pass0 I (.cons rfl (.cons rx .nil)) q
  cases neg with
  | false =>
    refine PySem.W.in_K hF I.ok.mod.kin J hm.at_ hm.fn (thn run fun r s' h => ?_)
    obtain ⟨z, H', I', rz, b, ez, q'⟩ := h
    subst ez
    cases rz
    exact wpAny_truthy_bool ⟨.bl b, H', I', rfl, q'⟩
  | true =>
    refine PySem.W.notIn_K hF I.ok.mod.kin J hm.at_ hm.fn (thn run fun r s' h => ?_)
    obtain ⟨z, H', I', rz, b, ez, q'⟩ := h
    subst ez
    cases rz
    exact wpAny_truthy_bool ⟨.bl (!b), H', I', rfl, q'⟩
theorem op_inOwn (F : FnM X.prog X.w X.K X.mg X.base k C "__contains__" ps dvs sp) (hr : Room j X.A) (hk : k ≤ j := by decide) : OpR X (compareOp .In) (rInOwn (He.ga X.K C) sp dvs false) := by
  intro pins s σ H x y v u Q I rx ry h
  obtain ⟨a, dx, fs, rfl, ea, q⟩ := h
  cases ry
  exact inOwn_run F (hr.mono hk) I rx ea false q
theorem op_inNOwn (F : FnM X.prog X.w X.K X.mg X.base k C "__contains__" ps dvs sp) (hr : Room j X.A) (hk : k ≤ j := by decide) : OpR X (compareOp .NotIn) (rInOwn (He.ga X.K C) sp dvs true) := by
  intro pins s σ H x y v u Q I rx ry h
  obtain ⟨a, dx, fs, rfl, ea, q⟩ := h
  cases ry
  exact inOwn_run F (hr.mono hk) I rx ea true q
/-- a module's constant -/
theorem pe_gi {i : Int} (hg : Gl X x) (hm : ∃ t, X.mg x = some (.int i t)) (hd : (x == ("__debug__" : Str)) = false := by decide) : PE X (.Name x pos) (tC (.int i)) := by
  obtain ⟨t, hm⟩ := hm
  exact pe_glob hg hm ⟨t, rfl⟩ hd
theorem pe_gs {z : Str} (hg : Gl X x) (hm : ∃ t, X.mg x = some (.str z t)) (hd : (x == ("__debug__" : Str)) = false := by decide) : PE X (.Name x pos) (tC (.str z)) := by
  obtain ⟨t, hm⟩ := hm
  exact pe_glob hg hm ⟨t, rfl⟩ hd
/-- a built-in type as a value -/
theorem pe_bty {T : String} (hg : Gl X x) (hm : X.mg x = none) (hv : bootBuiltins x = some (.type T)) (hn : x ≠ "__name__" := by decide) (hd : (x == ("__debug__" : Str)) = false := by decide) : PE X (.Name x pos) (tC (.ty T)) :=
  pe_bltn hg hm hv rfl hn hd
end
theorem bt_isinstance : bootBuiltins "isinstance" = some (.builtin "isinstance") := by decide +kernel
theorem bt_len : bootBuiltins "len" = some (.builtin "len") := by decide +kernel
theorem bt_max : bootBuiltins "max" = some (.builtin "max") := by decide +kernel
theorem bt_min : bootBuiltins "min" = some (.builtin "min") := by decide +kernel
theorem bt_any : bootBuiltins "any" = some (.builtin "any") := by decide +kernel
theorem bt_all : bootBuiltins "all" = some (.builtin "all") := by decide +kernel
theorem bt_sorted : bootBuiltins "sorted" = some (.builtin "sorted") := by decide +kernel
theorem bt_int : bootBuiltins "int" = some (.type "int") := by decide +kernel
theorem bt_bool : bootBuiltins "bool" = some (.type "bool") := by decide +kernel
theorem bt_str : bootBuiltins "str" = some (.type "str") := by decide +kernel
theorem bt_list : bootBuiltins "list" = some (.type "list") := by decide +kernel
theorem bt_tuple : bootBuiltins "tuple" = some (.type "tuple") := by decide +kernel
theorem bt_dict : bootBuiltins "dict" = some (.type "dict") := by decide +kernel
theorem bt_set : bootBuiltins "set" = some (.type "set") := by decide +kernel
/-- what the walk asks of the module, besides its defs -/
structure TX (K : PySem.W.Frag) (mg : Str → Option Value) : Prop where
  isinstance : mg "isinstance" = none
  len : mg "len" = none
  max : mg "max" = none
  min : mg "min" = none
  any : mg "any" = none
  all : mg "all" = none
  sorted : mg "sorted" = none
  int : mg "int" = none
  bool : mg "bool" = none
  str : mg "str" = none
  list : mg "list" = none
  tuple : mg "tuple" = none
  dict : mg "dict" = none
  set : mg "set" = none
  range : mg "range" = none
  zip : mg "zip" = none
  LIMIT : ∃ t, mg "LIMIT" = some (.int 1000000000000 t)
  LONGEST_NAME : ∃ t, mg "LONGEST_NAME" = some (.int 8 t)
  MOST_LAMPS : ∃ t, mg "MOST_LAMPS" = some (.int 10 t)
  MOST_BONDS : ∃ t, mg "MOST_BONDS" = some (.int 16 t)
  LETTERS : ∃ t, mg "LETTERS" = some (.str "abcdefghijklmnopqrstuvwxyz" t)
  SIGNS : ∃ t, mg "SIGNS" = some (.str "abcdefghijklmnopqrstuvwxyz0123456789" t)
  clWorld : Cls K (He.ga K "World")
  clWeb : Cls K (He.ga K "Web")
  clSpan : Cls K (He.ga K "Span")
  mgWorld : mg "World" = some (.ref (He.ga K "World"))
  mgWeb : mg "Web" = some (.ref (He.ga K "Web"))
  mgSpan : mg "Span" = some (.ref (He.ga K "Span"))
  n_own_web : NoAttr K (He.ga K "World") "own_web"
  n_own_table : NoAttr K (He.ga K "World") "own_table"
  n_own_row : NoAttr K (He.ga K "World") "own_row"
  n_own_pairs : NoAttr K (He.ga K "World") "own_pairs"
  n_low : NoAttr K (He.ga K "Span") "low"
  n_high : NoAttr K (He.ga K "Span") "high"
  n_own_lamp_rows : NoAttr K (He.ga K "Web") "own_lamp_rows"
  n_own_bond_rows : NoAttr K (He.ga K "Web") "own_bond_rows"
  n_own_lamps : NoAttr K (He.ga K "Web") "own_lamps"
  n_own_ceilings : NoAttr K (He.ga K "Web") "own_ceilings"
  n_own_ends : NoAttr K (He.ga K "Web") "own_ends"
  n_own_spans : NoAttr K (He.ga K "Web") "own_spans"
  n_own_arms : NoAttr K (He.ga K "Web") "own_arms"
  w_cls : PySem.W.findIn K (.ref (He.ga K "Web")) "__class__" = some (some (.builtin "object.__class__"))
  w_mro : PySem.W.mroIn K (He.ga K "Web") (.type "object") = some true
  o_get : PySem.W.specialIn K (.builtin "object.__class__") "__get__" = some (some (.builtin "getset_descriptor.__get__"))
  o_takes : PySem.W.takesIn K (.builtin "object.__class__") = some true
  mgUngranted : mg "Ungranted" = some (.ref (He.ga K "Ungranted"))
  oexU : OexC K (He.ga K "Ungranted")
  n_paper : PySem.W.findIn K (.ref (He.ga K "Ungranted")) "paper" = some none
  xfU : XfC K (He.ga K "Ungranted")
  exmU : PySem.W.exmOne K (.ref (He.ga K "Ungranted")) (.ref (He.ga K "Ungranted")) = some true
section
variable {P : Program} {w : World} {K : PySem.W.Frag} {mg : Str → Option Value} {base : Heap} {x C m q : Str} {st : Stmt} {N ps : List Str} {k : Nat} {sp : Sp} {dvs : List V}
theorem fn_okD (D : DefAt K mg x st dvs) (S : FnScope N ps (defScope st)) (hps : ps.Nodup) (n j : Nat) (hd : dvs ≠ []) (hn : n + (dvs.length - j) = ps.length)
    (hb : ∀ (T : Addr) (kV doc pm : Value) (an : Option Addr) (cdv ct : Value) (us its : List Value), us.length = n → its.length = dvs.length →
      ∃ k, bindArgs (PySem.W.fnOf x x (defArgs st) (defBody st) (defScope st) (.ref T) kV doc pm an cdv ct) ⟨us, []⟩ = seqItems? (.ref T) >>= k ∧ k (some its.toArray) = pure (ps.zip (us ++ its.drop j)))
    (len : ∀ vs H Q E, sp vs H Q E → vs.length = ps.length)
    (hbody : ∀ (f : Addr) (cdv : Value) (A : Around) (outer : List Env) (s : Shared) (H : Hp) (vs : List V) (Q : VK) (E : XK), Room k (A.deeper (envOfC x (defScope st) s.heap.objs.size f cdv)) → sp vs H Q E →
      ∃ t, PSs (cxOf CX0 P w K mg base N x (defScope st) f cdv A outer s H E).nox (defBody st) t ∧ t { nx := fun _ H' => Q .non H', rt := Q } (start N vs) H) : Fn P w K mg base CX0 (k + 1) x ps (dvs.drop j) sp := by
  obtain ⟨f, fd, F, hm⟩ := D
  obtain ⟨ds, h1, h2⟩ := F.binds1 n j hd hn hb
  refine ⟨f, fd, ds, F.ok S len fun cdv A outer s H vs Q E hr h => ?_, hm, F.kp, h2, h1⟩
  obtain ⟨t, h1, h2⟩ := hbody f cdv A outer s H vs Q E hr h
  exact ⟨t, h1.nox, h2⟩
theorem fnI_okD (D : FnIAt K mg C m q st dvs) (S : FnScope N ps (defScope st)) (hps : ps.Nodup) (n j : Nat) (hd : dvs ≠ []) (hn : n + (dvs.length - j) = ps.length)
    (hb : ∀ (T : Addr) (kV doc pm : Value) (an : Option Addr) (cdv ct : Value) (us its : List Value), us.length = n → its.length = dvs.length →
      ∃ k, bindArgs (PySem.W.fnOf m q (defArgs st) (defBody st) (defScope st) (.ref T) kV doc pm an cdv ct) ⟨us, []⟩ = seqItems? (.ref T) >>= k ∧ k (some its.toArray) = pure (ps.zip (us ++ its.drop j)))
    (len : ∀ vs H Q E, sp vs H Q E → vs.length = ps.length)
    (hbody : ∀ (f : Addr) (cdv : Value) (A : Around) (outer : List Env) (s : Shared) (H : Hp) (vs : List V) (Q : VK) (E : XK), Room k (A.deeper (envOfC q (defScope st) s.heap.objs.size f cdv)) → sp vs H Q E →
      ∃ t, PSs (cxOf CX0 P w K mg base N q (defScope st) f cdv A outer s H E).nox (defBody st) t ∧ t { nx := fun _ H' => Q .non H', rt := Q } (start N vs) H) : FnI P w K mg base (k + 1) C m ps (dvs.drop j) sp := by
  obtain ⟨f, fd, F, hm, hg⟩ := D
  obtain ⟨ds, h1, h2⟩ := F.binds1 n j hd hn hb
  refine ⟨f, fd, ds, F.ok S len fun cdv A outer s H vs Q E hr h => ?_, hm, hg, h2, h1⟩
  obtain ⟨t, h1, h2⟩ := hbody f cdv A outer s H vs Q E hr h
  exact ⟨t, h1.nox, h2⟩
end
/-! ### the same rules, the written part named (within a comprehension's block) -/
section
variable {X : Cx} (K : PySem.W.Frag) {l : Expr} {tg : Expr} {tl : TE}
theorem kx_tup (h : X.K = K := by rfl) : IxR X (rIxT K) := h ▸ ix_tup
theorem kx_list (h : X.K = K := by rfl) : IxR X (rIxL K) := h ▸ ix_list
theorem kx_sl (h : X.K = K := by rfl) : SlR X (rSlL K) := h ▸ sl_list
theorem k_inSeq (h : X.K = K := by rfl) : OpR X (compareOp .In) (rIn K false) := h ▸ op_in_seq
theorem k_notInSeq (h : X.K = K := by rfl) : OpR X (compareOp .NotIn) (rIn K true) := h ▸ op_notIn_seq
theorem k_eqD (hu : X.A.units + 64 < cLine) (h : X.K = K := by rfl) : OpR X (compareOp .Eq) (rEqD K) := h ▸ op_eqD hu
theorem k_neD (hu : X.A.units + 64 < cLine) (h : X.K = K := by rfl) : OpR X (compareOp .NotEq) (rNeD K) := h ▸ op_neD hu
theorem k_inD (hu : X.A.units + 65 < cLine) (h : X.K = K := by rfl) : OpR X (compareOp .In) (rInD K) := h ▸ op_inD hu
theorem k_notInD (hu : X.A.units + 65 < cLine) (h : X.K = K := by rfl) : OpR X (compareOp .NotIn) (rNotInD K) := h ▸ op_notInD hu
theorem k_len (h : X.K = K := by rfl) : CallR X (.builtin "len") (fun xs H Q => ∃ p ys, xs = [.ref p] ∧ (SqL K H p ys ∨ SqT K H p ys) ∧ Q (.int ys.length) H) := h ▸ call_len_seq
theorem k_list (h : X.K = K := by rfl) : CallR X (.type "list") (fun xs H Q => ∃ p ys, xs = [.ref p] ∧ (SqL K H p ys ∨ SqT K H p ys) ∧ ∀ l, H l = none → Q (.ref l) (upd H l (.lst ys))) := h ▸ call_list_of
theorem k_tuple (h : X.K = K := by rfl) : CallR X (.type "tuple") (fun xs H Q => ∃ p ys, xs = [.ref p] ∧ ((SqL K H p ys ∧ ∀ l, H l = none → Q (.ref l) (upd H l (.tup ys))) ∨ (SqT K H p ys ∧ Q (.ref p) H))) := h ▸ call_tuple_of
theorem k_any (hc : X.calm = true) (h : X.K = K := by rfl) : CallR X (.builtin "any") (rAny K) := h ▸ cr_any hc
theorem k_all (hc : X.calm = true) (h : X.K = K := by rfl) : CallR X (.builtin "all") (rAll K) := h ▸ cr_all hc
theorem k_min (hc : X.calm = true) (h : X.K = K := by rfl) : CallR X (.builtin "min") (rMin K) := h ▸ cr_min hc
theorem k_sorted (h : X.K = K := by rfl) : CallR X (.builtin "sorted") (rSorted K) := h ▸ cr_sorted
theorem k_sortedS (h : X.K = K := by rfl) : CallR X (.builtin "sorted") (rSortedS K) := h ▸ cr_sortedS
theorem k_isi (h : X.K = K := by rfl) : CallR X (.builtin "isinstance") (rIsi K) := h ▸ call_isi
theorem k_isiT (h : X.K = K := by rfl) : CallR X (.builtin "isinstance") (rIsiT K) := h ▸ call_isiT
theorem kp_list (hl : PE X l tl) (h : X.K = K := by rfl) : PI X tg l (iList K tl) := h ▸ pi_list hl
theorem kp_tup (hl : PE X l tl) (h : X.K = K := by rfl) : PI X tg l (iTup K tl) := h ▸ pi_tup hl
end
end OB

/-! ## OB2 -/
set_option maxHeartbeats 4000000
namespace OB
open PySem PySem.Spec PyProof.Rows L2
/-! ### a dict that is walked is locked (and stays so) -/
def LkTo (H : Hp) (d : Addr) (od : Obj) (kvs : List (Key × V)) (H' : Hp) : Prop := (H d = some (.frz od (.dK kvs)) ∧ H' = H) ∨ (H d = some (.dK kvs) ∧ H' = upd H d (.frz od (.dK kvs)))
theorem LkTo.at_ {H H' : Hp} {d : Addr} {od : Obj} {kvs : List (Key × V)} (h : LkTo H d od kvs H') : H' d = some (.frz od (.dK kvs)) := by
  rcases h with ⟨h, rfl⟩ | ⟨h, rfl⟩
  · exact h
  · exact upd_same
def tLk (td : TE) : TE := fun σ H Q => td σ H fun x H1 => ∃ d kvs, x = .ref d ∧ Rd H1 d (.dK kvs) ∧ ∀ od H2, LkTo H1 d od kvs H2 → Q x H2
section
variable {X : Cx} {tg e : Expr} {td : TE} {apos cpos : Pos}
theorem pe_lk (he : PE X e td) : PE X e (tLk td) := by
  refine ⟨fun pins s σ H Q I h => ?_⟩
  refine thn (he.run pins s σ H _ I h) fun u s1 ⟨x, H1, I1, rx, d, kvs, ex, rd, q⟩ => ?_
  rcases rd with hd | ⟨od, hd⟩
  · obtain ⟨od, I2⟩ := I1.lock hd True.intro
    exact ⟨x, _, I2, rx, q od _ (.inr ⟨hd, rfl⟩)⟩
  · exact ⟨x, H1, I1, rx, q od _ (.inl ⟨hd, rfl⟩)⟩
theorem pi_keysL (he : PE X e td) : PI X tg e (iKeys (tLk td)) := pi_keys (pe_lk he)
theorem pi_itemsL {elts : List Expr} {kk : Nat} {tpos : Pos} (he : PE X e td) (hbase : attributeBase e "items" X.env (eval e X.env) = eval e X.env := by rfl) (hline : (apos.endLine == cpos.line) = true := by rfl) :
    PI X (.Tuple elts kk tpos) (.Call (.Attribute e "items" apos) [] [] cpos) (iItems (tLk td)) := pi_items (pe_lk he) hbase hline
/-- known for good, it is locked for good -/
theorem lk_go {B H H' : Hp} {d : Addr} {od : Obj} {kvs : List (Key × V)} (hB : ExW B H) (hd : Rd B d (.dK kvs)) (lk : LkTo H d od kvs H') : ∃ B1, Gr [] B H B1 H' ∧ B1 d = some (.frz od (.dK kvs)) := by
  rcases lk with ⟨h, rfl⟩ | ⟨h, rfl⟩
  · rcases hd with hd | ⟨o2, hd⟩
    · -- H locks it, B does not say so: B is told
      refine ⟨upd B d (.frz od (.dK kvs)), ⟨fun _ _ _ _ e => e, fun a o e => ?_, fun a o e => ?_, fun a e n => ?_, fun _ e => e⟩, upd_same⟩
      · by_cases z : a = d
        · subst z; rw [hd] at e; cases e; exact .inr ⟨kvs, rfl, od, upd_same⟩
        · exact .inl (by rw [upd_ne z]; exact e)
      · by_cases z : a = d
        · subst z; rw [upd_same] at e; cases e; exact .inl h
        · rw [upd_ne z] at e; exact hB a o e
      · by_cases z : a = d
        · subst z; rw [hd] at e; cases e
        · rw [upd_ne z]; exact e
    · rcases hB d _ hd with q | ⟨_, q, _⟩
      · rw [h] at q; cases q
        exact ⟨B, Gr.refl hB, hd⟩
      · cases q
  · have hb : B d = some (.dK kvs) := by
      rcases hd with hd | ⟨o2, hd⟩
      · exact hd
      · rcases hB d _ hd with q | ⟨_, q, _⟩
        · rw [h] at q; cases q
        · cases q
    exact ⟨_, (Gr.refl hB).lock hb h, upd_same⟩
end

/-! ### x = {..}: a dict comprehension on one line, x a local -/
section
variable {X : Cx}
theorem ps_setDc {i : Nat} {y : Str} {py : Pos} {kx vx tg iter : Expr} {ifs : List Expr} {scope : Scope} {own : List (Str × Nat)} {pos spos : Pos} {wi : TI} {g : TG} {tt : TT} {tk tv : TE} (hc : X.calm = true) (hN : X.N.Nodup) (hy : X.N[i]? = some y) (hyl : X.env.scope.names.lookup y = some .local)
    (hsw : swapsWith (.DictComp kx vx [⟨tg, iter, ifs, 0⟩] scope pos) (some (.Name y py)) spos.line X.env = pure true) (hi : PI X tg iter wi) (ok : BlkOk X.N X.env.scope scope own)
    (hg : ∀ (s : Shared) (H : Hp) (C : Addr) (cl : List (Str × Addr)) (fp : List Addr), PG (X.blk s H scope (compEnvC scope cl C X.env) fp) tg g) (ht : ∀ (s : Shared) (H : Hp) (C : Addr) (cl : List (Str × Addr)) (fp : List Addr), PTs (X.blk s H scope (compEnvC scope cl C X.env) fp) ifs tt)
    (hk : ∀ (s : Shared) (H : Hp) (C : Addr) (cl : List (Str × Addr)) (fp : List Addr), PE (X.blk s H scope (compEnvC scope cl C X.env) fp) kx tk)
    (he : ∀ (s : Shared) (H : Hp) (C : Addr) (cl : List (Str × Addr)) (fp : List Addr), PE (X.blk s H scope (compEnvC scope cl C X.env) fp) vx tv) (hs : ∀ x, foldedSetIterable iter X.env x = pure x := by intro _; rfl) :
    PS X (.Assign [.Name y py] (.DictComp kx vx [⟨tg, iter, ifs, 0⟩] scope pos) spos) (tAsg (tDc wi g tt tk tv (own.map (·.2))) (gName i)) := by
  refine ⟨fun pins s σ H D I h => ?_⟩
  rw [exec_Assign_Name_used _ _ _ _ hsw]
  refine wpAny_bind (wpAny_standAt (wpAny_bind ?_))
  show wpAny _ X.A (do let _ ← comprehension (.DictComp kx vx [⟨tg, iter, ifs, 0⟩] scope pos) scope X.env (firstIterPos [⟨tg, iter, ifs, 0⟩] pos) newDict false (eval iter X.env) (some (assign (.Name y py) X.env))) _ _ s
  have h : tDc wi g tt tk tv (own.map (·.2)) σ H (fun x H1 => gName i x σ H1 D.nx) := h
  refine wpAny_bind (thn (dc_core (Qf := fun _ s' => SP X pins D .next s') hc hN I hi ok hg ht hk he hs h fun L C s' m H' I' q hn f => ?_) fun _ s' hq => wpAny_pure (wpAny_pure hq))
  show wpAny _ _ (assign (.Name y py) X.env (.ref L)) _ _ _
  refine wpAny_assign_Name (store_ok2 (v := V.ref L) I' hN hy (.inl hyl) rfl (fun s2 I2 ⟨a, sb, ha⟩ => ?_) (.inr hyl))
  obtain ⟨f0, f1, f2, f3, f4, f5⟩ := f
  have haC : C ≠ a := by
    rcases ha with z | z
    · rw [z]; exact f1
    · exact fun e => f4 y a z e.symm
  refine ⟨m, hn.sameBut sb haC, fun h3 sb3 => ?_⟩
  exact ⟨_, H', I2.turned (t' := s2.toks) (fun b o hb e => (sb3.2 b hb).trans e) f0 f1 f3 f4 f5, q⟩
theorem sw_trueD {kx vx : Expr} {gs : List Comprehension} {scope : Scope} {pos py : Pos} {y : Str} {l : Nat} {env : Env} (hk : env.scope.kind = .function) (hy : env.scope.names.lookup y = some .local) (hl : (py.line == pos.line) = true)
    (ha : (scope.names.any fun (n, k) => n == y && (k == .local || k == .cell)) = false) : swapsWith (.DictComp kx vx gs scope pos) (some (.Name y py)) l env = pure true := by
  have ky : env.kindOf y = some .local := hy
  have hb : env.blockKind = .function := by unfold Env.blockKind; rw [hk]; rfl
  unfold swapsWith
  simp only [hb, ky, ha, Expr.pos, hl]
  rfl
end

/-! ### the things that are walked -/
/-- xs are walked, and walking changes nothing -/
def Src (J : It) (B : Hp) (xs : List V) : Prop := ∀ B1 H, ExW B B1 → ExW B1 H → ∀ i, (i < xs.length → J.go i H) ∧ (∀ x H', J.yld i H x H' → H' = H ∧ (i < xs.length → xs[i]? = some x)) ∧ (xs.length ≤ i → J.stop i H)
section
variable {K : PySem.W.Frag} {B : Hp} {a d : Addr} {xs : List V}
theorem src_list (h : B a = some (.lst xs)) : Src (Itl K a) B xs := fun B1 H e1 e2 i => by
  have hs : SqL K H a xs := SqL.of (e2.lst (e1.lst h))
  exact ⟨fun hi => ⟨xs, xs[i], hs, by simp [hi]⟩, fun x H' y => ⟨y.1, fun _ => y.2 xs hs⟩, fun hi => ⟨xs, hs, hi⟩⟩
theorem src_tup (h : B a = some (.tup xs)) : Src (Itt K a) B xs := fun B1 H e1 e2 i => by
  have hs : SqT K H a xs := SqT.of (e2.tup (e1.tup h))
  exact ⟨fun hi => ⟨xs, xs[i], hs, by simp [hi]⟩, fun x H' y => ⟨y.1, fun _ => y.2 xs hs⟩, fun hi => ⟨xs, hs, hi⟩⟩
theorem src_rng {n : Nat} : Src (Itr 0 n) B ((List.range n).map fun (i : Nat) => V.int (i : Int)) := fun B1 H e1 e2 i => by
  refine ⟨fun hi => (show i < n by simpa using hi), fun x H' y => ⟨y.1, fun hi => ?_⟩, fun hi => (show n ≤ i by simpa using hi)⟩
  have hi' : i < n := by simpa using hi
  rw [List.getElem?_map, List.getElem?_range hi', y.2]
  simp
theorem src_keys {o : Obj} {kvs : List (Key × V)} (h : B d = some (.frz o (.dK kvs))) : Src (Itk d o kvs) B (kvs.map fun p => kV p.1) := fun B1 H e1 e2 i => by
  have hs : H d = some (.frz o (.dK kvs)) := by
    rcases e1 d _ h with q | ⟨_, q, _⟩
    · rcases e2 d _ q with q | ⟨_, q, _⟩
      · exact q
      · cases q
    · cases q
  refine ⟨fun hi => ⟨hs, by simpa using hi⟩, fun x H' y => ⟨y.1, fun _ => ?_⟩, fun hi => ⟨hs, by simpa using hi⟩⟩
  obtain ⟨k, v, e, e'⟩ := y.2
  rw [List.getElem?_map, e, e'] <;> rfl
end
/-! ### All2 -/
theorem All2.mono {α : Type} {R : Rp α} {B B' : Hp} (e : ExW B B') {xs : List α} {vs : List V} (h : All2 (R.rel B) xs vs) : All2 (R.rel B') xs vs := Paired.mapP h fun _ _ z => R.mono e z
theorem All2.snoc {α β : Type} {R : α → β → Prop} : ∀ {xs : List α} {vs : List β} {x : α} {v : β}, All2 R xs vs → R x v → All2 R (xs ++ [x]) (vs ++ [v])
  | _, _, _, _, .nil, h => .cons h .nil
  | _, _, _, _, .cons a t, h => .cons a (All2.snoc t h)
theorem All2.len {α β : Type} {R : α → β → Prop} {xs : List α} {vs : List β} (h : All2 R xs vs) : xs.length = vs.length := Paired.length h
theorem All2.at_ {α β : Type} {R : α → β → Prop} : ∀ {xs : List α} {vs : List β} {i : Nat} {v : β}, All2 R xs vs → vs[i]? = some v → ∃ x, xs[i]? = some x ∧ R x v
  | _, _, i, v, .nil, h => by simp at h
  | _, _, 0, v, .cons a t, h => by simp at h; subst h; exact ⟨_, rfl, a⟩
  | _, _, i + 1, v, .cons a t, h => by
    obtain ⟨x, h1, h2⟩ := All2.at_ (i := i) t (by simpa using h)
    exact ⟨x, by simpa using h1, h2⟩
theorem All2.get {α β : Type} {R : α → β → Prop} : ∀ {xs : List α} {vs : List β} {i : Nat} {x : α}, All2 R xs vs → xs[i]? = some x → ∃ v, vs[i]? = some v ∧ R x v
  | _, _, i, v, .nil, h => by simp at h
  | _, _, 0, v, .cons a t, h => by simp at h; subst h; exact ⟨_, rfl, a⟩
  | _, _, i + 1, v, .cons a t, h => by
    obtain ⟨x, h1, h2⟩ := All2.get (i := i) t (by simpa using h)
    exact ⟨x, by simpa using h1, h2⟩
theorem All2.map {α : Type} {R : α → V → Prop} (f : α → V) (h : ∀ x, R x (f x)) : ∀ xs : List α, All2 R xs (xs.map f)
  | [] => .nil
  | x :: r => .cons (h x) (All2.map f h r)
theorem All2.eqmap {α β : Type} {R : α → β → Prop} {f : α → β} (h : ∀ x v, R x v → v = f x) : ∀ {xs : List α} {vs : List β}, All2 R xs vs → vs = xs.map f
  | _, _, .nil => rfl
  | _, _, .cons a t => by rw [h _ _ a, All2.eqmap h t]; rfl
/-! ### a list comprehension -/
/-- what must hold of things that may change (S), where else nothing is asked -/
structure Kept (S : List Addr) (I : Hp → Prop) : Prop where
  same : ∀ H H', (∀ a ∈ S, H' a = H a) → I H → I H'
  some : ∀ H a, I H → a ∈ S → H a ≠ none
theorem kept0 : Kept [] fun _ => True := ⟨fun _ _ _ _ => trivial, fun _ _ _ h => nomatch h⟩
theorem lc_go {α β : Type} {S : List Addr} {I : Hp → Prop} (kI : Kept S I) {J : It} {B H : Hp} {xs : List V} {D : Addr} {ys : List β} {Rs : Rp β} {R : Rp α} (f : β → Option α) {Qd : Hp → Prop} {g : TG} {tt : TT} {te : TE} {vs : List Nat} {σ : L2.St}
    (hs : Src J B xs) (hB : ExW B H) (hI : I H) (hSB : ∀ a ∈ S, B a = none) (hD : H D = none) (hys : All2 (Rs.rel B) ys xs) (hz : xs.length ≤ 100000)
    (turn : ∀ (y : β) (x : V) (B1 H1 : Hp) (K1 : VK) (K0 : Hp → Prop), y ∈ ys → Rs.rel B1 y x → Gr S B H B1 H1 → I H1 →
      (∀ v z B2 H2, f y = some v → Gr S B1 H1 B2 H2 → I H2 → R.rel B2 v z → K1 z H2) → (∀ B2 H2, f y = none → Gr S B1 H1 B2 H2 → I H2 → K0 H2) →
      g x (wipe σ vs) H1 fun σ2 H2 => wipe σ2 vs = wipe σ vs ∧ tt σ2 H2 fun b H3 => if b = true then te σ2 H3 K1 else K0 H3)
    (fin : ∀ zs B' H', Gr S B H B' H' → I H' → B' D = none → H' D = some (.lst zs) → All2 (R.rel B') (ys.filterMap f) zs → Qd H') :
    ∃ W : Nat → Nat → Hp → Prop, (∃ m, W 0 m (upd H D (.lst []))) ∧ ∀ i m H, W i m H →
      (J.stop i H ∧ Qd H) ∨ (J.go i H ∧ ∃ Nx : Hp → Prop, (∀ H', Nx H' → ∃ m', m' < m ∧ W (i + 1) m' H') ∧ ∀ x H', J.yld i H x H' → g x (wipe σ vs) H' fun σ2 H2 => wipe σ2 vs = wipe σ vs ∧ tt σ2 H2 fun b H3 =>
        if b = true then te σ2 H3 fun y H4 => ∃ acc, H4 D = some (.lst acc) ∧ acc.length < sizeLine ∧ Nx (upd H4 D (.lst (acc ++ [y]))) else Nx H3) := by
  have hDS : D ∉ S := fun z => kI.some H D hI z hD
  have upI : ∀ {H1 : Hp} {o : HO}, I H1 → I (upd H1 D o) := fun {H1 o} h => kI.same H1 _ (fun a ha => by rw [upd_ne (fun z => hDS (by rw [← z]; exact ha))]) h
  refine ⟨fun i m H1 => m = xs.length - i ∧ i ≤ xs.length ∧ ∃ B1 zs, Gr S B H B1 H1 ∧ I H1 ∧ B1 D = none ∧ H1 D = some (.lst zs) ∧ All2 (R.rel B1) ((ys.take i).filterMap f) zs, ⟨xs.length, by simp, Nat.zero_le _, B, [], Gr.new_ hB hD, upI hI, hB.none hD, upd_same, .nil⟩, ?_⟩
  rintro i m H1 ⟨rfl, hi, B1, zs, g1, i1, b1, d1, a1⟩
  obtain ⟨sg, sy, ss⟩ := hs B1 H1 g1.up g1.sub i
  by_cases hlt : i < xs.length
  · refine .inr ⟨sg hlt, fun H' => ∃ B2 zs2, Gr S B H B2 H' ∧ I H' ∧ B2 D = none ∧ H' D = some (.lst zs2) ∧ All2 (R.rel B2) ((ys.take (i + 1)).filterMap f) zs2, fun H' p => ⟨xs.length - (i + 1), by omega, rfl, hlt, p⟩, fun x H' hy => ?_⟩
    obtain ⟨rfl, hx⟩ := sy x H' hy
    obtain ⟨y, e1, r1⟩ := hys.at_ (hx hlt)
    have hym : y ∈ ys := List.mem_of_getElem? e1
    have et : ys.take (i + 1) = ys.take i ++ [y] := by rw [List.take_succ, e1]; rfl
    have zl : zs.length ≤ i := by
      rw [← a1.len]
      refine Nat.le_trans (List.length_filterMap_le _ _) ?_
      rw [List.length_take]
      exact Nat.min_le_left _ _
    refine turn y x B1 H' _ _ hym (Rs.mono g1.up r1) g1 i1 (fun v z B2 H2 ef g2 i2 rz => ?_) (fun B2 H2 ef g2 i2 => ?_)
    · have d2 : H2 D = some (.lst zs) := g2.keep D _ hDS b1 d1
      have b2 : B2 D = none := g2.new D b1 (by rw [d1]; exact fun z => nomatch z)
      refine ⟨zs, d2, Nat.lt_of_le_of_lt (Nat.le_trans zl (by omega : i ≤ 100000)) (by decide), B2, zs ++ [z], (g1.trans g2).mut (.inl hD) b2, upI i2, b2, upd_same, ?_⟩
      rw [et, List.filterMap_append]
      rw [show [y].filterMap f = [v] by simp [ef]]
      exact (All2.mono g2.up a1).snoc rz
    · refine ⟨B2, zs, g1.trans g2, i2, g2.new D b1 (by rw [d1]; exact fun z => nomatch z), g2.keep D _ hDS b1 d1, ?_⟩
      rw [et, List.filterMap_append, show [y].filterMap f = [] by simp [ef], List.append_nil]
      exact All2.mono g2.up a1
  · have e : i = xs.length := by omega
    subst e
    refine .inl ⟨ss (Nat.le_refl _), fin zs B1 H1 g1 i1 b1 d1 ?_⟩
    rw [← hys.len, List.take_length] at a1
    exact a1
/-- a dict's pairs -/
def DAll {α : Type} (R : Rp α) (B : Hp) (l : List (Str × α)) (kvs : List (Key × V)) : Prop := All2 (fun (p : Str × α) (q : Key × V) => q.1 = Sum.inr p.1 ∧ R.rel B p.2 q.2) l kvs
theorem DAll.mono {α : Type} {R : Rp α} {B B' : Hp} (e : ExW B B') {l : List (Str × α)} {kvs : List (Key × V)} (h : DAll R B l kvs) : DAll R B' l kvs := Paired.mapP h fun _ _ z => ⟨z.1, R.mono e z.2⟩
theorem DAll.keys {α : Type} {R : Rp α} {B : Hp} : ∀ {l : List (Str × α)} {kvs : List (Key × V)}, DAll R B l kvs → kvs.map (·.1) = l.map fun p => Sum.inr p.1
  | _, _, .nil => rfl
  | _, _, .cons h t => by
    rw [List.map_cons, List.map_cons, h.1, DAll.keys (R := R) (B := B) t]
theorem DAll.look {α : Type} {R : Rp α} {B : Hp} : ∀ {l : List (Str × α)} {kvs : List (Key × V)} (k : Str), DAll R B l kvs → (∀ x, l.lookup k = some x → ∃ v, valV kvs (Sum.inr k) = some v ∧ R.rel B x v) ∧ (l.lookup k = none → valV kvs (Sum.inr k) = none)
  | _, _, k, .nil => ⟨fun x h => by simp at h, fun _ => rfl⟩
  | (k1, x1) :: l, (k2, v2) :: kvs, k, .cons h t => by
    obtain ⟨h1, h2⟩ := h
    have h1 : k2 = Sum.inr k1 := h1
    obtain ⟨t1, t2⟩ := DAll.look (R := R) (B := B) k t
    by_cases e : k = k1
    · subst e
      have el : List.lookup k ((k, x1) :: l) = some x1 := by simp [List.lookup]
      rw [el]
      refine ⟨fun x q => ?_, fun q => nomatch q⟩
      cases q
      exact ⟨v2, valV_pos (p := (k2, v2)) h1, h2⟩
    · have el : List.lookup k ((k1, x1) :: l) = List.lookup k l := by
        have : (k == k1) = false := by simpa using e
        simp [List.lookup, this]
      have ev : valV ((k2, v2) :: kvs) (Sum.inr k) = valV kvs (Sum.inr k) := valV_neg (p := (k2, v2)) (fun z => e (by rw [h1] at z; exact (Sum.inr.inj z).symm))
      rw [el, ev]
      exact ⟨t1, t2⟩
theorem dc_go {α β : Type} {J : It} {B H : Hp} {xs : List V} {D : Addr} {ys : List β} {Rs : Rp β} {R : Rp α} (kf : β → Str) (vf : β → α) {Qd : Hp → Prop} {g : TG} {tt : TT} {tk tv : TE} {vs : List Nat} {σ : L2.St}
    (hs : Src J B xs) (hB : ExW B H) (hD : H D = none) (hys : All2 (Rs.rel B) ys xs) (hz : xs.length ≤ 100000) (hn : (ys.map kf).Nodup)
    (turn : ∀ (y : β) (x : V) (B1 H1 : Hp) (K1 : V → VK) (K0 : Hp → Prop), y ∈ ys → Rs.rel B1 y x → Gr [] B H B1 H1 → (∀ z B2 H2, Gr [] B1 H1 B2 H2 → R.rel B2 (vf y) z → K1 (.str (kf y)) z H2) →
      g x (wipe σ vs) H1 fun σ2 H2 => wipe σ2 vs = wipe σ vs ∧ tt σ2 H2 fun b H3 => if b = true then tk σ2 H3 fun k H4 => tv σ2 H4 fun z H5 => K1 k z H5 else K0 H3)
    (fin : ∀ kvs B' H', Gr [] B H B' H' → B' D = none → H' D = some (.dK kvs) → DAll R B' (ys.map fun y => (kf y, vf y)) kvs → Qd H') :
    ∃ W : Nat → Nat → Hp → Prop, (∃ m, W 0 m (upd H D (.dK []))) ∧ ∀ i m H, W i m H →
      (J.stop i H ∧ Qd H) ∨ (J.go i H ∧ ∃ Nx : Hp → Prop, (∀ H', Nx H' → ∃ m', m' < m ∧ W (i + 1) m' H') ∧ ∀ x H', J.yld i H x H' → g x (wipe σ vs) H' fun σ2 H2 => wipe σ2 vs = wipe σ vs ∧ tt σ2 H2 fun b H3 =>
        if b = true then tk σ2 H3 fun y H4 => tv σ2 H4 fun z H5 => ∃ kvs k, y = kV k ∧ H5 D = some (.dK kvs) ∧ kvs.length < sizeLine ∧ Nx (upd H5 D (.dK (putK kvs k z))) else Nx H3) := by
  refine ⟨fun i m H1 => m = xs.length - i ∧ i ≤ xs.length ∧ ∃ B1 zs, Gr [] B H B1 H1 ∧ B1 D = none ∧ H1 D = some (.dK zs) ∧ DAll R B1 ((ys.take i).map fun y => (kf y, vf y)) zs, ⟨xs.length, by simp, Nat.zero_le _, B, [], Gr.new_ hB hD, hB.none hD, upd_same, .nil⟩, ?_⟩
  rintro i m H1 ⟨rfl, hi, B1, zs, g1, b1, d1, a1⟩
  obtain ⟨sg, sy, ss⟩ := hs B1 H1 g1.up g1.sub i
  by_cases hlt : i < xs.length
  · refine .inr ⟨sg hlt, fun H' => ∃ B2 zs2, Gr [] B H B2 H' ∧ B2 D = none ∧ H' D = some (.dK zs2) ∧ DAll R B2 ((ys.take (i + 1)).map fun y => (kf y, vf y)) zs2, fun H' p => ⟨xs.length - (i + 1), by omega, rfl, hlt, p⟩, fun x H' hy => ?_⟩
    obtain ⟨rfl, hx⟩ := sy x H' hy
    obtain ⟨y, e1, r1⟩ := hys.at_ (hx hlt)
    have hym : y ∈ ys := List.mem_of_getElem? e1
    have et : ys.take (i + 1) = ys.take i ++ [y] := by rw [List.take_succ, e1]; rfl
    have zl : zs.length ≤ i := by
      have := a1.len
      rw [List.length_map, List.length_take] at this
      omega
    have nk : valV zs (Sum.inr (kf y)) = none := by
      refine (DAll.look (kf y) a1).2 ?_
      rw [List.lookup_eq_none_iff]
      intro p hp
      obtain ⟨y', hy', rfl⟩ := List.mem_map.mp hp
      have : kf y ≠ kf y' := by
        intro z
        obtain ⟨j, hj, ej⟩ := List.getElem_of_mem hy'
        have hj' : j < i := by rw [List.length_take] at hj; omega
        have ej' : ys[j]? = some y' := by
          rw [List.getElem_take] at ej
          rw [List.length_take] at hj
          rw [List.getElem?_eq_getElem (by omega), ej]
        have q1 : (ys.map kf)[j]? = some (kf y) := by rw [List.getElem?_map, ej', z]; rfl
        have q2 : (ys.map kf)[i]? = some (kf y) := by rw [List.getElem?_map, e1]; rfl
        have := nd_ix hn q1 q2
        omega
      simpa using this
    refine turn y x B1 H' _ _ hym (Rs.mono g1.up r1) g1 (fun z B2 H2 g2 rz => ?_)
    have d2 : H2 D = some (.dK zs) := g2.keep D _ (fun z => nomatch z) b1 d1
    have b2 : B2 D = none := g2.new D b1 (by rw [d1]; exact fun z => nomatch z)
    refine ⟨zs, Sum.inr (kf y), rfl, d2, Nat.lt_of_le_of_lt (Nat.le_trans zl (by omega : i ≤ 100000)) (by decide), B2, _, (g1.trans g2).mut (.inl hD) b2, b2, upd_same, ?_⟩
    rw [putK_new _ nk, et, List.map_append]
    exact All2.snoc (DAll.mono g2.up a1) ⟨rfl, rz⟩
  · have e : i = xs.length := by omega
    subst e
    refine .inl ⟨ss (Nat.le_refl _), fin zs B1 H1 g1 b1 d1 ?_⟩
    rw [← hys.len, List.take_length] at a1
    exact a1
/-! ### a for loop -/
theorem for_go {β : Type} {J : It} {B H : Hp} {xs : List V} {ys : List β} {Rs : Rp β} (Pv : Nat → L2.St → Hp → Hp → Prop) {g : TG} {tb : TS} {D : Ends} {σ : L2.St}
    (hs : Src J B xs) (hys : All2 (Rs.rel B) ys xs) (h0 : Pv 0 σ B H) (hx : ∀ i σ1 B1 H1, Pv i σ1 B1 H1 → ExW B B1 ∧ ExW B1 H1)
    (hstep : ∀ i y x σ1 B1 H1, ys[i]? = some y → Rs.rel B1 y x → Pv i σ1 B1 H1 → g x σ1 H1 fun σ2 H2 => tb { D with nx := fun σ' H' => ∃ B', Pv (i + 1) σ' B' H', ct := fun σ' H' => ∃ B', Pv (i + 1) σ' B' H', bk := D.nx } σ2 H2)
    (hd : ∀ σ1 B1 H1, Pv ys.length σ1 B1 H1 → D.nx σ1 H1) :
    ∃ W : Nat → Nat → L2.St → Hp → Prop, (∃ m, W 0 m σ H) ∧ ∀ i m σ H, W i m σ H →
      (J.stop i H ∧ D.nx σ H) ∨ (J.go i H ∧ ∃ N : L2.St → Hp → Prop, (∀ σ' H', N σ' H' → ∃ m', m' < m ∧ W (i + 1) m' σ' H') ∧ ∀ x H', J.yld i H x H' → g x σ H' fun σ2 H2 => tb { D with nx := N, ct := N, bk := D.nx } σ2 H2) := by
  refine ⟨fun i m σ1 H1 => m = xs.length - i ∧ i ≤ xs.length ∧ ∃ B1, Pv i σ1 B1 H1, ⟨xs.length, by simp, Nat.zero_le _, B, h0⟩, ?_⟩
  rintro i m σ1 H1 ⟨rfl, hi, B1, p⟩
  obtain ⟨e1, e2⟩ := hx i σ1 B1 H1 p
  obtain ⟨sg, sy, ss⟩ := hs B1 H1 e1 e2 i
  by_cases hlt : i < xs.length
  · refine .inr ⟨sg hlt, fun σ' H' => ∃ B', Pv (i + 1) σ' B' H', fun σ' H' p => ⟨xs.length - (i + 1), by omega, rfl, hlt, p⟩, fun x H' hy => ?_⟩
    obtain ⟨rfl, hxx⟩ := sy x H' hy
    obtain ⟨y, ey, r1⟩ := hys.at_ (hxx hlt)
    exact hstep i y x σ1 B1 H' ey (Rs.mono e1 r1) p
  · have e : i = xs.length := by omega
    subst e
    exact .inl ⟨ss (Nat.le_refl _), hd σ1 B1 H1 (by rw [hys.len]; exact p)⟩
/-! ### a sign n times -/
theorem foldl_rep_str (c : Nat) : ∀ (k : Nat) (acc : Array Nat), (List.replicate k #[c]).foldl (· ++ ·) acc = acc ++ (List.replicate k c).toArray
  | 0, acc => by simp
  | k + 1, acc => by
    rw [List.replicate_succ, List.foldl_cons, foldl_rep_str c k, Array.append_assoc]
    congr 1
    exact Array.ext' (by simp [List.replicate_succ])
def rMulS : R2 := fun x y H Q => ∃ c k, x = .str ⟨#[c]⟩ ∧ y = .int k ∧ 1 ≤ k ∧ k ≤ 1000 ∧ Q (.str ⟨(List.replicate k.toNat c).toArray⟩) H
theorem op_mul_str {X : Cx} : OpR X (binaryOp .Mult) rMulS := by
  intro pins s σ H x y v u Q I rx ry h
  obtain ⟨c, k, rfl, rfl, h1, h2, q⟩ := h
  obtain ⟨t, rfl⟩ := rx
  obtain ⟨t', rfl⟩ := ry
  have hl : (⟨#[c]⟩ : Str).length = 1 := rfl
  have hk : k.toNat ≤ 1000 := by omega
  have h3 : (1000 : Nat) < sizeLine := by decide
  refine PySem.P.mul_str (by rw [decide_eq_false (by omega), decide_eq_false (by omega)]; rfl) (fun _ _ => ?_) (fun _ _ => ?_) ?_
  · rw [hl]
    have : (1 : Int) ≤ (2 ^ 63 - 1) / k := by
      rw [Int.le_ediv_iff_mul_le (by omega)]
      omega
    show ¬ ((1 : Int) > (2 ^ 63 - 1) / k)
    omega
  · rw [hl]
    refine decide_eq_false ?_
    omega
  · rw [if_neg (by omega)]
    by_cases e : k = 1
    · subst e
      rw [if_pos (by simp)]
      exact ⟨.str ⟨#[c]⟩, H, I, ⟨_, rfl⟩, q⟩
    · rw [if_neg (by simp [e, hl])]
      rw [foldl_rep_str]
      refine ⟨?_, .str ⟨(List.replicate k.toNat c).toArray⟩, H, I.tok _, ⟨s.toks, by simp⟩, q⟩
      show (#[] ++ (List.replicate k.toNat c).toArray).size ≤ sizeLine
      simp
      omega
end OB

/-! ## OB3 -/
set_option maxHeartbeats 4000000
namespace OB
open PySem PySem.Spec PyProof.Rows L2
/-! ### what values stand for -/
/-- lists, tuples of one kind, dicts with text keys: known for good -/
def rL {α : Type} (R : Rp α) : Rp (List α) := ⟨fun B xs v => ∃ a vs, v = .ref a ∧ B a = some (.lst vs) ∧ All2 (R.rel B) xs vs, fun e ⟨a, vs, h1, h2, h3⟩ => ⟨a, vs, h1, e.lst h2, All2.mono e h3⟩⟩
def rTU {α : Type} (R : Rp α) : Rp (List α) := ⟨fun B xs v => ∃ a vs, v = .ref a ∧ B a = some (.tup vs) ∧ All2 (R.rel B) xs vs, fun e ⟨a, vs, h1, h2, h3⟩ => ⟨a, vs, h1, e.tup h2, All2.mono e h3⟩⟩
def rD {α : Type} (R : Rp α) : Rp (List (Str × α)) := ⟨fun B l v => ∃ d kvs, v = .ref d ∧ Rd B d (.dK kvs) ∧ DAll R B l kvs, fun e ⟨a, vs, h1, h2, h3⟩ => ⟨a, vs, h1, e.rd h2, DAll.mono e h3⟩⟩
/-- a tuple of written values -/
def rFix {α : Type} (f : α → List V) : Rp α := ⟨fun B x v => ∃ a, v = .ref a ∧ B a = some (.tup (f x)), fun e ⟨a, h1, h2⟩ => ⟨a, h1, e.tup h2⟩⟩
structure Bond where
  nm : Str
  a : Str
  b : Str
  lo : Option Int
  hi : Option Int
  deriving DecidableEq
abbrev rLRow : Rp (Str × Option Int) := rFix fun x => [.str x.1, vo x.2]
abbrev rBRow : Rp Bond := rFix fun x => [.str x.nm, .str x.a, .str x.b, vo x.lo, vo x.hi]
abbrev rB3 : Rp Bond := rFix fun x => [.str x.nm, .str x.a, .str x.b]
abbrev rPair : Rp (Str × Str) := rFix fun x => [.str x.1, .str x.2]
/-- a list that its maker still owns -/
def NewL {α : Type} (R : Rp α) (xs : List α) (H B' H' : Hp) (v : V) : Prop := ∃ p vs, v = .ref p ∧ H p = none ∧ B' p = none ∧ H' p = some (.lst vs) ∧ All2 (R.rel B') xs vs
def NewD {α : Type} (R : Rp α) (l : List (Str × α)) (H B' H' : Hp) (v : V) : Prop := ∃ p kvs, v = .ref p ∧ H p = none ∧ B' p = none ∧ H' p = some (.dK kvs) ∧ DAll R B' l kvs
theorem NewL.at_ {α : Type} {R : Rp α} {xs : List α} {H B' H' : Hp} {p : Addr} (h : NewL R xs H B' H' (.ref p)) : ∃ vs, H p = none ∧ B' p = none ∧ H' p = some (.lst vs) ∧ All2 (R.rel B') xs vs := by
  obtain ⟨q, vs, e, r⟩ := h
  cases e
  exact ⟨vs, r⟩
theorem NewD.at_ {α : Type} {R : Rp α} {l : List (Str × α)} {H B' H' : Hp} {p : Addr} (h : NewD R l H B' H' (.ref p)) : ∃ vs, H p = none ∧ B' p = none ∧ H' p = some (.dK vs) ∧ DAll R B' l vs := by
  obtain ⟨q, vs, e, r⟩ := h
  cases e
  exact ⟨vs, r⟩
/-- a def's end: the answer stands for x -/
def Ret {α : Type} (R : Rp α) (x : α) (B H : Hp) (Q : VK) : Prop := ∀ B' H' v, Gr [] B H B' H' → R.rel B' x v → Q v H'
theorem Ret.go {α : Type} {R : Rp α} {x : α} {B H B1 H1 : Hp} {Q : VK} (r : Ret R x B H Q) (g : Gr [] B H B1 H1) : Ret R x B1 H1 Q := fun B' H' v g' h => r B' H' v (g.trans g') h
theorem Ret.at_ {α : Type} {R : Rp α} {x : α} {B H : Hp} {Q : VK} (r : Ret R x B H Q) (g : ExW B H) {v : V} (h : R.rel B x v) : Q v H := r B H v (Gr.refl g) h
/-- a new tuple is handed back -/
theorem Ret.tup {α : Type} {f : α → List V} {x : α} {B H : Hp} {Q : VK} (r : Ret (rFix f) x B H Q) (g : ExW B H) {p : Addr} (hp : H p = none) : Q (.ref p) (upd H p (.tup (f x))) :=
  r _ _ _ (Gr.newP g hp) ⟨p, rfl, upd_same⟩
theorem Ret.newL {α : Type} {R : Rp α} {xs : List α} {B H B' H' : Hp} {Q : VK} {v : V} (r : Ret (rL R) xs B H Q) (g : Gr [] B H B' H') (h : NewL R xs H B' H' v) : Q v H' := by
  obtain ⟨p, vs, rfl, h1, h2, h3, h4⟩ := h
  exact r _ _ _ (g.pub h1 h2 h3) ⟨p, vs, rfl, upd_same, All2.mono (ExW.new h2) h4⟩
theorem Ret.newD {α : Type} {R : Rp α} {l : List (Str × α)} {B H B' H' : Hp} {Q : VK} {v : V} (r : Ret (rD R) l B H Q) (g : Gr [] B H B' H') (h : NewD R l H B' H' v) : Q v H' := by
  obtain ⟨p, vs, rfl, h1, h2, h3, h4⟩ := h
  exact r _ _ _ (g.pub h1 h2 h3) ⟨p, vs, rfl, .inl upd_same, DAll.mono (ExW.new h2) h4⟩
/-! ### comprehensions and loops over one name -/
theorem wipe1 {σ : L2.St} {j : Nat} {x : V} : wipe ((wipe σ [j]).set j (some x)) [j] = wipe σ [j] := by
  show ((σ.set j none).set j (some x)).set j none = σ.set j none
  rw [List.set_set, List.set_set]
section
variable {α β : Type} {J : It} {B H : Hp} {xs : List V} {D : Addr} {ys : List β} {Rs : Rp β} {R : Rp α} {Qd : Hp → Prop} {tt : TT} {te tk tv : TE} {j : Nat} {σ : L2.St} {vs : List Nat}
theorem lc_flt (f : β → Option α) (hs : Src J B xs) (hB : ExW B H) (hD : H D = none) (hys : All2 (Rs.rel B) ys xs) (hz : xs.length ≤ 100000)
    (turn : ∀ (y : β) (x : V) (B1 H1 : Hp) (K1 : VK) (K0 : Hp → Prop), y ∈ ys → Rs.rel B1 y x → Gr [] B H B1 H1 →
      (∀ v z B2 H2, f y = some v → Gr [] B1 H1 B2 H2 → R.rel B2 v z → K1 z H2) → (∀ B2 H2, f y = none → Gr [] B1 H1 B2 H2 → K0 H2) →
      tt ((wipe σ vs).set j (some x)) H1 fun b H3 => if b = true then te ((wipe σ vs).set j (some x)) H3 K1 else K0 H3)
    (fin : ∀ B' H', Gr [] B H B' H' → NewL R (ys.filterMap f) H B' H' (.ref D) → Qd H') (hv : vs = [j] := by rfl) :
    ∃ W : Nat → Nat → Hp → Prop, (∃ m, W 0 m (upd H D (.lst []))) ∧ ∀ i m H, W i m H →
      (J.stop i H ∧ Qd H) ∨ (J.go i H ∧ ∃ Nx : Hp → Prop, (∀ H', Nx H' → ∃ m', m' < m ∧ W (i + 1) m' H') ∧ ∀ x H', J.yld i H x H' → gName j x (wipe σ vs) H' fun σ2 H2 => wipe σ2 vs = wipe σ vs ∧ tt σ2 H2 fun b H3 =>
        if b = true then te σ2 H3 fun y H4 => ∃ acc, H4 D = some (.lst acc) ∧ acc.length < sizeLine ∧ Nx (upd H4 D (.lst (acc ++ [y]))) else Nx H3) := by
  subst hv
  exact
  lc_go (g := gName j) (Rs := Rs) (R := R) kept0 f hs hB trivial (fun _ z => nomatch z) hD hys hz (fun y x B1 H1 K1 K0 h1 h2 h3 _ h5 h6 => ⟨wipe1, turn y x B1 H1 K1 K0 h1 h2 h3 (fun v z B2 H2 a b c => h5 v z B2 H2 a b trivial c) fun B2 H2 a b => h6 B2 H2 a b trivial⟩)
    (fun zs B' H' g _ hb hd a => fin B' H' g ⟨D, zs, rfl, hD, hb, hd, a⟩)
theorem lc_map (f : β → α) (hs : Src J B xs) (hB : ExW B H) (hD : H D = none) (hys : All2 (Rs.rel B) ys xs) (hz : xs.length ≤ 100000)
    (turn : ∀ (y : β) (x : V) (B1 H1 : Hp) (K1 : VK), y ∈ ys → Rs.rel B1 y x → Gr [] B H B1 H1 → (∀ z B2 H2, Gr [] B1 H1 B2 H2 → R.rel B2 (f y) z → K1 z H2) → te ((wipe σ vs).set j (some x)) H1 K1)
    (fin : ∀ B' H', Gr [] B H B' H' → NewL R (ys.map f) H B' H' (.ref D) → Qd H') (hv : vs = [j] := by rfl) :
    ∃ W : Nat → Nat → Hp → Prop, (∃ m, W 0 m (upd H D (.lst []))) ∧ ∀ i m H, W i m H →
      (J.stop i H ∧ Qd H) ∨ (J.go i H ∧ ∃ Nx : Hp → Prop, (∀ H', Nx H' → ∃ m', m' < m ∧ W (i + 1) m' H') ∧ ∀ x H', J.yld i H x H' → gName j x (wipe σ vs) H' fun σ2 H2 => wipe σ2 vs = wipe σ vs ∧ tYes σ2 H2 fun b H3 =>
        if b = true then te σ2 H3 fun y H4 => ∃ acc, H4 D = some (.lst acc) ∧ acc.length < sizeLine ∧ Nx (upd H4 D (.lst (acc ++ [y]))) else Nx H3) := by
  subst hv
  exact
  lc_flt (tt := tYes) (Rs := Rs) (R := R) (fun y => some (f y)) hs hB hD hys hz (fun y x B1 H1 K1 K0 h1 h2 h3 h5 _ => ite_tt (B := K0 H1) (turn y x B1 H1 K1 h1 h2 h3 fun z B2 H2 a b => h5 (f y) z B2 H2 rfl a b))
    (fun B' H' g n => fin B' H' g (by rw [show (fun y => some (f y)) = some ∘ f from rfl, List.filterMap_eq_map] at n; exact n))
theorem dc_map (kf : β → Str) (vf : β → α) (hs : Src J B xs) (hB : ExW B H) (hD : H D = none) (hys : All2 (Rs.rel B) ys xs) (hz : xs.length ≤ 100000) (hn : (ys.map kf).Nodup)
    (turn : ∀ (y : β) (x : V) (B1 H1 : Hp) (K1 : V → VK), y ∈ ys → Rs.rel B1 y x → Gr [] B H B1 H1 → (∀ z B2 H2, Gr [] B1 H1 B2 H2 → R.rel B2 (vf y) z → K1 (.str (kf y)) z H2) →
      tk ((wipe σ vs).set j (some x)) H1 fun k H4 => tv ((wipe σ vs).set j (some x)) H4 fun z H5 => K1 k z H5)
    (fin : ∀ B' H', Gr [] B H B' H' → NewD R (ys.map fun y => (kf y, vf y)) H B' H' (.ref D) → Qd H') (hv : vs = [j] := by rfl) :
    ∃ W : Nat → Nat → Hp → Prop, (∃ m, W 0 m (upd H D (.dK []))) ∧ ∀ i m H, W i m H →
      (J.stop i H ∧ Qd H) ∨ (J.go i H ∧ ∃ Nx : Hp → Prop, (∀ H', Nx H' → ∃ m', m' < m ∧ W (i + 1) m' H') ∧ ∀ x H', J.yld i H x H' → gName j x (wipe σ vs) H' fun σ2 H2 => wipe σ2 vs = wipe σ vs ∧ tYes σ2 H2 fun b H3 =>
        if b = true then tk σ2 H3 fun y H4 => tv σ2 H4 fun z H5 => ∃ kvs k, y = kV k ∧ H5 D = some (.dK kvs) ∧ kvs.length < sizeLine ∧ Nx (upd H5 D (.dK (putK kvs k z))) else Nx H3) := by
  subst hv
  exact
  dc_go (g := gName j) (tt := tYes) (Rs := Rs) (R := R) kf vf hs hB hD hys hz hn (fun y x B1 H1 K1 K0 h1 h2 h3 h4 => ⟨wipe1, ite_tt (B := K0 H1) (turn y x B1 H1 K1 h1 h2 h3 h4)⟩) (fun kvs B' H' g hb hd a => fin B' H' g ⟨D, kvs, rfl, hD, hb, hd, a⟩)
end
/-- a loop that looks and changes nothing -/
theorem for_chk {β : Type} {J : It} {B H : Hp} {xs : List V} {ys : List β} {Rs : Rp β} {tb : TS} {D : Ends} {j : Nat} {σ : L2.St} {z0 : Option V} (hj : σ[j]? = some z0) (hs : Src J B xs) (hB : ExW B H) (hys : All2 (Rs.rel B) ys xs)
    (hstep : ∀ y x (N : L2.St → Hp → Prop), y ∈ ys → Rs.rel B y x → N (σ.set j (some x)) H → tb { D with nx := N, ct := N, bk := D.nx } (σ.set j (some x)) H)
    (hd : ∀ z, D.nx (σ.set j z) H) :
    ∃ W : Nat → Nat → L2.St → Hp → Prop, (∃ m, W 0 m σ H) ∧ ∀ i m σ H, W i m σ H →
      (J.stop i H ∧ D.nx σ H) ∨ (J.go i H ∧ ∃ N : L2.St → Hp → Prop, (∀ σ' H', N σ' H' → ∃ m', m' < m ∧ W (i + 1) m' σ' H') ∧ ∀ x H', J.yld i H x H' → gName j x σ H' fun σ2 H2 => tb { D with nx := N, ct := N, bk := D.nx } σ2 H2) := by
  refine for_go (Rs := Rs) (fun _ σ1 B1 H1 => B1 = B ∧ H1 = H ∧ ∃ z, σ1 = σ.set j z) hs hys ⟨rfl, rfl, z0, ?_⟩ (fun i σ1 B1 H1 h => ?_) (fun i y x σ1 B1 H1 hy hx h => ?_) (fun σ1 B1 H1 h => ?_)
  · obtain ⟨hl, e⟩ := List.getElem?_eq_some_iff.mp hj
    rw [← e, List.set_getElem_self]
  · obtain ⟨rfl, rfl, _⟩ := h
    exact ⟨ExW.refl _, hB⟩
  · obtain ⟨rfl, rfl, z, rfl⟩ := h
    show tb _ ((σ.set j z).set j (some x)) H1
    rw [List.set_set]
    exact hstep y x _ (List.mem_of_getElem? hy) hx ⟨B1, rfl, rfl, _, rfl⟩
  · obtain ⟨rfl, rfl, z, rfl⟩ := h
    exact hd z
/-- names are what they are -/
theorem strs2 {B : Hp} : ∀ xs : List Str, All2 (rStr.rel B) xs (xs.map V.str)
  | [] => .nil
  | _ :: r => .cons rfl (strs2 r)
theorem ints2 {B : Hp} : ∀ xs : List Int, All2 (rInt.rel B) xs (xs.map V.int)
  | [] => .nil
  | _ :: r => .cons rfl (ints2 r)
theorem strs_eq {B : Hp} : ∀ {xs : List Str} {vs : List V}, All2 (rStr.rel B) xs vs → vs = xs.map V.str
  | _, _, .nil => rfl
  | _, _, .cons a t => by rw [show _ = _ from a, strs_eq t]; rfl
theorem ints_eq {B : Hp} : ∀ {xs : List Int} {vs : List V}, All2 (rInt.rel B) xs vs → vs = xs.map V.int
  | _, _, .nil => rfl
  | _, _, .cons a t => by rw [show _ = _ from a, ints_eq t]; rfl
theorem bools_eq {B : Hp} : ∀ {xs : List Bool} {vs : List V}, All2 (rBool.rel B) xs vs → vs = xs.map V.bl
  | _, _, .nil => rfl
  | _, _, .cons a t => by rw [show _ = _ from a, bools_eq t]; rfl
/-! ### dicts read -/
section
variable {α : Type} {R : Rp α} {B H : Hp} {l : List (Str × α)} {k : Str} {x : α} {v : V}
theorem dgetB (h : (rD R).rel B l v) (e : ExW B H) (hk : l.lookup k = some x) : ∃ d u, v = .ref d ∧ DGet H d (.str k) (some u) ∧ R.rel B x u := by
  obtain ⟨d, kvs, rfl, h2, h3⟩ := h
  obtain ⟨u, h4, h5⟩ := (DAll.look k h3).1 x hk
  refine ⟨d, u, rfl, .inl ⟨kvs, Sum.inr k, e.rd h2, rfl, ?_⟩, h5⟩
  exact h4.symm
theorem dinB (h : (rD R).rel B l v) (e : ExW B H) : ∃ d o, v = .ref d ∧ DGet H d (.str k) o ∧ o.isSome = (l.lookup k).isSome := by
  obtain ⟨d, kvs, rfl, h2, h3⟩ := h
  refine ⟨d, valV kvs (Sum.inr k), rfl, .inl ⟨kvs, Sum.inr k, e.rd h2, rfl, rfl⟩, ?_⟩
  cases q : l.lookup k with
  | none => rw [(DAll.look k h3).2 q] <;> rfl
  | some x =>
    obtain ⟨u, h4, h5⟩ := (DAll.look k h3).1 x q
    rw [h4] <;> rfl
end
/-- a light for each name -/
abbrev glow (ps : List Str) (S : Str → Int) : List (Str × Int) := ps.map fun p => (p, S p)
theorem look_mem {β γ : Type} {kf : γ → Str} {vf : γ → β} : ∀ {l : List γ}, (l.map kf).Nodup → ∀ {x : γ}, x ∈ l → (l.map fun y => (kf y, vf y)).lookup (kf x) = some (vf x)
  | [], _, x, h => nomatch h
  | y :: r, hn, x, h => by
    rw [List.map_cons, List.lookup_cons]
    have hn : (kf y :: r.map kf).Nodup := hn
    obtain ⟨h1, h2⟩ := List.nodup_cons.mp hn
    rcases List.mem_cons.mp h with rfl | h
    · simp
    · have : (kf x == kf y) = false := by
        have : kf x ≠ kf y := fun e => h1 (by rw [← e]; exact List.mem_map.mpr ⟨x, h, rfl⟩)
        simpa using this
      rw [this]
      exact look_mem h2 h
theorem look_glow {β : Type} (S : Str → β) : ∀ {ps : List Str} {p : Str}, (ps.map fun p => (p, S p)).lookup p = if p ∈ ps then some (S p) else none
  | [], p => by simp
  | q :: r, p => by
    rw [List.map_cons, List.lookup_cons, look_glow S (ps := r) (p := p)]
    by_cases e : p = q
    · subst e; simp
    · have : (p == q) = false := by simpa using e
      rw [this]
      simp [e]
/-! ### numbers -/
def isN (i : Int) : Bool := decide (-1000000000000 ≤ i) && decide (i ≤ 1000000000000)
def isE (o : Option Int) : Bool := match o with
  | some i => isN i
  | none => true
def isNum (x : V) : Bool := match x with
  | .int i => isN i
  | _ => false
/-- light <= ceiling, None above all -/
def leE (l : Int) (c : Option Int) : Bool := match c with
  | some c => decide (l ≤ c)
  | none => true
def geE (l : Int) (c : Option Int) : Bool := match c with
  | some c => decide (c ≤ l)
  | none => true
/-- a span lets a light pass -/
def letB (lo hi : Option Int) (l : Int) : Bool := geE l lo && leE l hi
/-! ### objects -/
def spanF (lo hi : V) : List (Str × V) := [("low", lo), ("high", hi)]
def rSpan (K : PySem.W.Frag) : Rp (Option Int × Option Int) := ⟨fun B x v => ∃ a dx, v = .ref a ∧ B a = some (.ins (He.ga K "Span") dx (spanF (vo x.1) (vo x.2))), fun e ⟨a, dx, h1, h2⟩ => ⟨a, dx, h1, e.ins h2⟩⟩
theorem spanF_low {a b : V} : List.lookup ("low" : Str) (spanF a b) = some a := by simp [spanF, List.lookup]
theorem spanF_high {a b : V} : List.lookup ("high" : Str) (spanF a b) = some b := by
  have h : (("high" : Str) == ("low" : Str)) = false := by decide +kernel
  simp [spanF, List.lookup, h]
structure Net where
  lamps : List (Str × Option Int)
  bonds : List Bond
def Net.names (n : Net) : List Str := n.lamps.map (·.1)
def netF (v1 v2 v3 v4 v5 v6 v7 : V) : List (Str × V) := [("own_lamp_rows", v1), ("own_bond_rows", v2), ("own_lamps", v3), ("own_ceilings", v4), ("own_ends", v5), ("own_spans", v6), ("own_arms", v7)]
/-- what a web is made of, in name order -/
structure Net.Ok (n : Net) : Prop where
  nd : n.names.Nodup
  bnd : (n.bonds.map (·.nm)).Nodup
  len : n.lamps.length ≤ 10
  blen : n.bonds.length ≤ 16
  num : ∀ p ∈ n.lamps, isE p.2 = true
  bnum : ∀ b ∈ n.bonds, isE b.lo = true ∧ isE b.hi = true
  ends : ∀ b ∈ n.bonds, b.a ∈ n.names ∧ b.b ∈ n.names ∧ b.a ≠ b.b
theorem nil_lookup {β : Type} {k : Str} : ([] : List (Str × β)).lookup k = none := rfl
section
variable {v1 v2 v3 v4 v5 v6 v7 : V}
theorem netF1 : List.lookup ("own_lamp_rows" : Str) (netF v1 v2 v3 v4 v5 v6 v7) = some v1 := by simp [netF, List.lookup]
theorem netF2 : List.lookup ("own_bond_rows" : Str) (netF v1 v2 v3 v4 v5 v6 v7) = some v2 := by
  have h1 : (("own_bond_rows" : Str) == ("own_lamp_rows" : Str)) = false := by decide +kernel
  simp [netF, List.lookup, h1]
theorem netF3 : List.lookup ("own_lamps" : Str) (netF v1 v2 v3 v4 v5 v6 v7) = some v3 := by
  have h1 : (("own_lamps" : Str) == ("own_lamp_rows" : Str)) = false := by decide +kernel
  have h2 : (("own_lamps" : Str) == ("own_bond_rows" : Str)) = false := by decide +kernel
  simp [netF, List.lookup, h1, h2]
theorem netF4 : List.lookup ("own_ceilings" : Str) (netF v1 v2 v3 v4 v5 v6 v7) = some v4 := by
  have h1 : (("own_ceilings" : Str) == ("own_lamp_rows" : Str)) = false := by decide +kernel
  have h2 : (("own_ceilings" : Str) == ("own_bond_rows" : Str)) = false := by decide +kernel
  have h3 : (("own_ceilings" : Str) == ("own_lamps" : Str)) = false := by decide +kernel
  simp [netF, List.lookup, h1, h2, h3]
theorem netF5 : List.lookup ("own_ends" : Str) (netF v1 v2 v3 v4 v5 v6 v7) = some v5 := by
  have h1 : (("own_ends" : Str) == ("own_lamp_rows" : Str)) = false := by decide +kernel
  have h2 : (("own_ends" : Str) == ("own_bond_rows" : Str)) = false := by decide +kernel
  have h3 : (("own_ends" : Str) == ("own_lamps" : Str)) = false := by decide +kernel
  have h4 : (("own_ends" : Str) == ("own_ceilings" : Str)) = false := by decide +kernel
  simp [netF, List.lookup, h1, h2, h3, h4]
theorem netF6 : List.lookup ("own_spans" : Str) (netF v1 v2 v3 v4 v5 v6 v7) = some v6 := by
  have h1 : (("own_spans" : Str) == ("own_lamp_rows" : Str)) = false := by decide +kernel
  have h2 : (("own_spans" : Str) == ("own_bond_rows" : Str)) = false := by decide +kernel
  have h3 : (("own_spans" : Str) == ("own_lamps" : Str)) = false := by decide +kernel
  have h4 : (("own_spans" : Str) == ("own_ceilings" : Str)) = false := by decide +kernel
  have h5 : (("own_spans" : Str) == ("own_ends" : Str)) = false := by decide +kernel
  simp [netF, List.lookup, h1, h2, h3, h4, h5]
/-- no method of a web is an attribute -/
theorem netF_no {m : Str} (h : [("own_lamp_rows" : Str), "own_bond_rows", "own_lamps", "own_ceilings", "own_ends", "own_spans", "own_arms"].contains m = false) : (netF v1 v2 v3 v4 v5 v6 v7).lookup m = none := by
  rw [List.lookup_eq_none_iff]
  intro p hp
  have hm : p.1 ∈ [("own_lamp_rows" : Str), "own_bond_rows", "own_lamps", "own_ceilings", "own_ends", "own_spans", "own_arms"] := by
    simp only [netF, List.mem_cons, List.not_mem_nil, or_false] at hp
    rcases hp with rfl | rfl | rfl | rfl | rfl | rfl | rfl <;> simp
  cases e : m == p.1 with
  | false => simp [bne, e]
  | true =>
    have : m = p.1 := eq_of_beq e
    rw [this] at h
    simp at h hm
    simp_all
end
def rWeb (K : PySem.W.Frag) : Rp Net := ⟨fun B n v => n.Ok ∧ ∃ a dx v1 v2 v3 v4 v5 v6 v7, v = .ref a ∧ B a = some (.ins (He.ga K "Web") dx (netF v1 v2 v3 v4 v5 v6 v7)) ∧ (rL rLRow).rel B n.lamps v1 ∧ (rL rBRow).rel B n.bonds v2 ∧ (rL rStr).rel B n.names v3 ∧
    (rD rEnd).rel B n.lamps v4 ∧ (rD rPair).rel B (n.bonds.map fun (b : Bond) => (b.nm, (b.a, b.b))) v5 ∧ (rD (rSpan K)).rel B (n.bonds.map fun (b : Bond) => (b.nm, (b.lo, b.hi))) v6,
  fun e ⟨ok, a, dx, v1, v2, v3, v4, v5, v6, v7, h0, h1, h2, h3, h4, h5, h6, h7⟩ => ⟨ok, a, dx, v1, v2, v3, v4, v5, v6, v7, h0, e.ins h1, Rp.mono _ e h2, Rp.mono _ e h3, Rp.mono _ e h4, Rp.mono _ e h5, Rp.mono _ e h6, Rp.mono _ e h7⟩⟩
def worldF (v1 v2 v3 v4 : V) : List (Str × V) := [("own_web", v1), ("own_table", v2), ("own_row", v3), ("own_pairs", v4)]
section
variable {v1 v2 v3 v4 : V}
theorem worldF1 : List.lookup ("own_web" : Str) (worldF v1 v2 v3 v4) = some v1 := by simp [worldF, List.lookup]
theorem worldF2 : List.lookup ("own_table" : Str) (worldF v1 v2 v3 v4) = some v2 := by
  have h1 : (("own_table" : Str) == ("own_web" : Str)) = false := by decide +kernel
  simp [worldF, List.lookup, h1]
theorem worldF3 : List.lookup ("own_row" : Str) (worldF v1 v2 v3 v4) = some v3 := by
  have h1 : (("own_row" : Str) == ("own_web" : Str)) = false := by decide +kernel
  have h2 : (("own_row" : Str) == ("own_table" : Str)) = false := by decide +kernel
  simp [worldF, List.lookup, h1, h2]
theorem worldF_no {m : Str} (h : [("own_web" : Str), "own_table", "own_row", "own_pairs"].contains m = false) : (worldF v1 v2 v3 v4).lookup m = none := by
  rw [List.lookup_eq_none_iff]
  intro p hp
  have hm : p.1 ∈ [("own_web" : Str), "own_table", "own_row", "own_pairs"] := by
    simp only [worldF, List.mem_cons, List.not_mem_nil, or_false] at hp
    rcases hp with rfl | rfl | rfl | rfl <;> simp
  cases e : m == p.1 with
  | false => simp [bne, e]
  | true =>
    have : m = p.1 := eq_of_beq e
    rw [this] at h
    simp at h hm
    simp_all
end
/-- a world: its web, and a light for each name -/
def rWorld (K : PySem.W.Frag) : Rp (Net × (Str → Int)) := ⟨fun B n v => (∀ p ∈ n.1.names, isN (n.2 p) = true) ∧ ∃ a dx v1 v2 v3 v4, v = .ref a ∧ B a = some (.ins (He.ga K "World") dx (worldF v1 v2 v3 v4)) ∧ (rWeb K).rel B n.1 v1 ∧ (rD rInt).rel B (glow n.1.names n.2) v2 ∧ (rTU rInt).rel B (n.1.names.map n.2) v3,
  fun e ⟨ok, a, dx, v1, v2, v3, v4, h0, h1, h2, h3, h4⟩ => ⟨ok, a, dx, v1, v2, v3, v4, h0, e.ins h1, Rp.mono _ e h2, Rp.mono _ e h3, Rp.mono _ e h4⟩⟩
end OB

/-! ## OB4 -/
set_option maxHeartbeats 4000000
namespace OB
open PySem PySem.Spec PyProof.Rows L2
theorem iteF' {b : Bool} {A B : Prop} (hb : b = false) (h : B) : if b = true then A else B := by
  subst hb; exact iteF h
theorem iteT' {b : Bool} {A B : Prop} (hb : b = true) (h : A) : if b = true then A else B := by
  subst hb; exact ite_tt h
theorem Gr.was {S : List Addr} {B H B1 H1 : Hp} {a : Addr} (g : Gr S B H B1 H1) (h : H1 a = none) : H a = none := by
  cases e : H a with
  | none => rfl
  | some o => exact absurd h (g.there a (by rw [e]; exact fun z => nomatch z))
theorem Gr.fresh3 {B H B1 H1 B' H' : Hp} {x y z : Addr} (g1 : Gr [] B H B1 H1) (hx : H x = none) (hy : H y = none) (hz : H z = none) (g : Gr [x, y, z] B1 H1 B' H') : Gr [] B H B' H' :=
  ⟨fun a o _ hb e => by
    have zx : a ≠ x := fun q => by rw [q, hx] at e; cases e
    have zy : a ≠ y := fun q => by rw [q, hy] at e; cases e
    have zz : a ≠ z := fun q => by rw [q, hz] at e; cases e
    exact g.keep a o (by simp [zx, zy, zz]) (g1.new a hb (by rw [e]; exact fun z => nomatch z)) (g1.keep a o (fun z => nomatch z) hb e),
  g1.up.trans g.up, g.sub, fun a hb e => g.new a (g1.new a hb e) (g1.there a e), fun a e => g.there a (g1.there a e)⟩
/-! ### things that are walked and make new values on the way -/
def SrcG {β : Type} (J : It) (B : Hp) (ys : List β) (Rs : Rp β) : Prop := ∀ B1 H, ExW B B1 → ExW B1 H → ∀ i, (i < ys.length → J.go i H) ∧ (∀ x H' y, J.yld i H x H' → ys[i]? = some y → ∃ B2, Gr [] B1 H B2 H' ∧ Rs.rel B2 y x) ∧ (ys.length ≤ i → J.stop i H)
/-- a dict's item -/
def rItem {α : Type} (R : Rp α) : Rp (Str × α) := ⟨fun B p v => ∃ T u, v = .ref T ∧ B T = some (.tup [.str p.1, u]) ∧ R.rel B p.2 u, fun e ⟨T, u, h1, h2, h3⟩ => ⟨T, u, h1, e.tup h2, R.mono e h3⟩⟩
theorem src_items {α : Type} {R : Rp α} {B : Hp} {d : Addr} {o : Obj} {l : List (Str × α)} {kvs : List (Key × V)} (h : B d = some (.frz o (.dK kvs))) (hl : DAll R B l kvs) : SrcG (Iti d o kvs) B l (rItem R) := fun B1 H e1 e2 i => by
  have hs : H d = some (.frz o (.dK kvs)) := by
    rcases e1 d _ h with q | ⟨_, q, _⟩
    · rcases e2 d _ q with q | ⟨_, q, _⟩
      · exact q
      · cases q
    · cases q
  refine ⟨fun hi => ⟨hs, by rw [← hl.len]; exact hi⟩, fun x H' y hy ey => ?_, fun hi => ⟨hs, by rw [← hl.len]; exact hi⟩⟩
  obtain ⟨T, k, v, e, rfl, hT, rfl⟩ := hy
  obtain ⟨q, eq, h1, h2⟩ := All2.get hl ey
  rw [e] at eq
  cases eq
  have h1 : k = Sum.inr y.1 := h1
  subst h1
  exact ⟨_, Gr.newP e2 hT, T, v, rfl, upd_same, R.mono (e1.trans (ExW.new (e2.none hT))) h2⟩
theorem for_goG {β : Type} {J : It} {B H : Hp} {ys : List β} {Rs : Rp β} (Pv : Nat → L2.St → Hp → Hp → Prop) {g : TG} {tb : TS} {D : Ends} {σ : L2.St}
    (hs : SrcG J B ys Rs) (h0 : Pv 0 σ B H) (hx : ∀ i σ1 B1 H1, Pv i σ1 B1 H1 → ExW B B1 ∧ ExW B1 H1)
    (hstep : ∀ i y x σ1 B1 H1 B2 H2, ys[i]? = some y → Gr [] B1 H1 B2 H2 → Rs.rel B2 y x → Pv i σ1 B1 H1 → g x σ1 H2 fun σ2 H2 => tb { D with nx := fun σ' H' => ∃ B', Pv (i + 1) σ' B' H', ct := fun σ' H' => ∃ B', Pv (i + 1) σ' B' H', bk := D.nx } σ2 H2)
    (hd : ∀ σ1 B1 H1, Pv ys.length σ1 B1 H1 → D.nx σ1 H1) :
    ∃ W : Nat → Nat → L2.St → Hp → Prop, (∃ m, W 0 m σ H) ∧ ∀ i m σ H, W i m σ H →
      (J.stop i H ∧ D.nx σ H) ∨ (J.go i H ∧ ∃ N : L2.St → Hp → Prop, (∀ σ' H', N σ' H' → ∃ m', m' < m ∧ W (i + 1) m' σ' H') ∧ ∀ x H', J.yld i H x H' → g x σ H' fun σ2 H2 => tb { D with nx := N, ct := N, bk := D.nx } σ2 H2) := by
  refine ⟨fun i m σ1 H1 => m = ys.length - i ∧ i ≤ ys.length ∧ ∃ B1, Pv i σ1 B1 H1, ⟨ys.length, by simp, Nat.zero_le _, B, h0⟩, ?_⟩
  rintro i m σ1 H1 ⟨rfl, hi, B1, p⟩
  obtain ⟨e1, e2⟩ := hx i σ1 B1 H1 p
  obtain ⟨sg, sy, ss⟩ := hs B1 H1 e1 e2 i
  by_cases hlt : i < ys.length
  · refine .inr ⟨sg hlt, fun σ' H' => ∃ B', Pv (i + 1) σ' B' H', fun σ' H' p => ⟨ys.length - (i + 1), by omega, rfl, hlt, p⟩, fun x H' hy => ?_⟩
    have ey : ys[i]? = some ys[i] := List.getElem?_eq_getElem hlt
    obtain ⟨B2, g2, r2⟩ := sy x H' _ hy ey
    exact hstep i _ x σ1 B1 H1 B2 H' ey g2 r2 p
  · have e : i = ys.length := by omega
    subst e
    exact .inl ⟨ss (Nat.le_refl _), hd σ1 B1 H1 p⟩
theorem lc_goG {α β : Type} {J : It} {B H : Hp} {D : Addr} {ys : List β} {Rs : Rp β} {R : Rp α} (f : β → α) {Qd : Hp → Prop} {g : TG} {te : TE} {vs : List Nat} {σ : L2.St}
    (hs : SrcG J B ys Rs) (hB : ExW B H) (hD : H D = none) (hz : ys.length ≤ 100000)
    (turn : ∀ (y : β) (x : V) (B1 H1 : Hp) (K1 : VK) (K0 : Hp → Prop), y ∈ ys → Rs.rel B1 y x → Gr [] B H B1 H1 → (∀ z B2 H2, Gr [] B1 H1 B2 H2 → R.rel B2 (f y) z → K1 z H2) →
      g x (wipe σ vs) H1 fun σ2 H2 => wipe σ2 vs = wipe σ vs ∧ tYes σ2 H2 fun b H3 => if b = true then te σ2 H3 K1 else K0 H3)
    (fin : ∀ B' H', Gr [] B H B' H' → NewL R (ys.map f) H B' H' (.ref D) → Qd H') :
    ∃ W : Nat → Nat → Hp → Prop, (∃ m, W 0 m (upd H D (.lst []))) ∧ ∀ i m H, W i m H →
      (J.stop i H ∧ Qd H) ∨ (J.go i H ∧ ∃ Nx : Hp → Prop, (∀ H', Nx H' → ∃ m', m' < m ∧ W (i + 1) m' H') ∧ ∀ x H', J.yld i H x H' → g x (wipe σ vs) H' fun σ2 H2 => wipe σ2 vs = wipe σ vs ∧ tYes σ2 H2 fun b H3 =>
        if b = true then te σ2 H3 fun y H4 => ∃ acc, H4 D = some (.lst acc) ∧ acc.length < sizeLine ∧ Nx (upd H4 D (.lst (acc ++ [y]))) else Nx H3) := by
  refine ⟨fun i m H1 => m = ys.length - i ∧ i ≤ ys.length ∧ ∃ B1 zs, Gr [] B H B1 H1 ∧ B1 D = none ∧ H1 D = some (.lst zs) ∧ All2 (R.rel B1) ((ys.take i).map f) zs, ⟨ys.length, by simp, Nat.zero_le _, B, [], Gr.new_ hB hD, hB.none hD, upd_same, .nil⟩, ?_⟩
  rintro i m H1 ⟨rfl, hi, B1, zs, g1, b1, d1, a1⟩
  obtain ⟨sg, sy, ss⟩ := hs B1 H1 g1.up g1.sub i
  by_cases hlt : i < ys.length
  · refine .inr ⟨sg hlt, fun H' => ∃ B2 zs2, Gr [] B H B2 H' ∧ B2 D = none ∧ H' D = some (.lst zs2) ∧ All2 (R.rel B2) ((ys.take (i + 1)).map f) zs2, fun H' p => ⟨ys.length - (i + 1), by omega, rfl, hlt, p⟩, fun x H' hy => ?_⟩
    have e1 : ys[i]? = some ys[i] := List.getElem?_eq_getElem hlt
    obtain ⟨B2, g2, r2⟩ := sy x H' _ hy e1
    have hym : ys[i] ∈ ys := List.mem_of_getElem? e1
    have et : ys.take (i + 1) = ys.take i ++ [ys[i]] := by rw [List.take_succ, e1]; rfl
    have zl : zs.length ≤ i := by
      rw [← a1.len, List.length_map, List.length_take]
      exact Nat.min_le_left _ _
    refine turn ys[i] x B2 H' _ _ hym r2 (g1.trans g2) (fun z B3 H3 g3 rz => ?_)
    · have gg := g2.trans g3
      have d2 : H3 D = some (.lst zs) := gg.keep D _ (fun z => nomatch z) b1 d1
      have b2 : B3 D = none := gg.new D b1 (by rw [d1]; exact fun z => nomatch z)
      refine ⟨zs, d2, Nat.lt_of_le_of_lt (Nat.le_trans zl (by omega : i ≤ 100000)) (by decide), B3, zs ++ [z], (g1.trans gg).mut (.inl hD) b2, b2, upd_same, ?_⟩
      rw [et, List.map_append]
      exact (All2.mono gg.up a1).snoc rz
  · have e : i = ys.length := by omega
    subst e
    refine .inl ⟨ss (Nat.le_refl _), fin B1 H1 g1 ⟨D, zs, rfl, hD, b1, d1, ?_⟩⟩
    rw [List.take_length] at a1
    exact a1
theorem All2.append {α β : Type} {R : α → β → Prop} : ∀ {xs ys : List α} {us vs : List β}, All2 R xs us → All2 R ys vs → All2 R (xs ++ ys) (us ++ vs)
  | _, _, _, _, .nil, h => h
  | _, _, _, _, .cons a t, h => .cons a (All2.append t h)
theorem ty_lst {K : PySem.W.Frag} {H : Hp} {p : Addr} {xs : List V} (h : H p = some (.lst xs)) : tyV K "list" (.ref p) H := .inl ⟨rfl, xs, SqL.of h⟩
/-- a loop that adds to a list of its own -/
theorem for_app {α β : Type} {J : It} {B H : Hp} {xs : List V} {p : Addr} {ys : List β} {Rs : Rp β} {R : Rp α} (f : β → List α) (Sg : L2.St → Prop) {g : TG} {tb : TS} {D : Ends} {σ : L2.St}
    (hs : Src J B xs) (hB : ExW B H) (hb : B p = none) (hh : H p = some (.lst [])) (hys : All2 (Rs.rel B) ys xs) (hf : (ys.flatMap f).length ≤ 100000) (hsg : Sg σ)
    (hstep : ∀ y x σ1 B1 H1 zs (N : L2.St → Hp → Prop), y ∈ ys → Rs.rel B1 y x → Sg σ1 → Gr [p] B H B1 H1 → B1 p = none → H1 p = some (.lst zs) → zs.length + (f y).length ≤ 100000 →
      (∀ σ2 B2 H2 ws, Sg σ2 → Gr [p] B1 H1 B2 H2 → B2 p = none → H2 p = some (.lst (zs ++ ws)) → All2 (R.rel B2) (f y) ws → N σ2 H2) → g x σ1 H1 fun σ2 H2 => tb { D with nx := N, ct := N, bk := D.nx } σ2 H2)
    (hd : ∀ σ1 B1 H1 zs, Sg σ1 → Gr [p] B H B1 H1 → B1 p = none → H1 p = some (.lst zs) → All2 (R.rel B1) (ys.flatMap f) zs → D.nx σ1 H1) :
    ∃ W : Nat → Nat → L2.St → Hp → Prop, (∃ m, W 0 m σ H) ∧ ∀ i m σ H, W i m σ H →
      (J.stop i H ∧ D.nx σ H) ∨ (J.go i H ∧ ∃ N : L2.St → Hp → Prop, (∀ σ' H', N σ' H' → ∃ m', m' < m ∧ W (i + 1) m' σ' H') ∧ ∀ x H', J.yld i H x H' → g x σ H' fun σ2 H2 => tb { D with nx := N, ct := N, bk := D.nx } σ2 H2) := by
  refine for_go (Rs := Rs) (fun i σ1 B1 H1 => Sg σ1 ∧ Gr [p] B H B1 H1 ∧ B1 p = none ∧ ∃ zs, H1 p = some (.lst zs) ∧ All2 (R.rel B1) ((ys.take i).flatMap f) zs) hs hys ⟨hsg, Gr.refl hB, hb, [], hh, .nil⟩ (fun i σ1 B1 H1 h => ⟨h.2.1.up, h.2.1.sub⟩) (fun i y x σ1 B1 H1 hy hx h => ?_) (fun σ1 B1 H1 h => ?_)
  · obtain ⟨s1, g1, b1, zs, h1, a1⟩ := h
    have et : ys.take (i + 1) = ys.take i ++ [y] := by rw [List.take_succ, hy]; rfl
    have le : zs.length + (f y).length ≤ 100000 := by
      rw [← a1.len]
      refine Nat.le_trans ?_ hf
      have : (ys.take (i + 1)).flatMap f = (ys.take i).flatMap f ++ f y := by rw [et, List.flatMap_append]; simp
      rw [← List.length_append, ← this]
      conv => rhs; rw [← List.take_append_drop (i + 1) ys, List.flatMap_append, List.length_append]
      omega
    refine hstep y x σ1 B1 H1 zs _ (List.mem_of_getElem? hy) hx s1 g1 b1 h1 le (fun σ2 B2 H2 ws s2 g2 b2 h2 a2 => ⟨B2, s2, g1.trans g2, b2, _, h2, ?_⟩)
    rw [et, List.flatMap_append, show [y].flatMap f = f y by simp]
    exact All2.append (All2.mono g2.up a1) a2
  · obtain ⟨s1, g1, b1, zs, h1, a1⟩ := h
    rw [List.take_length] at a1
    exact hd σ1 B1 H1 zs s1 g1 b1 h1 a1

/-- a new key -/
theorem DAll.new {α : Type} {R : Rp α} {B : Hp} {l : List (Str × α)} {kvs : List (Key × V)} {y : Str} {x : α} {v : V} (h : DAll R B l kvs) (hy : ¬ y ∈ l.map (·.1)) (hv : R.rel B x v) : DAll R B (l ++ [(y, x)]) (putK kvs (Sum.inr y) v) := by
  have nk : valV kvs (Sum.inr y) = none := by
    refine (DAll.look y h).2 ?_
    rw [List.lookup_eq_none_iff]
    intro p hp
    have : y ≠ p.1 := fun z => hy (by rw [z]; exact List.mem_map.mpr ⟨p, hp, rfl⟩)
    simpa using this
  rw [putK_new _ nk]
  exact All2.snoc h ⟨rfl, hv⟩
theorem nd_take {xs : List Str} {i : Nat} {y : Str} (nd : xs.Nodup) (h : xs[i]? = some y) : ¬ y ∈ xs.take i := fun z => by
  obtain ⟨j, hj, ej⟩ := List.getElem_of_mem z
  have hj' : j < i := by rw [List.length_take] at hj; omega
  have q1 : xs[j]? = some y := by
    rw [List.getElem_take] at ej
    rw [List.length_take] at hj
    rw [List.getElem?_eq_getElem (by omega), ej]
  have := nd_ix nd q1 h
  omega
theorem take_snoc {α : Type} {xs : List α} {i : Nat} {y : α} (h : xs[i]? = some y) : xs.take (i + 1) = xs.take i ++ [y] := by rw [List.take_succ, h]; rfl
/-! ### names in lists -/
theorem inV_strs {x : Str} : ∀ {L : List Str}, inV (.str x) (L.map V.str) = decide (x ∈ L)
  | [] => rfl
  | y :: r => by
    have h : inV (.str x) ((y :: r).map V.str) = (eqV (.str y) (.str x) || inV (.str x) (r.map V.str)) := rfl
    rw [h, inV_strs (L := r)]
    by_cases e : x = y
    · subst e
      simp [eqV]
    · have : ¬ y = x := fun z => e z.symm
      simp [eqV, e, this]
theorem flat_strs : ∀ L : List Str, (L.map V.str).all flatV = true
  | [] => rfl
  | _ :: r => flat_strs r
section
variable {K : PySem.W.Frag} {B H : Hp} {L : List Str} {x : Str} {v : V} {Q : VK}
theorem inL_go (hB : ExW B H) (hL : (rL rStr).rel B L v) (q : Q (.bl (decide (x ∈ L))) H) : rIn K false (.str x) v H Q := by
  obtain ⟨p, vs, rfl, hp, hvs⟩ := hL
  rw [strs_eq hvs] at hp
  refine ⟨p, _, rfl, .inl (SqL.of (hB.lst hp)), rfl, flat_strs L, ?_⟩
  rw [inV_strs]; exact q
theorem ninL_go (hB : ExW B H) (hL : (rL rStr).rel B L v) (q : Q (.bl (!decide (x ∈ L))) H) : rIn K true (.str x) v H Q := by
  obtain ⟨p, vs, rfl, hp, hvs⟩ := hL
  rw [strs_eq hvs] at hp
  refine ⟨p, _, rfl, .inl (SqL.of (hB.lst hp)), rfl, flat_strs L, ?_⟩
  rw [inV_strs]; exact q
theorem inT_go (hB : ExW B H) (hL : (rTU rStr).rel B L v) (q : Q (.bl (decide (x ∈ L))) H) : rIn K false (.str x) v H Q := by
  obtain ⟨p, vs, rfl, hp, hvs⟩ := hL
  rw [strs_eq hvs] at hp
  refine ⟨p, _, rfl, .inr (SqT.of (hB.tup hp)), rfl, flat_strs L, ?_⟩
  rw [inV_strs]; exact q
theorem ninT_go (hB : ExW B H) (hL : (rTU rStr).rel B L v) (q : Q (.bl (!decide (x ∈ L))) H) : rIn K true (.str x) v H Q := by
  obtain ⟨p, vs, rfl, hp, hvs⟩ := hL
  rw [strs_eq hvs] at hp
  refine ⟨p, _, rfl, .inr (SqT.of (hB.tup hp)), rfl, flat_strs L, ?_⟩
  rw [inV_strs]; exact q
end
end OB

/-! ## OB5 -/
set_option maxHeartbeats 4000000
namespace OB
open PySem PySem.Spec PyProof.Rows L2
theorem dec_intD {i j : Int} : decide (V.int i = V.int j) = decide (i = j) := by
  rw [Bool.eq_iff_iff]; simp
theorem dec_strD {i j : Str} : decide (V.str i = V.str j) = decide (i = j) := by
  rw [Bool.eq_iff_iff]; simp
theorem nodup_len {α : Type} [DecidableEq α] : ∀ {xs ys : List α}, xs.Nodup → (∀ x ∈ xs, x ∈ ys) → xs.length ≤ ys.length
  | [], _, _, _ => Nat.zero_le _
  | x :: r, ys, nd, h => by
    obtain ⟨n1, n2⟩ := List.nodup_cons.mp nd
    have hx := h x List.mem_cons_self
    have := nodup_len (xs := r) (ys := ys.erase x) n2 (fun y hy => by
      have : y ≠ x := fun z => n1 (z ▸ hy)
      exact (List.mem_erase_of_ne this).mpr (h y (List.mem_cons_of_mem _ hy)))
    rw [List.length_erase_of_mem hx] at this
    have : 0 < ys.length := List.length_pos_of_mem hx
    rw [List.length_cons]
    omega
/-- a list that its maker still owns -/
def Own {α : Type} (R : Rp α) (B H : Hp) (p : Addr) (xs : List α) : Prop := B p = none ∧ ∃ zs, H p = some (.lst zs) ∧ All2 (R.rel B) xs zs
theorem Own.keep {α : Type} {R : Rp α} {S : List Addr} {B H B' H' : Hp} {p : Addr} {xs : List α} (o : Own R B H p xs) (g : Gr S B H B' H') (h : p ∉ S) : Own R B' H' p xs := by
  obtain ⟨b, zs, h1, h2⟩ := o
  exact ⟨g.new p b (by rw [h1]; exact fun z => nomatch z), zs, g.keep p _ h b h1, All2.mono g.up h2⟩
theorem Own.aside {α : Type} {R : Rp α} {B H : Hp} {p t : Addr} {o : HO} {xs : List α} (h : Own R B H p xs) (ne : p ≠ t) : Own R B (upd H t o) p xs := by
  obtain ⟨b, zs, h1, h2⟩ := h
  exact ⟨b, zs, by rw [upd_ne ne]; exact h1, h2⟩
theorem Own.ne {α : Type} {R : Rp α} {B H : Hp} {p t : Addr} {xs : List α} (h : Own R B H p xs) (ht : H t = none) : p ≠ t := by
  obtain ⟨b, zs, h1, h2⟩ := h
  exact ne_of_none h1 ht
theorem Own.mk0 {α : Type} {R : Rp α} {B H : Hp} {p : Addr} (h : B p = none) : Own R B (upd H p (.lst [])) p [] := ⟨h, [], upd_same, .nil⟩
theorem Own.app {α : Type} {R : Rp α} {B H : Hp} {p : Addr} {xs : List α} {x : α} {v : V} (o : Own R B H p xs) (hv : R.rel B x v) (len : xs.length ≤ 100000) : ∃ zs, H p = some (.lst zs) ∧ zs.length < sizeLine ∧ Own R B (upd H p (.lst (zs ++ [v]))) p (xs ++ [x]) := by
  obtain ⟨b, zs, h1, h2⟩ := o
  exact ⟨zs, h1, Nat.lt_of_le_of_lt (by rw [← h2.len]; exact len) (by decide), b, _, upd_same, h2.snoc hv⟩
theorem Own.ty {α : Type} {R : Rp α} {B H : Hp} {p : Addr} {xs : List α} {K : PySem.W.Frag} (o : Own R B H p xs) : tyV K "list" (.ref p) H := by
  obtain ⟨b, zs, h1, h2⟩ := o
  exact ty_lst h1
theorem flat1 {α β : Type} {f : α → List β} (h : ∀ x, (f x).length ≤ 1) : ∀ xs : List α, (xs.flatMap f).length ≤ xs.length
  | [] => Nat.le_refl _
  | x :: r => by
    have := flat1 h r
    have := h x
    rw [List.flatMap_cons, List.length_append, List.length_cons]
    omega
theorem flat_take {α β : Type} {f : α → List β} {xs : List α} {i : Nat} {y : α} (h : xs[i]? = some y) : (xs.take (i + 1)).flatMap f = (xs.take i).flatMap f ++ f y := by
  rw [take_snoc h, List.flatMap_append]; simp
section
open PySem.AutoSeq1
theorem extend_tuple (l : Addr) (items : Array Value) (n : Nat) (b : Addr) (items2 : Array Value) (n2 : Nat) (dd2 : Option Addr) (sl2 : Array (Option Value)) (hs0 : ¬(!items.isEmpty && Builtin.List.listTooLong (items.size + items2.size)) = true) (hs1 : items.size ≤ sizeLine) (hs2 : items.size + items2.size ≤ sizeLine + 1 := by seq_fits) :
    Meets (Builtin.«list.extend» ⟨[.ref l, .ref b], []⟩) (fun _ R s => s.heap.get? l = some { cls := .type "list", dict := none, data := .seq items n, slots := #[] } ∧ s.heap.get? b = some { cls := .type "tuple", dict := dd2, data := .seq items2 n2, slots := sl2 } ∧ R (.ok (.ret Value.none)) { s with heap := s.heap.update l (Obj.mapSeq fun x => x ++ items2), toks := s.toks }) :=
  .of_wp fun prog w A R s h => by
    obtain ⟨hp, g, d, tk, os⟩ := s; obtain ⟨hl, hb, h⟩ := h; have f1 := AutoSeq1.idx_int; have f2 := AutoSeq1.sub_tuple_tuple; have f3 := AutoSeq1.sub_list_list; have f4 := AutoSeq1.sub_tuple_list; have f5 := AutoSeq1.sub_list_tuple;
    have hz' : (items ++ items2).size ≤ sizeLine + 1 := by rw [Array.size_append]; exact hs2
    wp_walk using (wpAny_updateSeq hl rfl (hz := hs1) (_hz' := hz')), AutoSeq1.wpAny_loadPart' hl, AutoSeq1.wpAny_loadPart' hb; exact ⟨_, rfl, h⟩
end
/-- set(t), t a tuple of ints -/
def rSetI (K : PySem.W.Frag) (w : World) : List V → Hp → VK → Prop := fun xs H Q => ∃ (l : Addr) (ns : List Int), xs = [V.ref l] ∧ SqT K H l (ns.map V.int) ∧ ns.length ≤ 1000 ∧ ∀ p c, H p = none → c ≤ ns.length → Q (.ref p) (upd H p (SetO w p (fun j => decide (j ∈ ns)) c))
theorem cr_setI {X : Cx} (hc : X.calm = true) : CallR X (.type "set") (rSetI X.K X.w) := by
  intro pins s σ H xs us Q I r h
  obtain ⟨l, ns, rfl, hq, hl, q⟩ := h
  rw [Vals.ref1 r]
  obtain ⟨its, rv, pt, hz⟩ := I.tuple hq
  refine call_set_tupI ns (I.ok.hd hc) (show s.heap.IsTuple l its.toArray from pt) (ints_of_vals rv) (by unfold scanBound; omega) fun h' tk c R1 hcn k => ?_
  exact ⟨.ref _, upd H s.heap.objs.size (SetO X.w s.heap.objs.size (fun j => decide (j ∈ ns)) c), I.laid (t' := tk) k (Nat.le_refl _) (setO_new R1), rfl, q _ c (I.hok.fresh (Nat.le_refl _)) hcn⟩
def rExtendT (K : PySem.W.Frag) : V → List V → Hp → VK → Prop := fun x vs H Q => ∃ l b xs zs, x = .ref l ∧ vs = [.ref b] ∧ H l = some (.lst xs) ∧ SqT K H b zs ∧ xs.length + zs.length ≤ sizeLine ∧ Q .non (upd H l (.lst (xs ++ zs)))
theorem mt_extendT {X : Cx} : MtM X "list.extend" (rExtendT X.K) := by
  intro pins s σ H x vs v us Q I rx rv h
  obtain ⟨l, b, xs, zs, rfl, rfl, hH, hB, hz, q⟩ := h
  cases rx
  obtain ⟨u, rfl, ru⟩ := rv.one
  cases ru
  obtain ⟨z, its, n, r, hl, e⟩ := I.lstM hH
  obtain ⟨its2, r2, ⟨o, e2, hc, n2, hd⟩, z2⟩ := I.tuple hB
  have hl2 := r2.length
  have hsz : its.toArray.size + its2.toArray.size ≤ sizeLine := by rw [List.size_toArray, List.size_toArray]; omega
  have hlong : ¬ (!its.toArray.isEmpty && Builtin.List.listTooLong (its.toArray.size + its2.toArray.size)) = true := by
    rw [notLongL hsz, Bool.and_false]
    exact Bool.false_ne_true
  obtain ⟨oc, od, odt, os⟩ := o
  cases hc
  cases hd
  refine call_meets F.slot_list_extend ⟨_, e, rfl⟩ F.entry_list_extend (F.args_list_extend_2 _ _)
    (extend_tuple l its.toArray n b its2.toArray n2 _ _ hlong (by rw [List.size_toArray]; omega) (by omega)) ⟨e, e2, ?_⟩
  refine ⟨.non, _, I.lset (its' := its ++ its2) hH e (by simp) (r.append r2) ?_, rfl, q⟩
  rw [List.length_append]
  omega
end OB

/-! ## OB6 -/
set_option maxHeartbeats 4000000
namespace OB
open PySem PySem.Spec PyProof.Rows L2
/-! ### defs that may raise -/
section
variable {P : Program} {w : World} {K : PySem.W.Frag} {mg : Str → Option Value} {base : Heap} {x : Str} {st : Stmt} {N ps : List Str} {k : Nat} {sp : Sp} {dvs : List V}
theorem fn_okX (D : DefAt K mg x st []) (S : FnScope N ps (defScope st)) (hps : ps.Nodup)
    (hb : ∀ (kV doc pm : Value) (an : Option Addr) (cdv ct : Value) (us : List Value), us.length = ps.length → bindArgs (PySem.W.fnOf x x (defArgs st) (defBody st) (defScope st) .none kV doc pm an cdv ct) ⟨us, []⟩ = pure (ps.zip us))
    (len : ∀ vs H Q E, sp vs H Q E → vs.length = ps.length)
    (hbody : ∀ (f : Addr) (cdv : Value) (A : Around) (outer : List Env) (s : Shared) (H : Hp) (vs : List V) (Q : VK) (E : XK), Room k (A.deeper (envOfC x (defScope st) s.heap.objs.size f cdv)) → sp vs H Q E →
      ∃ t, PSs (cxOf (L2.CX P w) P w K mg base N x (defScope st) f cdv A outer s H E) (defBody st) t ∧ t { nx := fun _ H' => Q .non H', rt := Q } (start N vs) H) : Fn P w K mg base (L2.CX P w) (k + 1) x ps [] sp := by
  obtain ⟨f, fd, F, hm⟩ := D
  exact ⟨f, fd, [], F.ok S len fun cdv A outer s H vs Q E hr h => hbody f cdv A outer s H vs Q E hr h, hm, F.kp, F.bindsN hb, .nil⟩
theorem fn_okXD (D : DefAt K mg x st dvs) (S : FnScope N ps (defScope st)) (hps : ps.Nodup) (n j : Nat) (hd : dvs ≠ []) (hn : n + (dvs.length - j) = ps.length)
    (hb : ∀ (T : Addr) (kV doc pm : Value) (an : Option Addr) (cdv ct : Value) (us its : List Value), us.length = n → its.length = dvs.length →
      ∃ k, bindArgs (PySem.W.fnOf x x (defArgs st) (defBody st) (defScope st) (.ref T) kV doc pm an cdv ct) ⟨us, []⟩ = seqItems? (.ref T) >>= k ∧ k (some its.toArray) = pure (ps.zip (us ++ its.drop j)))
    (len : ∀ vs H Q E, sp vs H Q E → vs.length = ps.length)
    (hbody : ∀ (f : Addr) (cdv : Value) (A : Around) (outer : List Env) (s : Shared) (H : Hp) (vs : List V) (Q : VK) (E : XK), Room k (A.deeper (envOfC x (defScope st) s.heap.objs.size f cdv)) → sp vs H Q E →
      ∃ t, PSs (cxOf (L2.CX P w) P w K mg base N x (defScope st) f cdv A outer s H E) (defBody st) t ∧ t { nx := fun _ H' => Q .non H', rt := Q } (start N vs) H) : Fn P w K mg base (L2.CX P w) (k + 1) x ps (dvs.drop j) sp := by
  obtain ⟨f, fd, F, hm⟩ := D
  obtain ⟨ds, h1, h2⟩ := F.binds1 n j hd hn hb
  exact ⟨f, fd, ds, F.ok S len fun cdv A outer s H vs Q E hr h => hbody f cdv A outer s H vs Q E hr h, hm, F.kp, h2, h1⟩
/-- an exception's own __init__ -/
def FnE (P : Program) (w : World) (K : PySem.W.Frag) (mg : Str → Option Value) (base : Heap) (k : Nat) (C : Str) (ps : List Str) (sp : Sp) : Prop :=
  ∃ f fd, FnOk P w K mg base CX0 k f fd ps sp ∧ PySem.W.findIn K (.ref (He.ga K C)) "__init__" = some (some (.ref f)) ∧ PySem.W.typeIn K (.ref f) = some (.type "function") ∧ Binds K fd ps []
def FnEAt (K : PySem.W.Frag) (C q : Str) (st : Stmt) : Prop := ∃ f fd, FunD K "__init__" q (defArgs st) (defBody st) (defScope st) [] [] f fd ∧ PySem.W.findIn K (.ref (He.ga K C)) "__init__" = some (some (.ref f)) ∧ PySem.W.typeIn K (.ref f) = some (.type "function")
end
/-- Ungranted(paper) is made -/
def spUng (K : PySem.W.Frag) : Sp := sp2 fun a b H Q => ∃ x, a = .ref x ∧ H x = some (exo x (He.ga K "Ungranted") none) ∧ ∀ dx, H dx = none → dx ≠ x → Q .non (upd (upd H dx (exd dx [("paper", b)])) x (exo x (He.ga K "Ungranted") (some dx)))
section
variable {X : Cx} {k j : Nat} {x C m : Str} {ps : List Str} {dvs : List V} {sp : Sp} {CX : CXT} {E : L2.St → XK} {e : Expr} {es : List Expr} {t : TA} {p pos : Pos}
/-- f(e, ..) where f may raise: what it lets out is ours to let out -/
theorem pe_fnS {W : WX} (F : Fn X.prog X.w X.K X.mg X.base (L2.CX X.prog X.w) k x ps [] sp) (hr : Room j X.A) (hg : Gl X x) (tk : Takes X W) (ha : PA X (e :: es) t) (hk : k ≤ j := by decide) (hd : (x == ("__debug__" : Str)) = false := by decide)
    (he : starEach (e :: es) X.env = (false, eval e X.env) :: starEach es X.env := by rfl) (hpl : (backTo pos (starEach es X.env)).any (·.1) = false := by rfl) : PE X (.Call (.Name x p) (e :: es) [] pos) (tCallS sp (WE W) t) := by
  obtain ⟨f, fd, ds, F⟩ := F
  have hb := F.b
  have : ds = [] := by cases F.d; rfl
  subst this
  exact pe_callS F.ok (hr.mono hk) hg F.mg F.kp hb (fun σ => passAt tk σ) ha hd he hpl
/-- Ungranted(e) -/
theorem pmk_U (T : OexC X.K (He.ga X.K C)) (F : FnE X.prog X.w X.K X.mg X.base k C ps sp) (hr : Room j X.A) (hg : Gl X C) (hm : X.mg C = some (.ref (He.ga X.K C))) (ha : PA X (e :: es) t) (hk : k + 1 ≤ j := by decide)
    (hdb : (C == ("__debug__" : Str)) = false := by decide) (he : starEach (e :: es) X.env = (false, eval e X.env) :: starEach es X.env := by rfl) (hpl : (backTo pos (starEach es X.env)).any (·.1) = false := by rfl) :
    PMk X (.Call (.Name C p) (e :: es) [] pos) (tMkO (He.ga X.K C) sp [] t) := by
  obtain ⟨f, fd, F1, h1, h2, hb⟩ := F
  exact pmk_oex T h1 h2 F1 (hr.mono hk) hb .nil pass0 hg hm ha hdb he hpl
/-- x == y, by the own class's __eq__ -/
theorem op_eqOwn {R : Addr → Addr → Hp → Prop} (F : FnM X.prog X.w X.K X.mg X.base k C "__eq__" ps [] (spEq R)) (hr : Room j X.A) (hk : k ≤ j := by decide) : OpR X (compareOp .Eq) (rEqG (DIns (He.ga X.K C) R)) := by
  obtain ⟨f, fd, ds, F, hm, hb, hd⟩ := F
  have : ds = [] := by cases hd; rfl
  subst this
  exact op_eqG (rcG_ins F hm.at_ hm.fn hb (E := E0) pass0) (hr.mono hk)
end
theorem kg_tup {X : Cx} (K : PySem.W.Frag) {es : List Expr} {k : Nat} {t : TGs} {pos : Pos} (n : Nat) (hc : X.calm = true) (h : PGs X es t)
    (hn : (assignEach es X.env).length = n := by rfl) (hst : (assignEach es X.env).findIdx? (·.1) = none := by rfl) (hK : X.K = K := by rfl) : PG X (.Tuple es k pos) (gTup K n t) := hK ▸ pg_tup hc h hn hst
/-- two tuples walked side by side -/
theorem src_zip {α : Type} {K : PySem.W.Frag} {B : Hp} {a b : Addr} {ys : List α} {f g : α → V} (ha : B a = some (.tup (ys.map f))) (hb : B b = some (.tup (ys.map g))) : SrcG (RZ.ItzT K a b) B ys (rFix fun x => [f x, g x]) := fun B1 H e1 e2 i => by
  have ta : SqT K H a (ys.map f) := SqT.of (e2.tup (e1.tup ha))
  have tb : SqT K H b (ys.map g) := SqT.of (e2.tup (e1.tup hb))
  refine ⟨fun hi => ⟨_, _, f ys[i], g ys[i], ta, tb, by simp [hi], by simp [hi]⟩, fun x H' y hy ey => ?_, fun hi => ⟨_, _, ta, tb, .inl (by simpa using hi)⟩⟩
  obtain ⟨T, u, v, rfl, hT, rfl, h1, h2⟩ := hy
  have q1 := h1 _ ta
  have q2 := h2 _ tb
  rw [List.getElem?_map, ey] at q1 q2
  cases q1
  cases q2
  exact ⟨_, Gr.newP e2 hT, T, rfl, upd_same⟩
/-- what an exception's making leaves -/
theorem made_same {H : Hp} {a d : Addr} {C : Addr} {fs gs : List (Str × V)} {o : HO} (ha : H a = none) (ne : d ≠ a) : upd (del (upd (upd (upd H a o) d (exd d gs)) a (exo a C (some d))) a) d (.xd fs) = upd H d (.xd fs) := by
  funext b
  by_cases hb : b = d
  · subst hb; rw [upd_same, upd_same]
  · rw [upd_ne hb, upd_ne hb]
    by_cases h : b = a
    · subst h; rw [del_same, ha]
    · rw [del_ne h, upd_ne h, upd_ne hb, upd_ne h]
end OB

/-! ## OB7 -/
set_option maxHeartbeats 4000000
namespace OB
open PySem PySem.Spec PyProof.Rows L2
/-! ### a lambda is made: the code object's table at P may change, nothing else -/
structure LamTo (P : Addr) (q : Str) (H H' : Hp) : Prop where
  tab : LamX.TabS H' P q
  keep : ∀ a, a ≠ P → H a ≠ none → H' a = H a
theorem LamTo.gr {P : Addr} {q : Str} {B H H' : Hp} (l : LamTo P q H H') (hB : ExW B H) (hP : B P = none) : Gr [P] B H B H' :=
  ⟨fun a o hs _ e => by rw [l.keep a (fun z => hs (by simp [z])) (by rw [e]; exact fun z => nomatch z)]; exact e, ExW.refl B, fun a o e => by
    have ne : a ≠ P := fun z => by rw [z, hP] at e; cases e
    rcases hB a o e with h | ⟨kvs, e1, od, h⟩
    · exact .inl (by rw [l.keep a ne (by rw [h]; exact fun z => nomatch z)]; exact h)
    · exact .inr ⟨kvs, e1, od, by rw [l.keep a ne (by rw [h]; exact fun z => nomatch z)]; exact h⟩,
  fun _ e _ => e, fun a e => by
    by_cases z : a = P
    · obtain ⟨ps, h, _⟩ := l.tab
      rw [z, h]; exact fun z => nomatch z
    · rw [l.keep a z e]; exact e⟩
section
variable {X : Cx} {pins : List (Addr × Obj)} {σ : L2.St} {H : Hp} {s : Shared}
theorem lam_go {c P : Addr} {params : Arguments} {body : Expr} {scope : Scope} {pos : Pos} {E : Value → Shared → Prop} {Q : Value → Shared → Prop} (I : Inv X pins σ H s) (TB : LamX.TabB X.base X.mg c P) (hcode : X.env.code = .ref c)
    (hT : LamX.TabS H P (X.env.qual ++ "<lambda>")) (hdef : defaultsOf params X.env = ([], [])) (hfree : ∀ y ∈ scope.names, y.2 = .free → ∃ c, X.env.cells.lookup y.1 = some c)
    (h : ∀ (f c' : Addr) (pm ctv : Value) (H1 : Hp) (s' : Shared), Inv X pins σ H1 s' → LamTo P (X.env.qual ++ "<lambda>") H H1 →
      s'.heap.get? f = some (PySem.W.kla_obj "<lambda>" (X.env.qual ++ "<lambda>") params body scope (cloFrom X.env.cells scope.names []) pm c' ctv) → s'.heap.CodeRec (.ref c') (X.env.qual ++ "<lambda>") → Q (.ref f) s') :
    wpAny (model X.prog X.w) X.A (eval (.Lambda params body scope pos) X.env) Q E s := by
  obtain ⟨ps, hP, ht, ha⟩ := id hT
  refine PySem.W.kla_eval hdef ?_
  have bP : s.heap.BuiltinsAt X.mg P := TB.bm.keeps I.bk
  have hP' : s.heap.get? P = some { cls := .none, data := .fields ps } := I.hok P _ hP
  cases hc : codeAmong pos ps.toList with
  | some cv =>
    obtain ⟨c', rfl, hco⟩ := ha pos cv hc
    obtain ⟨⟨oc, vs, t, e1, e2, e3⟩, _⟩ := I.hok c' _ hco
    refine PySem.W.kla_makeFunctionHit (mg := X.mg) (c := c) (P := P) (ps := ps) (closure_ok hfree) I.ok.glob (I.mod.glob.keeps I.bk) hcode (TB.code.keeps I.bk) hP' ht hc bP fun ctv h' tk hx hsz => ?_
    have I1 : Inv X pins σ H { s with heap := h'.push (PySem.W.kla_obj "<lambda>" (X.env.qual ++ "<lambda>") params body scope (cloFrom X.env.cells scope.names []) ((X.mg "__name__").getD .none) c' ctv), toks := tk } := I.kept fun b o e => Heap.get?_push_of_some _ (hx b o e)
    exact h h'.objs.size c' _ ctv H _ I1 ⟨hT, fun _ _ _ => rfl⟩ (Heap.get?_push_size _ rfl) ⟨c', oc, vs, t, rfl, Heap.get?_push_of_some _ (hx _ _ e1), e2, e3⟩
  | none =>
    refine PySem.W.kla_makeFunction (mg := X.mg) (c := c) (P := P) (ps := ps) (closure_ok hfree) I.ok.glob (I.mod.glob.keeps I.bk) hcode (TB.code.keeps I.bk) hP' ht hc TB.gP bP fun c' ctv h' tk hx hge hlt hrec htb => ?_
    obtain ⟨c2, oc, vs, t, e2, hoc, hd, hv⟩ := id hrec
    cases e2
    have nC : H c' = none := I.hok.fresh hge
    have I1 := LamX.inv_table (t' := tk) (q := X.env.qual ++ "<lambda>") (more := #[rawInt pos.line, rawInt pos.col, .ref c']) (h' := h'.push (PySem.W.kla_obj "<lambda>" (X.env.qual ++ "<lambda>") params body scope (cloFrom X.env.cells scope.names []) ((X.mg "__name__").getD .none) c' ctv)) I hP
      (fun b o hb e => Heap.get?_push_of_some _ (hx b o hb e)) (Heap.get?_push_of_some _ htb) hge ⟨oc, vs, t, Heap.get?_push_of_some _ hoc, hd, hv⟩
    have eL : (ps ++ #[rawInt pos.line, rawInt pos.col, .ref c']).toList = ps.toList ++ [rawInt pos.line, rawInt pos.col, .ref c'] := by simp
    refine h h'.objs.size c' _ ctv _ _ I1 ⟨⟨_, by rw [upd_ne (ne_of_none hP nC), upd_same], by rw [eL]; exact PySem.TriplesOk_snoc _ _ _ _ ht, fun p' cv hcv => ?_⟩, fun a h1 h2 => ?_⟩ (Heap.get?_push_size _ rfl) ⟨c', oc, vs, t, rfl, Heap.get?_push_of_some _ hoc, hd, hv⟩
    · rw [eL] at hcv
      rcases LamX.among_app _ ht hcv with z | z
      · obtain ⟨c0, r1, r2⟩ := ha p' cv z
        refine ⟨c0, r1, ?_⟩
        rw [upd_ne (ne_of_none r2 nC), upd_ne (fun z => LamX.codeO_ne ps (Option.some.inj (r2.symm.trans (by rw [z]; exact hP))))]
        exact r2
      · exact ⟨c', z, upd_same⟩
    · have n1 : a ≠ c' := fun z => h2 (by rw [z]; exact nC)
      rw [upd_ne n1, upd_ne h1]
end
/-- the lambda row: row[0], called -/
theorem fst_call {prog : Program} {w : World} {A : Around} {s : Shared} {f c' t : Addr} {q : Str} {params : Arguments} {scope : Scope} {cl : List (Str × Addr)} {pm ctv : Value} {p1 p2 p3 : Pos} {j : Nat} {items : Array Value} {z : Str} {tk : Tok}
    (ho : s.heap.get? f = some (PySem.W.kla_obj "<lambda>" q params (.Subscript (.Name "row" p1) (.Constant (.int 0) j p2) p3) scope cl pm c' ctv)) (hrec : s.heap.CodeRec (.ref c') q) (hlim : s.heap.NoLimit) (hroom : A.depth < recursionLimit)
    (hb : ∀ u, bindArgs (PySem.W.kla_fn "<lambda>" q params (.Subscript (.Name "row" p1) (.Constant (.int 0) j p2) p3) scope cl pm (.ref c') ctv) ⟨[u], []⟩ = pure [(("row" : Str), u)])
    (hco : scope.isCoroutine = false) (hgen : scope.isGenerator = false) (hk : scope.kind = .function) (hcell : ∀ x ∈ scope.names, x.2 ≠ .cell) (hl : List.lookup ("row" : Str) scope.names = some .local)
    (ht : IsTup s.heap t items) (hz : items.size < 1000) (hi : items[0]? = some (.str z tk)) :
    wpAny (model prog w) A (call (.ref f) [.ref t]) (PySem.W.KeyPure (.str z) s) (fun _ _ => False) s := by
  refine wpAny_call (PySem.W.kla_callFunE hroom ho rfl hco hgen rfl hrec ?_)
  rw [hb]
  refine wpAny_pure (wpAny_newFunctionEnv hcell (fun x hx => ?_) (fun h₁ hns hsb => ⟨hlim.fresh _ hsb, ?_⟩) hk)
  · obtain rfl : x = (("row" : Str), Value.ref t) := by simpa using hx
    exact hl
  have k1 : ∀ b o, s.heap.get? b = some o → h₁.get? b = some o := fun b o e => hsb.extBut b o (Nat.ne_of_lt (Heap.lt_size e)) (Heap.get?_push_of_some _ e)
  refine PySem.W.kla_codeExpr (Subscript_ (wpAny_Name (wpAny_loadName_local (v := Value.ref t) hk hl hns ?_ ?_) (by decide)))
  · simp [List.lookup]
  refine wpAny_Constant_int ?_
  have pt : IsTup h₁ t items := by
    obtain ⟨o, e, r⟩ := ht
    exact ⟨o, k1 _ _ e, r⟩
  have l63 := line63
  refine subscriptTail_builtinR (x := .str z tk) (slice := .Constant (.int 0) j p2) pt.typeIs slot_tuple_getitem.lookup (getItem_tuple (j := 0) (Q := fun r s' => r = Value.str z tk ∧ _) pt (by omega) (by omega) ?_ hi ⟨rfl, ?_⟩)
  · exact seqIndex_of (by omega) (by have := (Array.getElem?_eq_some_iff.mp hi).1; simpa using this)
  · exact ⟨_, _, rfl, k1, .str z tk⟩
/-- sorted(e, key=lambda row: row[0]): rows whose first is a name -/
def tSortFst (K : PySem.W.Frag) (P : Addr) (q : Str) (t : TA) : TE := fun σ H Q => t σ H fun vs H1 => ∃ (a : Addr) (xs : List V) (nm : V → Str), vs = [.ref a] ∧ SqL K H1 a xs ∧ (∀ y ∈ xs, ∃ t r, y = .ref t ∧ SqT K H1 t (.str (nm y) :: r) ∧ r.length < 900) ∧ LamX.TabS H1 P q ∧
  ∀ H2 p ys, LamTo P q H1 H2 → ys.Perm xs → ys.Pairwise (fun y z => ¬ (nm z).cps.toList < (nm y).cps.toList) → H2 p = none → Q (.ref p) (upd H2 p (.lst ys))
theorem LamTo.at_ {P : Addr} {q : Str} {H H' : Hp} {a : Addr} {o : HO} (l : LamTo P q H H') (hP : LamX.TabS H P q) (h : H a = some o) (ho : ∀ ps, o ≠ .tbl ps) : H' a = some o := by
  obtain ⟨ps, hp, _⟩ := hP
  have ne : a ≠ P := fun z => by rw [z, hp] at h; exact ho ps (Option.some.inj h).symm
  rw [l.keep a ne (by rw [h]; exact fun z => nomatch z)]; exact h
theorem LamTo.sqL {K : PySem.W.Frag} {P : Addr} {q : Str} {H H' : Hp} {a : Addr} {xs : List V} (l : LamTo P q H H') (hP : LamX.TabS H P q) (h : SqL K H a xs) : SqL K H' a xs := by
  rcases h with (h | ⟨o, h⟩) | h
  · exact .inl (.inl (l.at_ hP h (fun _ z => by cases z)))
  · exact .inl (.inr ⟨o, l.at_ hP h (fun _ z => by cases z)⟩)
  · exact .inr h
theorem LamTo.sqT {K : PySem.W.Frag} {P : Addr} {q : Str} {H H' : Hp} {a : Addr} {xs : List V} (l : LamTo P q H H') (hP : LamX.TabS H P q) (h : SqT K H a xs) : SqT K H' a xs := by
  rcases h with (h | ⟨o, h⟩) | h
  · exact .inl (.inl (l.at_ hP h (fun _ z => by cases z)))
  · exact .inl (.inr ⟨o, l.at_ hP h (fun _ z => by cases z)⟩)
  · exact .inr h
theorem strLe {nm : V → Str} {x y : V} : PySem.W.dataLe false (fun x : V => PyData.str (nm x)) x y = true ↔ ¬ (nm y).cps.toList < (nm x).cps.toList := by
  have e : PySem.W.dataLe false (fun x : V => PyData.str (nm x)) x y = !(PySem.W.dataLt (.str (nm y)) (.str (nm x))) := rfl
  rw [e, PySem.W.dataLt_str]
  simp
theorem each_rel : ∀ {xs : List V} {vs : List Value}, Vals xs vs → PySem.W.EachIs (fun (v : Value) (x : V) => RelV x v) vs xs
  | _, _, .nil => .nil
  | _, _, .cons a t => .cons a (each_rel t)
theorem rel_each : ∀ {xs : List V} {vs : List Value}, PySem.W.EachIs (fun (v : Value) (x : V) => RelV x v) vs xs → Vals xs vs
  | _, _, .nil => .nil
  | _, _, .cons a t => .cons a (rel_each t)
theorem pe_sortedFst {X : Cx} {k : Nat} {c P : Addr} {e : Expr} {t : TA} {params : Arguments} {scope : Scope} {p pos lp kp p1 p2 p3 : Pos} {j : Nat} (TB : LamX.TabB X.base X.mg c P) (hcode : X.env.code = .ref c) (hr : Room k X.A) (hg : Gl X "sorted") (hm : X.mg "sorted" = none) (ha : PA X [e] t)
    (hdef : defaultsOf params X.env = ([], []) := by rfl) (hfree : ∀ y ∈ scope.names, y.2 = .free → ∃ c, X.env.cells.lookup y.1 = some c)
    (hb : ∀ (pm cv ctv u : Value) (cl : List (Str × Addr)) (q : Str), bindArgs (PySem.W.kla_fn "<lambda>" q params (.Subscript (.Name "row" p1) (.Constant (.int 0) j p2) p3) scope cl pm cv ctv) ⟨[u], []⟩ = pure [(("row" : Str), u)])
    (hco : scope.isCoroutine = false := by rfl) (hgen : scope.isGenerator = false := by rfl) (hk : scope.kind = .function := by rfl) (hcell : ∀ x ∈ scope.names, x.2 ≠ .cell) (hl : List.lookup ("row" : Str) scope.names = some .local)
    (hst : backTo pos (starEach [e] X.env) = (false, eval e X.env) :: backTo pos (starEach [] X.env) := by rfl) (hpl : (backTo pos (starEach [e] X.env)).any (·.1) = false := by rfl) :
    PE X (.Call (.Name "sorted" p) [e] [⟨some "key", .Lambda params (.Subscript (.Name "row" p1) (.Constant (.int 0) j p2) p3) scope lp, kp⟩] pos) (tSortFst X.K P (X.env.qual ++ "<lambda>") t) := by
  refine ⟨fun pins s σ H Q I h => ?_⟩
  refine wpAny_Call_Name_kw (ld_blt I hg hm bt_sorted ?_ (by decide) (by decide))
  refine PyProof.Rows.callWith_kw (thn (ha.run pos pins s σ H _ I h) fun us s1 ⟨vs, H1, I1, r1, a, xs, nm, ev, hs, hx, hT, q⟩ => ?_) hst hpl rfl rfl
  subst ev
  rw [Vals.ref1 r1]
  show wpAny _ _ (evalAll ((do let v ← eval (.Lambda params (.Subscript (.Name "row" p1) (.Constant (.int 0) j p2) p3) scope lp) X.env; standAt pos; pure v) :: [])) _ _ s1
  refine wpAny_evalAll_cons (wpAny_bind (lam_go I1 TB hcode hT hdef hfree fun f c' pm ctv H2 s2 I2 lt ho hrec => wpAny_bind (wpAny_standAt (wpAny_pure (wpAny_evalAll_nil ?_)))))
  show wpAny _ _ (call (.builtin "sorted") [.ref a] [(Str.ofString "key", .ref f)]) _ _ s2
  have hs2 := lt.sqL hT hs
  obtain ⟨its, rv, pl, hz⟩ := I2.list hs2
  have hlim : ∀ h : Heap, (∀ b o, s2.heap.get? b = some o → h.get? b = some o) → h.NoLimit := fun h k => I2.mod.nolimit.keeps fun b o e => k b o (I2.bk b o e)
  refine PySem.W.sorted_key_data (R := fun (v : Value) (x : V) => RelV x v) (vs := its) (bs := xs) (b := false) (fun x => PyData.str (nm x)) pl.isList (each_rel rv) ?_ (.inr ?_) hz ?_ (PyProof.Rows.ksk_s1 _ _) (fun _ => PyProof.Rows.ksk_l1 _ _) (fun _ => PyProof.Rows.ksk_t1 _ _) ?_ ?_
  · intro d hd d' hd'
    obtain ⟨x, _, rfl⟩ := List.mem_map.mp hd
    obtain ⟨y, _, rfl⟩ := List.mem_map.mp hd'
    rfl
  · intro d hd
    obtain ⟨x, _, rfl⟩ := List.mem_map.mp hd
    exact ⟨(fun z => by cases z), fun _ z => by cases z⟩
  · intro x _
    have := hr.un
    show X.A.units + 2 + 0 < cLine
    omega
  · intro v x hv hxm h tk kp
    obtain ⟨t, r, rfl, ht, hrl⟩ := hx x hxm
    obtain rfl : v = .ref t := hv
    obtain ⟨ti, trv, tp, _⟩ := I2.tuple (lt.sqT hT ht)
    cases trv with
    | cons tr trr =>
      obtain ⟨tk1, rfl⟩ := tr
      obtain ⟨o, e, r'⟩ := tp
      obtain ⟨c2, oc, cvs, ct, e1, e2, e3, e4⟩ := hrec
      have hll := trr.length
      refine fst_call (s := { s2 with heap := h, toks := tk }) (kp _ _ ho) ⟨c2, oc, cvs, ct, e1, kp _ _ e2, e3, e4⟩ (hlim h kp) (by have := hr.dp; show X.A.depth < _; omega) (fun u => hb _ _ _ _ _ _) hco hgen hk hcell hl ⟨o, kp _ _ e, r'⟩ ?_ rfl
      simp
      omega
  · intro out cc h' tk kp hn hg' hol hout
    have rel := rel_each hout
    have hn2 : H2 (s2.heap.objs.size + 1) = none := I2.hok.fresh (Nat.le_succ _)
    have tot : PySem.W.TotalLe (PySem.W.dataLe false fun x : V => PyData.str (nm x)) := PySem.W.sortLe_total _ _ _
    refine ⟨.ref _, upd H2 (s2.heap.objs.size + 1) (.lst (xs.mergeSort (PySem.W.dataLe false fun x : V => PyData.str (nm x)))), I2.laid (t' := tk) kp (Nat.le_succ _) ⟨by rw [List.length_mergeSort]; exact hz, out, cc, rel, hg'⟩, rfl, q H2 _ _ lt (List.mergeSort_perm _ _) ?_ hn2⟩
    exact (PySem.W.sort_pairwise tot xs).imp fun h => strLe.mp h
theorem no_free {sc : Scope} {R : Str × NameKind → Prop} (h : (sc.names.all fun y => y.2 != .free) = true) : ∀ y ∈ sc.names, y.2 = .free → R y := fun y hy e => by
  have := List.all_eq_true.mp h y hy
  rw [e] at this
  cases this
/-- the lambda's name within Web.__init__ -/
def qLam : Str := ("Web.__init__" : Str) ++ ".<locals>." ++ "<lambda>"
/-- Web.__init__, its code's table at Pt -/
def WebAt (K : PySem.W.Frag) (mg : Str → Option Value) (base : Heap) (Pt : Addr) (C m q : Str) (st : Stmt) : Prop :=
  ∃ f fd d0 c, FunD K m q (defArgs st) (defBody st) (defScope st) [d0] [] f fd ∧ Mk K (He.ga K C) f ∧ mg C = some (.ref (He.ga K C)) ∧ fd.code = .ref c ∧ LamX.TabB base mg c Pt
section
variable {P : Program} {w : World} {K : PySem.W.Frag} {mg : Str → Option Value} {base : Heap} {C m q : Str} {st : Stmt} {N ps : List Str} {k : Nat} {sp : Sp} {Pt : Addr}
theorem fnI_okT (D : WebAt K mg base Pt C m q st) (S : FnScope N ps (defScope st)) (hps : ps.Nodup)
    (hb : ∀ (T : Addr) (kV doc pm : Value) (an : Option Addr) (cdv ct : Value) (us its : List Value), us.length = ps.length → its.length = 1 →
      ∃ k, bindArgs (PySem.W.fnOf m q (defArgs st) (defBody st) (defScope st) (.ref T) kV doc pm an cdv ct) ⟨us, []⟩ = seqItems? (.ref T) >>= k ∧ k (some its.toArray) = pure (ps.zip (us ++ its.drop 1)))
    (len : ∀ vs H Q E, sp vs H Q E → vs.length = ps.length)
    (hbody : ∀ (f c : Addr) (A : Around) (outer : List Env) (s : Shared) (H : Hp) (vs : List V) (Q : VK) (E : XK), LamX.TabB base mg c Pt → Room k (A.deeper (envOfC q (defScope st) s.heap.objs.size f (.ref c))) → sp vs H Q E →
      ∃ t, PSs (cxOf CX0 P w K mg base N q (defScope st) f (.ref c) A outer s H E).nox (defBody st) t ∧ t { nx := fun _ H' => Q .non H', rt := Q } (start N vs) H) : FnI P w K mg base (k + 1) C m ps [] sp := by
  obtain ⟨f, fd, d0, c, F, hm, hg, hc, TB⟩ := D
  obtain ⟨ds, h1, h2⟩ := F.binds1 ps.length 1 (by simp) (by simp) (fun T kV doc pm an cdv ct us its h1 h2 => hb T kV doc pm an cdv ct us its h1 (by simpa using h2))
  refine ⟨f, fd, ds, ?_, hm, hg, h2, by simpa using h1⟩
  obtain ⟨oc, od, dV, kV, doc, pm, an, cdv, ct, osl, rfl, lk, hcd, _, _⟩ := F.ex
  have hc : cdv = .ref c := hc
  subst hc
  exact fn_of lk hcd S len fun A outer s H vs Q E hr hsp => by
    obtain ⟨t, q1, q2⟩ := hbody f c A outer s H vs Q E TB hr hsp
    exact ⟨t, q1.nox, q2⟩
end
/-! ### fields, one after the other -/
theorem putF_new {f : Str} {v : V} : ∀ {l : List (Str × V)} {ns : List Str}, l.map (·.1) = ns → ns.contains f = false → putF f v l = l ++ [(f, v)]
  | [], _, _, _ => rfl
  | (g, u) :: r, ns, hn, h => by
    subst hn
    rw [List.map_cons, List.contains_cons, Bool.or_eq_false_iff] at h
    have ne : ¬ g = f := fun z => by
      have := h.1
      subst z
      simp at this
    show (if g = f then _ else (g, u) :: putF f v r) = _
    rw [if_neg ne, putF_new rfl h.2]
    rfl
theorem look_at {f : Str} {v : V} : ∀ {l : List (Str × V)} {i : Nat}, (l.map (·.1)).Nodup → l[i]? = some (f, v) → l.lookup f = some v
  | [], i, _, h => by simp at h
  | (g, u) :: r, 0, _, h => by
    simp at h
    obtain ⟨rfl, rfl⟩ := h
    simp [List.lookup]
  | (g, u) :: r, i + 1, hd, h => by
    obtain ⟨h1, h2⟩ := List.nodup_cons.mp hd
    have h' : r[i]? = some (f, v) := by simpa using h
    have ne : (f == g) = false := by
      have : f ≠ g := fun z => h1 (by rw [← z]; exact List.mem_map.mpr ⟨_, List.mem_of_getElem? h', rfl⟩)
      simpa using this
    rw [List.lookup_cons, ne]
    exact look_at h2 h'
/-! ### tables stay -/
theorem Gr.stay {S : List Addr} {B H B' H' : Hp} {a : Addr} {o : HO} (g : Gr S B H B' H') (hB : ExW B H) (hs : a ∉ S) (h : H a = some o) (h1 : ∀ kvs, o ≠ .dK kvs) (h2 : ∀ od u, o ≠ .frz od u) : H' a = some o := by
  cases e : B a with
  | none => exact g.keep a o hs e h
  | some u =>
    have hu : u = o := by
      rcases hB a u e with q | ⟨kvs, _, od, q⟩
      · rw [h] at q; exact (Option.some.inj q).symm
      · rw [h] at q; exact absurd (Option.some.inj q) (h2 _ _)
    subst hu
    have hb : B' a = some u := by
      rcases g.up a u e with q | ⟨kvs, q, _⟩
      · exact q
      · exact absurd q (h1 _)
    rcases g.sub a u hb with q | ⟨kvs, q, _⟩
    · exact q
    · exact absurd q (h1 _)
theorem Tab.gr {S : List Addr} {B H B' H' : Hp} {Pt : Addr} {q : Str} (t : LamX.TabS H Pt q) (hB : ExW B H) (g : Gr S B H B' H') (hP : Pt ∉ S) (hS : ∀ a ∈ S, ∀ c q, H a ≠ some (LamX.CodeO c q)) : LamX.TabS H' Pt q := by
  obtain ⟨ps, h1, h2, h3⟩ := t
  refine ⟨ps, g.stay hB hP h1 (fun _ z => by cases z) (fun _ _ z => by cases z), h2, fun pos cv hc => ?_⟩
  obtain ⟨c, e1, e2⟩ := h3 pos cv hc
  exact ⟨c, e1, g.stay hB (fun z => hS c z _ _ e2) e2 (fun _ z => by unfold LamX.CodeO at z; cases z) (fun _ _ z => by unfold LamX.CodeO at z; cases z)⟩
theorem Tab.gr0 {B H B' H' : Hp} {Pt : Addr} {q : Str} (t : LamX.TabS H Pt q) (hB : ExW B H) (g : Gr [] B H B' H') : LamX.TabS H' Pt q := Tab.gr t hB g (fun z => nomatch z) (fun _ z => nomatch z)
theorem Tab.ins {H : Hp} {Pt x C dx : Addr} {q : Str} {fs gs : List (Str × V)} (t : LamX.TabS H Pt q) (hx : H x = some (.ins C dx fs)) : LamX.TabS (upd H x (.ins C dx gs)) Pt q := by
  obtain ⟨ps, h1, h2, h3⟩ := t
  refine ⟨ps, ?_, h2, fun pos cv hc => ?_⟩
  · rw [upd_ne (fun z => by rw [z, hx] at h1; cases h1)]; exact h1
  · obtain ⟨c, e1, e2⟩ := h3 pos cv hc
    refine ⟨c, e1, ?_⟩
    rw [upd_ne (fun z => by rw [z, hx] at e2; have := Option.some.inj e2; unfold LamX.CodeO at this; cases this)]; exact e2
/-! ### sorted by names -/
theorem All2.perm {α β : Type} {R : α → β → Prop} {us vs : List β} (p : vs.Perm us) : ∀ {xs : List α}, All2 R xs us → ∃ ys, ys.Perm xs ∧ All2 R ys vs := by
  induction p with
  | nil => intro xs h; exact ⟨xs, List.Perm.refl _, h⟩
  | cons b p ih =>
    intro xs h
    cases h with
    | cons a t =>
      obtain ⟨ys, h1, h2⟩ := ih t
      exact ⟨_ :: ys, h1.cons _, .cons a h2⟩
  | swap b c l =>
    intro xs h
    cases h with
    | cons a t =>
      cases t with
      | cons a' t' => exact ⟨_ :: _ :: _, List.Perm.swap _ _ _, .cons a' (.cons a t')⟩
  | trans p1 p2 ih1 ih2 =>
    intro xs h
    obtain ⟨ys, h1, h2⟩ := ih2 h
    obtain ⟨zs, h3, h4⟩ := ih1 h2
    exact ⟨zs, h3.trans h1, h4⟩
def leN (a b : Str) : Bool := !decide (b.cps.toList < a.cps.toList)
theorem leN_trans {a b c : Str} (h1 : leN a b = true) (h2 : leN b c = true) : leN a c = true := by
  unfold leN at *
  simp only [Bool.not_eq_true', decide_eq_false_iff_not] at *
  exact List.le_trans h1 h2
theorem leN_total (a b : Str) : (leN a b || leN b a) = true := by
  unfold leN
  simp only [Bool.or_eq_true, Bool.not_eq_true', decide_eq_false_iff_not]
  exact List.le_total a.cps.toList b.cps.toList
theorem leN_anti {a b : Str} (h1 : leN a b = true) (h2 : leN b a = true) : a = b := by
  unfold leN at *
  simp only [Bool.not_eq_true', decide_eq_false_iff_not] at *
  exact PySem.W.str_of_cps (List.le_antisymm h1 h2)
theorem inj_of_nodup {α β : Type} {k : α → β} : ∀ {xs : List α}, (xs.map k).Nodup → ∀ {a b : α}, a ∈ xs → b ∈ xs → k a = k b → a = b
  | [], _, a, b, h, _, _ => nomatch h
  | x :: r, nd, a, b, ha, hb, e => by
    obtain ⟨n1, n2⟩ := List.nodup_cons.mp (by simpa using nd : (k x :: r.map k).Nodup)
    rcases List.mem_cons.mp ha with ha1 | ha1
    · rcases List.mem_cons.mp hb with hb1 | hb1
      · rw [ha1, hb1]
      · exact absurd (List.mem_map.mpr ⟨b, hb1, by rw [← e, ha1]⟩) n1
    · rcases List.mem_cons.mp hb with hb1 | hb1
      · exact absurd (List.mem_map.mpr ⟨a, ha1, by rw [e, hb1]⟩) n1
      · exact inj_of_nodup n2 ha1 hb1 e
/-- a list in name order, its names being distinct, is the sorted one -/
theorem sorted_uniq {α : Type} {k : α → Str} {xs ys : List α} (nd : (xs.map k).Nodup) (p : ys.Perm xs) (h : ys.Pairwise fun a b => leN (k a) (k b) = true) : ys = xs.mergeSort fun a b => leN (k a) (k b) := by
  have h2 : (xs.mergeSort fun a b => leN (k a) (k b)).Pairwise fun a b => leN (k a) (k b) = true := List.pairwise_mergeSort (le := fun a b => leN (k a) (k b)) (fun a b c => leN_trans) (fun a b => leN_total _ _) xs
  refine List.Perm.eq_of_pairwise (le := fun a b => leN (k a) (k b) = true) (fun a b ha hb h1 h2 => ?_) h h2 (p.trans (List.mergeSort_perm _ _).symm)
  have e := leN_anti h1 h2
  have ha' : a ∈ xs := p.mem_iff.mp ha
  have hb' : b ∈ xs := (List.mergeSort_perm _ _).mem_iff.mp hb
  exact inj_of_nodup nd ha' hb' e
end OB

/-! ## OB8 -/
set_option maxHeartbeats 4000000
namespace OB
open PySem PySem.Spec PyProof.Rows L2
/-! ### sorted(rows): tuples of one length that begin with distinct names -/
def RowIn (h : Heap) (v : Value) (y : Str) : Prop := ∃ (a : Addr) (items : Array Value) (t : Tok) (r : List Value), v = .ref a ∧ IsTup h a items ∧ items.toList = .str y t :: r ∧ items.size = 5
theorem RowIn.keeps {h h' : Heap} {v : Value} {y : Str} (x : RowIn h v y) (k : ∀ b o, h.get? b = some o → o.cls = .type "tuple" → h'.get? b = some o) : RowIn h' v y := by
  obtain ⟨a, items, t, r, e, ⟨o, ho, hc, z⟩, q⟩ := x
  exact ⟨a, items, t, r, e, ⟨o, k _ _ ho hc, hc, z⟩, q⟩
theorem rows_firsts {h : Heap} {k : Value → Str} : ∀ vs : List Value, (∀ v ∈ vs, RowIn h v (k v)) → ∃ fs : List Value, PySem.W.KatTups h vs fs ∧ fs.length = vs.length ∧ ∀ f ∈ fs, ∃ x t, f = Value.str x t
  | [], _ => ⟨[], PySem.W.KatTups.nil, rfl, fun f hf => nomatch hf⟩
  | v :: vs, x => by
    obtain ⟨fs, kt, hl, hi⟩ := rows_firsts vs fun u hu => x u (List.mem_cons_of_mem _ hu)
    obtain ⟨a, items, t, r, rfl, ⟨o, ho, hc, n, hd⟩, hit, hs⟩ := x v (List.mem_cons_self ..)
    refine ⟨.str (k (.ref a)) t :: fs, PySem.W.KatTups.cons ho hc hd ?_ kt, by rw [List.length_cons, List.length_cons, hl], fun f hf => ?_⟩
    · rw [← Array.getElem?_toList, hit]; rfl
    · rcases List.mem_cons.mp hf with rfl | hf
      · exact ⟨_, _, rfl⟩
      · exact hi f hf
section
variable {prog : Program} {w : World} {A : Around} {s : Shared}
theorem kat_same {b : Bool} {Q : Bool → Shared → Prop} (hq : Q false s) : ∀ (l : List Value) (i : Nat), PySem.W.KatLex prog w A b false Q (l.zip l) i s
  | [], _ => PySem.W.kat_nil hq
  | v :: r, i => PySem.W.kat_cons (SeqAt.EqAt.same v prog w _ _ (PySem.W.kat_yes (kat_same hq r (i + 1))))
theorem rows_cmp {vs : List Value} {k : Value → Str} (hp : ∀ v ∈ vs, RowIn s.heap v (k v)) (inj : ∀ v ∈ vs, ∀ u ∈ vs, k v = k u → v = u) : SrtO.Cmp prog w A s (tuples' true) (fun p => p.1 ∈ vs) (SrtO.lt2 fun v u => decide ((k v).cps.toList < (k u).cps.toList)) := by
  intro p q hm hm'
  have h1 := hp _ hm
  have h2 := hp _ hm'
  have hi := inj _ hm _ hm'
  show wpAny (model prog w) A (keyLt' (tuples' true) p.1 q.1) (fun r s' => s' = s ∧ r = decide ((k p.1).cps.toList < (k q.1).cps.toList)) (fun _ _ => False) s
  by_cases e : k p.1 = k q.1
  · rw [← hi e]
    obtain ⟨a, items, t, r, e1, ⟨o, ho, hc, n, hd⟩, hit, hs⟩ := h1
    rw [e1]
    refine PySem.W.kat_lt ho hd ho hd ?_
    rw [decide_eq_false (Nat.lt_irrefl _)]
    exact kat_same ⟨rfl, (decide_eq_false (List.lt_irrefl _)).symm⟩ _ 0
  · obtain ⟨a, items, t, r, e1, ⟨o, ho, hc, n, hd⟩, hit, hs⟩ := h1
    obtain ⟨a', items', t', r', e1', ⟨o', ho', hc', n', hd'⟩, hit', hs'⟩ := h2
    generalize k p.1 = x at *
    generalize k q.1 = x' at *
    rw [e1, e1']
    refine PySem.W.kat_lt ho hd ho' hd' ?_
    rw [hit, hit', List.zip_cons_cons]
    have ex : (x == x') = false := by simpa using e
    refine PySem.W.kat_cons (SeqAt.EqAt.str_str x t x' t' prog w _ _ ?_)
    rw [ex]
    exact PySem.W.kat_no (oneLt_str ⟨rfl, rfl⟩)
theorem rows_sortable {a : Addr} {vs : List Value} {k : Value → Str} (h0 : 0 < vs.length) (hp : ∀ v ∈ vs, RowIn s.heap v (k v)) (inj : ∀ v ∈ vs, ∀ u ∈ vs, k v = k u → v = u) (ha : ∀ o, s.heap.get? a = some o → o.cls ≠ .type "tuple") : SrtO.SortableO prog w A s a vs fun v u => decide ((k v).cps.toList < (k u).cps.toList) := by
  intro h' keep
  have hp' : ∀ v ∈ vs, RowIn h' v (k v) := fun v hm => (hp v hm).keeps fun b o e c => keep b o (fun z => by subst z; exact ha o e c) e
  obtain ⟨fs, h1, h2, h3⟩ := rows_firsts vs hp'
  refine ⟨tuples' true, fun Q E hq => ?_, rows_cmp hp' inj⟩
  refine PySem.W.kat_kind (T := .type "str") h1 (by omega) (fun f hm => ?_) (by rfl) ?_
  · obtain ⟨x, t, rfl⟩ := h3 f hm
    exact PySem.W.Looks.now
  · have e : (Value.type "str" != Value.type "tuple") = true := by first | decide +kernel | rfl | decide
    rw [e]
    exact hq
theorem swo_str (k : Value → Str) : SrtO.Swo fun v u => decide ((k v).cps.toList < (k u).cps.toList) := by
  refine ⟨fun x y h => ?_, fun x y z h1 h2 => ?_⟩
  · have := of_decide_eq_true h
    exact decide_eq_false (fun z => List.lt_asymm this z)
  · have a := of_decide_eq_false h1
    have b := of_decide_eq_false h2
    exact decide_eq_false (List.le_trans a b)
end
def rSortRows (K : PySem.W.Frag) : List V → Hp → VK → Prop := fun vs H Q => ∃ (a : Addr) (xs : List V) (nm : V → Str), vs = [V.ref a] ∧ SqL K H a xs ∧ (∀ x ∈ xs, ∃ t r, x = .ref t ∧ SqT K H t (.str (nm x) :: r) ∧ r.length = 4) ∧ (∀ x ∈ xs, ∀ y ∈ xs, nm x = nm y → x = y) ∧
  ∀ ys p, ys.Perm xs → ys.Pairwise (fun y z => ¬ (nm z).cps.toList < (nm y).cps.toList) → H p = none → Q (.ref p) (upd H p (.lst ys))
theorem cr_sortedRows {X : Cx} : CallR X (.builtin "sorted") (rSortRows X.K) := by
  intro pins s σ H vs us Q I r h
  obtain ⟨a, xs, nm, rfl, hs, hx, inj, q⟩ := h
  obtain ⟨its, rv, hl, hz⟩ := I.list hs
  obtain ⟨u, rfl, ru⟩ := vals1 r
  obtain rfl : u = Value.ref a := ru
  obtain ⟨e1, e2⟩ := refs_back rv fun x m => by
    obtain ⟨t, _, e, _⟩ := hx x m
    exact ⟨t, e⟩
  have back : ∀ v ∈ its, backV v ∈ xs := fun v hv => by rw [e1]; exact List.mem_map.mpr ⟨v, hv, rfl⟩
  have hrow : ∀ v ∈ its, RowIn s.heap v (nm (backV v)) := fun v hv => by
    obtain ⟨t, rfl⟩ := e2 v hv
    obtain ⟨t', r, e, ht, hr⟩ := hx _ (back _ hv)
    cases e
    obtain ⟨ti, trv, tp, _⟩ := I.tuple ht
    have hll := trv.length
    cases trv with
    | cons tr trr =>
      obtain ⟨tk, rfl⟩ := tr
      refine ⟨t, _, tk, _, rfl, tp, rfl, ?_⟩
      rw [List.size_toArray, ← hll, List.length_cons, hr]
  have hinj : ∀ v ∈ its, ∀ u ∈ its, nm (backV v) = nm (backV u) → v = u := fun v hv u hu e => by
    have := inj _ (back v hv) _ (back u hu) e
    obtain ⟨t, rfl⟩ := e2 v hv
    obtain ⟨t', rfl⟩ := e2 u hu
    cases this
    rfl
  refine SrtO.sorted_ord (swo_str fun v => nm (backV v)) hl.isList (by rw [← rv.length]; exact hz) (fun h2 h₁ a' ha kk => ?_) fun out hs hb => ?_
  · refine rows_sortable (s := { s with heap := h₁ }) (by omega) (fun v hm => (hrow v hm).keeps fun b o e _ => (kk b o e).2) hinj fun o e => ?_
    have e' : some o = some (seqObj "list" its.toArray 0) := e.symm.trans ha
    cases e'
    intro c
    exact absurd (Value.type.inj c) (by decide)
  · have h3 : ∀ u ∈ out, ∃ a, u = Value.ref a := fun u hu => e2 u (hb.perm.mem_iff.mp hu)
    obtain ⟨n, hn⟩ := PyProof.Rows.sortedAll_at s.heap its out.toArray
    have pm : (out.map backV).Perm xs := by rw [e1]; exact hb.perm.map _
    refine ⟨.ref _, upd H (s.heap.objs.size + 1) (.lst (out.map backV)), I.laid (t' := s.toks) (fun _ _ => PyProof.Rows.sortedAll_old) (Nat.le_succ _) ⟨by rw [pm.length_eq]; exact hz, out, n, vals_back h3, hn⟩, rfl, q _ _ pm ?_ (I.hok.fresh (Nat.le_succ _))⟩
    rw [List.pairwise_map]
    exact hs.imp fun h => of_decide_eq_false h
end OB

/-! ## OB9 -/
set_option maxHeartbeats 4000000
namespace OB
open PySem PySem.Spec PyProof.Rows L2
/-! ### sorted(rows): tuples of ints of one length -/
def TupI (h : Heap) (v : Value) (ys : List Int) : Prop := ∃ (a : Addr) (items : Array Value), v = .ref a ∧ IsTup h a items ∧ IntsAre items.toList ys
theorem TupI.keeps {h h' : Heap} {v : Value} {ys : List Int} (x : TupI h v ys) (k : ∀ b o, h.get? b = some o → o.cls = .type "tuple" → h'.get? b = some o) : TupI h' v ys := by
  obtain ⟨a, items, e, ⟨o, ho, hc, z⟩, q⟩ := x
  exact ⟨a, items, e, ⟨o, k _ _ ho hc, hc, z⟩, q⟩
theorem ints_len : ∀ {vs : List Value} {ns : List Int}, IntsAre vs ns → vs.length = ns.length
  | _, _, .nil => rfl
  | _, _, .cons n t r => by rw [List.length_cons, List.length_cons, ints_len r]
theorem tup_firsts {h : Heap} {k : Value → List Int} {m : Nat} : ∀ vs : List Value, (∀ v ∈ vs, TupI h v (k v) ∧ (k v).length = m + 1) → ∃ fs : List Value, PySem.W.KatTups h vs fs ∧ fs.length = vs.length ∧ ∀ f ∈ fs, ∃ x t, f = Value.int x t
  | [], _ => ⟨[], PySem.W.KatTups.nil, rfl, fun f hf => nomatch hf⟩
  | v :: vs, x => by
    obtain ⟨fs, kt, hl, hi⟩ := tup_firsts vs fun u hu => x u (List.mem_cons_of_mem _ hu)
    obtain ⟨⟨a, items, rfl, ⟨o, ho, hc, n, hd⟩, hit⟩, hs⟩ := x v (List.mem_cons_self ..)
    generalize hk : k (.ref a) = ks at hit hs
    generalize hI : items.toList = its at hit
    cases hit with
    | nil => cases hs
    | cons i t r =>
      refine ⟨.int i t :: fs, PySem.W.KatTups.cons ho hc hd ?_ kt, by rw [List.length_cons, List.length_cons, hl], fun f hf => ?_⟩
      · rw [← Array.getElem?_toList, hI]; rfl
      · rcases List.mem_cons.mp hf with rfl | hf
        · exact ⟨_, _, rfl⟩
        · exact hi f hf
section
variable {prog : Program} {w : World} {A : Around} {s : Shared}
theorem lex_ints {Q : Bool → Shared → Prop} : ∀ {vs us : List Value} {xs ys : List Int} (i : Nat), IntsAre vs xs → IntsAre us ys → xs.length = ys.length → Q (decide (xs < ys)) s → PySem.W.KatLex prog w A true false Q (vs.zip us) i s
  | _, _, _, _, i, .nil, .nil, _, q => PySem.W.kat_nil (by simpa using q)
  | _, _, _, _, i, .nil, .cons _ _ _, h, _ => by cases h
  | _, _, _, _, i, .cons _ _ _, .nil, h, _ => by cases h
  | _, _, _, _, i, .cons x t r (ns := xs), .cons y u r' (ns := ys), h, q => by
    rw [List.zip_cons_cons]
    have hl : xs.length = ys.length := by simpa using h
    refine PySem.W.kat_cons (SeqAt.EqAt.int_int x t y u prog w _ _ ?_)
    refine PySem.W.kat_go (fun e1 => ?_) (fun e1 => ?_)
    · have ex : x = y := by simpa using e1
      subst ex
      refine PySem.W.kat_yes (lex_ints (i + 1) r r' hl ?_)
      have e : decide (x :: xs < x :: ys) = decide (xs < ys) := by
        rw [Bool.eq_iff_iff]
        simp [List.cons_lt_cons_iff]
      rw [← e]; exact q
    · have ex : ¬ x = y := by simpa using e1
      have e : decide (x :: xs < y :: ys) = decide (x < y) := by
        rw [Bool.eq_iff_iff]
        simp [List.cons_lt_cons_iff, ex]
      rw [e] at q
      refine PySem.W.kat_no ?_
      cases i with
      | zero => exact oneLt_int q
      | succ i => exact PySem.W.kat_one _ _ (PyProof.Rows.lt_int q)
theorem tup_cmp {vs : List Value} {k : Value → List Int} {m : Nat} (hp : ∀ v ∈ vs, TupI s.heap v (k v) ∧ (k v).length = m + 1) : SrtO.Cmp prog w A s (tuples' true) (fun p => p.1 ∈ vs) (SrtO.lt2 fun v u => decide (k v < k u)) := by
  intro p q hm hm'
  obtain ⟨⟨a, items, e, ⟨o, ho, hc, n, hd⟩, hit⟩, hs⟩ := hp _ hm
  obtain ⟨⟨a', items', e', ⟨o', ho', hc', n', hd'⟩, hit'⟩, hs'⟩ := hp _ hm'
  show wpAny (model prog w) A (keyLt' (tuples' true) p.1 q.1) (fun r s' => s' = s ∧ r = decide (k p.1 < k q.1)) (fun _ _ => False) s
  generalize k p.1 = x at *
  generalize k q.1 = y at *
  rw [e, e']
  refine PySem.W.kat_lt ho hd ho' hd' ?_
  have l1 := ints_len hit
  have l2 := ints_len hit'
  rw [Array.length_toList] at l1 l2
  rw [decide_eq_false (by omega : ¬ items.size < items'.size)]
  exact lex_ints 0 hit hit' (by omega) ⟨rfl, rfl⟩
theorem tup_sortable {a : Addr} {vs : List Value} {k : Value → List Int} {m : Nat} (h0 : 0 < vs.length) (hp : ∀ v ∈ vs, TupI s.heap v (k v) ∧ (k v).length = m + 1) (ha : ∀ o, s.heap.get? a = some o → o.cls ≠ .type "tuple") : SrtO.SortableO prog w A s a vs fun v u => decide (k v < k u) := by
  intro h' keep
  have hp' : ∀ v ∈ vs, TupI h' v (k v) ∧ (k v).length = m + 1 := fun v hm => ⟨(hp v hm).1.keeps fun b o e c => keep b o (fun z => by subst z; exact ha o e c) e, (hp v hm).2⟩
  obtain ⟨fs, h1, h2, h3⟩ := tup_firsts vs hp'
  refine ⟨tuples' true, fun Q E hq => ?_, tup_cmp hp'⟩
  refine PySem.W.kat_kind (T := .type "int") h1 (by omega) (fun f hm => ?_) (by rfl) ?_
  · obtain ⟨x, t, rfl⟩ := h3 f hm
    exact PySem.W.Looks.now
  · have e : (Value.type "int" != Value.type "tuple") = true := by first | decide +kernel | rfl | decide
    rw [e]
    exact hq
theorem swo_ints (k : Value → List Int) : SrtO.Swo fun v u => decide (k v < k u) := by
  refine ⟨fun x y h => ?_, fun x y z h1 h2 => ?_⟩
  · have := of_decide_eq_true h
    exact decide_eq_false (fun z => List.lt_asymm this z)
  · have a := of_decide_eq_false h1
    have b := of_decide_eq_false h2
    exact decide_eq_false (List.le_trans a b)
end
def rSortTups (K : PySem.W.Frag) : List V → Hp → VK → Prop := fun vs H Q => ∃ (a : Addr) (xs : List V) (k : V → List Int) (m : Nat), vs = [V.ref a] ∧ SqL K H a xs ∧ (∀ x ∈ xs, ∃ t, x = .ref t ∧ SqT K H t ((k x).map V.int) ∧ (k x).length = m + 1) ∧
  ∀ ys p, ys.Perm xs → H p = none → Q (.ref p) (upd H p (.lst ys))
theorem cr_sortedTups {X : Cx} : CallR X (.builtin "sorted") (rSortTups X.K) := by
  intro pins s σ H vs us Q I r h
  obtain ⟨a, xs, k, m, rfl, hs, hx, q⟩ := h
  obtain ⟨its, rv, hl, hz⟩ := I.list hs
  obtain ⟨u, rfl, ru⟩ := vals1 r
  obtain rfl : u = Value.ref a := ru
  obtain ⟨e1, e2⟩ := refs_back rv fun x m => by
    obtain ⟨t, e, _⟩ := hx x m
    exact ⟨t, e⟩
  have back : ∀ v ∈ its, backV v ∈ xs := fun v hv => by rw [e1]; exact List.mem_map.mpr ⟨v, hv, rfl⟩
  have hrow : ∀ v ∈ its, TupI s.heap v (k (backV v)) ∧ (k (backV v)).length = m + 1 := fun v hv => by
    obtain ⟨t, rfl⟩ := e2 v hv
    obtain ⟨t', e, ht, hr⟩ := hx _ (back _ hv)
    cases e
    obtain ⟨ti, trv, tp, _⟩ := I.tuple ht
    exact ⟨⟨t, _, rfl, tp, trv.ints⟩, hr⟩
  refine SrtO.sorted_ord (swo_ints fun v => k (backV v)) hl.isList (by rw [← rv.length]; exact hz) (fun h2 h₁ a' ha kk => ?_) fun out hs hb => ?_
  · refine tup_sortable (s := { s with heap := h₁ }) (by omega) (fun v hm => ⟨(hrow v hm).1.keeps fun b o e _ => (kk b o e).2, (hrow v hm).2⟩) fun o e => ?_
    have e' : some o = some (seqObj "list" its.toArray 0) := e.symm.trans ha
    cases e'
    intro c
    exact absurd (Value.type.inj c) (by decide)
  · have h3 : ∀ u ∈ out, ∃ a, u = Value.ref a := fun u hu => e2 u (hb.perm.mem_iff.mp hu)
    obtain ⟨n, hn⟩ := PyProof.Rows.sortedAll_at s.heap its out.toArray
    have pm : (out.map backV).Perm xs := by rw [e1]; exact hb.perm.map _
    exact ⟨.ref _, upd H (s.heap.objs.size + 1) (.lst (out.map backV)), I.laid (t' := s.toks) (fun _ _ => PyProof.Rows.sortedAll_old) (Nat.le_succ _) ⟨by rw [pm.length_eq]; exact hz, out, n, vals_back h3, hn⟩, rfl, q _ _ pm (I.hok.fresh (Nat.le_succ _))⟩
end OB

/-! ## HA -/
set_option maxHeartbeats 4000000
namespace OB
open PySem PySem.Spec PyProof.Rows L2
/-! ### what the top leaves: a part of the heap at written addresses -/
theorem frG_not {g : Addr → Option Obj} {a : Addr} : ∀ {as : List Addr}, a ∉ as → (He.frG g as).lookup a = none
  | [], _ => rfl
  | b :: r, h => by
    have h1 : a ≠ b := fun z => h (z ▸ List.mem_cons_self)
    have h2 := frG_not (g := g) (as := r) fun z => h (List.mem_cons_of_mem _ z)
    cases hb : g b with
    | none =>
      have e : He.frG g (b :: r) = He.frG g r := by unfold He.frG; rw [List.filterMap_cons, hb]; rfl
      rw [e]; exact h2
    | some o =>
      have e : He.frG g (b :: r) = (b, o) :: He.frG g r := by unfold He.frG; rw [List.filterMap_cons, hb]; rfl
      rw [e, List.lookup_cons, beq_false_of_ne h1]
      exact h2
/-- a def: where its function object stands, its statement, its defaults -/
structure DD where
  pl : Addr
  nm : Str
  qn : Str
  st : Stmt
  df : List V
def DD.see (K : PySem.W.Frag) (d : DD) : He.FnW :=
  match K.lookup d.pl with
  | some ⟨_, _, .func f0, _⟩ =>
    some (f0.name, f0.qualname, f0.params, f0.body, f0.scope, f0.globals, f0.closure, f0.builtins)
  | _ => none
def DD.ask (d : DD) : He.FnW := some (d.nm, d.qn, defArgs d.st, .stmts (defBody d.st), defScope d.st, mainGlobals, [], builtinsNs)
def DD.fit (K : PySem.W.Frag) (d : DD) : Bool :=
  PySem.W.keepIn K (.ref d.pl) && (match K.lookup d.pl with
    | some ⟨_, _, .func f0, _⟩ => (He.dflB K f0.defaults d.df && He.kwdB K f0.kwdefaults []) && PySem.W.codeIn K f0.code d.qn
    | _ => false)
theorem bb {a b : Bool} (h : (a && b) = true) : a = true ∧ b = true := by
  cases a <;> cases b <;> first | exact ⟨rfl, rfl⟩ | cases h
theorem DD.made {K : PySem.W.Frag} {d : DD} (e : d.see K = d.ask) (c : d.fit K = true) : ∃ fd oc od sl, FunD K d.nm d.qn (defArgs d.st) (defBody d.st) (defScope d.st) d.df [] d.pl fd ∧ K.lookup d.pl = some ⟨oc, od, .func fd, sl⟩ := by
  obtain ⟨kp, c1⟩ := bb c
  unfold DD.see at e
  cases q : K.lookup d.pl with
  | none => rw [q] at c1; cases c1
  | some o =>
    obtain ⟨oc, od, da, sl⟩ := o
    rw [q] at c1 e
    cases da with
    | func f0 =>
      obtain ⟨m1, m2, m3, m4, m5, m6, m7, m8, m9, m10, m11, m12, m13, m14, m15⟩ := f0
      have e1 : (some (m1, m2, m3, m4, m5, m6, m7, m15) : He.FnW) = some (d.nm, d.qn, defArgs d.st, .stmts (defBody d.st), defScope d.st, mainGlobals, [], builtinsNs) := e
      simp only [Option.some.injEq, Prod.mk.injEq] at e1
      obtain ⟨w1, w2, w3, w4, w5, w6, w7, w8⟩ := e1
      subst w1 w2 w3 w4 w5 w6 w7 w8
      obtain ⟨c2, c3⟩ := bb (show ((He.dflB K m8 d.df && He.kwdB K m9 []) && PySem.W.codeIn K m13 d.qn) = true from c1)
      obtain ⟨c4, c5⟩ := bb c2
      exact ⟨_, oc, od, sl, ⟨⟨oc, od, m8, m9, m10, m11, m12, m13, m14, sl, rfl, q, c3, He.dflB_ok c4, He.kwdB_ok c5⟩, kp⟩, rfl⟩
    | _ => cases c1
/-! ### single facts -/
inductive Fk where
  | ref (x : Str) (a : Addr)
  | gone (x : Str)
  | num (x : Str) (i : Int)
  | txt (x z : Str)
  | kls (a : Addr)
  | lacks (a : Addr) (m : Str)
  | meth (a : Addr) (m : Str) (f : Addr)
  | prop (a : Addr) (m : Str) (p g : Addr)
  | mkr (a f : Addr)
  | code (f c : Addr)
  | exin (a f : Addr)
  | exc (a : Addr)
  | webc (a : Addr)
def oexB (K : PySem.W.Frag) (C : Addr) : Bool :=
  match K.lookup C with
  | some ⟨.type "type", _, .cls c0, s0⟩ =>
    (match c0.mro, s0.toList with
      | .ref C1 :: up, [_, _, _, _, some (.builtin w), _] => (C1 == C && w == "ValueError.__new__") && ((!c0.hasDel && c0.hasDict) && PySem.HandSPX.refsVE up)
      | _, _ => false)
  | _ => false
theorem oexB_ok {K : PySem.W.Frag} {C : Addr} (h : oexB K C = true) : ∃ nm q N bs bm sn sub ab col dd k0 k1 k2 k3 k5, K.lookup C = some (excClassObj nm q C N bs bm true sn sub ab col dd k0 k1 k2 k3 k5 "ValueError.__new__") ∧ PySem.HandSPX.refsVE bm = true := by
  unfold oexB at h
  split at h
  · rename_i dd c0 s0 ho
    split at h
    · rename_i C1 up k0 k1 k2 k3 w k5 hm hs
      obtain ⟨h1, h2⟩ := bb h
      obtain ⟨h3, h4⟩ := bb h1
      obtain ⟨h5, h6⟩ := bb h2
      obtain ⟨h7, h8⟩ := bb h5
      have e1 : C1 = C := beq_iff_eq.mp h3
      have e2 : w = "ValueError.__new__" := beq_iff_eq.mp h4
      subst e1 e2
      obtain ⟨x1, x2, x3, x4, x5, x6, x7, x8, x9, x10, x11⟩ := c0
      have hm : x3 = .ref C1 :: up := hm
      have h7 : (!x11) = true := h7
      have h8 : x6 = true := h8
      subst hm h8
      cases x11 with
      | true => cases h7
      | false =>
      obtain ⟨ls⟩ := s0
      have hs : ls = _ := hs
      subst hs
      exact ⟨x1, x5, x4, x2, up, x7, x8, x9, x10, dd, k0, k1, k2, k3, k5, ho, h6⟩
    · cases h
  · cases h
open He (eqO eqO_ok) in
def Fk.ok (K : PySem.W.Frag) : Fk → Bool
  | .ref x a => eqO (PySem.W.nsIn K mainGlobals x) (some (some (.ref a)))
  | .gone x => eqO (PySem.W.nsIn K mainGlobals x) (some none)
  | .num x i => (He.Fa.int x i).ok K
  | .txt x z => (He.Fa.str x z).ok K
  | .kls a => (PySem.W.plainGet K a Str.empty && PySem.W.hasDictIn K a) && (PySem.W.plainOver K a && eqO (PySem.W.findIn K (.ref a) "__setattr__") (some (some (.builtin "object.__setattr__"))))
  | .lacks a m => eqO (PySem.W.findIn K (.ref a) m) (some none)
  | .meth a m f => eqO (PySem.W.findIn K (.ref a) m) (some (some (.ref f))) && PySem.W.isFn K (.ref f)
  | .prop a m p g => (eqO (PySem.W.findIn K (.ref a) m) (some (some (.ref p))) && eqO (PySem.W.specialIn K (.ref p) "__get__") (some (some (.builtin "property.__get__")))) && (decide (PySem.W.takesIn K (.ref p) = some true) && (match PySem.W.recIn K p "property" with
    | some (.ref q :: _) => decide (q = g)
    | _ => false))
  | .mkr a f => (PySem.W.makesIn K a && eqO (PySem.W.findIn K (.ref a) "__init__") (some (some (.ref f)))) && (PySem.W.isFn K (.ref f) && PySem.W.keepIn K (.ref a))
  | .code f c => (match K.lookup f with
    | some ⟨_, _, .func f0, _⟩ => decide (f0.code = .ref c)
    | _ => false)
  | .exin a f => eqO (PySem.W.findIn K (.ref a) "__init__") (some (some (.ref f))) && decide (PySem.W.typeIn K (.ref f) = some (.type "function"))
  | .exc a => ((oexB K a && eqO (PySem.W.findIn K (.ref a) "__setattr__") (some (some (.builtin "object.__setattr__")))) && (decide (PySem.W.subIn K (.ref a) (.type "BaseException") = some true) && decide (PySem.W.typeIn K (.ref a) = some (.type "type")))) &&
      (PySem.W.keepIn K (.ref a) && (xfB K a && decide (PySem.W.exmOne K (.ref a) (.ref a) = some true)))
  | .webc a => (eqO (PySem.W.findIn K (.ref a) "__class__") (some (some (.builtin "object.__class__"))) && decide (PySem.W.mroIn K a (.type "object") = some true)) &&
      (eqO (PySem.W.specialIn K (.builtin "object.__class__") "__get__") (some (some (.builtin "getset_descriptor.__get__"))) && decide (PySem.W.takesIn K (.builtin "object.__class__") = some true))
section
variable {K : PySem.W.Frag} {h : Heap} {mg : Str → Option Value}
theorem ref_ok (X : K.In h) (G : h.Ns mainGlobals mg) {x : Str} {a : Addr} (c : (Fk.ref x a).ok K = true) : mg x = some (.ref a) ∧ He.ga K x = a := by
  have e := He.eqO_ok c
  refine ⟨PySem.W.mg_of X G e, ?_⟩
  unfold He.ga
  rw [e]
theorem gone_ok (X : K.In h) (G : h.Ns mainGlobals mg) {x : Str} (c : (Fk.gone x).ok K = true) : mg x = none := PySem.W.mg_none_of X G (He.eqO_ok c)
theorem kls_ok {a : Addr} (c : (Fk.kls a).ok K = true) : Cls K a := by
  obtain ⟨c1, c2⟩ := bb c
  obtain ⟨c3, c4⟩ := bb c1
  obtain ⟨c5, c6⟩ := bb c2
  exact ⟨c3, c4, c5, He.eqO_ok c6⟩
theorem lacks_ok {a : Addr} {m : Str} (c : (Fk.lacks a m).ok K = true) : NoAttr K a m := He.eqO_ok c
theorem meth_ok' {a f : Addr} {m : Str} (c : (Fk.meth a m f).ok K = true) (k : PySem.W.keepIn K (.ref f) = true) : Meth K a m f := by
  obtain ⟨c1, c2⟩ := bb c
  exact ⟨He.eqO_ok c1, c2, k⟩
theorem prop_ok {a p g : Addr} {m : Str} (c : (Fk.prop a m p g).ok K = true) : PropOf K a m p g := by
  obtain ⟨c1, c2⟩ := bb c
  obtain ⟨c3, c4⟩ := bb c1
  obtain ⟨c5, c6⟩ := bb c2
  refine ⟨He.eqO_ok c3, He.eqO_ok c4, of_decide_eq_true c5, ?_⟩
  split at c6
  · rename_i q r e
    rw [of_decide_eq_true c6] at e
    exact ⟨r, e⟩
  · cases c6
theorem mkr_ok' {a f : Addr} (c : (Fk.mkr a f).ok K = true) : Mk K a f := by
  obtain ⟨c1, c2⟩ := bb c
  obtain ⟨c3, c4⟩ := bb c1
  obtain ⟨c5, c6⟩ := bb c2
  exact ⟨c3, He.eqO_ok c4, c5, c6⟩
theorem code_ok {f c : Addr} {oc : Value} {od : Option Addr} {fd : FuncData} {sl : Array (Option Value)} (e : (Fk.code f c).ok K = true) (lk : K.lookup f = some ⟨oc, od, .func fd, sl⟩) : fd.code = .ref c := by
  have e1 : (match K.lookup f with
    | some ⟨_, _, .func f0, _⟩ => decide (f0.code = .ref c)
    | _ => false) = true := e
  rw [lk] at e1
  exact of_decide_eq_true e1
theorem exin_ok {a f : Addr} (c : (Fk.exin a f).ok K = true) : PySem.W.findIn K (.ref a) "__init__" = some (some (.ref f)) ∧ PySem.W.typeIn K (.ref f) = some (.type "function") := by
  obtain ⟨c1, c2⟩ := bb c
  exact ⟨He.eqO_ok c1, of_decide_eq_true c2⟩
theorem exc_ok' {a : Addr} (c : (Fk.exc a).ok K = true) : OexC K a ∧ XfC K a ∧ PySem.W.exmOne K (.ref a) (.ref a) = some true := by
  obtain ⟨c1, c2⟩ := bb c
  obtain ⟨c3, c4⟩ := bb c1
  obtain ⟨c5, c6⟩ := bb c2
  obtain ⟨c7, c8⟩ := bb c3
  obtain ⟨c9, c10⟩ := bb c4
  obtain ⟨c11, c12⟩ := bb c6
  exact ⟨⟨oexB_ok c7, He.eqO_ok c8, of_decide_eq_true c9, of_decide_eq_true c10, c5⟩, xfB_ok c11, of_decide_eq_true c12⟩
theorem webc_ok {a : Addr} (c : (Fk.webc a).ok K = true) : PySem.W.findIn K (.ref a) "__class__" = some (some (.builtin "object.__class__")) ∧ PySem.W.mroIn K a (.type "object") = some true ∧
    PySem.W.specialIn K (.builtin "object.__class__") "__get__" = some (some (.builtin "getset_descriptor.__get__")) ∧ PySem.W.takesIn K (.builtin "object.__class__") = some true := by
  obtain ⟨c1, c2⟩ := bb c
  obtain ⟨c3, c4⟩ := bb c1
  obtain ⟨c5, c6⟩ := bb c2
  exact ⟨He.eqO_ok c3, of_decide_eq_true c4, He.eqO_ok c5, of_decide_eq_true c6⟩
end
/-! ### the Hook: the facts, the defs, one code object's table that is still empty -/
def tabE (g : Addr → Option Obj) (c Pt : Addr) (K : PySem.W.Frag) : Bool := PySem.W.codeHdIn K c Pt && (match g Pt with
  | some o => He.emptyTab o
  | none => false)
def obsL (as : List Addr) (fs : List Fk) (ds : List DD) (c Pt : Addr) (g : Addr → Option Obj) : Bool × List He.FnW :=
  (fs.all (fun f => f.ok (He.frG g as)) && (ds.all (fun d => d.fit (He.frG g as)) && tabE g c Pt (He.frG g as)), ds.map fun d => d.see (He.frG g as))
structure SaysL (fs : List Fk) (ds : List DD) (c Pt : Addr) (h : Heap) (K : PySem.W.Frag) : Prop where
  fact : ∀ f ∈ fs, f.ok K = true
  fit : ∀ d ∈ ds, d.fit K = true
  see : ∀ d ∈ ds, d.see K = d.ask
  hd : PySem.W.codeHdIn K c Pt = true
  out : K.lookup Pt = none
  empty : h.get? Pt = some { cls := .none, data := .fields #[] }
theorem saysL_of {as : List Addr} {fs : List Fk} {ds : List DD} {c Pt : Addr} {h : Heap} (hn : Pt ∉ as) (e : obsL as fs ds c Pt h.get? = (true, ds.map DD.ask)) : SaysL fs ds c Pt h (He.frG h.get? as) := by
  have e1 := congrArg (fun z : Bool × List He.FnW => z.1) e
  have e2 : (ds.map fun d => d.see (He.frG h.get? as)) = ds.map DD.ask := congrArg (fun z : Bool × List He.FnW => z.2) e
  obtain ⟨q1, q2⟩ := bb e1
  obtain ⟨q3, q4⟩ := bb q2
  obtain ⟨q5, q6⟩ := bb q4
  refine ⟨fun f hf => List.all_eq_true.mp q1 f hf, fun d hd => List.all_eq_true.mp q3 d hd, fun d hd => List.map_inj_left.mp e2 d hd, q5, frG_not hn, ?_⟩
  cases q : h.get? Pt with
  | none => rw [q] at q6; cases q6
  | some o =>
    rw [q] at q6
    rw [He.emptyTab_eq q6]
def hookL (as : List Addr) (fs : List Fk) (ds : List DD) (c Pt : Addr) (hn : Pt ∉ as) : PySem.W.Hook where
  α := Bool × List He.FnW
  obs := fun s => obsL as fs ds c Pt s.heap.get?
  val := fun _ => (true, ds.map DD.ask)
  says := fun _ h => ∃ K : PySem.W.Frag, K.In h ∧ SaysL fs ds c Pt h K
  of := fun _ _ e => ⟨_, He.frG_in, saysL_of hn e⟩
  keeps := fun _ _ _ ⟨K, hK, s⟩ k => ⟨K, PySem.W.Frag.In.keeps hK k, ⟨s.fact, s.fit, s.see, s.hd, s.out, k _ _ s.empty⟩⟩
theorem obsL_eq {as : List Addr} {fs : List Fk} {ds : List DD} {c Pt : Addr} {hn : Pt ∉ as} {g : Addr → Option Obj} {s : Shared} (h : ∀ a, g a = s.heap.get? a) : obsL as fs ds c Pt g = (hookL as fs ds c Pt hn).obs s := by
  rw [show g = s.heap.get? from funext h] <;> rfl
end OB

/-! ## HB -/
set_option maxHeartbeats 0
namespace OB
open PySem PySem.Spec PyProof.Rows L2
/-! ### the head: what is looked at -/
def hAs : List Addr := [3, 482, 481, 846, 845, 352, 351, 234, 233, 31, 30, 243, 242, 250, 249, 257, 256, 278, 277, 547, 546, 300, 299, 293, 315, 314, 829, 828, 729, 728, 727, 751, 750, 749, 735, 734, 733, 685, 684, 758, 757, 765, 764, 779, 778, 396, 395, 394, 404, 403, 402, 412, 411, 410, 427, 426, 368, 367, 441, 440, 493, 492, 500, 499, 507, 506, 514, 513, 519, 518, 526, 525, 533, 532, 540, 539, 552, 551, 559, 558, 564, 563, 571, 570, 585, 584, 578, 577, 591, 590, 586, 596, 595, 601, 600, 606, 605, 613, 612, 420, 419, 418, 620, 619, 628, 627, 621, 843, 842, 453, 452, 231, 230, 635, 634, 643, 642, 636, 650, 649, 657, 656, 664, 663, 671, 670, 678, 677, 690, 689, 695, 694, 702, 701, 707, 706, 721, 720, 716, 864, 863, 871, 870, 857, 856, 878, 877, 885, 884, 892, 891, 911, 910, 918, 917, 925, 924, 944, 943, 951, 950, 958, 957, 930, 929, 906, 905, 937, 936, 963, 962, 970, 969, 977, 976, 984, 983, 991, 990, 998, 997, 1070, 1069, 1005, 1004, 1012, 1011, 1026, 1025, 899, 898, 1019, 1018, 1033, 1032, 1048, 1047, 1053, 1052, 1058, 1057, 1043, 1042, 1065, 1064, 1038, 1037, 1077, 1076, 1089, 1088, 1084, 1083, 1094, 1093]
def hFs0 : List Fk := [.ref "is_number" 243,
  .ref "check_number" 250,
  .ref "check_end" 257,
  .ref "may_take" 278,
  .ref "lets_pass" 547,
  .mkr 352 300,
  .meth 352 "__contains__" 315,
  .meth 846 "__contains__" 829,
  .prop 846 "lamps" 729 728,
  .prop 846 "bond_rows" 751 750,
  .prop 846 "bonds" 735 734,
  .ref "check_known" 685,
  .meth 846 "ceiling" 758,
  .meth 846 "ends" 765,
  .meth 846 "lets" 779,
  .prop 482 "web" 396 395,
  .prop 482 "lights" 404 403,
  .prop 482 "row" 412 411,
  .meth 482 "light" 427,
  .mkr 482 368,
  .meth 482 "with_light" 441,
  .ref "check_lamp" 493,
  .ref "bright_first" 500,
  .ref "refusal_in" 507,
  .ref "take" 514,
  .ref "possible" 519,
  .ref "at_rest" 526,
  .ref "check_cap_numbers" 533,
  .ref "check_cap_names" 540,
  .ref "field_in" 552]
def hFs1 : List Fk := [.ref "open_bonds" 559,
  .ref "joined_lamps" 564,
  .ref "groups_in" 571,
  .ref "groups_under" 585,
  .ref "free_caps" 578,
  .ref "told_lights" 591,
  .ref "caps_of" 596,
  .ref "hangers" 601,
  .ref "shade_group" 606,
  .ref "told_faults" 613,
  .prop 482 "borne" 420 419,
  .ref "wish_faults" 620,
  .ref "granted" 628,
  .meth 846 "__eq__" 843,
  .meth 482 "under" 453,
  .exin 234 231,
  .ref "granted_caps" 635,
  .ref "brightest" 643,
  .ref "is_name" 650,
  .ref "check_name" 657,
  .ref "ordered" 664,
  .ref "check_open" 671,
  .ref "check_count" 678,
  .ref "check_ends" 690,
  .ref "check_rows" 695,
  .ref "kept_bond" 702,
  .ref "arms_at" 707,
  .mkr 846 721,
  .code 721 720,
  .ref "_law_stir" 864]
def hFs2 : List Fk := [.ref "_law_take" 871,
  .ref "_law_store" 857,
  .ref "_law_pick" 878,
  .ref "_law_shuffled" 885,
  .ref "_law_some" 892,
  .ref "_law_posts" 911,
  .ref "_law_bar_of" 918,
  .ref "_law_edge_of" 925,
  .ref "_law_lets" 944,
  .ref "_law_refusal" 951,
  .ref "_law_after" 958,
  .ref "_law_row" 930,
  .ref "_law_is_number" 906,
  .ref "_law_row_glow" 937,
  .ref "_law_can" 963,
  .ref "_law_reach" 970,
  .ref "_law_tamed" 977,
  .ref "_law_free_limits" 984,
  .ref "_law_aim_limits" 991,
  .ref "_law_in_field" 998,
  .ref "_law_has_lights" 1070,
  .ref "_law_is_cover" 1005,
  .ref "_law_paper_holds" 1012,
  .ref "_law_tags" 1026,
  .ref "_law_unlike" 899,
  .ref "_law_ladder" 1019,
  .ref "_law_gates" 1033,
  .ref "_law_spread" 1048,
  .ref "_law_takers" 1053,
  .ref "_law_raised" 1058]
def hFs3 : List Fk := [.ref "_law_alike" 1043,
  .ref "_law_wish" 1065,
  .ref "_law_drawn" 1038,
  .ref "_law_paper_of" 1077,
  .ref "_law_all_under" 1089,
  .ref "_law_walk_right" 1084,
  .ref "law" 1094,
  .ref "World" 482,
  .ref "Web" 846,
  .ref "Span" 352,
  .ref "Ungranted" 234,
  .gone "isinstance",
  .gone "len",
  .gone "max",
  .gone "min",
  .gone "any",
  .gone "all",
  .gone "sorted",
  .gone "int",
  .gone "bool",
  .gone "str",
  .gone "list",
  .gone "tuple",
  .gone "dict",
  .gone "set",
  .gone "range",
  .gone "zip",
  .num "LIMIT" 1000000000000,
  .num "LONGEST_NAME" 8,
  .num "MOST_LAMPS" 10]
def hFs4 : List Fk := [.num "MOST_BONDS" 16,
  .txt "LETTERS" "abcdefghijklmnopqrstuvwxyz",
  .txt "SIGNS" "abcdefghijklmnopqrstuvwxyz0123456789",
  .kls 482,
  .kls 846,
  .kls 352,
  .lacks 482 "own_web",
  .lacks 482 "own_table",
  .lacks 482 "own_row",
  .lacks 482 "own_pairs",
  .lacks 352 "low",
  .lacks 352 "high",
  .lacks 846 "own_lamp_rows",
  .lacks 846 "own_bond_rows",
  .lacks 846 "own_lamps",
  .lacks 846 "own_ceilings",
  .lacks 846 "own_ends",
  .lacks 846 "own_spans",
  .lacks 846 "own_arms",
  .lacks 234 "paper",
  .exc 234,
  .webc 846]
def hFs : List Fk := hFs0 ++ hFs1 ++ hFs2 ++ hFs3 ++ hFs4
def hDs0 : List DD := [⟨243, "is_number", "is_number", (top 16), []⟩,
  ⟨250, "check_number", "check_number", (top 17), []⟩,
  ⟨257, "check_end", "check_end", (top 18), []⟩,
  ⟨278, "may_take", "may_take", (top 21), []⟩,
  ⟨547, "lets_pass", "lets_pass", (top 36), []⟩,
  ⟨300, "__init__", "Span.__init__", (inClass (top 23) 0), [.non, .non]⟩,
  ⟨315, "__contains__", "Span.__contains__", (inClass (top 23) 2), []⟩,
  ⟨829, "__contains__", "Web.__contains__", (inClass (top 71) 15), []⟩,
  ⟨728, "lamps", "Web.lamps", (inClass (top 71) 1), []⟩,
  ⟨750, "bond_rows", "Web.bond_rows", (inClass (top 71) 4), []⟩,
  ⟨734, "bonds", "Web.bonds", (inClass (top 71) 2), []⟩,
  ⟨685, "check_known", "check_known", (top 66), []⟩,
  ⟨758, "ceiling", "Web.ceiling", (inClass (top 71) 5), []⟩,
  ⟨765, "ends", "Web.ends", (inClass (top 71) 6), []⟩,
  ⟨779, "lets", "Web.lets", (inClass (top 71) 8), []⟩,
  ⟨395, "web", "World.web", (inClass (top 25) 3), []⟩,
  ⟨403, "lights", "World.lights", (inClass (top 25) 4), []⟩,
  ⟨411, "row", "World.row", (inClass (top 25) 5), []⟩,
  ⟨427, "light", "World.light", (inClass (top 25) 7), []⟩,
  ⟨368, "__init__", "World.__init__", (inClass (top 25) 0), []⟩,
  ⟨441, "with_light", "World.with_light", (inClass (top 25) 9), []⟩,
  ⟨493, "check_lamp", "check_lamp", (top 27), []⟩,
  ⟨500, "bright_first", "bright_first", (top 28), []⟩,
  ⟨507, "refusal_in", "refusal_in", (top 29), []⟩,
  ⟨514, "take", "take", (top 30), []⟩,
  ⟨519, "possible", "possible", (top 31), []⟩,
  ⟨526, "at_rest", "at_rest", (top 32), []⟩,
  ⟨533, "check_cap_numbers", "check_cap_numbers", (top 34), []⟩,
  ⟨540, "check_cap_names", "check_cap_names", (top 35), []⟩,
  ⟨552, "field_in", "field_in", (top 37), []⟩]
def hDs1 : List DD := [⟨559, "open_bonds", "open_bonds", (top 38), []⟩,
  ⟨564, "joined_lamps", "joined_lamps", (top 39), []⟩,
  ⟨571, "groups_in", "groups_in", (top 40), []⟩,
  ⟨585, "groups_under", "groups_under", (top 42), []⟩,
  ⟨578, "free_caps", "free_caps", (top 41), []⟩,
  ⟨591, "told_lights", "told_lights", (top 44), [.non]⟩,
  ⟨596, "caps_of", "caps_of", (top 45), []⟩,
  ⟨601, "hangers", "hangers", (top 46), []⟩,
  ⟨606, "shade_group", "shade_group", (top 47), []⟩,
  ⟨613, "told_faults", "told_faults", (top 48), []⟩,
  ⟨419, "borne", "World.borne", (inClass (top 25) 6), []⟩,
  ⟨620, "wish_faults", "wish_faults", (top 50), []⟩,
  ⟨628, "granted", "granted", (top 51), [.non]⟩,
  ⟨843, "__eq__", "Web.__eq__", (inClass (top 71) 17), []⟩,
  ⟨453, "under", "World.under", (inClass (top 25) 11), []⟩,
  ⟨231, "__init__", "Ungranted.__init__", (inClass (top 13) 0), []⟩,
  ⟨635, "granted_caps", "granted_caps", (top 52), []⟩,
  ⟨643, "brightest", "brightest", (top 53), [.non]⟩,
  ⟨650, "is_name", "is_name", (top 58), []⟩,
  ⟨657, "check_name", "check_name", (top 59), []⟩,
  ⟨664, "ordered", "ordered", (top 60), []⟩,
  ⟨671, "check_open", "check_open", (top 64), []⟩,
  ⟨678, "check_count", "check_count", (top 65), []⟩,
  ⟨690, "check_ends", "check_ends", (top 67), []⟩,
  ⟨695, "check_rows", "check_rows", (top 68), []⟩,
  ⟨702, "kept_bond", "kept_bond", (top 69), []⟩,
  ⟨707, "arms_at", "arms_at", (top 70), []⟩,
  ⟨721, "__init__", "Web.__init__", (inClass (top 71) 0), [.ref 715]⟩,
  ⟨864, "_law_stir", "_law_stir", (top 74), []⟩,
  ⟨871, "_law_take", "_law_take", (top 75), []⟩]
def hDs2 : List DD := [⟨857, "_law_store", "_law_store", (top 73), []⟩,
  ⟨878, "_law_pick", "_law_pick", (top 76), []⟩,
  ⟨885, "_law_shuffled", "_law_shuffled", (top 77), []⟩,
  ⟨892, "_law_some", "_law_some", (top 78), []⟩,
  ⟨911, "_law_posts", "_law_posts", (top 81), []⟩,
  ⟨918, "_law_bar_of", "_law_bar_of", (top 82), []⟩,
  ⟨925, "_law_edge_of", "_law_edge_of", (top 83), []⟩,
  ⟨944, "_law_lets", "_law_lets", (top 86), []⟩,
  ⟨951, "_law_refusal", "_law_refusal", (top 87), []⟩,
  ⟨958, "_law_after", "_law_after", (top 88), []⟩,
  ⟨930, "_law_row", "_law_row", (top 84), []⟩,
  ⟨906, "_law_is_number", "_law_is_number", (top 80), []⟩,
  ⟨937, "_law_row_glow", "_law_row_glow", (top 85), []⟩,
  ⟨963, "_law_can", "_law_can", (top 89), []⟩,
  ⟨970, "_law_reach", "_law_reach", (top 90), []⟩,
  ⟨977, "_law_tamed", "_law_tamed", (top 91), []⟩,
  ⟨984, "_law_free_limits", "_law_free_limits", (top 92), []⟩,
  ⟨991, "_law_aim_limits", "_law_aim_limits", (top 93), []⟩,
  ⟨998, "_law_in_field", "_law_in_field", (top 94), []⟩,
  ⟨1070, "_law_has_lights", "_law_has_lights", (top 106), []⟩,
  ⟨1005, "_law_is_cover", "_law_is_cover", (top 95), []⟩,
  ⟨1012, "_law_paper_holds", "_law_paper_holds", (top 96), []⟩,
  ⟨1026, "_law_tags", "_law_tags", (top 98), []⟩,
  ⟨899, "_law_unlike", "_law_unlike", (top 79), []⟩,
  ⟨1019, "_law_ladder", "_law_ladder", (top 97), []⟩,
  ⟨1033, "_law_gates", "_law_gates", (top 99), []⟩,
  ⟨1048, "_law_spread", "_law_spread", (top 102), []⟩,
  ⟨1053, "_law_takers", "_law_takers", (top 103), []⟩,
  ⟨1058, "_law_raised", "_law_raised", (top 104), []⟩,
  ⟨1043, "_law_alike", "_law_alike", (top 101), []⟩]
def hDs3 : List DD := [⟨1065, "_law_wish", "_law_wish", (top 105), []⟩,
  ⟨1038, "_law_drawn", "_law_drawn", (top 100), []⟩,
  ⟨1077, "_law_paper_of", "_law_paper_of", (top 107), []⟩,
  ⟨1089, "_law_all_under", "_law_all_under", (top 109), []⟩,
  ⟨1084, "_law_walk_right", "_law_walk_right", (top 108), []⟩,
  ⟨1094, "law", "law", (top 110), []⟩]
def hDs : List DD := hDs0 ++ hDs1 ++ hDs2 ++ hDs3
def hNames0 : List PySem.Str := ["_wall",
  "__name__",
  "OutshinerError",
  "BadName",
  "BadNumber",
  "BadSpan",
  "Doubled",
  "SelfBond",
  "Unknown",
  "Missing",
  "WebsDiffer",
  "OutOfRange",
  "Refused",
  "Ungranted",
  "LIMIT",
  "is_number",
  "check_number",
  "check_end",
  "greater_end",
  "lesser_end",
  "may_take",
  "end_text",
  "Span",
  "World",
  "check_lamp",
  "bright_first",
  "refusal_in",
  "take",
  "possible",
  "at_rest"]
def hNames1 : List PySem.Str := ["check_cap_numbers",
  "check_cap_names",
  "lets_pass",
  "field_in",
  "open_bonds",
  "joined_lamps",
  "groups_in",
  "free_caps",
  "groups_under",
  "told_lights",
  "caps_of",
  "hangers",
  "shade_group",
  "told_faults",
  "wish_faults",
  "granted",
  "granted_caps",
  "brightest",
  "LETTERS",
  "SIGNS",
  "LONGEST_NAME",
  "is_name",
  "check_name",
  "ordered",
  "MOST_LAMPS",
  "MOST_BONDS",
  "check_open",
  "check_count",
  "check_known",
  "check_ends"]
def hNames2 : List PySem.Str := ["check_rows",
  "kept_bond",
  "arms_at",
  "Web",
  "_law_store",
  "_law_stir",
  "_law_take",
  "_law_pick",
  "_law_shuffled",
  "_law_some",
  "_law_unlike",
  "_law_is_number",
  "_law_posts",
  "_law_bar_of",
  "_law_edge_of",
  "_law_row",
  "_law_row_glow",
  "_law_lets",
  "_law_refusal",
  "_law_after",
  "_law_can",
  "_law_reach",
  "_law_tamed",
  "_law_free_limits",
  "_law_aim_limits",
  "_law_in_field",
  "_law_is_cover",
  "_law_paper_holds",
  "_law_ladder",
  "_law_tags"]
def hNames3 : List PySem.Str := ["_law_gates",
  "_law_drawn",
  "_law_alike",
  "_law_spread",
  "_law_takers",
  "_law_raised",
  "_law_wish",
  "_law_has_lights",
  "_law_paper_of",
  "_law_walk_right",
  "_law_all_under"]
def hNames : List PySem.Str := hNames0 ++ hNames1 ++ hNames2 ++ hNames3
abbrev hCode : Addr := 720
abbrev hTab : Addr := 718
theorem hOut : hTab ∉ hAs := by decide +kernel
abbrev hR : PySem.W.OpenRow := PySem.W.OpenLaw.row PySem.Challenge.rw_outshiners_k46_whole_brightest_of_all
abbrev hq : PySem.Program := PySem.W.view hR.prog [110]
abbrev hHook : PySem.W.Hook := hookL hAs hFs hDs hCode hTab hOut
def hOb (s : PySem.W.SharedT) : Bool × List He.FnW := obsL hAs hFs hDs hCode hTab (HandSHeadRun.getT s)
theorem hOb_eq (s : PySem.W.SharedT) : hOb s = hHook.obs s.abs := obsL_eq (HandSHeadRun.getT_eq s)
theorem hRun (w : World) : HandSHeadRun.RunEq hR hq hHook hOb 20000 hNames w := by
  intro os
  kernel_rfl
end OB

/-! ## P1 -/
set_option maxHeartbeats 4000000
namespace OB
open PySem PySem.Spec PyProof.Rows L2
section
variable {P : Program} {w : World} {K : PySem.W.Frag} {mg : Str → Option Value} {base : Heap}
def spIsNumber : Sp := sp1 fun x H Q => (x = .non ∨ (∃ b, x = .bl b) ∨ (∃ i, x = .int i)) ∧ Q (.bl (isNum x)) H
/-! ### is_number -/
abbrev F_is_number (P : Program) (w : World) (K : PySem.W.Frag) (mg : Str → Option Value) (base : Heap) : Prop := Fn P w K mg base CX0 1 "is_number" ["value"] [] spIsNumber
abbrev N_is_number : List Str := ["value"]
theorem sc_is_number : FnScope N_is_number ["value"] (defScope (top 16)) := ⟨rfl, rfl, rfl, by decide +kernel, rfl, by decide +kernel, by decide +kernel⟩
theorem ok_is_number (T : TX K mg) (D : DefAt K mg "is_number" (top 16) [])   : F_is_number P w K mg base := by
  refine fn_ok D sc_is_number (by decide +kernel) (fun _ _ _ _ _ _ us hl => match us, hl with | [_], _ => rfl) (fun vs H Q E h => len1 h) (fun f cdv A outer s H vs Q E hr h => ?_)
  have nd := sc_is_number.nd
  obtain ⟨v0, rfl, h⟩ := h
  refine ⟨_, (pss_cons (ps_if (PW.pt (pw_or (pt_not (pt_val (pe_callB (k_isi K) (by rfl) T.isinstance bt_isinstance (pa_cons (pv 0) (pa_cons (pe_bty (by rfl) T.int bt_int) pa_nil))))) (pw_or1 (pt_val (pe_callB (k_isi K) (by rfl) T.isinstance bt_isinstance (pa_cons (pv 0) (pa_cons (pe_bty (by rfl) T.bool bt_bool) pa_nil))))))) (pss_one (ps_ret pe_bl)) pss_nil)
      (pss_one (ps_ret (pe_chain op_le op_le (pe_un un_neg (pe_gi (by rfl) T.LIMIT)) (pv 0) (pe_gi (by rfl) T.LIMIT))))), ?_⟩
  obtain ⟨hx, q⟩ := h
  rcases hx with rfl | ⟨b, rfl⟩ | ⟨i, rfl⟩
  · refine ⟨_, rfl, _, _, _, _, false, rfl, .ty _, .base .non, kit_ty (by decide +kernel), _, rfl, ?_⟩
    exact ite_tt (ite_tt q)
  · refine ⟨_, rfl, _, _, _, _, true, rfl, .ty _, .base (.bl b), kit_ty (by decide +kernel), _, rfl, ?_⟩
    refine iteF ⟨_, rfl, _, _, _, _, true, rfl, .ty _, .base (.bl b), kit_ty (by decide +kernel), _, rfl, ?_⟩
    exact ite_tt q
  · refine ⟨_, rfl, _, _, _, _, true, rfl, .ty _, .base (.int i), kit_ty (by decide +kernel), _, rfl, ?_⟩
    refine iteF ⟨_, rfl, _, _, _, _, false, rfl, .ty _, .base (.int i), kit_ty (by decide +kernel), _, rfl, ?_⟩
    refine iteF ⟨_, rfl, _, rfl, _, _, rfl, rfl, _, rfl, ?_⟩
    have q' : Q (.bl (decide (-1000000000000 ≤ i) && decide (i ≤ 1000000000000))) H := q
    cases e : decide (-1000000000000 ≤ i) with
    | true => exact ite_tt ⟨_, _, rfl, rfl, by rw [e] at q'; exact q'⟩
    | false => exact iteF (by rw [e] at q'; exact q')
def spCheckNumber : Sp := sp1 fun x H Q => ∃ i : Int, x = .int i ∧ isN i = true ∧ Q (.int i) H
/-! ### check_number -/
abbrev F_check_number (P : Program) (w : World) (K : PySem.W.Frag) (mg : Str → Option Value) (base : Heap) : Prop := Fn P w K mg base CX0 2 "check_number" ["value"] [] spCheckNumber
abbrev N_check_number : List Str := ["value"]
theorem sc_check_number : FnScope N_check_number ["value"] (defScope (top 17)) := ⟨rfl, rfl, rfl, by decide +kernel, rfl, by decide +kernel, by decide +kernel⟩
theorem ok_check_number (T : TX K mg) (D : DefAt K mg "check_number" (top 17) []) (c_is_number : F_is_number P w K mg base)  : F_check_number P w K mg base := by
  refine fn_ok D sc_check_number (by decide +kernel) (fun _ _ _ _ _ _ us hl => match us, hl with | [_], _ => rfl) (fun vs H Q E h => len1 h) (fun f cdv A outer s H vs Q E hr h => ?_)
  have nd := sc_check_number.nd
  obtain ⟨v0, rfl, h⟩ := h
  refine ⟨_, (pss_cons (ps_if (pt_not (pt_val (pe_fn c_is_number hr (by rfl) (pa_cons (pv 0) pa_nil)))) (pss_one ps_never) pss_nil)
      (pss_one (ps_ret (pv 0)))), ?_⟩
  obtain ⟨i, rfl, hi, q⟩ := h
  refine ⟨_, rfl, .int i, rfl, .inr (.inr ⟨_, rfl⟩), _, rfl, ?_⟩
  rw [show isNum (.int i) = true from hi]
  exact iteF ⟨_, rfl, q⟩
def spCheckEnd : Sp := sp1 fun x H Q => ∃ o : Option Int, x = vo o ∧ isE o = true ∧ Q .non H
/-! ### check_end -/
abbrev F_check_end (P : Program) (w : World) (K : PySem.W.Frag) (mg : Str → Option Value) (base : Heap) : Prop := Fn P w K mg base CX0 3 "check_end" ["value"] [] spCheckEnd
abbrev N_check_end : List Str := ["value"]
theorem sc_check_end : FnScope N_check_end ["value"] (defScope (top 18)) := ⟨rfl, rfl, rfl, by decide +kernel, rfl, by decide +kernel, by decide +kernel⟩
theorem ok_check_end (T : TX K mg) (D : DefAt K mg "check_end" (top 18) []) (c_check_number : F_check_number P w K mg base)  : F_check_end P w K mg base := by
  refine fn_ok D sc_check_end (by decide +kernel) (fun _ _ _ _ _ _ us hl => match us, hl with | [_], _ => rfl) (fun vs H Q E h => len1 h) (fun f cdv A outer s H vs Q E hr h => ?_)
  have nd := sc_check_end.nd
  obtain ⟨v0, rfl, h⟩ := h
  refine ⟨_, (pss_one (ps_if (pt_cmpR op_notN (pv 0) pe_non (nomark _)) (pss_one (ps_expr (pe_fn c_check_number hr (by rfl) (pa_cons (pv 0) pa_nil)))) pss_nil)), ?_⟩
  obtain ⟨o, rfl, hi, q⟩ := h
  cases o with
  | none => exact ⟨_, rfl, rfl, _, rfl, iteF q⟩
  | some i => exact ⟨_, rfl, rfl, _, rfl, ite_tt ⟨_, rfl, _, rfl, i, rfl, hi, q⟩⟩
def spMayTake : Sp := sp2 fun x y H Q => ∃ (l : Int) (c : Option Int), x = .int l ∧ y = vo c ∧ isN l = true ∧ isE c = true ∧ Q (.bl (leE l c)) H
/-! ### may_take -/
abbrev F_may_take (P : Program) (w : World) (K : PySem.W.Frag) (mg : Str → Option Value) (base : Heap) : Prop := Fn P w K mg base CX0 4 "may_take" ["light", "ceiling"] [] spMayTake
abbrev N_may_take : List Str := ["light", "ceiling"]
theorem sc_may_take : FnScope N_may_take ["light", "ceiling"] (defScope (top 21)) := ⟨rfl, rfl, rfl, by decide +kernel, rfl, by decide +kernel, by decide +kernel⟩
theorem ok_may_take (T : TX K mg) (D : DefAt K mg "may_take" (top 21) []) (c_check_number : F_check_number P w K mg base) (c_check_end : F_check_end P w K mg base)  : F_may_take P w K mg base := by
  refine fn_ok D sc_may_take (by decide +kernel) (fun _ _ _ _ _ _ us hl => match us, hl with | [_, _], _ => rfl) (fun vs H Q E h => len2 h) (fun f cdv A outer s H vs Q E hr h => ?_)
  have nd := sc_may_take.nd
  obtain ⟨v0, v1, rfl, h⟩ := h
  refine ⟨_, (pss_cons (ps_expr (pe_fn c_check_number hr (by rfl) (pa_cons (pv 0) pa_nil)))
      (pss_cons (ps_expr (pe_fn c_check_end hr (by rfl) (pa_cons (pv 1) pa_nil)))
      (pss_one (ps_ret (pe_or (pe_cmpR op_isN (pv 1) pe_non (nomark _)) (pe_one (pe_cmpR op_le (pv 0) (pv 1) (nomark _)))))))), ?_⟩
  obtain ⟨l, c, rfl, rfl, hl, hc, q⟩ := h
  refine ⟨_, rfl, _, rfl, l, rfl, hl, ⟨_, rfl, _, rfl, c, rfl, hc, ⟨_, rfl, rfl, ?_⟩⟩⟩
  cases c with
  | none => exact ⟨_, rfl, ite_tt q⟩
  | some c => exact ⟨_, rfl, iteF ⟨_, rfl, _, rfl, _, _, rfl, rfl, q⟩⟩
def spLetsPass : Sp := sp3 fun x y z H Q => ∃ (lo hi : Option Int) (l : Int), x = vo lo ∧ y = vo hi ∧ z = .int l ∧ Q (.bl (letB lo hi l)) H
/-! ### lets_pass -/
abbrev F_lets_pass (P : Program) (w : World) (K : PySem.W.Frag) (mg : Str → Option Value) (base : Heap) : Prop := Fn P w K mg base CX0 1 "lets_pass" ["low", "high", "light"] [] spLetsPass
abbrev N_lets_pass : List Str := ["low", "high", "light"]
theorem sc_lets_pass : FnScope N_lets_pass ["low", "high", "light"] (defScope (top 36)) := ⟨rfl, rfl, rfl, by decide +kernel, rfl, by decide +kernel, by decide +kernel⟩
theorem ok_lets_pass (T : TX K mg) (D : DefAt K mg "lets_pass" (top 36) [])   : F_lets_pass P w K mg base := by
  refine fn_ok D sc_lets_pass (by decide +kernel) (fun _ _ _ _ _ _ us hl => match us, hl with | [_, _, _], _ => rfl) (fun vs H Q E h => len3 h) (fun f cdv A outer s H vs Q E hr h => ?_)
  have nd := sc_lets_pass.nd
  obtain ⟨v0, v1, v2, rfl, h⟩ := h
  refine ⟨_, (pss_one (ps_ret (pe_and (pe_or (pe_cmpR op_isN (pv 0) pe_non (nomark _)) (pe_one (pe_cmpR op_le (pv 0) (pv 2) (nomark _)))) (pe_one (pe_or (pe_cmpR op_isN (pv 1) pe_non (nomark _)) (pe_one (pe_cmpR op_le (pv 2) (pv 1) (nomark _)))))))), ?_⟩
  obtain ⟨lo, hi, l, rfl, rfl, rfl, q⟩ := h
  have fin : ∀ b, b = leE l hi → (if b = true then Q (.bl (geE l lo && true)) H else Q (.bl (geE l lo && false)) H) := fun b e => by
    subst e
    cases e : leE l hi with
    | true => exact ite_tt (by unfold letB at q; rw [e] at q; exact q)
    | false => exact iteF (by unfold letB at q; rw [e] at q; exact q)
  have tail : geE l lo = true → (∀ R : VK, (R (.bl (leE l hi)) H) → ∃ v, [some (vo lo), some (vo hi), some (V.int l)][1]? = some (some v) ∧ v = v) := fun _ _ _ => ⟨_, rfl, rfl⟩
  cases lo with
  | none =>
    refine ⟨_, rfl, rfl, _, rfl, ite_tt ⟨_, rfl, ite_tt ⟨_, rfl, rfl, ?_⟩⟩⟩
    cases hi with
    | none => exact ⟨_, rfl, ite_tt q⟩
    | some h => exact ⟨_, rfl, iteF ⟨_, rfl, _, rfl, _, _, rfl, rfl, q⟩⟩
  | some lo =>
    refine ⟨_, rfl, rfl, _, rfl, iteF ⟨_, rfl, _, rfl, _, _, rfl, rfl, _, rfl, ?_⟩⟩
    cases e : decide (lo ≤ l) with
    | false =>
      refine iteF ?_
      have q' : Q (.bl (decide (lo ≤ l) && leE l hi)) H := q
      rw [e] at q'
      exact q'
    | true =>
      have q' : Q (.bl (decide (lo ≤ l) && leE l hi)) H := q
      rw [e] at q'
      refine ite_tt ⟨_, rfl, rfl, ?_⟩
      cases hi with
      | none => exact ⟨_, rfl, ite_tt q'⟩
      | some h => exact ⟨_, rfl, iteF ⟨_, rfl, _, rfl, _, _, rfl, rfl, q'⟩⟩
end
end OB

/-! ## P2 -/
set_option maxHeartbeats 4000000
namespace OB
open PySem PySem.Spec PyProof.Rows L2
/-- an object is made, known for good -/
theorem Gr.made {S : List Addr} {B H : Hp} {x dx C : Addr} {fs : List (Str × V)} (h : ExW B H) (hx : H x = none) (hd : H dx = none) (ne : dx ≠ x) : Gr S B H (upd B x (.ins C dx fs)) (upd (upd H dx (.own x)) x (.ins C dx fs)) := by
  have g1 : Gr S B H B (upd H dx (.own x)) := Gr.new_ h hd
  have hx1 : (upd H dx (.own x)) x = none := by rw [upd_ne ne.symm]; exact hx
  exact (g1.trans (Gr.new_ g1.sub hx1)).pub hx (h.none hx) upd_same
theorem spanF_put {v w : V} : putF "high" w (putF "low" v []) = spanF v w := by
  show (if ("low" : Str) = "high" then _ else (("low" : Str), v) :: putF "high" w []) = _
  rw [if_neg (by decide +kernel)]
  rfl
section
variable {P : Program} {w : World} {K : PySem.W.Frag} {mg : Str → Option Value} {base : Heap}
/-- low above high is not -/
def okE (lo hi : Option Int) : Bool := match lo, hi with
  | some l, some h => decide (l ≤ h)
  | _, _ => true
def spSpan (K : PySem.W.Frag) : Sp := sp3 fun a b c H Q => ∃ x dx lo hi, a = .ref x ∧ H x = some (.ins (He.ga K "Span") dx []) ∧ b = vo lo ∧ c = vo hi ∧ isE lo = true ∧ isE hi = true ∧ okE lo hi = true ∧ Q .non (upd H x (.ins (He.ga K "Span") dx (spanF (vo lo) (vo hi))))
/-! ### Span.__init__ -/
abbrev F_Span_init (P : Program) (w : World) (K : PySem.W.Frag) (mg : Str → Option Value) (base : Heap) : Prop := FnI P w K mg base 4 "Span" "__init__" ["self", "low", "high"] [] (spSpan K)
abbrev N_Span_init : List Str := ["self", "low", "high"]
theorem sc_Span_init : FnScope N_Span_init ["self", "low", "high"] (defScope (inClass (top 23) 0)) := ⟨rfl, rfl, rfl, by decide +kernel, rfl, by decide +kernel, by decide +kernel⟩
theorem ok_Span_init (T : TX K mg) (D : FnIAt K mg "Span" "__init__" "Span.__init__" (inClass (top 23) 0) [.non, .non]) (c_check_end : F_check_end P w K mg base)  : F_Span_init P w K mg base := by
  refine fnI_okD D sc_Span_init (by decide +kernel) 3 2 (by decide) (by decide) (fun _ _ _ _ _ _ _ us its hl hi => match us, hl, its, hi with | [_, _, _], _, [_, _], _ => ⟨_, rfl, rfl⟩) (fun vs H Q E h => len3 h) (fun f cdv A outer s H vs Q E hr h => ?_)
  have nd := sc_Span_init.nd
  obtain ⟨v0, v1, v2, rfl, h⟩ := h
  refine ⟨_, (pss_cons (ps_expr (pe_fn c_check_end hr (by rfl) (pa_cons (pv 1) pa_nil)))
      (pss_cons (ps_expr (pe_fn c_check_end hr (by rfl) (pa_cons (pv 2) pa_nil)))
      (pss_cons (ps_if (PW.pt (pw_and (pt_cmpR op_notN (pv 1) pe_non (nomark _)) (pw_and (pt_cmpR op_notN (pv 2) pe_non (nomark _)) (pw_and1 (pt_cmpR op_gt (pv 1) (pv 2) (nomark _)))))) (pss_one ps_never) pss_nil)
      (pss_cons (ps_fd T.clSpan T.n_low (pv 0) (pv 1) rfl)
      (pss_one (ps_fd T.clSpan T.n_high (pv 0) (pv 2) rfl)))))), ?_⟩
  obtain ⟨x, dx, lo, hi, rfl, hx, rfl, rfl, h1, h2, h3, q⟩ := h
  refine ⟨_, rfl, _, rfl, lo, rfl, h1, _, rfl, _, rfl, hi, rfl, h2, ?_⟩
  have fin : ∀ D : Ends, D.nx = (fun _ H' => Q .non H') → sFd (He.ga K "Span") (tVar 0) (tVar 1) "low" { D with nx := fun σ H => sFd (He.ga K "Span") (tVar 0) (tVar 2) "high" D σ H } [some (V.ref x), some (vo lo), some (vo hi)] H := by
    intro D hD
    refine ⟨_, rfl, _, rfl, x, dx, [], rfl, hx, (by show 0 < 1000; decide), _, rfl, _, rfl, x, dx, _, rfl, upd_same, (by show 1 < 1000; decide), ?_⟩
    show D.nx _ _
    rw [hD, upd_upd, spanF_put]
    exact q
  cases lo with
  | none => exact ⟨_, rfl, rfl, _, rfl, iteF (iteF (fin _ rfl))⟩
  | some l =>
    cases hi with
    | none => exact ⟨_, rfl, rfl, _, rfl, ite_tt ⟨_, rfl, rfl, _, rfl, iteF (iteF (fin _ rfl))⟩⟩
    | some h =>
      refine ⟨_, rfl, rfl, _, rfl, ite_tt ⟨_, rfl, rfl, _, rfl, ite_tt ⟨_, rfl, _, rfl, _, _, rfl, rfl, _, rfl, ?_⟩⟩⟩
      have : l ≤ h := of_decide_eq_true h3
      rw [decide_eq_false (by omega)]
      exact iteF (fin _ rfl)
def spInSpan (K : PySem.W.Frag) : Sp := sp2 fun a b H Q => ∃ B lo hi l, ExW B H ∧ (rSpan K).rel B (lo, hi) a ∧ b = .int l ∧ Q (.bl (letB lo hi l)) H
/-! ### Span.__contains__ -/
abbrev F_Span_contains (P : Program) (w : World) (K : PySem.W.Frag) (mg : Str → Option Value) (base : Heap) : Prop := FnM P w K mg base 1 "Span" "__contains__" ["self", "light"] [] (spInSpan K)
abbrev N_Span_contains : List Str := ["self", "light"]
theorem sc_Span_contains : FnScope N_Span_contains ["self", "light"] (defScope (inClass (top 23) 2)) := ⟨rfl, rfl, rfl, by decide +kernel, rfl, by decide +kernel, by decide +kernel⟩
theorem ok_Span_contains (T : TX K mg) (D : FnMAt K "Span" "__contains__" "Span.__contains__" (inClass (top 23) 2) [])   : F_Span_contains P w K mg base := by
  refine fnM_ok D sc_Span_contains (by decide +kernel) (fun _ _ _ _ _ _ us hl => match us, hl with | [_, _], _ => rfl) (fun vs H Q E h => len2 h) (fun f cdv A outer s H vs Q E hr h => ?_)
  have nd := sc_Span_contains.nd
  obtain ⟨v0, v1, rfl, h⟩ := h
  refine ⟨_, (pss_cons (ps_if (PW.pt (pw_and (pt_cmpR op_notN (pe_fd T.clSpan T.n_low (pv 0) rfl) pe_non (nomark _)) (pw_and1 (pt_cmpR op_lt (pv 1) (pe_fd T.clSpan T.n_low (pv 0) rfl) (nomark _))))) (pss_one (ps_ret pe_bl)) pss_nil)
      (pss_one (ps_ret (pe_or (pe_cmpR op_isN (pe_fd T.clSpan T.n_high (pv 0) rfl) pe_non (nomark _)) (pe_one (pe_cmpR op_le (pv 1) (pe_fd T.clSpan T.n_high (pv 0) rfl) (nomark _))))))), ?_⟩
  obtain ⟨B, lo, hi, l, hB, ⟨a, dx, rfl, ha⟩, rfl, q⟩ := h
  have ha := hB.ins ha
  cases lo with
  | none =>
    refine ⟨_, rfl, a, dx, _, _, rfl, ha, spanF_low, rfl, _, rfl, iteF (iteF ⟨_, rfl, a, dx, _, _, rfl, ha, spanF_high, rfl, ?_⟩)⟩
    cases hi with
    | none => exact ⟨_, rfl, ite_tt q⟩
    | some h => exact ⟨_, rfl, iteF ⟨_, rfl, _, rfl, a, dx, _, _, rfl, ha, spanF_high, _, _, rfl, rfl, q⟩⟩
  | some lo =>
    refine ⟨_, rfl, a, dx, _, _, rfl, ha, spanF_low, rfl, _, rfl, ite_tt ⟨_, rfl, _, rfl, a, dx, _, _, rfl, ha, spanF_low, _, _, rfl, rfl, _, rfl, ?_⟩⟩
    refine ite2 (fun e => ?_) (fun e => ?_)
    · have e := of_decide_eq_true e
      have : letB (some lo) hi l = false := by
        unfold letB
        show (decide (lo ≤ l) && _) = false
        rw [decide_eq_false (by omega)]
        rfl
      rw [this] at q
      exact q
    · have e : lo ≤ l := by simpa using e
      refine ⟨_, rfl, a, dx, _, _, rfl, ha, spanF_high, rfl, ?_⟩
      have q' : Q (.bl (decide (lo ≤ l) && leE l hi)) H := q
      rw [decide_eq_true e] at q'
      cases hi with
      | none => exact ⟨_, rfl, ite_tt q'⟩
      | some h => exact ⟨_, rfl, iteF ⟨_, rfl, _, rfl, a, dx, _, _, rfl, ha, spanF_high, _, _, rfl, rfl, q'⟩⟩
/-! ### what a web tells -/
def spWebIn (K : PySem.W.Frag) : Sp := sp2 fun a b H Q => ∃ B n x, ExW B H ∧ (rWeb K).rel B n a ∧ b = .str x ∧ Q (.bl (decide (x ∈ n.names))) H
theorem look_some {β : Type} {l : List (Str × β)} {k : Str} : (l.lookup k).isSome = decide (k ∈ l.map (·.1)) := by
  induction l with
  | nil => rfl
  | cons p r ih =>
    rw [List.lookup_cons, List.map_cons]
    cases e : k == p.1 with
    | true =>
      have : k = p.1 := eq_of_beq e
      simp [this]
    | false =>
      have : ¬ k = p.1 := by simpa using e
      show (r.lookup k).isSome = _
      rw [ih]
      simp [this]
/-! ### Web.__contains__ -/
abbrev F_Web_contains (P : Program) (w : World) (K : PySem.W.Frag) (mg : Str → Option Value) (base : Heap) : Prop := FnM P w K mg base 1 "Web" "__contains__" ["self", "lamp"] [] (spWebIn K)
abbrev N_Web_contains : List Str := ["self", "lamp"]
theorem sc_Web_contains : FnScope N_Web_contains ["self", "lamp"] (defScope (inClass (top 71) 15)) := ⟨rfl, rfl, rfl, by decide +kernel, rfl, by decide +kernel, by decide +kernel⟩
theorem ok_Web_contains (T : TX K mg) (D : FnMAt K "Web" "__contains__" "Web.__contains__" (inClass (top 71) 15) [])   : F_Web_contains P w K mg base := by
  refine fnM_ok D sc_Web_contains (by decide +kernel) (fun _ _ _ _ _ _ us hl => match us, hl with | [_, _], _ => rfl) (fun vs H Q E h => len2 h) (fun f cdv A outer s H vs Q E hr h => ?_)
  have nd := sc_Web_contains.nd
  obtain ⟨v0, v1, rfl, h⟩ := h
  refine ⟨_, (pss_one (ps_ret (pe_cmp (pc_din (hu_of hr) (pv 1) (pe_fd T.clWeb T.n_own_ceilings (pv 0) rfl))))), ?_⟩
  obtain ⟨B, n, x, hB, ⟨ok, a, dx, v1, v2, v3, v4, v5, v6, v7, rfl, ha, r1, r2, r3, r4, r5, r6⟩, rfl, q⟩ := h
  obtain ⟨d, o, rfl, hd, ho⟩ := dinB (k := x) r4 hB
  refine ⟨_, rfl, _, rfl, a, dx, _, _, rfl, hB.ins ha, netF4, d, o, rfl, hd, ?_⟩
  rw [ho, look_some]
  exact q
/-- a list is copied -/
theorem copyL {α : Type} {R : Rp α} {B H : Hp} {xs : List α} {v : V} {Q : VK} (hB : ExW B H) (h : (rL R).rel B xs v) (q : Ret (rL R) xs B H Q) {K : PySem.W.Frag} : ∃ p ys, [v] = [.ref p] ∧ (SqL K H p ys ∨ SqT K H p ys) ∧ ∀ l, H l = none → Q (.ref l) (upd H l (.lst ys)) := by
  obtain ⟨p, vs, rfl, h1, h2⟩ := h
  exact ⟨p, vs, rfl, .inl (SqL.of (hB.lst h1)), fun l hl => q.newL (Gr.new_ hB hl) ⟨l, vs, rfl, hl, hB.none hl, upd_same, h2⟩⟩
def spWebLamps (K : PySem.W.Frag) : Sp := sp1 fun a H Q => ∃ B n, ExW B H ∧ (rWeb K).rel B n a ∧ Ret (rL rStr) n.names B H Q
/-! ### Web.lamps -/
abbrev F_Web_lamps (P : Program) (w : World) (K : PySem.W.Frag) (mg : Str → Option Value) (base : Heap) : Prop := FnP P w K mg base 1 "Web" "lamps" ["self"] [] (spWebLamps K)
abbrev N_Web_lamps : List Str := ["self"]
theorem sc_Web_lamps : FnScope N_Web_lamps ["self"] (defScope (inClass (top 71) 1)) := ⟨rfl, rfl, rfl, by decide +kernel, rfl, by decide +kernel, by decide +kernel⟩
theorem ok_Web_lamps (T : TX K mg) (D : FnPAt K "Web" "lamps" "Web.lamps" (inClass (top 71) 1) [])   : F_Web_lamps P w K mg base := by
  refine fnP_ok D sc_Web_lamps (by decide +kernel) (fun _ _ _ _ _ _ us hl => match us, hl with | [_], _ => rfl) (fun vs H Q E h => len1 h) (fun f cdv A outer s H vs Q E hr h => ?_)
  have nd := sc_Web_lamps.nd
  obtain ⟨v0, rfl, h⟩ := h
  refine ⟨_, (pss_one (ps_ret (pe_callTy (k_list K) (by rfl) T.list bt_list (pa_cons (pe_fd T.clWeb T.n_own_lamps (pv 0) rfl) pa_nil)))), ?_⟩
  obtain ⟨B, n, hB, ⟨ok, a, dx, v1, v2, v3, v4, v5, v6, v7, rfl, ha, r1, r2, r3, r4, r5, r6⟩, q⟩ := h
  exact ⟨_, rfl, a, dx, _, _, rfl, hB.ins ha, netF3, copyL hB r3 q⟩
def spWebBondRows (K : PySem.W.Frag) : Sp := sp1 fun a H Q => ∃ B n, ExW B H ∧ (rWeb K).rel B n a ∧ Ret (rL rBRow) n.bonds B H Q
/-! ### Web.bond_rows -/
abbrev F_Web_bond_rows (P : Program) (w : World) (K : PySem.W.Frag) (mg : Str → Option Value) (base : Heap) : Prop := FnP P w K mg base 1 "Web" "bond_rows" ["self"] [] (spWebBondRows K)
abbrev N_Web_bond_rows : List Str := ["self"]
theorem sc_Web_bond_rows : FnScope N_Web_bond_rows ["self"] (defScope (inClass (top 71) 4)) := ⟨rfl, rfl, rfl, by decide +kernel, rfl, by decide +kernel, by decide +kernel⟩
theorem ok_Web_bond_rows (T : TX K mg) (D : FnPAt K "Web" "bond_rows" "Web.bond_rows" (inClass (top 71) 4) [])   : F_Web_bond_rows P w K mg base := by
  refine fnP_ok D sc_Web_bond_rows (by decide +kernel) (fun _ _ _ _ _ _ us hl => match us, hl with | [_], _ => rfl) (fun vs H Q E h => len1 h) (fun f cdv A outer s H vs Q E hr h => ?_)
  have nd := sc_Web_bond_rows.nd
  obtain ⟨v0, rfl, h⟩ := h
  refine ⟨_, (pss_one (ps_ret (pe_callTy (k_list K) (by rfl) T.list bt_list (pa_cons (pe_fd T.clWeb T.n_own_bond_rows (pv 0) rfl) pa_nil)))), ?_⟩
  obtain ⟨B, n, hB, ⟨ok, a, dx, v1, v2, v3, v4, v5, v6, v7, rfl, ha, r1, r2, r3, r4, r5, r6⟩, q⟩ := h
  exact ⟨_, rfl, a, dx, _, _, rfl, hB.ins ha, netF2, copyL hB r2 q⟩
end
end OB

/-! ## P3 -/
set_option maxHeartbeats 4000000
namespace OB
open PySem PySem.Spec PyProof.Rows L2
section
variable {P : Program} {w : World} {K : PySem.W.Frag} {mg : Str → Option Value} {base : Heap}
theorem small {n : Nat} (h : n ≤ 1000) : n ≤ 100000 := by omega
/-- an item of a tuple of written values -/
theorem fixAt {α : Type} {f : α → List V} {B H : Hp} {x : α} {v : V} {i : Nat} {z : V} {Q : VK} {K : PySem.W.Frag} (hB : ExW B H) (h : (rFix f).rel B x v) (hi : (f x)[i]? = some z) (q : Q z H) :
    ∃ p xs i' v', v = .ref p ∧ V.int (i : Int) = .int i' ∧ SqT K H p xs ∧ atI xs i' = some v' ∧ Q v' H := by
  obtain ⟨a, rfl, h1⟩ := h
  exact ⟨a, f x, i, z, rfl, rfl, SqT.of (hB.tup h1), atI_nat hi, q⟩
def spWebBonds (K : PySem.W.Frag) : Sp := sp1 fun a H Q => ∃ B n, ExW B H ∧ (rWeb K).rel B n a ∧ Ret (rL rStr) (n.bonds.map (·.nm)) B H Q
/-! ### Web.bonds -/
abbrev F_Web_bonds (P : Program) (w : World) (K : PySem.W.Frag) (mg : Str → Option Value) (base : Heap) : Prop := FnP P w K mg base 1 "Web" "bonds" ["self"] [] (spWebBonds K)
abbrev N_Web_bonds : List Str := ["self", "row"]
theorem sc_Web_bonds : FnScope N_Web_bonds ["self"] (defScope (inClass (top 71) 2)) := ⟨rfl, rfl, rfl, by decide +kernel, rfl, by decide +kernel, by decide +kernel⟩
theorem ok_Web_bonds (T : TX K mg) (D : FnPAt K "Web" "bonds" "Web.bonds" (inClass (top 71) 2) [])   : F_Web_bonds P w K mg base := by
  refine fnP_ok D sc_Web_bonds (by decide +kernel) (fun _ _ _ _ _ _ us hl => match us, hl with | [_], _ => rfl) (fun vs H Q E h => len1 h) (fun f cdv A outer s H vs Q E hr h => ?_)
  have nd := sc_Web_bonds.nd
  obtain ⟨v0, rfl, h⟩ := h
  refine ⟨_, (pss_one (ps_ret (pe_lc (own := [("row", 1)]) rfl nd (kp_list K (pe_fd T.clWeb T.n_own_bond_rows (pv 0) rfl)) (blkOk_by (own := [("row", 1)]) (N := N_Web_bonds) (sc := defScope (inClass (top 71) 2)) (by decide +kernel)) (fun _ _ _ _ _ => (pg_name (i := 1) nd rfl (Or.inl rfl))) (fun _ _ _ _ _ => pts_nil) (fun _ _ _ _ _ => (pe_ix (kx_tup K) (pv 1) pe_int (fun _ _ => rfl)))))), ?_⟩
  obtain ⟨B, n, hB, ⟨ok, a, dx, v1, v2, v3, v4, v5, v6, v7, rfl, ha, r1, ⟨l, vs, rfl, hl, rows⟩, r3, r4, r5, r6⟩, q⟩ := h
  refine ⟨_, rfl, a, dx, _, _, rfl, hB.ins ha, netF2, l, rfl, ⟨_, SqL.of (hB.lst hl)⟩, fun D hD => lc_map (Rs := rBRow) (R := rStr) (·.nm) (src_list hl) hB hD rows (by rw [← rows.len]; exact small (Nat.le_trans ok.blen (by decide))) (fun y x B1 H1 K1 hy hx g k => ?_) fun B' H' g h => q.newL g h⟩
  exact ⟨_, rfl, fixAt (i := 0) g.sub hx rfl (k _ _ _ (Gr.refl g.sub) rfl)⟩
def spCheckKnown : Sp := sp2 fun a b H Q => ∃ x d o, a = .str x ∧ b = .ref d ∧ DGet H d (.str x) o ∧ o.isSome = true ∧ Q .non H
/-! ### check_known -/
abbrev F_check_known (P : Program) (w : World) (K : PySem.W.Frag) (mg : Str → Option Value) (base : Heap) : Prop := Fn P w K mg base CX0 1 "check_known" ["name", "known"] [] spCheckKnown
abbrev N_check_known : List Str := ["name", "known"]
theorem sc_check_known : FnScope N_check_known ["name", "known"] (defScope (top 66)) := ⟨rfl, rfl, rfl, by decide +kernel, rfl, by decide +kernel, by decide +kernel⟩
theorem ok_check_known (T : TX K mg) (D : DefAt K mg "check_known" (top 66) [])   : F_check_known P w K mg base := by
  refine fn_ok D sc_check_known (by decide +kernel) (fun _ _ _ _ _ _ us hl => match us, hl with | [_, _], _ => rfl) (fun vs H Q E h => len2 h) (fun f cdv A outer s H vs Q E hr h => ?_)
  have nd := sc_check_known.nd
  obtain ⟨v0, v1, rfl, h⟩ := h
  refine ⟨_, (pss_one (ps_if (pt_cmp (pc_dnotin (hu_of hr) (pv 0) (pv 1))) (pss_one ps_never) pss_nil)), ?_⟩
  obtain ⟨x, d, o, rfl, rfl, hd, ho, q⟩ := h
  refine ⟨_, rfl, _, rfl, d, o, rfl, hd, _, rfl, ?_⟩
  rw [ho]
  exact iteF q
/-- the ceiling of a lamp -/
def Net.ceil (n : Net) (x : Str) : Option Int := (n.lamps.lookup x).getD none
theorem Net.ceil_look {n : Net} {x : Str} (h : x ∈ n.names) : n.lamps.lookup x = some (n.ceil x) := by
  have : (n.lamps.lookup x).isSome = true := by rw [look_some]; exact decide_eq_true h
  unfold Net.ceil
  cases e : n.lamps.lookup x with
  | none => rw [e] at this; cases this
  | some c => rfl
def spCeiling (K : PySem.W.Frag) : Sp := sp2 fun a b H Q => ∃ B n x, ExW B H ∧ (rWeb K).rel B n a ∧ b = .str x ∧ x ∈ n.names ∧ Q (vo (n.ceil x)) H
/-! ### Web.ceiling -/
abbrev F_Web_ceiling (P : Program) (w : World) (K : PySem.W.Frag) (mg : Str → Option Value) (base : Heap) : Prop := FnM P w K mg base 2 "Web" "ceiling" ["self", "lamp"] [] (spCeiling K)
abbrev N_Web_ceiling : List Str := ["self", "lamp"]
theorem sc_Web_ceiling : FnScope N_Web_ceiling ["self", "lamp"] (defScope (inClass (top 71) 5)) := ⟨rfl, rfl, rfl, by decide +kernel, rfl, by decide +kernel, by decide +kernel⟩
theorem ok_Web_ceiling (T : TX K mg) (D : FnMAt K "Web" "ceiling" "Web.ceiling" (inClass (top 71) 5) []) (c_check_known : F_check_known P w K mg base)  : F_Web_ceiling P w K mg base := by
  refine fnM_ok D sc_Web_ceiling (by decide +kernel) (fun _ _ _ _ _ _ us hl => match us, hl with | [_, _], _ => rfl) (fun vs H Q E h => len2 h) (fun f cdv A outer s H vs Q E hr h => ?_)
  have nd := sc_Web_ceiling.nd
  obtain ⟨v0, v1, rfl, h⟩ := h
  refine ⟨_, (pss_cons (ps_expr (pe_fn c_check_known hr (by rfl) (pa_cons (pv 1) (pa_cons (pe_fd T.clWeb T.n_own_ceilings (pv 0) rfl) pa_nil))))
      (pss_one (ps_ret (pe_dget (hu_of hr) (pe_fd T.clWeb T.n_own_ceilings (pv 0) rfl) (pv 1) (fun _ _ => rfl))))), ?_⟩
  obtain ⟨B, n, x, hB, ⟨ok, a, dx, v1, v2, v3, v4, v5, v6, v7, rfl, ha, r1, r2, r3, r4, r5, r6⟩, rfl, hx, q⟩ := h
  obtain ⟨d, u, rfl, hd, hu⟩ := dgetB (k := x) r4 hB (Net.ceil_look hx)
  refine ⟨_, rfl, _, rfl, a, dx, _, _, rfl, hB.ins ha, netF4, _, _, rfl, x, d, some u, rfl, rfl, hd, rfl, ?_⟩
  refine ⟨_, rfl, a, dx, _, _, rfl, hB.ins ha, netF4, _, rfl, d, u, rfl, hd, ?_⟩
  rw [show u = vo (n.ceil x) from hu]
  exact q
def spEnds (K : PySem.W.Frag) : Sp := sp2 fun a b H Q => ∃ B n y, ExW B H ∧ (rWeb K).rel B n a ∧ y ∈ n.bonds ∧ b = .str y.nm ∧ ∀ v, rPair.rel B (y.a, y.b) v → Q v H
/-! ### Web.ends -/
abbrev F_Web_ends (P : Program) (w : World) (K : PySem.W.Frag) (mg : Str → Option Value) (base : Heap) : Prop := FnM P w K mg base 2 "Web" "ends" ["self", "bond"] [] (spEnds K)
abbrev N_Web_ends : List Str := ["self", "bond"]
theorem sc_Web_ends : FnScope N_Web_ends ["self", "bond"] (defScope (inClass (top 71) 6)) := ⟨rfl, rfl, rfl, by decide +kernel, rfl, by decide +kernel, by decide +kernel⟩
theorem ok_Web_ends (T : TX K mg) (D : FnMAt K "Web" "ends" "Web.ends" (inClass (top 71) 6) []) (c_check_known : F_check_known P w K mg base)  : F_Web_ends P w K mg base := by
  refine fnM_ok D sc_Web_ends (by decide +kernel) (fun _ _ _ _ _ _ us hl => match us, hl with | [_, _], _ => rfl) (fun vs H Q E h => len2 h) (fun f cdv A outer s H vs Q E hr h => ?_)
  have nd := sc_Web_ends.nd
  obtain ⟨v0, v1, rfl, h⟩ := h
  refine ⟨_, (pss_cons (ps_expr (pe_fn c_check_known hr (by rfl) (pa_cons (pv 1) (pa_cons (pe_fd T.clWeb T.n_own_ends (pv 0) rfl) pa_nil))))
      (pss_one (ps_ret (pe_dget (hu_of hr) (pe_fd T.clWeb T.n_own_ends (pv 0) rfl) (pv 1) (fun _ _ => rfl))))), ?_⟩
  obtain ⟨B, n, y, hB, ⟨ok, a, dx, v1, v2, v3, v4, v5, v6, v7, rfl, ha, r1, r2, r3, r4, r5, r6⟩, hy, rfl, q⟩ := h
  obtain ⟨d, u, rfl, hd, hu⟩ := dgetB (k := y.nm) r5 hB (look_mem (kf := fun (b : Bond) => b.nm) (vf := fun (b : Bond) => (b.a, b.b)) ok.bnd hy)
  refine ⟨_, rfl, _, rfl, a, dx, _, _, rfl, hB.ins ha, netF5, _, _, rfl, y.nm, d, some u, rfl, rfl, hd, rfl, ?_⟩
  exact ⟨_, rfl, a, dx, _, _, rfl, hB.ins ha, netF5, _, rfl, d, u, rfl, hd, q u hu⟩
def spLets (K : PySem.W.Frag) : Sp := sp3 fun a b c H Q => ∃ B n y l, ExW B H ∧ (rWeb K).rel B n a ∧ y ∈ n.bonds ∧ b = .str y.nm ∧ c = .int l ∧ isN l = true ∧ Q (.bl (letB y.lo y.hi l)) H
/-! ### Web.lets -/
abbrev F_Web_lets (P : Program) (w : World) (K : PySem.W.Frag) (mg : Str → Option Value) (base : Heap) : Prop := FnM P w K mg base 3 "Web" "lets" ["self", "bond", "light"] [] (spLets K)
abbrev N_Web_lets : List Str := ["self", "bond", "light"]
theorem sc_Web_lets : FnScope N_Web_lets ["self", "bond", "light"] (defScope (inClass (top 71) 8)) := ⟨rfl, rfl, rfl, by decide +kernel, rfl, by decide +kernel, by decide +kernel⟩
theorem ok_Web_lets (T : TX K mg) (D : FnMAt K "Web" "lets" "Web.lets" (inClass (top 71) 8) []) (c_check_number : F_check_number P w K mg base) (c_check_known : F_check_known P w K mg base) (c_Span_contains : F_Span_contains P w K mg base)  : F_Web_lets P w K mg base := by
  refine fnM_ok D sc_Web_lets (by decide +kernel) (fun _ _ _ _ _ _ us hl => match us, hl with | [_, _, _], _ => rfl) (fun vs H Q E h => len3 h) (fun f cdv A outer s H vs Q E hr h => ?_)
  have nd := sc_Web_lets.nd
  obtain ⟨v0, v1, v2, rfl, h⟩ := h
  refine ⟨_, (pss_cons (ps_expr (pe_fn c_check_number hr (by rfl) (pa_cons (pv 2) pa_nil)))
      (pss_cons (ps_expr (pe_fn c_check_known hr (by rfl) (pa_cons (pv 1) (pa_cons (pe_fd T.clWeb T.n_own_spans (pv 0) rfl) pa_nil))))
      (pss_one (ps_ret (pe_cmpR (op_inOwn c_Span_contains hr) (pv 2) (pe_dget (hu_of hr) (pe_fd T.clWeb T.n_own_spans (pv 0) rfl) (pv 1) (fun _ _ => rfl)) (by rfl)))))), ?_⟩
  obtain ⟨B, n, y, l, hB, ⟨ok, a, dx, v1, v2, v3, v4, v5, v6, v7, rfl, ha, r1, r2, r3, r4, r5, r6⟩, hy, rfl, rfl, hl, q⟩ := h
  obtain ⟨d, u, rfl, hd, hu⟩ := dgetB (k := y.nm) r6 hB (look_mem (kf := fun (b : Bond) => b.nm) (vf := fun (b : Bond) => (b.lo, b.hi)) ok.bnd hy)
  refine ⟨_, rfl, _, rfl, l, rfl, hl, _, rfl, _, rfl, a, dx, _, _, rfl, hB.ins ha, netF6, _, _, rfl, y.nm, d, some u, rfl, rfl, hd, rfl, ?_⟩
  have hu' := hu
  obtain ⟨sa, sdx, rfl, hs⟩ := hu'
  refine ⟨_, rfl, _, rfl, a, dx, _, _, rfl, hB.ins ha, netF6, _, rfl, d, _, rfl, hd, sa, sdx, _, rfl, hB.ins hs, _, _, rfl, B, y.lo, y.hi, l, hB, ⟨sa, sdx, rfl, hs⟩, rfl, _, rfl, q⟩
end
end OB

/-! ## P4 -/
set_option maxHeartbeats 4000000
namespace OB
open PySem PySem.Spec PyProof.Rows L2
def rU : Rp Unit := ⟨fun _ _ _ => True, fun _ h => h⟩
theorem worldF_put {a b c d : V} : putF "own_pairs" d (putF "own_row" c (putF "own_table" b (putF "own_web" a []))) = worldF a b c d := by
  show (if ("own_web" : Str) = "own_table" then _ else _) |> fun l => putF "own_pairs" d (putF "own_row" c l) = worldF a b c d
  rw [if_neg (by decide +kernel)]
  show putF "own_pairs" d (if ("own_web" : Str) = "own_row" then _ else (_ :: if ("own_table" : Str) = "own_row" then _ else _)) = _
  rw [if_neg (by decide +kernel), if_neg (by decide +kernel)]
  show (if ("own_web" : Str) = "own_pairs" then _ else (_ :: if ("own_table" : Str) = "own_pairs" then _ else (_ :: if ("own_row" : Str) = "own_pairs" then _ else _))) = _
  rw [if_neg (by decide +kernel), if_neg (by decide +kernel), if_neg (by decide +kernel)]
  rfl
section
variable {P : Program} {w : World} {K : PySem.W.Frag} {mg : Str → Option Value} {base : Heap}
def spWorldWeb (K : PySem.W.Frag) : Sp := sp1 fun a H Q => ∃ B n S, ExW B H ∧ (rWorld K).rel B (n, S) a ∧ ∀ v, (rWeb K).rel B n v → Q v H
/-! ### World.web -/
abbrev F_World_web (P : Program) (w : World) (K : PySem.W.Frag) (mg : Str → Option Value) (base : Heap) : Prop := FnP P w K mg base 1 "World" "web" ["self"] [] (spWorldWeb K)
abbrev N_World_web : List Str := ["self"]
theorem sc_World_web : FnScope N_World_web ["self"] (defScope (inClass (top 25) 3)) := ⟨rfl, rfl, rfl, by decide +kernel, rfl, by decide +kernel, by decide +kernel⟩
theorem ok_World_web (T : TX K mg) (D : FnPAt K "World" "web" "World.web" (inClass (top 25) 3) [])   : F_World_web P w K mg base := by
  refine fnP_ok D sc_World_web (by decide +kernel) (fun _ _ _ _ _ _ us hl => match us, hl with | [_], _ => rfl) (fun vs H Q E h => len1 h) (fun f cdv A outer s H vs Q E hr h => ?_)
  have nd := sc_World_web.nd
  obtain ⟨v0, rfl, h⟩ := h
  refine ⟨_, (pss_one (ps_ret (pe_fd T.clWorld T.n_own_web (pv 0) rfl))), ?_⟩
  obtain ⟨B, n, S, hB, ⟨ok, a, dx, v1, v2, v3, v4, rfl, ha, r1, r2, r3⟩, q⟩ := h
  exact ⟨_, rfl, a, dx, _, _, rfl, hB.ins ha, worldF1, q _ r1⟩
def spWorldLights (K : PySem.W.Frag) : Sp := sp1 fun a H Q => ∃ B n S, ExW B H ∧ (rWorld K).rel B (n, S) a ∧ Ret (rD rInt) (glow n.names S) B H Q
/-! ### World.lights -/
abbrev F_World_lights (P : Program) (w : World) (K : PySem.W.Frag) (mg : Str → Option Value) (base : Heap) : Prop := FnP P w K mg base 1 "World" "lights" ["self"] [] (spWorldLights K)
abbrev N_World_lights : List Str := ["self"]
theorem sc_World_lights : FnScope N_World_lights ["self"] (defScope (inClass (top 25) 4)) := ⟨rfl, rfl, rfl, by decide +kernel, rfl, by decide +kernel, by decide +kernel⟩
theorem ok_World_lights (T : TX K mg) (D : FnPAt K "World" "lights" "World.lights" (inClass (top 25) 4) [])   : F_World_lights P w K mg base := by
  refine fnP_ok D sc_World_lights (by decide +kernel) (fun _ _ _ _ _ _ us hl => match us, hl with | [_], _ => rfl) (fun vs H Q E h => len1 h) (fun f cdv A outer s H vs Q E hr h => ?_)
  have nd := sc_World_lights.nd
  obtain ⟨v0, rfl, h⟩ := h
  refine ⟨_, (pss_one (ps_ret (pe_callTy call_dictD (by rfl) T.dict bt_dict (pa_cons (pe_fd T.clWorld T.n_own_table (pv 0) rfl) pa_nil)))), ?_⟩
  obtain ⟨B, n, S, hB, ⟨ok, a, dx, v1, v2, v3, v4, rfl, ha, r1, ⟨d, kvs, rfl, hd, hk⟩, r3⟩, q⟩ := h
  exact ⟨_, rfl, a, dx, _, _, rfl, hB.ins ha, worldF2, d, kvs, rfl, hB.rd hd, fun p hp => q.newD (Gr.new_ hB hp) ⟨p, kvs, rfl, hp, hB.none hp, upd_same, hk⟩⟩
def spWorldRow (K : PySem.W.Frag) : Sp := sp1 fun a H Q => ∃ B n S, ExW B H ∧ (rWorld K).rel B (n, S) a ∧ ∀ v, (rTU rInt).rel B (n.names.map S) v → Q v H
/-! ### World.row -/
abbrev F_World_row (P : Program) (w : World) (K : PySem.W.Frag) (mg : Str → Option Value) (base : Heap) : Prop := FnP P w K mg base 1 "World" "row" ["self"] [] (spWorldRow K)
abbrev N_World_row : List Str := ["self"]
theorem sc_World_row : FnScope N_World_row ["self"] (defScope (inClass (top 25) 5)) := ⟨rfl, rfl, rfl, by decide +kernel, rfl, by decide +kernel, by decide +kernel⟩
theorem ok_World_row (T : TX K mg) (D : FnPAt K "World" "row" "World.row" (inClass (top 25) 5) [])   : F_World_row P w K mg base := by
  refine fnP_ok D sc_World_row (by decide +kernel) (fun _ _ _ _ _ _ us hl => match us, hl with | [_], _ => rfl) (fun vs H Q E h => len1 h) (fun f cdv A outer s H vs Q E hr h => ?_)
  have nd := sc_World_row.nd
  obtain ⟨v0, rfl, h⟩ := h
  refine ⟨_, (pss_one (ps_ret (pe_fd T.clWorld T.n_own_row (pv 0) rfl))), ?_⟩
  obtain ⟨B, n, S, hB, ⟨ok, a, dx, v1, v2, v3, v4, rfl, ha, r1, r2, r3⟩, q⟩ := h
  exact ⟨_, rfl, a, dx, _, _, rfl, hB.ins ha, worldF3, q _ r3⟩
def spWorldLight (K : PySem.W.Frag) : Sp := sp2 fun a b H Q => ∃ B n S x, ExW B H ∧ (rWorld K).rel B (n, S) a ∧ b = .str x ∧ x ∈ n.names ∧ Q (.int (S x)) H
/-! ### World.light -/
abbrev F_World_light (P : Program) (w : World) (K : PySem.W.Frag) (mg : Str → Option Value) (base : Heap) : Prop := FnM P w K mg base 1 "World" "light" ["self", "lamp"] [] (spWorldLight K)
abbrev N_World_light : List Str := ["self", "lamp"]
theorem sc_World_light : FnScope N_World_light ["self", "lamp"] (defScope (inClass (top 25) 7)) := ⟨rfl, rfl, rfl, by decide +kernel, rfl, by decide +kernel, by decide +kernel⟩
theorem ok_World_light (T : TX K mg) (D : FnMAt K "World" "light" "World.light" (inClass (top 25) 7) [])   : F_World_light P w K mg base := by
  refine fnM_ok D sc_World_light (by decide +kernel) (fun _ _ _ _ _ _ us hl => match us, hl with | [_, _], _ => rfl) (fun vs H Q E h => len2 h) (fun f cdv A outer s H vs Q E hr h => ?_)
  have nd := sc_World_light.nd
  obtain ⟨v0, v1, rfl, h⟩ := h
  refine ⟨_, (pss_cons (ps_if (pt_cmp (pc_dnotin (hu_of hr) (pv 1) (pe_fd T.clWorld T.n_own_table (pv 0) rfl))) (pss_one ps_never) pss_nil)
      (pss_one (ps_ret (pe_dget (hu_of hr) (pe_fd T.clWorld T.n_own_table (pv 0) rfl) (pv 1) (fun _ _ => rfl))))), ?_⟩
  obtain ⟨B, n, S, x, hB, ⟨ok, a, dx, v1, v2, v3, v4, rfl, ha, r1, r2, r3⟩, rfl, hx, q⟩ := h
  obtain ⟨d, u, rfl, hd, hu⟩ := dgetB (k := x) (x := S x) r2 hB (by rw [look_glow, if_pos hx])
  refine ⟨_, rfl, _, rfl, a, dx, _, _, rfl, hB.ins ha, worldF2, d, some u, rfl, hd, _, rfl, iteF ?_⟩
  refine ⟨_, rfl, a, dx, _, _, rfl, hB.ins ha, worldF2, _, rfl, d, u, rfl, hd, ?_⟩
  rw [show u = .int (S x) from hu]
  exact q
/-! ### a world is made -/
def spMkWorld (K : PySem.W.Frag) : Sp := sp3 fun a b c H Q => ∃ B n ps S x dx, ExW B H ∧ a = .ref x ∧ B x = none ∧ H x = some (.ins (He.ga K "World") dx []) ∧ (rWeb K).rel B n b ∧ (rD rInt).rel B (glow ps S) c ∧ ps.Perm n.names ∧ (∀ p ∈ n.names, isN (S p) = true) ∧
  ∀ B' H' v1 v2 v3 v4, Gr [x] B H B' H' → B' x = none → H' x = some (.ins (He.ga K "World") dx (worldF v1 v2 v3 v4)) → (rWeb K).rel B' n v1 → (rD rInt).rel B' (glow n.names S) v2 → (rTU rInt).rel B' (n.names.map S) v3 → Q .non H'
/-! ### World.__init__ -/
abbrev F_World_init (P : Program) (w : World) (K : PySem.W.Frag) (mg : Str → Option Value) (base : Heap) : Prop := FnI P w K mg base 3 "World" "__init__" ["self", "web", "lights"] [] (spMkWorld K)
abbrev N_World_init : List Str := ["self", "web", "lights", "keys", "key", "lamps", "lamp"]
theorem sc_World_init : FnScope N_World_init ["self", "web", "lights"] (defScope (inClass (top 25) 0)) := ⟨rfl, rfl, rfl, by decide +kernel, rfl, by decide +kernel, by decide +kernel⟩
theorem ok_World_init (T : TX K mg) (D : FnIAt K mg "World" "__init__" "World.__init__" (inClass (top 25) 0) []) (c_check_number : F_check_number P w K mg base) (c_Web_contains : F_Web_contains P w K mg base) (c_Web_lamps : F_Web_lamps P w K mg base)  : F_World_init P w K mg base := by
  refine fnI_ok D sc_World_init (by decide +kernel) (fun _ _ _ _ _ _ us hl => match us, hl with | [_, _, _], _ => rfl) (fun vs H Q E h => len3 h) (fun f cdv A outer s H vs Q E hr h => ?_)
  have nd := sc_World_init.nd
  obtain ⟨v0, v1, v2, rfl, h⟩ := h
  refine ⟨_, (pss_cons (ps_set (i := 3) nd rfl (Or.inl rfl) (pe_callB (call_sortedD rfl) (by rfl) T.sorted bt_sorted (pa_cons (pv 2) pa_nil)))
      (pss_cons (ps_for PassesOwn.never rfl (kp_list K (pv 3)) (pg_name (i := 4) nd rfl (Or.inl rfl))
      (pss_one (ps_expr (pe_fn c_check_number hr (by rfl) (pa_cons (pe_dget (hu_of hr) (pv 2) (pv 4) (fun _ _ => rfl)) pa_nil)))))
      (pss_cons (ps_for PassesOwn.never rfl (kp_list K (pv 3)) (pg_name (i := 4) nd rfl (Or.inl rfl))
      (pss_one (ps_if (pt_cmpR (op_inNOwn c_Web_contains hr) (pv 4) (pv 1) (by rfl)) (pss_one ps_never) pss_nil)))
      (pss_cons (ps_set (i := 5) nd rfl (Or.inl rfl) (pe_pr T.clWeb c_Web_lamps hr (pv 1) rfl))
      (pss_cons (ps_for PassesOwn.never rfl (kp_list K (pv 5)) (pg_name (i := 6) nd rfl (Or.inl rfl))
      (pss_one (ps_if (pt_cmp (pc_dnotin (hu_of hr) (pv 6) (pv 2))) (pss_one ps_never) pss_nil)))
      (pss_cons (ps_fd T.clWorld T.n_own_web (pv 0) (pv 1) rfl)
      (pss_cons (ps_fd T.clWorld T.n_own_table (pv 0) (pe_dc (own := [("lamp", 6)]) rfl nd (kp_list K (pv 5)) (blkOk_by (own := [("lamp", 6)]) (N := N_World_init) (sc := defScope (inClass (top 25) 0)) (by decide +kernel)) (fun _ _ _ _ _ => (pg_name (i := 6) nd rfl (Or.inl rfl))) (fun _ _ _ _ _ => pts_nil) (fun _ _ _ _ _ => (pv 6)) (fun _ _ _ _ _ => (pe_dget (hu_of hr) (pv 2) (pv 6) (fun _ _ => rfl)))) rfl)
      (pss_cons (ps_fd T.clWorld T.n_own_row (pv 0) (pe_callTy (k_tuple K) (by rfl) T.tuple bt_tuple (pa_cons (pe_lc (own := [("lamp", 6)]) rfl nd (kp_list K (pv 5)) (blkOk_by (own := [("lamp", 6)]) (N := N_World_init) (sc := defScope (inClass (top 25) 0)) (by decide +kernel)) (fun _ _ _ _ _ => (pg_name (i := 6) nd rfl (Or.inl rfl))) (fun _ _ _ _ _ => pts_nil) (fun _ _ _ _ _ => (pe_dget (hu_of hr) (pv 2) (pv 6) (fun _ _ => rfl)))) pa_nil)) rfl)
      (pss_one (ps_fd T.clWorld T.n_own_pairs (pv 0) (pe_lc (own := [("lamp", 6)]) rfl nd (kp_list K (pv 5)) (blkOk_by (own := [("lamp", 6)]) (N := N_World_init) (sc := defScope (inClass (top 25) 0)) (by decide +kernel)) (fun _ _ _ _ _ => (pg_name (i := 6) nd rfl (Or.inl rfl))) (fun _ _ _ _ _ => pts_nil) (fun _ _ _ _ _ => (pe_tup (pa_cons (pv 6) (pa_cons (pe_dget (hu_of hr) (pv 2) (pv 6) (fun _ _ => rfl)) pa_nil))))) rfl)))))))))), ?_⟩
  obtain ⟨B, n, ps, S, x, dx, hB, rfl, bx, hx, hw, hl, perm, hS, q⟩ := h
  have hl' := hl
  obtain ⟨d, kvs, rfl, hd, hk⟩ := hl'
  have kk : kvs.map (·.1) = ps.map Sum.inr := by
    rw [DAll.keys hk, List.map_map]; rfl
  have okn : n.Ok := hw.1
  have lps : ps.length ≤ 10 := by
    rw [perm.length_eq]
    show (n.lamps.map _).length ≤ 10
    rw [List.length_map]; exact okn.len
  have lk : ∀ p ∈ ps, (glow ps S).lookup p = some (S p) := fun p hp => by rw [look_glow, if_pos hp]
  -- keys = sorted(lights)
  refine ⟨_, rfl, d, kvs, ps, rfl, hB.rd hd, kk, by omega, fun ys p hys _ hp => ?_⟩
  have ne : x ≠ p := fun z => by rw [← z, hx] at hp; cases hp
  have g1 : Gr [x] B H (upd B p (.lst (ys.map V.str))) (upd H p (.lst (ys.map V.str))) := Gr.newP hB hp
  have e1 : ExW B (upd B p (.lst (ys.map V.str))) := g1.up
  have memn : ∀ y ∈ ys, y ∈ n.names := fun y hy => perm.mem_iff.mp (hys.mem_iff.mp hy)
  -- for key in keys: check_number(lights[key])
  refine ⟨_, rfl, p, rfl, ⟨_, SqL.of upd_same⟩, for_chk (Rs := rStr) (j := 4) rfl (src_list (a := p) upd_same) g1.sub (strs2 ys) (fun y v N hy hv hN => ?_) (fun z => ?_)⟩
  · obtain rfl := hv
    obtain ⟨d', u, e, hd', hu⟩ := dgetB (k := y) (x := S y) (Rp.mono _ e1 hl) g1.sub (lk y (hys.mem_iff.mp hy))
    cases e
    exact ⟨_, rfl, _, rfl, d, u, rfl, hd', _, rfl, S y, hu, hS y (memn y hy), hN⟩
  -- for key in keys: if key not in web
  refine ⟨_, rfl, p, rfl, ⟨_, SqL.of upd_same⟩, for_chk (Rs := rStr) (j := 4) rfl (src_list (a := p) upd_same) g1.sub (strs2 ys) (fun y v N hy hv hN => ?_) (fun z => ?_)⟩
  · obtain rfl := hv
    have hw1 := Rp.mono _ e1 hw
    obtain ⟨okw, wa, wdx, v1, v2, v3, v4, v5, v6, v7, ew, hwa, _⟩ := hw1
    refine ⟨_, rfl, _, rfl, wa, wdx, _, ew, g1.sub.ins hwa, ⟨_, _, rfl, _, n, y, g1.sub, by rw [← ew]; exact Rp.mono _ e1 hw, rfl, ?_⟩⟩
    refine ⟨_, rfl, _, rfl, ?_⟩
    rw [decide_eq_true (memn y hy)]
    exact iteF hN
  -- lamps = web.lamps
  have hw1 := Rp.mono _ e1 hw
  have hw2 := hw1
  obtain ⟨okw, wa, wdx, v1, v2, v3, v4, v5, v6, v7, rfl, hwa, _⟩ := hw2
  refine ⟨_, rfl, wa, wdx, _, rfl, g1.sub.ins hwa, ⟨_, rfl, _, n, g1.sub, hw1, fun B2 H2 lv g2 hlv => ?_⟩⟩
  have G2 : Gr [x] B H B2 H2 := g1.trans g2.any
  have hlv' := hlv
  obtain ⟨la, lvs, rfl, hla, hls⟩ := hlv'
  -- for lamp in lamps: if lamp not in lights
  refine ⟨_, rfl, la, rfl, ⟨_, SqL.of (g2.sub.lst hla)⟩, for_chk (Rs := rStr) (j := 6) rfl (src_list hla) g2.sub hls (fun y v N hy hv hN => ?_) (fun z => ?_)⟩
  · obtain rfl := hv
    obtain ⟨d', o, e, hd', ho⟩ := dinB (k := y) (Rp.mono _ G2.up hl) g2.sub
    cases e
    refine ⟨_, rfl, _, rfl, d, o, rfl, hd', _, rfl, ?_⟩
    rw [ho, look_glow, if_pos (perm.mem_iff.mpr hy)]
    exact iteF hN
  -- self.own_web = web
  have hx2 : H2 x = some (.ins (He.ga K "World") dx []) := by
    have q1 : (upd H p (.lst (ys.map V.str))) x = some (.ins (He.ga K "World") dx []) := by rw [upd_ne ne]; exact hx
    refine g2.keep x _ (fun z => nomatch z) ?_ q1
    rw [upd_ne ne]; exact bx
  have bx2 : B2 x = none := G2.new x bx (by rw [hx]; exact fun z => nomatch z)
  refine ⟨_, rfl, _, rfl, x, dx, [], rfl, hx2, (by show 0 < 1000; decide), ?_⟩
  have G3 : Gr [x] B H B2 (upd H2 x (.ins (He.ga K "World") dx (putF "own_web" (V.ref wa) []))) := G2.mut (.inr (by simp)) bx2
  -- self.own_table = {lamp: lights[lamp] for lamp in lamps}
  have ndn : n.names.Nodup := okn.nd
  have lln : lvs.length ≤ 100000 := by
    rw [← hls.len]
    show (n.lamps.map _).length ≤ _
    rw [List.length_map]; have := okn.len; omega
  refine ⟨_, rfl, la, rfl, ⟨_, SqL.of (G3.sub.lst hla)⟩, fun t hD => dc_map (Rs := rStr) (R := rInt) (fun y => y) (fun y => S y) (src_list hla) G3.sub hD hls lln (by rw [List.map_id']; exact ndn) (fun y v B4 H4 K1 hy hv g4 k => ?_) (fun B4 H4 g4 h4 => ?_)⟩
  · obtain rfl := hv
    obtain ⟨d', u, e, hd', hu⟩ := dgetB (k := y) (x := S y) (Rp.mono _ (G3.trans g4.any).up hl) g4.sub (lk y (perm.mem_iff.mpr hy))
    cases e
    exact ⟨_, rfl, _, rfl, _, rfl, d, u, rfl, hd', k _ _ _ (Gr.refl g4.sub) hu⟩
  obtain ⟨tk, ht0, htb, hth, htk⟩ := h4.at_
  have G4 : Gr [x] B H (upd B4 t (.dK tk)) H4 := G3.trans (g4.pub ht0 htb hth).any
  have x4 : H4 x = some (.ins (He.ga K "World") dx (putF "own_web" (V.ref wa) [])) := g4.keep x _ (fun z => nomatch z) bx2 upd_same
  have b4 : (upd B4 t (.dK tk)) x = none := G4.new x bx (by rw [hx]; exact fun z => nomatch z)
  refine ⟨_, rfl, x, dx, _, rfl, x4, (by show 1 < 1000; decide), ?_⟩
  have G5 : Gr [x] B H (upd B4 t (.dK tk)) (upd H4 x (.ins (He.ga K "World") dx (putF "own_table" (V.ref t) (putF "own_web" (V.ref wa) [])))) := G4.mut (.inr (by simp)) b4
  have la5 : (upd B4 t (.dK tk)) la = some (.lst lvs) := (ExW.new htb).lst (g4.up.lst hla)
  -- self.own_row = tuple([lights[lamp] for lamp in lamps])
  have hls5 : All2 (rStr.rel (upd B4 t (.dK tk))) n.names lvs := All2.mono (g4.up.trans (ExW.new htb)) hls
  refine ⟨_, rfl, la, rfl, ⟨_, SqL.of (G5.sub.lst la5)⟩, fun rl hD => lc_map (Rs := rStr) (R := rInt) (fun y => S y) (src_list la5) G5.sub hD hls5 lln (fun y v B6 H6 K1 hy hv g6 k => ?_) (fun B6 H6 g6 h6 => ?_)⟩
  · obtain rfl := hv
    obtain ⟨d', u, e, hd', hu⟩ := dgetB (k := y) (x := S y) (Rp.mono _ (G5.trans g6.any).up hl) g6.sub (lk y (perm.mem_iff.mpr hy))
    cases e
    exact ⟨_, rfl, _, rfl, d, u, rfl, hd', k _ _ _ (Gr.refl g6.sub) hu⟩
  obtain ⟨rvs, hr0, hrb, hrh, hrk⟩ := h6.at_
  refine ⟨rl, rvs, rfl, .inl ⟨SqL.of hrh, fun t2 ht2 => ?_⟩⟩
  have G6 : Gr [x] B H B6 H6 := G5.trans g6.any
  have G7 : Gr [x] B H (upd B6 t2 (.tup rvs)) (upd H6 t2 (.tup rvs)) := G6.trans (Gr.newP G6.sub ht2)
  have b6 : B6 x = none := G6.new x bx (by rw [hx]; exact fun z => nomatch z)
  have x6 : H6 x = some (.ins (He.ga K "World") dx (putF "own_table" (V.ref t) (putF "own_web" (V.ref wa) []))) := g6.keep x _ (fun z => nomatch z) b4 upd_same
  have ne2 : x ≠ t2 := ne_of_none x6 ht2
  have b7 : (upd B6 t2 (.tup rvs)) x = none := by rw [upd_ne ne2]; exact b6
  have x7 : (upd H6 t2 (.tup rvs)) x = some (.ins (He.ga K "World") dx (putF "own_table" (V.ref t) (putF "own_web" (V.ref wa) []))) := by rw [upd_ne ne2]; exact x6
  refine ⟨_, rfl, x, dx, _, rfl, x7, (by show 2 < 1000; decide), ?_⟩
  have G8 : Gr [x] B H (upd B6 t2 (.tup rvs)) (upd (upd H6 t2 (.tup rvs)) x (.ins (He.ga K "World") dx (putF "own_row" (V.ref t2) (putF "own_table" (V.ref t) (putF "own_web" (V.ref wa) []))))) := G7.mut (.inr (by simp)) b7
  have ht2b : B6 t2 = none := G6.sub.none ht2
  have up56 : ExW (upd B4 t (.dK tk)) (upd B6 t2 (.tup rvs)) := g6.up.trans (ExW.new ht2b)
  have la8 : (upd B6 t2 (.tup rvs)) la = some (.lst lvs) := up56.lst la5
  have hls8 : All2 (rStr.rel (upd B6 t2 (.tup rvs))) n.names lvs := All2.mono up56 hls5
  -- self.own_pairs = [(lamp, lights[lamp]) for lamp in lamps]
  refine ⟨_, rfl, la, rfl, ⟨_, SqL.of (G8.sub.lst la8)⟩, fun pl hD => lc_map (Rs := rStr) (R := rU) (fun y => ()) (src_list la8) G8.sub hD hls8 lln (fun y v B9 H9 K1 hy hv g9 k => ?_) (fun B9 H9 g9 h9 => ?_)⟩
  · obtain rfl := hv
    obtain ⟨d', u, e, hd', hu⟩ := dgetB (k := y) (x := S y) (Rp.mono _ (G8.trans g9.any).up hl) g9.sub (lk y (perm.mem_iff.mpr hy))
    cases e
    exact ⟨_, rfl, _, rfl, _, rfl, d, u, rfl, hd', (by show 2 ≤ sizeLine; decide), fun t3 ht3 => k _ _ _ (Gr.new_ g9.sub ht3) trivial⟩
  obtain ⟨pvs, hp0, hpb, hph, _⟩ := h9.at_
  have G9 : Gr [x] B H B9 H9 := G8.trans g9.any
  have b9 : B9 x = none := G9.new x bx (by rw [hx]; exact fun z => nomatch z)
  have x9 : H9 x = some (.ins (He.ga K "World") dx (putF "own_row" (V.ref t2) (putF "own_table" (V.ref t) (putF "own_web" (V.ref wa) [])))) := g9.keep x _ (fun z => nomatch z) b7 upd_same
  refine ⟨_, rfl, x, dx, _, rfl, x9, (by show 3 < 1000; decide), ?_⟩
  refine q B9 _ (V.ref wa) (V.ref t) (V.ref t2) (V.ref pl) (G9.mut (.inr (by simp)) b9) b9 (by rw [upd_same, worldF_put]) ?_ ?_ ?_
  · exact Rp.mono _ (g2.up.trans ((g4.up.trans (ExW.new htb)).trans (up56.trans g9.up))) hw1
  · exact Rp.mono _ (up56.trans g9.up) ⟨t, tk, rfl, .inl upd_same, DAll.mono (ExW.new htb) htk⟩
  · exact Rp.mono _ g9.up ⟨t2, rvs, rfl, upd_same, All2.mono (ExW.new ht2b) hrk⟩
end
end OB

/-! ## P5 -/
set_option maxHeartbeats 4000000
namespace OB
open PySem PySem.Spec PyProof.Rows L2
/-- what was made on the way may be changed on the way -/
theorem Gr.fresh {S : List Addr} {B H B1 H1 B' H' : Hp} {x : Addr} (g1 : Gr S B H B1 H1) (hx : H x = none) (g : Gr (x :: S) B1 H1 B' H') : Gr S B H B' H' :=
  ⟨fun a o hs hb e => by
    have z : a ≠ x := fun z => by rw [z, hx] at e; cases e
    exact g.keep a o (fun q => (List.mem_cons.mp q).elim z hs) (g1.new a hb (by rw [e]; exact fun z => nomatch z)) (g1.keep a o hs hb e),
  g1.up.trans g.up, g.sub, fun a hb e => g.new a (g1.new a hb e) (g1.there a e), fun a e => g.there a (g1.there a e)⟩
/-- the web that a world was made with -/
theorem world_web {K : PySem.W.Frag} {B H : Hp} {n : Net} {S : Str → Int} {v : V} (hB : ExW B H) (h : (rWorld K).rel B (n, S) v) : ∃ a dx fs wv, v = .ref a ∧ H a = some (.ins (He.ga K "World") dx fs) ∧ List.lookup ("own_web" : Str) fs = some wv ∧ (rWeb K).rel B n wv := by
  obtain ⟨ok, a, dx, v1, v2, v3, v4, e, ha, r1, r2, r3⟩ := h
  exact ⟨a, dx, _, v1, e, hB.ins ha, worldF1, r1⟩
section
variable {P : Program} {w : World} {K : PySem.W.Frag} {mg : Str → Option Value} {base : Heap}
theorem mkWorld_go {B H : Hp} {n : Net} {ps : List Str} {S : Str → Int} {Q : VK} {wv lv : V} (hB : ExW B H) (hw : (rWeb K).rel B n wv) (hl : (rD rInt).rel B (glow ps S) lv) (perm : ps.Perm n.names) (hS : ∀ p ∈ n.names, isN (S p) = true) (q : Ret (rWorld K) (n, S) B H Q) :
    ∀ x dx, H x = none → H dx = none → dx ≠ x → spMkWorld K (.ref x :: ([wv, lv] ++ [])) (upd (upd H dx (.own x)) x (.ins (He.ga K "World") dx [])) (fun v H2 => v = .non ∧ Q (.ref x) H2) E0 := by
  intro x dx hx hdx ne
  have g1 : Gr [] B H B (upd H dx (.own x)) := Gr.new_ hB hdx
  have g2 : Gr [] B H B (upd (upd H dx (.own x)) x (.ins (He.ga K "World") dx [])) := g1.trans (Gr.new_ g1.sub (by rw [upd_ne ne.symm]; exact hx))
  refine ⟨_, _, _, rfl, B, n, ps, S, x, dx, g2.sub, rfl, hB.none hx, upd_same, hw, hl, perm, hS, fun B' H' v1 v2 v3 v4 g bx hx' r1 r2 r3 => ⟨rfl, ?_⟩⟩
  refine q _ _ _ ((g2.fresh hx g).pub hx bx hx') ⟨hS, x, dx, v1, v2, v3, v4, rfl, upd_same, Rp.mono _ (ExW.new bx) r1, Rp.mono _ (ExW.new bx) r2, Rp.mono _ (ExW.new bx) r3⟩
/-- a light is changed -/
def setS (S : Str → Int) (x : Str) (i : Int) : Str → Int := fun y => if y = x then i else S y
theorem putK_str {k1 k : Str} {v1 v : V} {kvs : List (Key × V)} (e : ¬ k1 = k) : putK ((Sum.inr k1, v1) :: kvs) (Sum.inr k) v = (Sum.inr k1, v1) :: putK kvs (Sum.inr k) v := by
  have h : ¬ (Sum.inr k1 : Key) = Sum.inr k := fun z => e (Sum.inr.inj z)
  unfold putK
  simp only [List.any_cons, decide_eq_false h, Bool.false_or]
  split
  · rw [List.map_cons, if_neg h]
  · rfl
theorem map_other {k : Str} {v : V} : ∀ {l : List (Key × V)}, ¬ Sum.inr k ∈ l.map (·.1) → l.map (fun kv => if kv.1 = (Sum.inr k : Key) then (kv.1, v) else kv) = l
  | [], _ => rfl
  | p :: r, h => by
    have h1 : ¬ p.1 = (Sum.inr k : Key) := fun z => h (by rw [List.map_cons, z]; exact List.mem_cons_self)
    rw [List.map_cons, if_neg h1, map_other fun z => h (by rw [List.map_cons]; exact List.mem_cons_of_mem _ z)]
/-- d[k] = v where k is a key -/
theorem DAll.set {B : Hp} {α : Type} {R : Rp α} {S S' : Str → α} {x : Str} {v : V} (hv : R.rel B (S' x) v) (he : ∀ y, y ≠ x → S' y = S y) : ∀ {ps : List Str} {kvs : List (Key × V)}, ps.Nodup → x ∈ ps → DAll R B (ps.map fun p => (p, S p)) kvs → DAll R B (ps.map fun p => (p, S' p)) (putK kvs (Sum.inr x) v)
  | [], _, _, h, _ => nomatch h
  | p :: r, _, nd, h, .cons (b := q) (l₂ := kvs) h1 t => by
    obtain ⟨n1, n2⟩ := List.nodup_cons.mp nd
    obtain ⟨k1, v1⟩ := q
    obtain ⟨e1, e2⟩ := h1
    have e1 : k1 = Sum.inr p := e1
    subst e1
    by_cases e : p = x
    · subst e
      have nk : ¬ (Sum.inr p : Key) ∈ kvs.map (·.1) := by
        rw [DAll.keys t, List.map_map]
        intro z
        obtain ⟨y, hy, ey⟩ := List.mem_map.mp z
        have : y = p := Sum.inr.inj ey
        exact n1 (this ▸ hy)
      have : putK ((Sum.inr p, v1) :: kvs) (Sum.inr p) v = (Sum.inr p, v) :: kvs := by
        unfold putK
        simp only [List.any_cons, decide_true, Bool.true_or, if_true, List.map_cons]
        rw [map_other nk]
      rw [this]
      refine .cons ⟨rfl, hv⟩ ?_
      have em : (r.map fun p => (p, S' p)) = r.map fun p => (p, S p) := List.map_congr_left fun y hy => by
        have : y ≠ p := fun z => n1 (z ▸ hy)
        rw [he y this]
      rw [em]
      exact t
    · rw [putK_str e]
      refine .cons ⟨rfl, ?_⟩ (DAll.set hv he n2 ((List.mem_cons.mp h).resolve_left (fun z => e z.symm)) t)
      show R.rel B (S' p) v1
      rw [he p e]
      exact e2
def spWithLight (K : PySem.W.Frag) : Sp := sp3 fun a b c H Q => ∃ B n S x i, ExW B H ∧ (rWorld K).rel B (n, S) a ∧ b = .str x ∧ c = .int i ∧ x ∈ n.names ∧ isN i = true ∧ Ret (rWorld K) (n, setS S x i) B H Q
/-! ### World.with_light -/
abbrev F_World_with_light (P : Program) (w : World) (K : PySem.W.Frag) (mg : Str → Option Value) (base : Heap) : Prop := FnM P w K mg base 5 "World" "with_light" ["self", "lamp", "light"] [] (spWithLight K)
abbrev N_World_with_light : List Str := ["self", "lamp", "light", "changed"]
theorem sc_World_with_light : FnScope N_World_with_light ["self", "lamp", "light"] (defScope (inClass (top 25) 9)) := ⟨rfl, rfl, rfl, by decide +kernel, rfl, by decide +kernel, by decide +kernel⟩
theorem ok_World_with_light (T : TX K mg) (D : FnMAt K "World" "with_light" "World.with_light" (inClass (top 25) 9) []) (c_check_number : F_check_number P w K mg base) (c_World_init : F_World_init P w K mg base)  : F_World_with_light P w K mg base := by
  refine fnM_ok D sc_World_with_light (by decide +kernel) (fun _ _ _ _ _ _ us hl => match us, hl with | [_, _, _], _ => rfl) (fun vs H Q E h => len3 h) (fun f cdv A outer s H vs Q E hr h => ?_)
  have nd := sc_World_with_light.nd
  obtain ⟨v0, v1, v2, rfl, h⟩ := h
  refine ⟨_, (pss_cons (ps_expr (pe_fn c_check_number hr (by rfl) (pa_cons (pv 2) pa_nil)))
      (pss_cons (ps_if (pt_cmp (pc_dnotin (hu_of hr) (pv 1) (pe_fd T.clWorld T.n_own_table (pv 0) rfl))) (pss_one ps_never) pss_nil)
      (pss_cons (ps_set (i := 3) nd rfl (Or.inl rfl) (pe_callTy call_dictD (by rfl) T.dict bt_dict (pa_cons (pe_fd T.clWorld T.n_own_table (pv 0) rfl) pa_nil)))
      (pss_cons (ps_dput (hu_of hr) (pv 3) (pv 1) (pv 2) rfl)
      (pss_one (ps_ret (pe_mk T.clWorld c_World_init hr (by rfl) (pa_cons (pe_fd T.clWorld T.n_own_web (pv 0) rfl) (pa_cons (pv 3) pa_nil))))))))), ?_⟩
  obtain ⟨B, n, S, x, i, hB, hw, rfl, rfl, hx, hi, q⟩ := h
  have hw' := hw
  obtain ⟨ok, a, dx, v1, v2, v3, v4, rfl, ha, r1, r2, r3⟩ := hw'
  obtain ⟨d, o, e, hd, ho⟩ := dinB (k := x) r2 hB
  subst e
  have r2' := r2
  obtain ⟨d', kvs, e, hkd, hk⟩ := r2'
  cases e
  refine ⟨_, rfl, _, rfl, i, rfl, hi, _, rfl, _, rfl, a, dx, _, _, rfl, hB.ins ha, worldF2, d, o, rfl, hd, _, rfl, ?_⟩
  rw [ho, look_glow, if_pos hx]
  refine iteF ⟨_, rfl, a, dx, _, _, rfl, hB.ins ha, worldF2, d, kvs, rfl, hB.rd hkd, fun c hc => ?_⟩
  refine ⟨_, rfl, _, rfl, _, rfl, c, _, rfl, DPut.k (k := Sum.inr x) upd_same ?_, ?_⟩
  · have := hk.len
    have hl : kvs.length ≤ 10 := by
      rw [← this, List.length_map]
      show (n.lamps.map _).length ≤ 10
      rw [List.length_map]; exact r1.1.len
    exact Nat.lt_of_le_of_lt hl (by decide)
  have g1 : Gr [] B H B (upd (upd H c (.dK kvs)) c (.dK (putK kvs (Sum.inr x) (.int i)))) := (Gr.new_ hB hc).mut (.inl hc) (hB.none hc)
  have g2 : Gr [] B H (upd B c (.dK (putK kvs (Sum.inr x) (.int i)))) (upd (upd H c (.dK kvs)) c (.dK (putK kvs (Sum.inr x) (.int i)))) := g1.pub hc (hB.none hc) upd_same
  have hs : ∀ y, y ≠ x → setS S x i y = S y := fun y hy => if_neg hy
  have hw2 := Rp.mono _ g2.up hw
  obtain ⟨wa, wdx, wfs, wv, ew, hwa, hwl, hwr⟩ := world_web g2.sub hw2
  cases ew
  refine ⟨_, rfl, a, wdx, _, _, rfl, hwa, hwl, _, rfl, mkWorld_go g2.sub hwr ⟨c, _, rfl, .inl upd_same, DAll.mono (ExW.new (hB.none hc)) (DAll.set (S := S) (S' := setS S x i) (show _ = _ by unfold setS; rw [if_pos rfl]) hs r1.1.nd hx hk)⟩ (List.Perm.refl _) (fun p hp => ?_) (q.go g2)⟩
  unfold setS
  by_cases e : p = x
  · rw [if_pos e]; exact hi
  · rw [if_neg e]; exact ok p hp
end
end OB

/-! ## P6 -/
set_option maxHeartbeats 4000000
namespace OB
open PySem PySem.Spec PyProof.Rows L2
/-- the giver and the taker -/
def gt (S : Str → Int) (x y : Str) : Str × Str := if S x < S y then (y, x) else (x, y)
abbrev giv (S : Str → Int) (b : Bond) : Str := (gt S b.a b.b).1
abbrev tak (S : Str → Int) (b : Bond) : Str := (gt S b.a b.b).2
/-- a bond may be used -/
def can (n : Net) (S : Str → Int) (b : Bond) : Bool := decide (S b.a ≠ S b.b) && letB b.lo b.hi (S (giv S b)) && leE (S (giv S b)) (n.ceil (tak S b))
theorem gt_mem {S : Str → Int} {x y : Str} {ps : List Str} (hx : x ∈ ps) (hy : y ∈ ps) : (gt S x y).1 ∈ ps ∧ (gt S x y).2 ∈ ps := by
  unfold gt; split <;> exact ⟨by assumption, by assumption⟩
theorem gt_eq {S : Str → Int} {x y : Str} : S (gt S x y).1 = S (gt S x y).2 ↔ S x = S y := by
  unfold gt
  split
  · exact ⟨fun h => h.symm, fun h => h.symm⟩
  · exact Iff.rfl
theorem look_in {β : Type} {k : Str} {c : β} : ∀ {l : List (Str × β)}, l.lookup k = some c → ∃ p ∈ l, p.2 = c
  | [], h => nomatch h
  | p :: r, h => by
    rw [List.lookup_cons] at h
    cases e : k == p.1 with
    | true => rw [e] at h; exact ⟨p, List.mem_cons_self, Option.some.inj h⟩
    | false =>
      rw [e] at h
      obtain ⟨q, hq, e⟩ := look_in h
      exact ⟨q, List.mem_cons_of_mem _ hq, e⟩
section
variable {P : Program} {w : World} {K : PySem.W.Frag} {mg : Str → Option Value} {base : Heap}
def spCheckLamp (K : PySem.W.Frag) : Sp := sp2 fun a b H Q => ∃ B n x, ExW B H ∧ (rWeb K).rel B n a ∧ b = .str x ∧ x ∈ n.names ∧ Q .non H
/-! ### check_lamp -/
abbrev F_check_lamp (P : Program) (w : World) (K : PySem.W.Frag) (mg : Str → Option Value) (base : Heap) : Prop := Fn P w K mg base CX0 3 "check_lamp" ["web", "lamp"] [] (spCheckLamp K)
abbrev N_check_lamp : List Str := ["web", "lamp"]
theorem sc_check_lamp : FnScope N_check_lamp ["web", "lamp"] (defScope (top 27)) := ⟨rfl, rfl, rfl, by decide +kernel, rfl, by decide +kernel, by decide +kernel⟩
theorem ok_check_lamp (T : TX K mg) (D : DefAt K mg "check_lamp" (top 27) []) (c_Web_contains : F_Web_contains P w K mg base)  : F_check_lamp P w K mg base := by
  refine fn_ok D sc_check_lamp (by decide +kernel) (fun _ _ _ _ _ _ us hl => match us, hl with | [_, _], _ => rfl) (fun vs H Q E h => len2 h) (fun f cdv A outer s H vs Q E hr h => ?_)
  have nd := sc_check_lamp.nd
  obtain ⟨v0, v1, rfl, h⟩ := h
  refine ⟨_, (pss_one (ps_if (pt_cmpR (op_inNOwn c_Web_contains hr) (pv 1) (pv 0) (by rfl)) (pss_one ps_never) pss_nil)), ?_⟩
  obtain ⟨B, n, x, hB, hw, rfl, hx, q⟩ := h
  have hw' := hw
  obtain ⟨okw, wa, wdx, v1, v2, v3, v4, v5, v6, v7, rfl, hwa, _⟩ := hw'
  refine ⟨_, rfl, _, rfl, wa, wdx, _, rfl, hB.ins hwa, ⟨_, _, rfl, _, n, x, hB, hw, rfl, ?_⟩⟩
  refine ⟨_, rfl, _, rfl, ?_⟩
  rw [decide_eq_true hx]
  exact iteF q
def spBright (K : PySem.W.Frag) : Sp := sp2 fun a b H Q => ∃ B ps S x y, ExW B H ∧ (rD rInt).rel B (glow ps S) a ∧ rPair.rel B (x, y) b ∧ x ∈ ps ∧ y ∈ ps ∧ Ret rPair (gt S x y) B H Q
/-! ### bright_first -/
abbrev F_bright_first (P : Program) (w : World) (K : PySem.W.Frag) (mg : Str → Option Value) (base : Heap) : Prop := Fn P w K mg base CX0 1 "bright_first" ["lights", "ends"] [] (spBright K)
abbrev N_bright_first : List Str := ["lights", "ends", "one", "two"]
theorem sc_bright_first : FnScope N_bright_first ["lights", "ends"] (defScope (top 28)) := ⟨rfl, rfl, rfl, by decide +kernel, rfl, by decide +kernel, by decide +kernel⟩
theorem ok_bright_first (T : TX K mg) (D : DefAt K mg "bright_first" (top 28) [])   : F_bright_first P w K mg base := by
  refine fn_ok D sc_bright_first (by decide +kernel) (fun _ _ _ _ _ _ us hl => match us, hl with | [_, _], _ => rfl) (fun vs H Q E h => len2 h) (fun f cdv A outer s H vs Q E hr h => ?_)
  have nd := sc_bright_first.nd
  obtain ⟨v0, v1, rfl, h⟩ := h
  refine ⟨_, (pss_cons (ps_asg (pv 1) (pg_tup rfl (pgs_cons (pg_name (i := 2) nd rfl (Or.inl rfl)) (pgs_cons (pg_name (i := 3) nd rfl (Or.inl rfl)) pgs_nil))))
      (pss_cons (ps_if (pt_cmpR op_lt (pe_dget (hu_of hr) (pv 0) (pv 2) (fun _ _ => rfl)) (pe_dget (hu_of hr) (pv 0) (pv 3) (fun _ _ => rfl)) (nomark _)) (pss_one (ps_ret (pe_tup (pa_cons (pv 3) (pa_cons (pv 2) pa_nil))))) pss_nil)
      (pss_one (ps_ret (pe_tup (pa_cons (pv 2) (pa_cons (pv 3) pa_nil))))))), ?_⟩
  obtain ⟨B, ps, S, x, y, hB, hl, ⟨pa, rfl, hpa⟩, hx, hy, q⟩ := h
  obtain ⟨d, u, rfl, hd, hu⟩ := dgetB (k := x) (x := S x) hl hB (by rw [look_glow, if_pos hx])
  obtain ⟨d', u', e, hd', hu'⟩ := dgetB (k := y) (x := S y) hl hB (by rw [look_glow, if_pos hy])
  cases e
  obtain rfl : u = .int (S x) := hu
  obtain rfl : u' = .int (S y) := hu'
  refine ⟨_, rfl, pa, _, rfl, SqT.of (hB.tup hpa), rfl, _, _, rfl, _, _, rfl, rfl, ?_⟩
  refine ⟨_, rfl, _, rfl, d, _, rfl, hd, _, rfl, _, rfl, d, _, rfl, hd', _, _, rfl, rfl, _, rfl, ?_⟩
  have gtx : gt S x y = if S x < S y then (y, x) else (x, y) := rfl
  refine ite2 (fun e => ?_) (fun e => ?_)
  · have e := of_decide_eq_true e
    rw [if_pos e] at gtx
    rw [gtx] at q
    exact ⟨_, rfl, _, rfl, (by show 2 ≤ sizeLine; decide), fun p hp => q.tup hB hp⟩
  · rw [if_neg (by simpa using e)] at gtx
    rw [gtx] at q
    exact ⟨_, rfl, _, rfl, (by show 2 ≤ sizeLine; decide), fun p hp => q.tup hB hp⟩
def spRefusal (K : PySem.W.Frag) : Sp := sp3 fun a b c H Q => ∃ B n S y, ExW B H ∧ (rWeb K).rel B n a ∧ (rD rInt).rel B (glow n.names S) b ∧ (∀ p ∈ n.names, isN (S p) = true) ∧ y ∈ n.bonds ∧ c = .str y.nm ∧
  ∀ B' H' v, Gr [] B H B' H' → (v = .non ∧ can n S y = true) ∨ (∃ z, v = .str z ∧ can n S y = false) → Q v H'
theorem Net.ceil_num {n : Net} (ok : n.Ok) (x : Str) : isE (n.ceil x) = true := by
  unfold Net.ceil
  cases e : n.lamps.lookup x with
  | none => rfl
  | some c =>
    obtain ⟨p, hp, e⟩ := look_in e
    have := ok.num _ hp
    rw [e] at this
    exact this
theorem dgl {B H : Hp} {ps : List Str} {S : Str → Int} {x : Str} {v : V} (hl : (rD rInt).rel B (glow ps S) v) (hB : ExW B H) (hx : x ∈ ps) : ∃ d, v = .ref d ∧ DGet H d (.str x) (some (.int (S x))) := by
  obtain ⟨d, u, rfl, hd, hu⟩ := dgetB (k := x) (x := S x) hl hB (by rw [look_glow, if_pos hx])
  obtain rfl : u = .int (S x) := hu
  exact ⟨d, rfl, hd⟩
/-! ### refusal_in -/
abbrev F_refusal_in (P : Program) (w : World) (K : PySem.W.Frag) (mg : Str → Option Value) (base : Heap) : Prop := Fn P w K mg base CX0 5 "refusal_in" ["web", "lights", "bond"] [] (spRefusal K)
abbrev N_refusal_in : List Str := ["web", "lights", "bond", "giver", "taker", "light"]
theorem sc_refusal_in : FnScope N_refusal_in ["web", "lights", "bond"] (defScope (top 29)) := ⟨rfl, rfl, rfl, by decide +kernel, rfl, by decide +kernel, by decide +kernel⟩
theorem ok_refusal_in (T : TX K mg) (D : DefAt K mg "refusal_in" (top 29) []) (c_bright_first : F_bright_first P w K mg base) (c_Web_ends : F_Web_ends P w K mg base) (c_Web_lets : F_Web_lets P w K mg base) (c_may_take : F_may_take P w K mg base) (c_Web_ceiling : F_Web_ceiling P w K mg base)  : F_refusal_in P w K mg base := by
  refine fn_ok D sc_refusal_in (by decide +kernel) (fun _ _ _ _ _ _ us hl => match us, hl with | [_, _, _], _ => rfl) (fun vs H Q E h => len3 h) (fun f cdv A outer s H vs Q E hr h => ?_)
  have nd := sc_refusal_in.nd
  obtain ⟨v0, v1, v2, rfl, h⟩ := h
  refine ⟨_, (pss_cons (ps_asg (pe_fn c_bright_first hr (by rfl) (pa_cons (pv 1) (pa_cons (pe_mt T.clWeb c_Web_ends hr (pv 0) (pa_cons (pv 2) pa_nil)) pa_nil))) (pg_tup rfl (pgs_cons (pg_name (i := 3) nd rfl (Or.inl rfl)) (pgs_cons (pg_name (i := 4) nd rfl (Or.inl rfl)) pgs_nil))))
      (pss_cons (ps_set (i := 5) nd rfl (Or.inl rfl) (pe_dget (hu_of hr) (pv 1) (pv 3) (fun _ _ => rfl)))
      (pss_cons (ps_if (pt_cmpR op_eq (pv 5) (pe_dget (hu_of hr) (pv 1) (pv 4) (fun _ _ => rfl)) (nomark _)) (pss_one (ps_ret pe_str)) pss_nil)
      (pss_cons (ps_if (pt_not (pt_val (pe_mt T.clWeb c_Web_lets hr (pv 0) (pa_cons (pv 2) (pa_cons (pv 5) pa_nil))))) (pss_one (ps_ret pe_str)) pss_nil)
      (pss_cons (ps_if (pt_not (pt_val (pe_fn c_may_take hr (by rfl) (pa_cons (pv 5) (pa_cons (pe_mt T.clWeb c_Web_ceiling hr (pv 0) (pa_cons (pv 4) pa_nil)) pa_nil))))) (pss_one (ps_ret pe_str)) pss_nil)
      (pss_one (ps_ret pe_non))))))), ?_⟩
  obtain ⟨B, n, S, y, hB, hw, hl, hS, hy, rfl, q⟩ := h
  have hw' := hw
  obtain ⟨okw, wa, wdx, v1, v2, v3, v4, v5, v6, v7, rfl, hwa, _⟩ := hw'
  obtain ⟨hya, hyb, hne⟩ := okw.ends y hy
  obtain ⟨hg, ht⟩ := gt_mem (S := S) hya hyb
  obtain ⟨d, rfl, hd1⟩ := dgl hl hB hg
  obtain ⟨d2, e, hd2⟩ := dgl hl hB ht
  cases e
  have nw : ∀ {m : Str}, [("own_lamp_rows" : Str), "own_bond_rows", "own_lamps", "own_ceilings", "own_ends", "own_spans", "own_arms"].contains m = false → (netF v1 v2 v3 v4 v5 v6 v7).lookup m = none := netF_no
  refine ⟨_, rfl, _, rfl, wa, wdx, _, rfl, hB.ins hwa, nw (by decide +kernel), _, rfl, _, _, rfl, B, n, y, hB, hw, hy, rfl, fun ev hev => ?_⟩
  refine ⟨_, _, rfl, B, n.names, S, y.a, y.b, hB, hl, hev, hya, hyb, fun B1 H1 gv g1 hgv => ?_⟩
  have hgv' := hgv
  obtain ⟨ga, rfl, hga⟩ := hgv'
  have hgv1 := g1.sub.tup hga
  refine ⟨ga, _, rfl, SqT.of hgv1, rfl, _, _, rfl, _, _, rfl, rfl, ?_⟩
  have hw1 := Rp.mono _ g1.up hw
  have hl1 := Rp.mono _ g1.up hl
  have hd1' := dgl hl1 g1.sub hg
  have hd2' := dgl hl1 g1.sub ht
  obtain ⟨d1, e1, hd1'⟩ := hd1'
  cases e1
  obtain ⟨d1, e1, hd2'⟩ := hd2'
  cases e1
  refine ⟨_, rfl, _, rfl, d, _, rfl, hd1', _, rfl, _, rfl, _, rfl, d, _, rfl, hd2', ?_⟩
  refine ⟨rfl, _, rfl, ?_⟩
  rw [dec_int]
  refine ite2 (fun e => ?_) (fun e => ?_)
  · have e : S (gt S y.a y.b).1 = S (gt S y.a y.b).2 := by simpa using e
    refine q B1 H1 _ g1 (.inr ⟨_, rfl, ?_⟩)
    unfold can
    rw [decide_eq_false (fun z => z (gt_eq.mp e))]
    rfl
  have e : S (gt S y.a y.b).1 ≠ S (gt S y.a y.b).2 := by simpa using e
  have hab : S y.a ≠ S y.b := fun z => e (gt_eq.mpr z)
  have hgN := hS _ hg
  refine ⟨_, rfl, wa, wdx, _, rfl, g1.sub.ins (g1.up.ins hwa), nw (by decide +kernel), _, rfl, _, rfl, _, _, _, rfl, B1, n, y, S (gt S y.a y.b).1, g1.sub, hw1, hy, rfl, rfl, hgN, ?_⟩
  refine ⟨_, rfl, ?_⟩
  cases e1 : letB y.lo y.hi (S (giv S y)) with
  | false =>
    refine ite_tt (q B1 H1 _ g1 (.inr ⟨_, rfl, ?_⟩))
    unfold can
    rw [e1, Bool.and_false, Bool.false_and]
  | true =>
    refine iteF ?_
    refine ⟨_, rfl, _, rfl, wa, wdx, _, rfl, g1.sub.ins (g1.up.ins hwa), nw (by decide +kernel), _, rfl, _, _, rfl, B1, n, _, g1.sub, hw1, rfl, ht, _, _, rfl, S (gt S y.a y.b).1, _, rfl, rfl, hgN, Net.ceil_num okw _, _, rfl, ?_⟩
    cases e2 : leE (S (giv S y)) (n.ceil (tak S y)) with
    | false =>
      refine ite_tt (q B1 H1 _ g1 (.inr ⟨_, rfl, ?_⟩))
      unfold can
      rw [e2, Bool.and_false]
    | true =>
      refine iteF (q B1 H1 _ g1 (.inl ⟨rfl, ?_⟩))
      unfold can
      rw [e1, e2, decide_eq_true hab]
      rfl
/-! ### a deed -/
/-- the lights after a deed -/
def stp (S : Str → Int) (b : Bond) : Str → Int := setS S (tak S b) (S (giv S b))
def spTake (K : PySem.W.Frag) : Sp := sp2 fun a b H Q => ∃ B n S y, ExW B H ∧ (rWorld K).rel B (n, S) a ∧ y ∈ n.bonds ∧ b = .str y.nm ∧ can n S y = true ∧ Ret (rWorld K) (n, stp S y) B H Q
/-! ### take -/
abbrev F_take (P : Program) (w : World) (K : PySem.W.Frag) (mg : Str → Option Value) (base : Heap) : Prop := Fn P w K mg base CX0 6 "take" ["world", "bond"] [] (spTake K)
abbrev N_take : List Str := ["world", "bond", "lights", "why", "giver", "taker"]
theorem sc_take : FnScope N_take ["world", "bond"] (defScope (top 30)) := ⟨rfl, rfl, rfl, by decide +kernel, rfl, by decide +kernel, by decide +kernel⟩
theorem ok_take (T : TX K mg) (D : DefAt K mg "take" (top 30) []) (c_World_lights : F_World_lights P w K mg base) (c_refusal_in : F_refusal_in P w K mg base) (c_World_web : F_World_web P w K mg base) (c_bright_first : F_bright_first P w K mg base) (c_Web_ends : F_Web_ends P w K mg base) (c_World_with_light : F_World_with_light P w K mg base)  : F_take P w K mg base := by
  refine fn_ok D sc_take (by decide +kernel) (fun _ _ _ _ _ _ us hl => match us, hl with | [_, _], _ => rfl) (fun vs H Q E h => len2 h) (fun f cdv A outer s H vs Q E hr h => ?_)
  have nd := sc_take.nd
  obtain ⟨v0, v1, rfl, h⟩ := h
  refine ⟨_, (pss_cons (ps_set (i := 2) nd rfl (Or.inl rfl) (pe_pr T.clWorld c_World_lights hr (pv 0) rfl))
      (pss_cons (ps_set (i := 3) nd rfl (Or.inl rfl) (pe_fn c_refusal_in hr (by rfl) (pa_cons (pe_pr T.clWorld c_World_web hr (pv 0) rfl) (pa_cons (pv 2) (pa_cons (pv 1) pa_nil)))))
      (pss_cons (ps_if (pt_cmpR op_notN (pv 3) pe_non (nomark _)) (pss_one ps_never) pss_nil)
      (pss_cons (ps_asg (pe_fn c_bright_first hr (by rfl) (pa_cons (pv 2) (pa_cons (pe_mt T.clWeb c_Web_ends hr (pe_pr T.clWorld c_World_web hr (pv 0) rfl) (pa_cons (pv 1) pa_nil)) pa_nil))) (pg_tup rfl (pgs_cons (pg_name (i := 4) nd rfl (Or.inl rfl)) (pgs_cons (pg_name (i := 5) nd rfl (Or.inl rfl)) pgs_nil))))
      (pss_one (ps_ret (pe_mt T.clWorld c_World_with_light hr (pv 0) (pa_cons (pv 5) (pa_cons (pe_dget (hu_of hr) (pv 2) (pv 4) (fun _ _ => rfl)) pa_nil))))))))), ?_⟩
  obtain ⟨B, n, S, y, hB, hW, hy, rfl, hc, q⟩ := h
  have hW' := hW
  obtain ⟨ok, a, dx, v1, v2, v3, v4, rfl, ha, r1, r2, r3⟩ := hW'
  refine ⟨_, rfl, a, dx, _, rfl, hB.ins ha, ⟨_, rfl, B, n, S, hB, hW, fun B1 H1 lv g1 hl => ?_⟩⟩
  have hW1 := Rp.mono _ g1.up hW
  refine ⟨_, rfl, a, dx, _, rfl, g1.sub.ins (g1.up.ins ha), ⟨_, rfl, B1, n, S, g1.sub, hW1, fun wv hw => ?_⟩⟩
  refine ⟨_, rfl, _, rfl, _, _, _, rfl, B1, n, S, y, g1.sub, hw, hl, ok, hy, rfl, fun B2 H2 v g2 hv => ?_⟩
  rcases hv with ⟨rfl, _⟩ | ⟨z, rfl, hz⟩
  case inr => rw [hc] at hz; cases hz
  have G2 : Gr [] B H B2 H2 := g1.trans g2
  have hW2 := Rp.mono _ G2.up hW
  have hl2 := Rp.mono _ g2.up hl
  refine ⟨_, rfl, rfl, _, rfl, ?_⟩
  refine iteF ?_
  obtain ⟨okw, wa, wdx, u1, u2, u3, u4, u5, u6, u7, rfl, hwa, _⟩ := hw
  obtain ⟨hya, hyb, hne⟩ := okw.ends y hy
  obtain ⟨hg, ht⟩ := gt_mem (S := S) hya hyb
  refine ⟨_, rfl, _, rfl, a, dx, _, rfl, g2.sub.ins (G2.up.ins ha), ⟨_, rfl, B2, n, S, g2.sub, hW2, fun wv2 hw2 => ?_⟩⟩
  have hw2' := hw2
  obtain ⟨_, wa2, wdx2, u1, u2, u3, u4, u5, u6, u7, rfl, hwa2, _⟩ := hw2'
  refine ⟨wa2, wdx2, _, rfl, g2.sub.ins hwa2, netF_no (by decide +kernel), _, rfl, _, _, rfl, B2, n, y, g2.sub, hw2, hy, rfl, fun ev hev => ?_⟩
  refine ⟨_, _, rfl, B2, n.names, S, y.a, y.b, g2.sub, hl2, hev, hya, hyb, fun B3 H3 gv g3 hgv => ?_⟩
  obtain ⟨ga, rfl, hga⟩ := hgv
  refine ⟨ga, _, rfl, SqT.of (g3.sub.tup hga), rfl, _, _, rfl, _, _, rfl, rfl, ?_⟩
  have G3 : Gr [] B H B3 H3 := G2.trans g3
  have hW3 := Rp.mono _ G3.up hW
  obtain ⟨d, rfl, hd1⟩ := dgl (Rp.mono _ g3.up hl2) g3.sub hg
  refine ⟨_, rfl, a, dx, _, rfl, g3.sub.ins (G3.up.ins ha), worldF_no (by decide +kernel), _, rfl, _, rfl, _, rfl, d, _, rfl, hd1, ?_⟩
  exact ⟨_, _, _, rfl, B3, n, S, _, _, g3.sub, hW3, rfl, rfl, ht, ok _ hg, q.go G3⟩
/-! ### the deeds that are possible -/
/-- what stands for f x -/
def rPull {α β : Type} (R : Rp α) (f : β → α) : Rp β := ⟨fun B x v => R.rel B (f x) v, fun e h => R.mono e h⟩
theorem All2.unmap {α β γ : Type} {R : α → γ → Prop} {f : β → α} : ∀ {xs : List β} {vs : List γ}, All2 R (xs.map f) vs → All2 (fun x v => R (f x) v) xs vs
  | [], _, h => by
    cases h
    exact .nil
  | x :: r, _, h => by
    cases h with
    | cons a t => exact .cons a (All2.unmap t)
theorem unL {α β : Type} {R : Rp α} {f : β → α} {B : Hp} {xs : List β} {vs : List V} (h : All2 (R.rel B) (xs.map f) vs) : All2 ((rPull R f).rel B) xs vs := h.unmap
def cans (n : Net) (S : Str → Int) : List Str := (n.bonds.filter (can n S)).map (·.nm)
theorem cans_eq {n : Net} {S : Str → Int} : n.bonds.filterMap (fun y => if can n S y = true then some y.nm else none) = cans n S := by
  unfold cans
  induction n.bonds with
  | nil => rfl
  | cons b r ih =>
    rw [List.filterMap_cons, List.filter_cons, ih]
    cases can n S b <;> rfl
def spPossible (K : PySem.W.Frag) : Sp := sp1 fun a H Q => ∃ B n S, ExW B H ∧ (rWorld K).rel B (n, S) a ∧ Ret (rL rStr) (cans n S) B H Q
/-! ### possible -/
abbrev F_possible (P : Program) (w : World) (K : PySem.W.Frag) (mg : Str → Option Value) (base : Heap) : Prop := Fn P w K mg base CX0 6 "possible" ["world"] [] (spPossible K)
abbrev N_possible : List Str := ["world", "web", "lights", "bond"]
theorem sc_possible : FnScope N_possible ["world"] (defScope (top 31)) := ⟨rfl, rfl, rfl, by decide +kernel, rfl, by decide +kernel, by decide +kernel⟩
theorem ok_possible (T : TX K mg) (D : DefAt K mg "possible" (top 31) []) (c_World_web : F_World_web P w K mg base) (c_World_lights : F_World_lights P w K mg base) (c_Web_bonds : F_Web_bonds P w K mg base) (c_refusal_in : F_refusal_in P w K mg base)  : F_possible P w K mg base := by
  refine fn_ok D sc_possible (by decide +kernel) (fun _ _ _ _ _ _ us hl => match us, hl with | [_], _ => rfl) (fun vs H Q E h => len1 h) (fun f cdv A outer s H vs Q E hr h => ?_)
  have nd := sc_possible.nd
  obtain ⟨v0, rfl, h⟩ := h
  refine ⟨_, (pss_cons (ps_set (i := 1) nd rfl (Or.inr rfl) (pe_pr T.clWorld c_World_web hr (pv 0) rfl))
      (pss_cons (ps_set (i := 2) nd rfl (Or.inr rfl) (pe_pr T.clWorld c_World_lights hr (pv 0) rfl))
      (pss_one (ps_ret (pe_lc (own := [("bond", 3)]) rfl nd (kp_list K (pe_pr T.clWeb c_Web_bonds hr (pv 1) rfl)) (blkOk_by (own := [("bond", 3)]) (N := N_possible) (sc := defScope (top 31)) (by decide +kernel)) (fun _ _ _ _ _ => (pg_name (i := 3) nd rfl (Or.inl rfl))) (fun _ _ _ _ _ => (pts_one (pt_cmpR op_isN (pe_fn c_refusal_in hr (by rfl) (pa_cons (pv 1) (pa_cons (pv 2) (pa_cons (pv 3) pa_nil)))) pe_non (nomark _)))) (fun _ _ _ _ _ => (pv 3))))))), ?_⟩
  obtain ⟨B, n, S, hB, hW, q⟩ := h
  have hW' := hW
  obtain ⟨ok, a, dx, v1, v2, v3, v4, rfl, ha, r1, r2, r3⟩ := hW'
  refine ⟨_, rfl, a, dx, _, rfl, hB.ins ha, ⟨_, rfl, B, n, S, hB, hW, fun wv hw => ?_⟩⟩
  refine ⟨_, rfl, a, dx, _, rfl, hB.ins ha, ⟨_, rfl, B, n, S, hB, hW, fun B1 H1 lv g1 hl => ?_⟩⟩
  have hw1 := Rp.mono _ g1.up hw
  have hw' := hw1
  obtain ⟨okw, wa, wdx, u1, u2, u3, u4, u5, u6, u7, rfl, hwa, _⟩ := hw'
  refine ⟨_, rfl, wa, wdx, _, rfl, g1.sub.ins hwa, ⟨_, rfl, B1, n, g1.sub, hw1, fun B2 H2 bv g2 hb => ?_⟩⟩
  obtain ⟨bl, bvs, rfl, hbl, hbs⟩ := hb
  have G2 : Gr [] B H B2 H2 := g1.trans g2
  have hw2 := Rp.mono _ g2.up hw1
  have hl2 := Rp.mono _ g2.up hl
  refine ⟨bl, rfl, ⟨_, SqL.of (g2.sub.lst hbl)⟩, fun D hD => lc_flt (ys := n.bonds) (Rs := rPull rStr fun (b : Bond) => b.nm) (R := rStr) (fun y => if can n S y = true then some y.nm else none) (src_list hbl) g2.sub hD (unL hbs) (by rw [← hbs.len, List.length_map]; exact small (Nat.le_trans okw.blen (by decide))) (fun y x B3 H3 K1 K0 hy hx g3 k1 k0 => ?_) (fun B3 H3 g3 h3 => ?_)⟩
  · obtain rfl : x = .str y.nm := hx
    refine ⟨_, rfl, _, rfl, _, rfl, _, _, _, rfl, B3, n, S, y, g3.sub, Rp.mono _ g3.up hw2, Rp.mono _ g3.up hl2, ok, hy, rfl, fun B4 H4 v g4 hv => ?_⟩
    rcases hv with ⟨rfl, hc⟩ | ⟨z, rfl, hc⟩
    · exact ⟨rfl, _, rfl, ite_tt ⟨_, rfl, k1 y.nm _ B4 H4 (if_pos hc) g4 rfl⟩⟩
    · exact ⟨rfl, _, rfl, iteF (k0 B4 H4 (if_neg (by rw [hc]; exact Bool.false_ne_true)) g4)⟩
  rw [cans_eq] at h3
  exact (q.go G2).newL g3 h3
def spAtRest (K : PySem.W.Frag) : Sp := sp1 fun a H Q => ∃ B n S, ExW B H ∧ (rWorld K).rel B (n, S) a ∧ ∀ B' H', Gr [] B H B' H' → Q (.bl (decide (cans n S = []))) H'
/-! ### at_rest -/
abbrev F_at_rest (P : Program) (w : World) (K : PySem.W.Frag) (mg : Str → Option Value) (base : Heap) : Prop := Fn P w K mg base CX0 7 "at_rest" ["world"] [] (spAtRest K)
abbrev N_at_rest : List Str := ["world"]
theorem sc_at_rest : FnScope N_at_rest ["world"] (defScope (top 32)) := ⟨rfl, rfl, rfl, by decide +kernel, rfl, by decide +kernel, by decide +kernel⟩
theorem ok_at_rest (T : TX K mg) (D : DefAt K mg "at_rest" (top 32) []) (c_possible : F_possible P w K mg base)  : F_at_rest P w K mg base := by
  refine fn_ok D sc_at_rest (by decide +kernel) (fun _ _ _ _ _ _ us hl => match us, hl with | [_], _ => rfl) (fun vs H Q E h => len1 h) (fun f cdv A outer s H vs Q E hr h => ?_)
  have nd := sc_at_rest.nd
  obtain ⟨v0, rfl, h⟩ := h
  refine ⟨_, (pss_one (ps_ret (pe_cmpR op_eq (pe_callB (k_len K) (by rfl) T.len bt_len (pa_cons (pe_fn c_possible hr (by rfl) (pa_cons (pv 0) pa_nil)) pa_nil)) pe_int (nomark _)))), ?_⟩
  obtain ⟨B, n, S, hB, hW, q⟩ := h
  refine ⟨_, rfl, _, rfl, B, n, S, hB, hW, fun B1 H1 v g1 hv => ?_⟩
  obtain ⟨l, vs, rfl, hl, hvs⟩ := hv
  refine ⟨l, vs, rfl, .inl (SqL.of (g1.sub.lst hl)), rfl, ?_⟩
  have e : decide ((V.int (vs.length : Nat)) = V.int 0) = decide (cans n S = []) := by
    rw [← hvs.len]
    cases cans n S with
    | nil => rfl
    | cons a r =>
      rw [dec_int]
      simp
      omega
  rw [e]
  exact q B1 H1 g1
end
end OB

/-! ## P7 -/
set_option maxHeartbeats 4000000
namespace OB
open PySem PySem.Spec PyProof.Rows L2
/-- a thing for each name -/
abbrev caps (ps : List Str) (C : Str → Option Int) : List (Str × Option Int) := ps.map fun p => (p, C p)
theorem capsLen {ps : List Str} {C : Str → Option Int} {kvs : List (Key × V)} {R : Rp (Option Int)} {B : Hp} (h : DAll R B (caps ps C) kvs) : kvs.map (·.1) = ps.map Sum.inr := by
  rw [DAll.keys h, List.map_map]; rfl
theorem dgc {B H : Hp} {ps : List Str} {C : Str → Option Int} {x : Str} {v : V} (hl : (rD rEnd).rel B (caps ps C) v) (hB : ExW B H) (hx : x ∈ ps) : ∃ d, v = .ref d ∧ DGet H d (.str x) (some (vo (C x))) := by
  obtain ⟨d, u, rfl, hd, hu⟩ := dgetB (k := x) (x := C x) hl hB (by rw [look_glow, if_pos hx])
  obtain rfl : u = vo (C x) := hu
  exact ⟨d, rfl, hd⟩
theorem keysS {α : Type} {R : Rp α} {B : Hp} {ps : List Str} {f : Str → α} {kvs : List (Key × V)} (h : DAll R B (ps.map fun p => (p, f p)) kvs) : (kvs.map fun kv => kV kv.1) = ps.map V.str := by
  have e : kvs.map (·.1) = ps.map Sum.inr := by rw [DAll.keys h, List.map_map]; rfl
  have : (kvs.map fun kv => kV kv.1) = (kvs.map (·.1)).map kV := by rw [List.map_map]; rfl
  rw [this, e, List.map_map]
  rfl
section
variable {P : Program} {w : World} {K : PySem.W.Frag} {mg : Str → Option Value} {base : Heap}
def spCapNum : Sp := sp1 fun a H Q => ∃ B ps C, ExW B H ∧ (rD rEnd).rel B (caps ps C) a ∧ ps.length < 64 ∧ (∀ p ∈ ps, isE (C p) = true) ∧ ∀ B' H', Gr [] B H B' H' → Q .non H'
/-! ### check_cap_numbers -/
abbrev F_check_cap_numbers (P : Program) (w : World) (K : PySem.W.Frag) (mg : Str → Option Value) (base : Heap) : Prop := Fn P w K mg base CX0 3 "check_cap_numbers" ["caps"] [] spCapNum
abbrev N_check_cap_numbers : List Str := ["caps", "name"]
theorem sc_check_cap_numbers : FnScope N_check_cap_numbers ["caps"] (defScope (top 34)) := ⟨rfl, rfl, rfl, by decide +kernel, rfl, by decide +kernel, by decide +kernel⟩
theorem ok_check_cap_numbers (T : TX K mg) (D : DefAt K mg "check_cap_numbers" (top 34) []) (c_check_number : F_check_number P w K mg base)  : F_check_cap_numbers P w K mg base := by
  refine fn_ok D sc_check_cap_numbers (by decide +kernel) (fun _ _ _ _ _ _ us hl => match us, hl with | [_], _ => rfl) (fun vs H Q E h => len1 h) (fun f cdv A outer s H vs Q E hr h => ?_)
  have nd := sc_check_cap_numbers.nd
  obtain ⟨v0, rfl, h⟩ := h
  refine ⟨_, (pss_one (ps_for PassesOwn.never rfl (kp_list K (pe_callB (k_sortedS K) (by rfl) T.sorted bt_sorted (pa_cons (pe_callTy (call_listD rfl) (by rfl) T.list bt_list (pa_cons (pv 0) pa_nil)) pa_nil))) (pg_name (i := 1) nd rfl (Or.inl rfl))
      (pss_one (ps_if (pt_cmpR op_notN (pe_dget (hu_of hr) (pv 0) (pv 1) (fun _ _ => rfl)) pe_non (nomark _)) (pss_one (ps_expr (pe_fn c_check_number hr (by rfl) (pa_cons (pe_dget (hu_of hr) (pv 0) (pv 1) (fun _ _ => rfl)) pa_nil)))) pss_nil)))), ?_⟩
  obtain ⟨B, ps, C, hB, hc, hl, hn, q⟩ := h
  have hc' := hc
  obtain ⟨d, kvs, rfl, hd, hk⟩ := hc'
  refine ⟨_, rfl, d, kvs, rfl, hB.rd hd, fun l1 hl1 => ?_⟩
  rw [keysS hk]
  refine ⟨l1, ps, rfl, SqL.of upd_same, hl, fun ys l2 perm srt hl2 => ?_⟩
  have g1 : Gr [] B H (upd B l1 (.lst (ps.map V.str))) (upd H l1 (.lst (ps.map V.str))) := Gr.newP hB hl1
  have g2 : Gr [] B H _ (upd (upd H l1 (.lst (ps.map V.str))) l2 (.lst (ys.map V.str))) := g1.trans (Gr.newP g1.sub hl2)
  refine ⟨l2, rfl, ⟨_, SqL.of upd_same⟩, for_chk (Rs := rStr) (j := 1) rfl (src_list (a := l2) upd_same) g2.sub (strs2 ys) (fun y v N hy hv hN => ?_) (fun z => q _ _ g2)⟩
  obtain rfl : v = .str y := hv
  have hp := perm.mem_iff.mp hy
  obtain ⟨d', e, hd'⟩ := dgc (Rp.mono _ g2.up hc) g2.sub hp
  cases e
  refine ⟨_, rfl, _, rfl, d, _, rfl, hd', rfl, _, rfl, ?_⟩
  have hn1 := hn y hp
  cases e : C y with
  | none => exact iteF hN
  | some c =>
    rw [e] at hn1 hd'
    exact ite_tt ⟨_, rfl, _, rfl, d, _, rfl, hd', ⟨_, rfl, c, rfl, hn1, hN⟩⟩
def spCapNames (K : PySem.W.Frag) : Sp := sp3 fun a b c H Q => ∃ B n C, ExW B H ∧ (rWeb K).rel B n a ∧ (rD rEnd).rel B (caps n.names C) b ∧ (rL rStr).rel B [] c ∧ ∀ B' H', Gr [] B H B' H' → Q .non H'
theorem Net.Ok.lt {n : Net} (ok : n.Ok) : n.names.length < 64 := by
  show (n.lamps.map _).length < 64
  rw [List.length_map]; have := ok.len; omega
theorem Net.Ok.lt10 {n : Net} (ok : n.Ok) : n.names.length ≤ 10 := by
  show (n.lamps.map _).length ≤ 10
  rw [List.length_map]; exact ok.len
/-! ### check_cap_names -/
abbrev F_check_cap_names (P : Program) (w : World) (K : PySem.W.Frag) (mg : Str → Option Value) (base : Heap) : Prop := Fn P w K mg base CX0 4 "check_cap_names" ["web", "caps", "lamps"] [] (spCapNames K)
abbrev N_check_cap_names : List Str := ["web", "caps", "lamps", "name"]
theorem sc_check_cap_names : FnScope N_check_cap_names ["web", "caps", "lamps"] (defScope (top 35)) := ⟨rfl, rfl, rfl, by decide +kernel, rfl, by decide +kernel, by decide +kernel⟩
theorem ok_check_cap_names (T : TX K mg) (D : DefAt K mg "check_cap_names" (top 35) []) (c_check_lamp : F_check_lamp P w K mg base) (c_Web_lamps : F_Web_lamps P w K mg base)  : F_check_cap_names P w K mg base := by
  refine fn_ok D sc_check_cap_names (by decide +kernel) (fun _ _ _ _ _ _ us hl => match us, hl with | [_, _, _], _ => rfl) (fun vs H Q E h => len3 h) (fun f cdv A outer s H vs Q E hr h => ?_)
  have nd := sc_check_cap_names.nd
  obtain ⟨v0, v1, v2, rfl, h⟩ := h
  refine ⟨_, (pss_cons (ps_for PassesOwn.never rfl (kp_list K (pe_callB (k_sortedS K) (by rfl) T.sorted bt_sorted (pa_cons (pe_callTy (call_listD rfl) (by rfl) T.list bt_list (pa_cons (pv 1) pa_nil)) pa_nil))) (pg_name (i := 3) nd rfl (Or.inl rfl))
      (pss_one (ps_expr (pe_fn c_check_lamp hr (by rfl) (pa_cons (pv 0) (pa_cons (pv 3) pa_nil))))))
      (pss_cons (ps_for PassesOwn.never rfl (kp_list K (pv 2)) (pg_name (i := 3) nd rfl (Or.inl rfl))
      (pss_one (ps_expr (pe_fn c_check_lamp hr (by rfl) (pa_cons (pv 0) (pa_cons (pv 3) pa_nil))))))
      (pss_one (ps_for PassesOwn.never rfl (kp_list K (pe_pr T.clWeb c_Web_lamps hr (pv 0) rfl)) (pg_name (i := 3) nd rfl (Or.inl rfl))
      (pss_one (ps_if (pt_cmp (pc_dnotin (hu_of hr) (pv 3) (pv 1))) (pss_one ps_never) pss_nil)))))), ?_⟩
  obtain ⟨B, n, C, hB, hw, hc, hl, q⟩ := h
  have ok := hw.1
  have hc' := hc
  obtain ⟨d, kvs, rfl, hd, hk⟩ := hc'
  refine ⟨_, rfl, d, kvs, rfl, hB.rd hd, fun l1 hl1 => ?_⟩
  rw [keysS hk]
  refine ⟨l1, n.names, rfl, SqL.of upd_same, ok.lt, fun ys l2 perm srt hl2 => ?_⟩
  have g1 : Gr [] B H (upd B l1 (.lst (n.names.map V.str))) (upd H l1 (.lst (n.names.map V.str))) := Gr.newP hB hl1
  have g2 : Gr [] B H _ (upd (upd H l1 (.lst (n.names.map V.str))) l2 (.lst (ys.map V.str))) := g1.trans (Gr.newP g1.sub hl2)
  have hw2 := Rp.mono _ g2.up hw
  have hc2 := Rp.mono _ g2.up hc
  refine ⟨l2, rfl, ⟨_, SqL.of upd_same⟩, for_chk (Rs := rStr) (j := 3) rfl (src_list (a := l2) upd_same) g2.sub (strs2 ys) (fun y v N hy hv hN => ?_) (fun z => ?_)⟩
  · obtain rfl : v = .str y := hv
    exact ⟨_, rfl, _, rfl, _, _, rfl, _, n, y, g2.sub, hw2, rfl, perm.mem_iff.mp hy, hN⟩
  obtain ⟨e, evs, rfl, he, hes⟩ := Rp.mono _ g2.up hl
  refine ⟨_, rfl, e, rfl, ⟨_, SqL.of (g2.sub.lst he)⟩, for_chk (Rs := rStr) (j := 3) rfl (src_list he) g2.sub hes (fun y v N hy hv hN => nomatch hy) (fun z => ?_)⟩
  obtain ⟨okw, wa, wdx, u1, u2, u3, u4, u5, u6, u7, rfl, hwa, _⟩ := id hw2
  refine ⟨_, rfl, wa, wdx, _, rfl, g2.sub.ins hwa, ⟨_, rfl, _, n, g2.sub, hw2, fun B3 H3 lv g3 hlv => ?_⟩⟩
  obtain ⟨l3, l3s, rfl, hl3, hl3s⟩ := hlv
  have G3 := g2.trans g3
  refine ⟨l3, rfl, ⟨_, SqL.of (g3.sub.lst hl3)⟩, for_chk (Rs := rStr) (j := 3) rfl (src_list hl3) g3.sub hl3s (fun y v N hy hv hN => ?_) (fun z => q _ _ G3)⟩
  obtain rfl : v = .str y := hv
  obtain ⟨d', e, hd'⟩ := dgc (Rp.mono _ g3.up hc2) g3.sub hy
  cases e
  exact ⟨_, rfl, _, rfl, d, _, rfl, hd', _, rfl, iteF hN⟩
/-- below the light, and it may rise to it -/
def inF (S : Str → Int) (C : Str → Option Int) (v : Int) (x : Str) : Bool := decide (S x ≤ v) && leE v (C x)
def spFieldIn : Sp := sp3 fun a b c H Q => ∃ B ps S C v, ExW B H ∧ (rD rInt).rel B (glow ps S) a ∧ (rD rEnd).rel B (caps ps C) b ∧ c = .int v ∧ ps.length < 64 ∧ Ret (rL rStr) (ps.filter (inF S C v)) B H Q
theorem fm_filter {α : Type} {p : α → Bool} : ∀ xs : List α, xs.filterMap (fun y => if p y = true then some y else none) = xs.filter p
  | [] => rfl
  | x :: r => by
    rw [List.filterMap_cons, List.filter_cons, fm_filter r]
    cases p x <;> rfl
/-! ### field_in -/
abbrev F_field_in (P : Program) (w : World) (K : PySem.W.Frag) (mg : Str → Option Value) (base : Heap) : Prop := Fn P w K mg base CX0 1 "field_in" ["lights", "caps", "light"] [] spFieldIn
abbrev N_field_in : List Str := ["lights", "caps", "light", "lamp"]
theorem sc_field_in : FnScope N_field_in ["lights", "caps", "light"] (defScope (top 37)) := ⟨rfl, rfl, rfl, by decide +kernel, rfl, by decide +kernel, by decide +kernel⟩
theorem ok_field_in (T : TX K mg) (D : DefAt K mg "field_in" (top 37) [])   : F_field_in P w K mg base := by
  refine fn_ok D sc_field_in (by decide +kernel) (fun _ _ _ _ _ _ us hl => match us, hl with | [_, _, _], _ => rfl) (fun vs H Q E h => len3 h) (fun f cdv A outer s H vs Q E hr h => ?_)
  have nd := sc_field_in.nd
  obtain ⟨v0, v1, v2, rfl, h⟩ := h
  refine ⟨_, (pss_one (ps_ret (pe_lc (own := [("lamp", 3)]) rfl nd (pi_keysL (pv 0)) (blkOk_by (own := [("lamp", 3)]) (N := N_field_in) (sc := defScope (top 37)) (by decide +kernel)) (fun _ _ _ _ _ => (pg_name (i := 3) nd rfl (Or.inl rfl))) (fun _ _ _ _ _ => (pts_one (PW.pt (pw_and (pt_cmpR op_le (pe_dget (hu_of hr) (pv 0) (pv 3) (fun _ _ => rfl)) (pv 2) (nomark _)) (pw_and1 (PW.pt (pw_or (pt_cmpR op_isN (pe_dget (hu_of hr) (pv 1) (pv 3) (fun _ _ => rfl)) pe_non (nomark _)) (pw_or1 (pt_cmpR op_le (pv 2) (pe_dget (hu_of hr) (pv 1) (pv 3) (fun _ _ => rfl)) (nomark _)))))))))) (fun _ _ _ _ _ => (pv 3))))), ?_⟩
  obtain ⟨B, ps, S, C, v, hB, hl, hc, rfl, h64, q⟩ := h
  obtain ⟨d, kvs, rfl, hd, hk⟩ := id hl
  refine ⟨_, rfl, d, kvs, rfl, hB.rd hd, fun od H1 lk => ?_⟩
  obtain ⟨B1, g1, hd1⟩ := lk_go hB hd lk
  have hl1 := Rp.mono _ g1.up hl
  have hc1 := Rp.mono _ g1.up hc
  have ks : All2 (rStr.rel B1) ps (kvs.map fun p => kV p.1) := by rw [keysS hk]; exact strs2 ps
  refine ⟨d, od, rfl, .inl ⟨kvs, (by rcases lk with ⟨h, rfl⟩ | ⟨h, rfl⟩; exact h; exact upd_same), fun D hD => lc_flt (ys := ps) (Rs := rStr) (R := rStr) (fun y => if inF S C v y = true then some y else none) (src_keys hd1) g1.sub hD ks (by rw [← ks.len]; omega) (fun y x B3 H3 K1 K0 hy hx g3 k1 k0 => ?_) (fun B3 H3 g3 h3 => ?_)⟩⟩
  · obtain rfl : x = .str y := hx
    obtain ⟨d1, e, hd2⟩ := dgl (Rp.mono _ g3.up hl1) g3.sub hy
    cases e
    have hcy := Rp.mono _ g3.up hc1
    obtain ⟨cd, rfl, hcd⟩ := dgc hcy g3.sub hy
    refine ⟨_, rfl, _, rfl, d, _, rfl, hd2, _, rfl, _, _, rfl, rfl, _, rfl, ?_⟩
    refine ite2 (fun e => ?_) (fun e => ?_)
    · have e := of_decide_eq_true e
      cases ec : C y with
      | none =>
        rw [ec] at hcd
        refine ⟨_, rfl, _, rfl, cd, _, rfl, hcd, rfl, _, rfl, ite_tt (ite_tt ⟨_, rfl, k1 y _ _ _ (if_pos ?_) (Gr.refl g3.sub) rfl⟩)⟩
        unfold inF
        rw [ec, decide_eq_true e]
        rfl
      | some c =>
        rw [ec] at hcd
        refine ⟨_, rfl, _, rfl, cd, _, rfl, hcd, rfl, _, rfl, iteF ⟨_, rfl, _, rfl, _, rfl, cd, _, rfl, hcd, _, _, rfl, rfl, _, rfl, ?_⟩⟩
        refine ite2 (fun e2 => ?_) (fun e2 => ?_)
        · refine ⟨_, rfl, k1 y _ _ _ (if_pos ?_) (Gr.refl g3.sub) rfl⟩
          unfold inF
          rw [ec, decide_eq_true e]
          exact e2
        · refine k0 _ _ (if_neg ?_) (Gr.refl g3.sub)
          unfold inF
          rw [ec, decide_eq_true e]
          show ¬ (leE v (some c)) = true
          show ¬ decide (v ≤ c) = true
          exact e2
    · refine iteF (k0 _ _ (if_neg ?_) (Gr.refl g3.sub))
      unfold inF
      rw [Bool.eq_false_iff.mpr e]
      exact Bool.false_ne_true
  rw [fm_filter] at h3
  exact (q.go g1).newL g3 h3
theorem flat_filter {α : Type} {p : α → Bool} : ∀ xs : List α, (xs.flatMap fun b => if p b = true then [b] else []) = xs.filter p
  | [] => rfl
  | x :: r => by
    rw [List.flatMap_cons, List.filter_cons, flat_filter r]
    cases p x <;> rfl
/-! ### bonds that let a light pass within a field -/
def opn (L : List Str) (v : Int) (b : Bond) : Bool := decide (b.a ∈ L) && decide (b.b ∈ L) && letB b.lo b.hi v
def spOpen (K : PySem.W.Frag) : Sp := sp3 fun a b c H Q => ∃ B n L v, ExW B H ∧ (rWeb K).rel B n a ∧ (rL rStr).rel B L b ∧ c = .int v ∧ Ret (rL rB3) (n.bonds.filter (opn L v)) B H Q
/-! ### open_bonds -/
abbrev F_open_bonds (P : Program) (w : World) (K : PySem.W.Frag) (mg : Str → Option Value) (base : Heap) : Prop := Fn P w K mg base CX0 3 "open_bonds" ["web", "lamps", "light"] [] (spOpen K)
abbrev N_open_bonds : List Str := ["web", "lamps", "light", "found", "bond", "one", "two", "low", "high"]
theorem sc_open_bonds : FnScope N_open_bonds ["web", "lamps", "light"] (defScope (top 38)) := ⟨rfl, rfl, rfl, by decide +kernel, rfl, by decide +kernel, by decide +kernel⟩
theorem ok_open_bonds (T : TX K mg) (D : DefAt K mg "open_bonds" (top 38) []) (c_Web_bond_rows : F_Web_bond_rows P w K mg base) (c_lets_pass : F_lets_pass P w K mg base)  : F_open_bonds P w K mg base := by
  refine fn_ok D sc_open_bonds (by decide +kernel) (fun _ _ _ _ _ _ us hl => match us, hl with | [_, _, _], _ => rfl) (fun vs H Q E h => len3 h) (fun f cdv A outer s H vs Q E hr h => ?_)
  have nd := sc_open_bonds.nd
  obtain ⟨v0, v1, v2, rfl, h⟩ := h
  refine ⟨_, (pss_cons (ps_set (i := 3) nd rfl (Or.inl rfl) (pe_lst pa_nil))
      (pss_cons (ps_for PassesOwn.never rfl (kp_list K (pe_pr T.clWeb c_Web_bond_rows hr (pv 0) rfl)) (pg_tup rfl (pgs_cons (pg_name (i := 4) nd rfl (Or.inl rfl)) (pgs_cons (pg_name (i := 5) nd rfl (Or.inl rfl)) (pgs_cons (pg_name (i := 6) nd rfl (Or.inl rfl)) (pgs_cons (pg_name (i := 7) nd rfl (Or.inl rfl)) (pgs_cons (pg_name (i := 8) nd rfl (Or.inl rfl)) pgs_nil))))))
      (pss_one (ps_if (PW.pt (pw_and (pt_cmpR (k_inSeq K) (pv 5) (pv 1) (by rfl)) (pw_and (pt_cmpR (k_inSeq K) (pv 6) (pv 1) (by rfl)) (pw_and1 (pt_val (pe_fn c_lets_pass hr (by rfl) (pa_cons (pv 7) (pa_cons (pv 8) (pa_cons (pv 2) pa_nil))))))))) (pss_one (ps_expr (pe_bm PySem.F.plainAttrs_list PySem.F.slot_list_append PySem.F.type_list_append mt_append (pv 3) (pa_cons (pe_tup (pa_cons (pv 4) (pa_cons (pv 5) (pa_cons (pv 6) pa_nil)))) pa_nil)))) pss_nil)))
      (pss_one (ps_ret (pv 3))))), ?_⟩
  obtain ⟨B, n, L, v, hB, hw, hL, rfl, q⟩ := h
  refine ⟨by show 0 ≤ sizeLine; decide, fun p hp => ?_⟩
  have g0 : Gr [] B H B (upd H p (.lst [])) := Gr.new_ hB hp
  obtain ⟨okw, wa, wdx, u1, u2, u3, u4, u5, u6, u7, rfl, hwa, _⟩ := id hw
  refine ⟨_, rfl, wa, wdx, _, rfl, g0.sub.ins hwa, ⟨_, rfl, B, n, g0.sub, hw, fun B1 H1 lv g1 hlv => ?_⟩⟩
  obtain ⟨l, ls, rfl, hl, hls⟩ := hlv
  have hp1 : H1 p = some (.lst []) := g1.keep p _ (fun z => nomatch z) (hB.none hp) upd_same
  have bp1 : B1 p = none := g1.new p (hB.none hp) (by rw [upd_same]; exact fun z => nomatch z)
  have hL1 := Rp.mono _ g1.up hL
  refine ⟨l, rfl, ⟨_, SqL.of (g1.sub.lst hl)⟩, for_app (R := rB3) (Rs := rBRow) (fun b => if opn L v b = true then [b] else []) (fun σ1 => ∃ z4 z5 z6 z7 z8, σ1 = [some (.ref wa), some v1, some (.int v), some (.ref p), z4, z5, z6, z7, z8]) (src_list hl) g1.sub bp1 hp1 hls ?_ ⟨_, _, _, _, _, rfl⟩ (fun y x σ1 B2 H2 zs N hy hx hs g2 b2 h2 hz k => ?_) (fun σ1 B2 H2 zs hs g2 b2 h2 a2 => ?_)⟩
  · exact Nat.le_trans (by rw [flat_filter]; exact List.length_filter_le _ _) (Nat.le_trans okw.blen (by decide))
  · obtain ⟨z4, z5, z6, z7, z8, rfl⟩ := hs
    obtain ⟨ra, rfl, hra⟩ := id hx
    refine ⟨ra, _, rfl, SqT.of (g2.sub.tup hra), rfl, _, _, rfl, _, _, rfl, _, _, rfl, _, _, rfl, _, _, rfl, rfl, ?_⟩
    have hL2 := Rp.mono _ g2.up hL1
    have sk : opn L v y = false → N [some (.ref wa), some v1, some (.int v), some (.ref p), some (.str y.nm), some (.str y.a), some (.str y.b), some (vo y.lo), some (vo y.hi)] H2 := fun e =>
      k _ B2 H2 [] ⟨_, _, _, _, _, rfl⟩ (Gr.refl g2.sub) b2 (by rw [List.append_nil]; exact h2) (by rw [e]; exact .nil)
    refine ⟨_, rfl, _, rfl, inL_go g2.sub hL2 ⟨_, rfl, ?_⟩⟩
    refine ite2 (fun ea => ?_) (fun ea => ?_)
    · refine ⟨_, rfl, _, rfl, inL_go g2.sub hL2 ⟨_, rfl, ?_⟩⟩
      refine ite2 (fun eb => ?_) (fun eb => ?_)
      · refine ⟨_, rfl, _, rfl, _, rfl, _, _, _, rfl, y.lo, y.hi, v, rfl, rfl, rfl, _, rfl, ?_⟩
        refine ite2 (fun ec => ?_) (fun ec => ?_)
        · refine ⟨_, rfl, ty_lst h2, _, rfl, _, rfl, _, rfl, (by show 3 ≤ sizeLine; decide), fun t ht => ?_⟩
          have np : p ≠ t := ne_of_none h2 ht
          have h2' : (upd H2 t (.tup [.str y.nm, .str y.a, .str y.b])) p = some (.lst zs) := by rw [upd_ne np]; exact h2
          have G2 : Gr [p] B2 H2 (upd B2 t (.tup [.str y.nm, .str y.a, .str y.b])) (upd H2 t (.tup [.str y.nm, .str y.a, .str y.b])) := Gr.newP g2.sub ht
          have e : opn L v y = true := by unfold opn; rw [ea, eb, ec]; rfl
          refine ⟨p, zs, .ref t, rfl, rfl, h2', Nat.lt_of_le_of_lt (Nat.le_trans (Nat.le_add_right _ _) hz) (by decide), ?_⟩
          refine k _ (upd B2 t (.tup [.str y.nm, .str y.a, .str y.b])) _ [.ref t] ⟨_, _, _, _, _, rfl⟩ (G2.mut (.inr (by simp)) (by rw [upd_ne np]; exact b2)) (by rw [upd_ne np]; exact b2) upd_same ?_
          rw [e]
          exact .cons ⟨t, rfl, upd_same⟩ .nil
        · exact sk (by unfold opn; rw [Bool.eq_false_iff.mpr ec, Bool.and_false])
      · exact iteF (sk (by unfold opn; rw [Bool.eq_false_iff.mpr eb, Bool.and_false, Bool.false_and]))
    · exact iteF (sk (by unfold opn; rw [Bool.eq_false_iff.mpr ea, Bool.false_and, Bool.false_and]))
  · obtain ⟨z4, z5, z6, z7, z8, rfl⟩ := hs
    rw [flat_filter] at a2
    have G : Gr [] B H B2 H2 := (g0.trans g1).fresh hp g2
    exact ⟨_, rfl, q.newL G ⟨p, zs, rfl, hp, b2, h2, a2⟩⟩
end
end OB

/-! ## P8 -/
set_option maxHeartbeats 4000000
namespace OB
open PySem PySem.Spec PyProof.Rows L2
/-! ### groups -/
/-- the order of names -/
abbrev sLt (a b : Str) : Prop := a.cps.toList < b.cps.toList
/-- the leaders, one bond on -/
def joinStep (L : Str → Str) (b : Bond) : Str → Str :=
  let lo := if sLt (L b.b) (L b.a) then L b.b else L b.a
  let hi := if sLt (L b.b) (L b.a) then L b.a else L b.b
  fun x => if L x = hi then lo else L x
def leads (rows : List Bond) : Str → Str := rows.foldl joinStep id
def groupsOf (lamps : List Str) (rows : List Bond) : List (List Str) :=
  (lamps.filter fun f => decide (leads rows f = f)).map fun f => lamps.filter fun x => decide (leads rows x = f)
section
variable {P : Program} {w : World} {K : PySem.W.Frag} {mg : Str → Option Value} {base : Heap}
/-- a dict that its maker still owns: read, written -/
theorem ownGet {α : Type} {R : Rp α} {B H : Hp} {p : Addr} {kvs : List (Key × V)} {ps : List Str} {L : Str → α} {x : Str} (h : H p = some (.dK kvs)) (a : DAll R B (ps.map fun y => (y, L y)) kvs) (hx : x ∈ ps) : ∃ u, DGet H p (.str x) (some u) ∧ R.rel B (L x) u := by
  obtain ⟨u, h4, h5⟩ := (DAll.look x a).1 (L x) (by rw [look_glow, if_pos hx])
  exact ⟨u, .inl ⟨kvs, Sum.inr x, .inl h, rfl, h4.symm⟩, h5⟩
theorem own_lt {α : Type} {R : Rp α} {B : Hp} {kvs : List (Key × V)} {ps : List Str} {L : Str → α} (a : DAll R B (ps.map fun y => (y, L y)) kvs) (h : ps.length < 64) : kvs.length < sizeLine := by
  have := a.len
  rw [List.length_map] at this
  rw [← this]
  exact Nat.lt_trans h (by decide)
theorem dgG {α : Type} {R : Rp α} {B H : Hp} {ps : List Str} {f : Str → α} {x : Str} {v : V} (hl : (rD R).rel B (ps.map fun p => (p, f p)) v) (hB : ExW B H) (hx : x ∈ ps) : ∃ d u, v = .ref d ∧ DGet H d (.str x) (some u) ∧ R.rel B (f x) u :=
  dgetB (k := x) (x := f x) hl hB (by rw [look_glow, if_pos hx])
theorem flat_le {α β : Type} (c : α → Bool) (g : α → β) : ∀ {xs : List α}, (xs.flatMap fun b => if c b = true then [g b] else []).length ≤ xs.length
  | [] => Nat.le_refl _
  | x :: r => by
    rw [List.flatMap_cons, List.length_append, List.length_cons]
    have := flat_le c g (xs := r)
    cases c x
    · exact Nat.le_trans (Nat.le_of_eq (Nat.zero_add _)) (Nat.le_succ_of_le this)
    · rw [if_pos rfl, List.length_singleton]; omega
theorem flat_fm {α β : Type} (c : α → Bool) (g : α → β) : ∀ xs : List α, (xs.flatMap fun b => if c b = true then [g b] else []) = (xs.filter c).map g
  | [] => rfl
  | x :: r => by
    rw [List.flatMap_cons, List.filter_cons, flat_fm c g r]
    cases c x <;> rfl
theorem join_in {B H : Hp} {p la : Addr} {lvs : List V} {lamps : List Str} {L : Str → Str} {lo hi : Str} {D : Ends} {kvs : List (Key × V)} {v1 v3 : V} {z6 z7 z8 : Option V} (hB : ExW B H) (bp : B p = none) (hp : H p = some (.dK kvs)) (hd : DAll rStr B (lamps.map fun x => (x, L x)) kvs) (hla : B la = some (.lst lvs)) (hls : All2 (rStr.rel B) lamps lvs) (ndl : lamps.Nodup) (l64 : lamps.length < 64)
    (k : ∀ B' H' z6 kvs', Gr [p] B H B' H' → B' p = none → H' p = some (.dK kvs') → DAll rStr B' (lamps.map fun x => (x, if L x = hi then lo else L x)) kvs' → D.nx [some (.ref la), some v1, some (.ref p), some v3, some (.str lo), some (.str hi), z6, z7, z8] H') :
    tIfS (tTest (tOp rNe (tVar 4) (tVar 5))) (tFor (iList K (tVar 0)) (gName 6) (tIfS (tTest (tOp rEq (tDGet (tVar 2) (tVar 6)) (tVar 5))) (sDPut (tVar 2) (tVar 6) (tVar 4)) tNext)) tNext D [some (.ref la), some v1, some (.ref p), some v3, some (.str lo), some (.str hi), z6, z7, z8] H := by
  refine ⟨_, rfl, _, rfl, rfl, _, rfl, ?_⟩
  by_cases e : lo = hi
  · subst e
    refine iteF' (by simp) (k B H _ kvs (Gr.refl hB) bp hp ?_)
    have : (fun x => (x, if L x = lo then lo else L x)) = fun x => (x, L x) := by
      funext x
      by_cases z : L x = lo
      · rw [if_pos z, z]
      · rw [if_neg z]
    rw [this]
    exact hd
  · refine iteT' (by simp [e]) ?_
    refine ⟨_, rfl, la, rfl, ⟨_, SqL.of (hB.lst hla)⟩, for_go (Rs := rStr) (fun j σ2 B3 H3 => (∃ z6, σ2 = [some (.ref la), some v1, some (.ref p), some v3, some (.str lo), some (.str hi), z6, z7, z8]) ∧ Gr [p] B H B3 H3 ∧ B3 p = none ∧ ∃ kvs, H3 p = some (.dK kvs) ∧ DAll rStr B3 (lamps.map fun x => (x, if x ∈ lamps.take j ∧ L x = hi then lo else L x)) kvs)
      (src_list hla) hls ⟨⟨_, rfl⟩, Gr.refl hB, bp, kvs, hp, by simpa using hd⟩ (fun i σ1 B1 H1 h => ⟨h.2.1.up, h.2.1.sub⟩) (fun i y x σ1 B1 H1 hy hx h => ?_) (fun σ1 B1 H1 h => ?_)⟩
    · obtain ⟨⟨z, rfl⟩, g1, b1, kvs1, h1, a1⟩ := h
      obtain rfl : x = .str y := hx
      have ym : y ∈ lamps := List.mem_of_getElem? hy
      have yn : ¬ y ∈ lamps.take i := fun z => by
        obtain ⟨j, hj, ej⟩ := List.getElem_of_mem z
        have hj' : j < i := by rw [List.length_take] at hj; omega
        have q1 : lamps[j]? = some y := by
          rw [List.getElem_take] at ej
          rw [List.length_take] at hj
          rw [List.getElem?_eq_getElem (by omega), ej]
        have := nd_ix ndl q1 hy
        omega
      have et : lamps.take (i + 1) = lamps.take i ++ [y] := by rw [List.take_succ, hy]; rfl
      obtain ⟨u, hu, ru⟩ := ownGet h1 a1 ym
      rw [if_neg (fun z => yn z.1)] at ru
      obtain rfl : u = .str (L y) := ru
      refine ⟨_, rfl, _, rfl, p, _, rfl, hu, _, rfl, rfl, _, rfl, ?_⟩
      by_cases e1 : L y = hi
      · refine iteT' (by simp [e1]) ⟨_, rfl, _, rfl, _, rfl, p, _, rfl, DPut.k (k := Sum.inr y) h1 (own_lt a1 l64), ?_⟩
        refine ⟨B1, ⟨_, rfl⟩, g1.mut (.inr (by simp)) b1, b1, _, upd_same, ?_⟩
        refine DAll.set (S := fun x => if x ∈ lamps.take i ∧ L x = hi then lo else L x) (S' := fun x => if x ∈ lamps.take (i + 1) ∧ L x = hi then lo else L x) ?_ (fun z hz => ?_) ndl ym a1
        · show V.str lo = V.str _
          rw [if_pos ⟨by rw [et]; simp, e1⟩]
        · have : (z ∈ lamps.take (i + 1)) = (z ∈ lamps.take i) := by rw [et]; simp [hz]
          simp only [this]
      · refine iteF' (by simp [e1]) ⟨B1, ⟨_, rfl⟩, g1, b1, kvs1, h1, ?_⟩
        have : (fun x => (x, if x ∈ lamps.take (i + 1) ∧ L x = hi then lo else L x)) = fun x => (x, if x ∈ lamps.take i ∧ L x = hi then lo else L x) := by
          funext z
          by_cases hz : z = y
          · subst hz
            rw [if_neg (fun q => e1 q.2), if_neg (fun q => e1 q.2)]
          · have : (z ∈ lamps.take (i + 1)) = (z ∈ lamps.take i) := by rw [et]; simp [hz]
            simp only [this]
        rw [this]
        exact a1
    · obtain ⟨⟨z, rfl⟩, g1, b1, kvs1, h1, a1⟩ := h
      refine k B1 H1 z kvs1 g1 b1 h1 ?_
      rw [List.take_length] at a1
      have : (lamps.map fun x => (x, if L x = hi then lo else L x)) = lamps.map fun x => (x, if x ∈ lamps ∧ L x = hi then lo else L x) := List.map_congr_left fun z hz => by
        simp [hz]
      rw [this]
      exact a1
def spJoined : Sp := sp2 fun a b H Q => ∃ B lamps rows, ExW B H ∧ (rL rStr).rel B lamps a ∧ (rL rB3).rel B rows b ∧ lamps.Nodup ∧ lamps.length < 64 ∧ rows.length < 64 ∧ (∀ r ∈ rows, r.a ∈ lamps ∧ r.b ∈ lamps) ∧ Ret (rL (rTU rStr)) (groupsOf lamps rows) B H Q
/-! ### joined_lamps -/
abbrev F_joined_lamps (P : Program) (w : World) (K : PySem.W.Frag) (mg : Str → Option Value) (base : Heap) : Prop := Fn P w K mg base CX0 1 "joined_lamps" ["lamps", "rows"] [] spJoined
abbrev N_joined_lamps : List Str := ["lamps", "rows", "leader", "row", "low", "high", "lamp", "found", "first"]
theorem sc_joined_lamps : FnScope N_joined_lamps ["lamps", "rows"] (defScope (top 39)) := ⟨rfl, rfl, rfl, by decide +kernel, rfl, by decide +kernel, by decide +kernel⟩
theorem ok_joined_lamps (T : TX K mg) (D : DefAt K mg "joined_lamps" (top 39) [])   : F_joined_lamps P w K mg base := by
  refine fn_ok D sc_joined_lamps (by decide +kernel) (fun _ _ _ _ _ _ us hl => match us, hl with | [_, _], _ => rfl) (fun vs H Q E h => len2 h) (fun f cdv A outer s H vs Q E hr h => ?_)
  have nd := sc_joined_lamps.nd
  obtain ⟨v0, v1, rfl, h⟩ := h
  refine ⟨_, (pss_cons (ps_set (i := 2) nd rfl (Or.inr rfl) (pe_dc (own := [("lamp", 6)]) rfl nd (kp_list K (pv 0)) (blkOk_by (own := [("lamp", 6)]) (N := N_joined_lamps) (sc := defScope (top 39)) (by decide +kernel)) (fun _ _ _ _ _ => (pg_name (i := 6) nd rfl (Or.inl rfl))) (fun _ _ _ _ _ => pts_nil) (fun _ _ _ _ _ => (pv 6)) (fun _ _ _ _ _ => (pv 6))))
      (pss_cons (ps_for PassesOwn.never rfl (kp_list K (pv 1)) (pg_name (i := 3) nd rfl (Or.inl rfl))
      (pss_cons (ps_set (i := 4) nd rfl (Or.inl rfl) (pe_dget (hu_of hr) (pv 2) (pe_ix (kx_tup K) (pv 3) pe_int (fun _ _ => rfl)) (fun _ _ => rfl)))
      (pss_cons (ps_set (i := 5) nd rfl (Or.inl rfl) (pe_dget (hu_of hr) (pv 2) (pe_ix (kx_tup K) (pv 3) pe_int (fun _ _ => rfl)) (fun _ _ => rfl)))
      (pss_cons (ps_if (pt_cmpR op_lt_str (pv 5) (pv 4) (nomark _)) (pss_one (ps_par (i := 4) (j := 5) rfl nd rfl rfl (by decide) rfl rfl (pa_cons (pv 5) (pa_cons (pv 4) pa_nil)) (by rfl))) pss_nil)
      (pss_one (ps_if (pt_cmpR op_ne (pv 4) (pv 5) (nomark _)) (pss_one (ps_for PassesOwn.never rfl (kp_list K (pv 0)) (pg_name (i := 6) nd rfl (Or.inl rfl))
      (pss_one (ps_if (pt_cmpR op_eq (pe_dget (hu_of hr) (pv 2) (pv 6) (fun _ _ => rfl)) (pv 5) (nomark _)) (pss_one (ps_dput (hu_of hr) (pv 2) (pv 6) (pv 4) rfl)) pss_nil)))) pss_nil))))))
      (pss_cons (ps_set (i := 7) nd rfl (Or.inl rfl) (pe_lst pa_nil))
      (pss_cons (ps_for PassesOwn.never rfl (kp_list K (pv 0)) (pg_name (i := 8) nd rfl (Or.inr rfl))
      (pss_one (ps_if (pt_cmpR op_eq (pe_dget (hu_of hr) (pv 2) (pv 8) (fun _ _ => rfl)) (pv 8) (nomark _)) (pss_one (ps_expr (pe_bm PySem.F.plainAttrs_list PySem.F.slot_list_append PySem.F.type_list_append mt_append (pv 7) (pa_cons (pe_callTy (k_tuple K) (by rfl) T.tuple bt_tuple (pa_cons (pe_lc (own := [("lamp", 6)]) rfl nd (kp_list K (pv 0)) (blkOk_by (own := [("lamp", 6)]) (N := N_joined_lamps) (sc := defScope (top 39)) (by decide +kernel)) (fun _ _ _ _ _ => (pg_name (i := 6) nd rfl (Or.inl rfl))) (fun _ _ _ _ _ => (pts_one (pt_cmpR op_eq (pe_dget (hu_of hr) (pv 2) (pv 6) (fun _ _ => rfl)) (pv 8) (nomark _)))) (fun _ _ _ _ _ => (pv 6))) pa_nil)) pa_nil)))) pss_nil)))
      (pss_one (ps_ret (pv 7))))))), ?_⟩
  obtain ⟨B, lamps, rows, hB, hL, hR, ndl, l64, r64, mem, q⟩ := h
  obtain ⟨la, lvs, rfl, hla, hls⟩ := id hL
  obtain ⟨ra, rvs, rfl, hra, hrs⟩ := id hR
  have lln : lvs.length ≤ 100000 := by rw [← hls.len]; omega
  refine ⟨_, rfl, la, rfl, ⟨_, SqL.of (hB.lst hla)⟩, fun p hp => dc_map (Rs := rStr) (R := rStr) (fun y => y) (fun y => y) (src_list hla) hB hp hls lln (by rw [List.map_id']; exact ndl) (fun y v B4 H4 K1 hy hv g4 k => ?_) (fun B2 H2 g2 h2 => ?_)⟩
  · obtain rfl : v = .str y := hv
    exact ⟨_, rfl, _, rfl, k _ _ _ (Gr.refl g4.sub) rfl⟩
  obtain ⟨kvs, hp0, bp2, hp2, hk2⟩ := h2.at_
  have hR2 := Rp.mono _ g2.up hR
  have hls2 := All2.mono g2.up hls
  have hrs2 := All2.mono g2.up hrs
  refine ⟨_, rfl, ra, rfl, ⟨_, SqL.of (g2.sub.lst (g2.up.lst hra))⟩, for_go (Rs := rB3) (fun i σ1 B1 H1 => (∃ z3 z4 z5 z6 z7 z8, σ1 = [some (.ref la), some (.ref ra), some (.ref p), z3, z4, z5, z6, z7, z8]) ∧ Gr [p] B2 H2 B1 H1 ∧ B1 p = none ∧ ∃ kvs, H1 p = some (.dK kvs) ∧ DAll rStr B1 (lamps.map fun x => (x, leads (rows.take i) x)) kvs)
    (src_list (g2.up.lst hra)) hrs2 ⟨⟨_, _, _, _, _, _, rfl⟩, Gr.refl g2.sub, bp2, kvs, hp2, hk2⟩ (fun i σ1 B1 H1 h => ⟨h.2.1.up, h.2.1.sub⟩) (fun i y x σ1 B1 H1 hy hx h => ?_) (fun σ1 B1 H1 h => ?_)⟩
  · obtain ⟨⟨z3, z4, z5, z6, z7, z8, rfl⟩, g1, b1, kvs1, h1, a1⟩ := h
    obtain ⟨ma, mb⟩ := mem y (List.mem_of_getElem? hy)
    have et : leads (rows.take (i + 1)) = joinStep (leads (rows.take i)) y := by
      have : rows.take (i + 1) = rows.take i ++ [y] := by rw [List.take_succ, hy]; rfl
      unfold leads
      rw [this, List.foldl_append]
      rfl
    obtain ⟨u1, hu1, ru1⟩ := ownGet h1 a1 ma
    obtain ⟨u2, hu2, ru2⟩ := ownGet h1 a1 mb
    obtain rfl : u1 = .str (leads (rows.take i) y.a) := ru1
    obtain rfl : u2 = .str (leads (rows.take i) y.b) := ru2
    obtain ⟨xa, rfl, hxa⟩ := id hx
    have sx := SqT.of (K := K) (g1.sub.tup hxa)
    refine ⟨_, rfl, _, rfl, xa, _, _, _, rfl, rfl, sx, atI_nat (j := 1) rfl, p, _, rfl, hu1, _, rfl, _, rfl, xa, _, _, _, rfl, rfl, sx, atI_nat (j := 2) rfl, p, _, rfl, hu2, ?_⟩
    refine ⟨_, rfl, _, rfl, _, _, rfl, rfl, _, rfl, ?_⟩
    have ja : joinStep (leads (rows.take i)) y = fun x => if leads (rows.take i) x = (if sLt (leads (rows.take i) y.b) (leads (rows.take i) y.a) then leads (rows.take i) y.a else leads (rows.take i) y.b) then (if sLt (leads (rows.take i) y.b) (leads (rows.take i) y.a) then leads (rows.take i) y.b else leads (rows.take i) y.a) else leads (rows.take i) x := rfl
    have hla1 : B1 la = some (.lst lvs) := g1.up.lst (g2.up.lst hla)
    have hls1 := All2.mono g1.up hls2
    refine ite2 (fun e => ?_) (fun e => ?_)
    · have e := of_decide_eq_true e
      rw [if_pos e, if_pos e] at ja
      refine ⟨_, rfl, _, rfl, _, _, rfl, join_in g1.sub b1 h1 a1 hla1 hls1 ndl l64 fun B' H' z6 kvs' g b' h' a' => ⟨B', ⟨_, _, _, _, _, _, rfl⟩, g1.trans g, b', kvs', h', ?_⟩⟩
      rw [et, ja]
      exact a'
    · have e : ¬ sLt (leads (rows.take i) y.b) (leads (rows.take i) y.a) := by simpa using e
      rw [if_neg e, if_neg e] at ja
      refine join_in g1.sub b1 h1 a1 hla1 hls1 ndl l64 fun B' H' z6 kvs' g b' h' a' => ⟨B', ⟨_, _, _, _, _, _, rfl⟩, g1.trans g, b', kvs', h', ?_⟩
      rw [et, ja]
      exact a'
  · obtain ⟨⟨z3, z4, z5, z6, z7, z8, rfl⟩, g1, b1, kvs1, h1, a1⟩ := h
    rw [List.take_length] at a1
    -- the leaders are known
    have gA : Gr [] B H B1 H1 := g2.fresh hp g1
    have gP : Gr [] B H (upd B1 p (.dK kvs1)) H1 := gA.pub hp b1 h1
    have hd : (rD rStr).rel (upd B1 p (.dK kvs1)) (lamps.map fun x => (x, leads rows x)) (.ref p) := ⟨p, kvs1, rfl, .inl upd_same, DAll.mono (ExW.new b1) a1⟩
    refine ⟨by show 0 ≤ sizeLine; decide, fun r hr => ?_⟩
    have gR : Gr [] B H (upd B1 p (.dK kvs1)) (upd H1 r (.lst [])) := gP.trans (Gr.new_ gP.sub hr)
    have hlaR := gR.up.lst hla
    have hlsR := All2.mono gR.up hls
    have brp : (upd B1 p (.dK kvs1)) r = none := gP.sub.none hr
    refine ⟨_, rfl, la, rfl, ⟨_, SqL.of (gR.sub.lst hlaR)⟩, for_app (R := rTU rStr) (Rs := rStr) (fun f => if decide (leads rows f = f) = true then [lamps.filter fun x => decide (leads rows x = f)] else []) (fun σ1 => ∃ z3 z4 z5 z6 z8, σ1 = [some (.ref la), some (.ref ra), some (.ref p), z3, z4, z5, z6, some (.ref r), z8]) (src_list hlaR) gR.sub brp upd_same hlsR ?_ ⟨_, _, _, _, _, rfl⟩ (fun y x σ1 B2 H2 zs N hy hx hs g2 b2 h2 hz k => ?_) (fun σ1 B2 H2 zs hs g2 b2 h2 a2 => ?_)⟩
    · exact Nat.le_trans (m := lamps.length) (flat_le (fun f => decide (leads rows f = f)) _) (by omega)
    · obtain ⟨z3, z4, z5, z6, z8, rfl⟩ := hs
      obtain rfl : x = .str y := hx
      have hd2 := Rp.mono _ g2.up hd
      obtain ⟨d', u, e, hu, ru⟩ := dgG hd2 g2.sub hy
      cases e
      obtain rfl : u = .str (leads rows y) := ru
      refine ⟨_, rfl, _, rfl, p, _, rfl, hu, _, rfl, rfl, _, rfl, ?_⟩
      by_cases e : leads rows y = y
      · refine iteT' (by simp [e]) ?_
        have hla2 := g2.up.lst hlaR
        refine ⟨_, rfl, ty_lst h2, _, rfl, la, rfl, ⟨_, SqL.of (g2.sub.lst hla2)⟩, fun D hD => lc_flt (ys := lamps) (Rs := rStr) (R := rStr) (fun z => if decide (leads rows z = y) = true then some z else none) (src_list hla2) g2.sub hD (All2.mono g2.up hlsR) lln (fun z xz B3 H3 K1 K0 hz hxz g3 k1 k0 => ?_) (fun B3 H3 g3 h3 => ?_)⟩
        · obtain rfl : xz = .str z := hxz
          obtain ⟨d', u, e, hu, ru⟩ := dgG (Rp.mono _ g3.up hd2) g3.sub hz
          cases e
          obtain rfl : u = .str (leads rows z) := ru
          refine ⟨_, rfl, _, rfl, p, _, rfl, hu, _, rfl, rfl, _, rfl, ?_⟩
          by_cases e : leads rows z = y
          · exact iteT' (by simp [e]) ⟨_, rfl, k1 z _ _ _ (by rw [if_pos (by simp [e])]) (Gr.refl g3.sub) rfl⟩
          · exact iteF' (by simp [e]) (k0 _ _ (by rw [if_neg (by simp [e])]) (Gr.refl g3.sub))
        · rw [fm_filter] at h3
          obtain ⟨rvs, hr0, hrb, hrh, hrk⟩ := h3.at_
          refine ⟨D, rvs, rfl, .inl ⟨SqL.of hrh, fun t ht => ?_⟩⟩
          have hr3 : H3 r = some (.lst zs) := g3.keep r _ (fun z => nomatch z) b2 h2
          have nr : r ≠ t := ne_of_none hr3 ht
          have br3 : B3 r = none := g3.new r b2 (by rw [h2]; exact fun z => nomatch z)
          have G3 : Gr [r] B2 H2 (upd B3 t (.tup rvs)) (upd H3 t (.tup rvs)) := (g3.trans (Gr.newP g3.sub ht)).any
          refine ⟨r, zs, .ref t, rfl, rfl, (by rw [upd_ne nr]; exact hr3), Nat.lt_of_le_of_lt (Nat.le_trans (Nat.le_add_right _ _) hz) (by decide), ?_⟩
          refine k _ (upd B3 t (.tup rvs)) _ [.ref t] ⟨_, _, _, _, _, rfl⟩ (G3.mut (.inr (by simp)) (by rw [upd_ne nr]; exact br3)) (by rw [upd_ne nr]; exact br3) upd_same ?_
          rw [if_pos (by simp [e])]
          exact .cons ⟨t, rvs, rfl, upd_same, All2.mono (ExW.new (g3.sub.none ht)) hrk⟩ .nil
      · exact iteF' (by simp [e]) (k _ B2 H2 [] ⟨_, _, _, _, _, rfl⟩ (Gr.refl g2.sub) b2 (by rw [List.append_nil]; exact h2) (by rw [if_neg (by simp [e])]; exact .nil))
    · obtain ⟨z3, z4, z5, z6, z8, rfl⟩ := hs
      rw [flat_fm (fun f => decide (leads rows f = f))] at a2
      have hr0 := gP.was hr
      have G : Gr [] B H B2 H2 := gR.fresh hr0 g2
      exact ⟨_, rfl, q.newL G ⟨r, zs, rfl, hr0, b2, h2, a2⟩⟩
end
end OB

/-! ## P9 -/
set_option maxHeartbeats 4000000
namespace OB
open PySem PySem.Spec PyProof.Rows L2
/-- the lamps of a light's field, its groups -/
def field (n : Net) (S : Str → Int) (C : Str → Option Int) (v : Int) : List Str := n.names.filter (inF S C v)
def groups (n : Net) (S : Str → Int) (C : Str → Option Int) (v : Int) : List (List Str) := groupsOf (field n S C v) (n.bonds.filter (opn (field n S C v) v))
/-- what a lamp may rise to when nothing is told -/
def freeC (n : Net) (S : Str → Int) (x : Str) : Option Int := if leE (S x) (n.ceil x) = true then n.ceil x else some (S x)
theorem caps_snoc {l : List Str} {y : Str} {f : Str → Option Int} : caps (l ++ [y]) f = caps l f ++ [(y, f y)] := List.map_append
section
variable {P : Program} {w : World} {K : PySem.W.Frag} {mg : Str → Option Value} {base : Heap}
def spGroupsIn (K : PySem.W.Frag) : Sp := sp4 fun a b c d H Q => ∃ B n S C v, ExW B H ∧ (rWeb K).rel B n a ∧ (rD rInt).rel B (glow n.names S) b ∧ (rD rEnd).rel B (caps n.names C) c ∧ d = .int v ∧ Ret (rL (rTU rStr)) (groups n S C v) B H Q
/-! ### groups_in -/
abbrev F_groups_in (P : Program) (w : World) (K : PySem.W.Frag) (mg : Str → Option Value) (base : Heap) : Prop := Fn P w K mg base CX0 4 "groups_in" ["web", "lights", "caps", "light"] [] (spGroupsIn K)
abbrev N_groups_in : List Str := ["web", "lights", "caps", "light", "lamps"]
theorem sc_groups_in : FnScope N_groups_in ["web", "lights", "caps", "light"] (defScope (top 40)) := ⟨rfl, rfl, rfl, by decide +kernel, rfl, by decide +kernel, by decide +kernel⟩
theorem ok_groups_in (T : TX K mg) (D : DefAt K mg "groups_in" (top 40) []) (c_field_in : F_field_in P w K mg base) (c_joined_lamps : F_joined_lamps P w K mg base) (c_open_bonds : F_open_bonds P w K mg base)  : F_groups_in P w K mg base := by
  refine fn_ok D sc_groups_in (by decide +kernel) (fun _ _ _ _ _ _ us hl => match us, hl with | [_, _, _, _], _ => rfl) (fun vs H Q E h => len4 h) (fun f cdv A outer s H vs Q E hr h => ?_)
  have nd := sc_groups_in.nd
  obtain ⟨v0, v1, v2, v3, rfl, h⟩ := h
  refine ⟨_, (pss_cons (ps_set (i := 4) nd rfl (Or.inl rfl) (pe_fn c_field_in hr (by rfl) (pa_cons (pv 1) (pa_cons (pv 2) (pa_cons (pv 3) pa_nil)))))
      (pss_one (ps_ret (pe_fn c_joined_lamps hr (by rfl) (pa_cons (pv 4) (pa_cons (pe_fn c_open_bonds hr (by rfl) (pa_cons (pv 0) (pa_cons (pv 4) (pa_cons (pv 3) pa_nil)))) pa_nil)))))), ?_⟩
  obtain ⟨B, n, S, C, v, hB, hw, hl, hc, rfl, q⟩ := h
  have okw := hw.1
  refine ⟨_, rfl, _, rfl, _, rfl, _, _, _, rfl, B, n.names, S, C, v, hB, hl, hc, rfl, okw.lt, fun B1 H1 fv g1 hf => ?_⟩
  refine ⟨_, rfl, _, rfl, _, rfl, _, rfl, _, _, _, rfl, B1, n, _, v, g1.sub, Rp.mono _ g1.up hw, hf, rfl, fun B2 H2 rv g2 hr => ?_⟩
  refine ⟨_, _, rfl, B2, _, _, g2.sub, Rp.mono _ g2.up hf, hr, okw.nd.filter _, ?_, ?_, fun r hr => ?_, q.go (g1.trans g2)⟩
  · exact Nat.lt_of_le_of_lt (List.length_filter_le _ _) okw.lt
  · exact Nat.lt_of_le_of_lt (List.length_filter_le _ _) (Nat.lt_of_le_of_lt okw.blen (by decide))
  · have := (List.mem_filter.mp hr).2
    unfold opn at this
    simp only [Bool.and_eq_true, decide_eq_true_eq] at this
    exact this.1
def spGroupsUnder (K : PySem.W.Frag) : Sp := sp3 fun a b c H Q => ∃ B n S C v, ExW B H ∧ (rWorld K).rel B (n, S) a ∧ (rD rEnd).rel B (caps n.names C) b ∧ c = .int v ∧ (∀ p ∈ n.names, isE (C p) = true) ∧ isN v = true ∧ Ret (rL (rTU rStr)) (groups n S C v) B H Q
/-! ### groups_under -/
abbrev F_groups_under (P : Program) (w : World) (K : PySem.W.Frag) (mg : Str → Option Value) (base : Heap) : Prop := Fn P w K mg base CX0 5 "groups_under" ["world", "caps", "light"] [] (spGroupsUnder K)
abbrev N_groups_under : List Str := ["world", "caps", "light"]
theorem sc_groups_under : FnScope N_groups_under ["world", "caps", "light"] (defScope (top 42)) := ⟨rfl, rfl, rfl, by decide +kernel, rfl, by decide +kernel, by decide +kernel⟩
theorem ok_groups_under (T : TX K mg) (D : DefAt K mg "groups_under" (top 42) []) (c_check_cap_numbers : F_check_cap_numbers P w K mg base) (c_check_number : F_check_number P w K mg base) (c_check_cap_names : F_check_cap_names P w K mg base) (c_World_web : F_World_web P w K mg base) (c_groups_in : F_groups_in P w K mg base) (c_World_lights : F_World_lights P w K mg base)  : F_groups_under P w K mg base := by
  refine fn_ok D sc_groups_under (by decide +kernel) (fun _ _ _ _ _ _ us hl => match us, hl with | [_, _, _], _ => rfl) (fun vs H Q E h => len3 h) (fun f cdv A outer s H vs Q E hr h => ?_)
  have nd := sc_groups_under.nd
  obtain ⟨v0, v1, v2, rfl, h⟩ := h
  refine ⟨_, (pss_cons (ps_expr (pe_fn c_check_cap_numbers hr (by rfl) (pa_cons (pv 1) pa_nil)))
      (pss_cons (ps_expr (pe_fn c_check_number hr (by rfl) (pa_cons (pv 2) pa_nil)))
      (pss_cons (ps_expr (pe_fn c_check_cap_names hr (by rfl) (pa_cons (pe_pr T.clWorld c_World_web hr (pv 0) rfl) (pa_cons (pv 1) (pa_cons (pe_lst pa_nil) pa_nil)))))
      (pss_one (ps_ret (pe_fn c_groups_in hr (by rfl) (pa_cons (pe_pr T.clWorld c_World_web hr (pv 0) rfl) (pa_cons (pe_pr T.clWorld c_World_lights hr (pv 0) rfl) (pa_cons (pv 1) (pa_cons (pv 2) pa_nil)))))))))), ?_⟩
  obtain ⟨B, n, S, C, v, hB, hW, hc, rfl, hC, hv, q⟩ := h
  obtain ⟨ok, a, dx, v1, v2, v3, v4, rfl, ha, r1, r2, r3⟩ := id hW
  have okw := r1.1
  refine ⟨_, rfl, _, rfl, B, n.names, C, hB, hc, okw.lt, hC, fun B1 H1 g1 => ?_⟩
  refine ⟨_, rfl, _, rfl, v, rfl, hv, ?_⟩
  have hW1 := Rp.mono _ g1.up hW
  have hc1 := Rp.mono _ g1.up hc
  refine ⟨_, rfl, a, dx, _, rfl, g1.sub.ins (g1.up.ins ha), ⟨_, rfl, B1, n, S, g1.sub, hW1, fun wv hw => ?_⟩⟩
  refine ⟨_, rfl, (by show 0 ≤ sizeLine; decide), fun e he => ?_⟩
  have g2 : Gr [] B H (upd B1 e (.lst [])) (upd H1 e (.lst [])) := g1.trans (Gr.newP g1.sub he)
  have be := g1.sub.none he
  refine ⟨_, _, _, rfl, _, n, C, g2.sub, Rp.mono _ (ExW.new be) hw, Rp.mono _ g2.up hc, ⟨e, [], rfl, upd_same, .nil⟩, fun B3 H3 g3 => ?_⟩
  have G3 := g2.trans g3
  have hW3 := Rp.mono _ G3.up hW
  refine ⟨_, rfl, a, dx, _, rfl, G3.sub.ins (G3.up.ins ha), ⟨_, rfl, B3, n, S, G3.sub, hW3, fun wv hw => ?_⟩⟩
  refine ⟨_, rfl, a, dx, _, rfl, G3.sub.ins (G3.up.ins ha), ⟨_, rfl, B3, n, S, G3.sub, hW3, fun B4 H4 lv g4 hl => ?_⟩⟩
  have G4 := G3.trans g4
  exact ⟨_, rfl, _, rfl, _, _, _, _, rfl, B4, n, S, C, v, g4.sub, Rp.mono _ g4.up hw, hl, Rp.mono _ G4.up hc, rfl, q.go G4⟩
def spFreeCaps (K : PySem.W.Frag) : Sp := sp1 fun a H Q => ∃ B n S, ExW B H ∧ (rWorld K).rel B (n, S) a ∧ Ret (rD rEnd) (caps n.names (freeC n S)) B H Q
/-! ### free_caps -/
abbrev F_free_caps (P : Program) (w : World) (K : PySem.W.Frag) (mg : Str → Option Value) (base : Heap) : Prop := Fn P w K mg base CX0 5 "free_caps" ["world"] [] (spFreeCaps K)
abbrev N_free_caps : List Str := ["world", "found", "lamp", "light", "ceiling"]
theorem sc_free_caps : FnScope N_free_caps ["world"] (defScope (top 41)) := ⟨rfl, rfl, rfl, by decide +kernel, rfl, by decide +kernel, by decide +kernel⟩
theorem ok_free_caps (T : TX K mg) (D : DefAt K mg "free_caps" (top 41) []) (c_World_lights : F_World_lights P w K mg base) (c_World_web : F_World_web P w K mg base) (c_Web_ceiling : F_Web_ceiling P w K mg base) (c_may_take : F_may_take P w K mg base)  : F_free_caps P w K mg base := by
  refine fn_ok D sc_free_caps (by decide +kernel) (fun _ _ _ _ _ _ us hl => match us, hl with | [_], _ => rfl) (fun vs H Q E h => len1 h) (fun f cdv A outer s H vs Q E hr h => ?_)
  have nd := sc_free_caps.nd
  obtain ⟨v0, rfl, h⟩ := h
  refine ⟨_, (pss_cons (ps_set (i := 1) nd rfl (Or.inl rfl) pe_dnewK)
      (pss_cons (ps_for PassesOwn.never rfl (pi_itemsL (pe_pr T.clWorld c_World_lights hr (pv 0) rfl)) (pg_tup rfl (pgs_cons (pg_name (i := 2) nd rfl (Or.inl rfl)) (pgs_cons (pg_name (i := 3) nd rfl (Or.inl rfl)) pgs_nil)))
      (pss_cons (ps_set (i := 4) nd rfl (Or.inl rfl) (pe_mt T.clWeb c_Web_ceiling hr (pe_pr T.clWorld c_World_web hr (pv 0) rfl) (pa_cons (pv 2) pa_nil)))
      (pss_one (ps_if (pt_val (pe_fn c_may_take hr (by rfl) (pa_cons (pv 3) (pa_cons (pv 4) pa_nil)))) (pss_one (ps_dput (hu_of hr) (pv 1) (pv 2) (pv 4) rfl)) (pss_one (ps_dput (hu_of hr) (pv 1) (pv 2) (pv 3) rfl))))))
      (pss_one (ps_ret (pv 1))))), ?_⟩
  obtain ⟨B, n, S, hB, hW, q⟩ := h
  obtain ⟨ok, a, dx, v1, v2, v3, v4, rfl, ha, r1, r2, r3⟩ := id hW
  have okw : n.Ok := r1.1
  intro p hp
  have gp : Gr [] B H B (upd H p (.dK [])) := Gr.new_ hB hp
  have bp := hB.none hp
  refine ⟨_, rfl, a, dx, _, rfl, gp.sub.ins ha, ⟨_, rfl, B, n, S, gp.sub, hW, fun B1 H1 lv g1 hl => ?_⟩⟩
  obtain ⟨d, kvs, rfl, hd, hk⟩ := id hl
  refine ⟨d, kvs, rfl, g1.sub.rd hd, fun od H2 lk => ?_⟩
  obtain ⟨B2, g2, hd2⟩ := lk_go g1.sub hd lk
  have hk2 := DAll.mono g2.up hk
  have G2 := g1.trans g2
  have p2 : H2 p = some (.dK []) := G2.keep p _ (fun z => nomatch z) bp upd_same
  have b2 : B2 p = none := G2.new p bp (by rw [upd_same]; exact fun z => nomatch z)
  refine ⟨d, od, kvs, rfl, lk.at_, for_goG (Rs := rItem rInt) (fun i σ1 B3 H3 => (∃ z2 z3 z4, σ1 = [some (.ref a), some (.ref p), z2, z3, z4]) ∧ Gr [p] B2 H2 B3 H3 ∧ B3 p = none ∧ ∃ kvs, H3 p = some (.dK kvs) ∧ DAll rEnd B3 (caps (n.names.take i) (freeC n S)) kvs)
    (src_items hd2 hk2) ⟨⟨_, _, _, rfl⟩, Gr.refl g2.sub, b2, [], p2, .nil⟩ (fun i σ1 B1 H1 h => ⟨h.2.1.up, h.2.1.sub⟩) (fun i y x σ1 B3 H3 B4 H4 hy g4 hx h => ?_) (fun σ1 B3 H3 h => ?_)⟩
  · obtain ⟨⟨z2, z3, z4, rfl⟩, g3, b3, kvs3, h3, a3⟩ := h
    obtain ⟨y, i'⟩ := y
    have hy' : n.names[i]? = some y := by
      rw [List.getElem?_map] at hy
      cases e : n.names[i]? with
      | none => rw [e] at hy; cases hy
      | some z => rw [e] at hy; cases hy; rfl
    have hi' : i' = S y := by
      rw [List.getElem?_map, hy'] at hy
      cases hy; rfl
    subst hi'
    have ym : y ∈ n.names := List.mem_of_getElem? hy'
    obtain ⟨T, u, rfl, hT, hu⟩ := hx
    obtain rfl : u = .int (S y) := hu
    have G4 := g3.trans g4.any
    have hW4 := Rp.mono _ (G2.up.trans G4.up) hW
    have h4 : H4 p = some (.dK kvs3) := g4.keep p _ (fun z => nomatch z) b3 h3
    have b4 : B4 p = none := g4.new p b3 (by rw [h3]; exact fun z => nomatch z)
    refine ⟨T, _, rfl, SqT.of (g4.sub.tup hT), rfl, _, _, rfl, _, _, rfl, rfl, ?_⟩
    refine ⟨_, rfl, a, dx, _, rfl, g4.sub.ins (G4.up.ins (G2.up.ins ha)), ⟨_, rfl, B4, n, S, g4.sub, hW4, fun wv hw => ?_⟩⟩
    obtain ⟨_, wa, wdx, u1, u2, u3, u4, u5, u6, u7, rfl, hwa, _⟩ := id hw
    refine ⟨wa, wdx, _, rfl, g4.sub.ins hwa, netF_no (by decide +kernel), _, rfl, _, _, rfl, B4, n, y, g4.sub, hw, rfl, ym, ?_⟩
    refine ⟨_, rfl, _, rfl, _, _, rfl, S y, n.ceil y, rfl, rfl, ok y ym, Net.ceil_num okw y, _, rfl, ?_⟩
    have ny : ¬ y ∈ (caps (n.names.take i) (freeC n S)).map (·.1) := by
      rw [List.map_map]
      show ¬ y ∈ (n.names.take i).map id
      rw [List.map_id]
      exact nd_take okw.nd hy'
    have fin : ∀ v, rEnd.rel B4 (freeC n S y) v → ∃ kvs', DAll rEnd B4 (caps (n.names.take (i + 1)) (freeC n S)) kvs' ∧ kvs' = putK kvs3 (Sum.inr y) v := fun v hv => ⟨_, by
      rw [take_snoc hy', caps_snoc]
      exact (DAll.mono g4.up a3).new ny hv, rfl⟩
    have lt3 : kvs3.length < sizeLine := by
      have e := a3.len
      rw [List.length_map, List.length_take] at e
      have := okw.lt
      exact Nat.lt_trans (m := 64) (by omega) (by decide)
    refine ite2 (fun e => ?_) (fun e => ?_)
    · obtain ⟨kvs', f1, f2⟩ := fin (vo (n.ceil y)) (by show _ = vo (freeC n S y); unfold freeC; rw [if_pos e])
      refine ⟨_, rfl, _, rfl, _, rfl, p, _, rfl, DPut.k (k := Sum.inr y) h4 lt3, B4, ⟨_, _, _, rfl⟩, G4.mut (.inr (by simp)) b4, b4, _, upd_same, ?_⟩
      rw [← f2]; exact f1
    · obtain ⟨kvs', f1, f2⟩ := fin (.int (S y)) (by show _ = vo (freeC n S y); unfold freeC; rw [if_neg e]; rfl)
      refine ⟨_, rfl, _, rfl, _, rfl, p, _, rfl, DPut.k (k := Sum.inr y) h4 lt3, B4, ⟨_, _, _, rfl⟩, G4.mut (.inr (by simp)) b4, b4, _, upd_same, ?_⟩
      rw [← f2]; exact f1
  · obtain ⟨⟨z2, z3, z4, rfl⟩, g3, b3, kvs3, h3, a3⟩ := h
    have G : Gr [] B H B3 H3 := (gp.trans G2).fresh hp g3
    have e : (glow n.names S).length = n.names.length := by rw [List.length_map]
    rw [e, List.take_length] at a3
    exact ⟨_, rfl, q.newD G ⟨p, kvs3, rfl, hp, b3, h3, a3⟩⟩
end
end OB

/-! ## PA -/
set_option maxHeartbeats 4000000
namespace OB
open PySem PySem.Spec PyProof.Rows L2
/-- a wish: None, or a dict of lights -/
def rWish : Rp (List Str × (Str → Int)) := ⟨fun B p v => (v = .non ∧ p.1 = []) ∨ (rD rInt).rel B (glow p.1 p.2) v, fun e h => h.elim .inl fun h => .inr (Rp.mono _ e h)⟩
/-- a wish that may be told of a web's lamps -/
structure WishOk (n : Net) (ps : List Str) (A : Str → Int) : Prop where
  nd : ps.Nodup
  sub : ∀ p ∈ ps, p ∈ n.names
  num : ∀ p ∈ ps, isN (A p) = true
section
variable {P : Program} {w : World} {K : PySem.W.Frag} {mg : Str → Option Value} {base : Heap}
def spTold (K : PySem.W.Frag) : Sp := sp3 fun a b c H Q => ∃ B n S ps A, ExW B H ∧ (rWorld K).rel B (n, S) a ∧ rWish.rel B (ps, A) b ∧ c = .non ∧ WishOk n ps A ∧ ∀ ys, ys.Perm ps → sortedS ys = true → Ret (rD rInt) (glow ys A) B H Q
theorem All2.nil0 {α β : Type} {R : α → β → Prop} : All2 R [] [] := .nil
theorem WishOk.le {n : Net} {ps : List Str} {A : Str → Int} (ok : n.Ok) (h : WishOk n ps A) : ps.length ≤ 10 := by
  exact Nat.le_trans (nodup_len h.nd h.sub) ok.lt10
theorem told_rest {B H : Hp} {n : Net} {S : Str → Int} {ys : List Str} {A : Str → Int} {v0 v1 tv : V} {z4 z5 : Option V} {D : Ends} (hB : ExW B H) (hW : (rWorld K).rel B (n, S) v0) (ht : (rD rInt).rel B (glow ys A) tv) (ok : WishOk n ys A) (q : Ret (rD rInt) (glow ys A) B H D.rt) :
    tSeq (tFor (iKeys (tLk (tVar 3))) (gName 4) (tDrop (tCall spCheckNumber [] E0 (tCons (tDGet (tVar 3) (tVar 4)) tNil))))
      (tSeq (tIfS (tTest (tOp (fun x y H Q => y = V.non ∧ Q (V.bl !decide (x = V.non)) H) (tVar 2) (tC V.non))) (tDrop (tCall spCheckNumber [] E0 (tCons (tVar 2) tNil))) tNext)
        (tSeq (tAsg (tProp (He.ga K "World") (spWorldWeb K) [] E0 (tVar 0)) (gName 5))
          (tSeq (tFor (iKeys (tLk (tVar 3))) (gName 4) (tIfS (tTest (tOp (rInOwn (He.ga K "Web") (spWebIn K) [] true) (tVar 4) (tVar 5))) tNever tNext)) (tRet (tVar 3))))) D [some v0, some v1, some .non, some tv, z4, z5] H := by
  obtain ⟨wok, a, dx, u1, u2, u3, u4, rfl, ha, r1, r2, r3⟩ := id hW
  obtain ⟨d, kvs, rfl, hd, hk⟩ := id ht
  refine ⟨_, rfl, d, kvs, rfl, hB.rd hd, fun od H1 lk => ?_⟩
  obtain ⟨B1, g1, hd1⟩ := lk_go hB hd lk
  have ks : All2 (rStr.rel B1) ys (kvs.map fun p => kV p.1) := by rw [keysS hk]; exact strs2 ys
  have ht1 := Rp.mono _ g1.up ht
  refine ⟨d, od, rfl, .inl ⟨kvs, lk.at_, for_chk (Rs := rStr) (j := 4) rfl (src_keys hd1) g1.sub ks (fun y v N hy hv hN => ?_) (fun z => ?_)⟩⟩
  · obtain rfl : v = .str y := hv
    obtain ⟨d', e, hu⟩ := dgl ht1 g1.sub hy
    cases e
    exact ⟨_, rfl, _, rfl, d, _, rfl, hu, _, rfl, A y, rfl, ok.num y hy, hN⟩
  refine ⟨_, rfl, rfl, _, rfl, iteF ?_⟩
  have hW1 := Rp.mono _ g1.up hW
  refine ⟨_, rfl, a, dx, _, rfl, g1.sub.ins (g1.up.ins ha), ⟨_, rfl, B1, n, S, g1.sub, hW1, fun wv hw => ?_⟩⟩
  obtain ⟨_, wa, wdx, w1, w2, w3, w4, w5, w6, w7, rfl, hwa, _⟩ := id hw
  refine ⟨_, rfl, d, kvs, rfl, .inr ⟨od, lk.at_⟩, fun od2 H2 lk2 => ?_⟩
  obtain ⟨B2, g2, hd2⟩ := lk_go g1.sub (.inr ⟨od, hd1⟩) lk2
  have ks2 : All2 (rStr.rel B2) ys (kvs.map fun p => kV p.1) := by rw [keysS hk]; exact strs2 ys
  refine ⟨d, od2, rfl, .inl ⟨kvs, lk2.at_, for_chk (Rs := rStr) (j := 4) rfl (src_keys hd2) g2.sub ks2 (fun y v N hy hv hN => ?_) (fun z => ?_)⟩⟩
  · obtain rfl : v = .str y := hv
    refine ⟨_, rfl, _, rfl, wa, wdx, _, rfl, g2.sub.ins (g2.up.ins hwa), _, _, rfl, B2, n, y, g2.sub, Rp.mono _ g2.up hw, rfl, _, rfl, _, rfl, ?_⟩
    rw [decide_eq_true (ok.sub y hy)]
    exact iteF hN
  · exact ⟨_, rfl, (q.go (g1.trans g2)).at_ g2.sub (Rp.mono _ g2.up ht1)⟩
/-! ### told_lights -/
abbrev F_told_lights (P : Program) (w : World) (K : PySem.W.Frag) (mg : Str → Option Value) (base : Heap) : Prop := Fn P w K mg base CX0 3 "told_lights" ["world", "wish", "deeds"] [.non] (spTold K)
abbrev N_told_lights : List Str := ["world", "wish", "deeds", "told", "lamp", "web"]
theorem sc_told_lights : FnScope N_told_lights ["world", "wish", "deeds"] (defScope (top 44)) := ⟨rfl, rfl, rfl, by decide +kernel, rfl, by decide +kernel, by decide +kernel⟩
theorem ok_told_lights (T : TX K mg) (D : DefAt K mg "told_lights" (top 44) [.non]) (c_check_number : F_check_number P w K mg base) (c_World_web : F_World_web P w K mg base) (c_Web_contains : F_Web_contains P w K mg base)  : F_told_lights P w K mg base := by
  refine fn_okD D sc_told_lights (by decide +kernel) 2 0 (by decide) (by decide) (fun _ _ _ _ _ _ _ us its hl hi => match us, hl, its, hi with | [_, _], _, [_], _ => ⟨_, rfl, rfl⟩) (fun vs H Q E h => len3 h) (fun f cdv A outer s H vs Q E hr h => ?_)
  have nd := sc_told_lights.nd
  obtain ⟨v0, v1, v2, rfl, h⟩ := h
  refine ⟨_, (pss_cons (ps_set (i := 3) nd rfl (Or.inl rfl) pe_dnewK)
      (pss_cons (ps_if (pt_cmpR op_notN (pv 1) pe_non (nomark _)) (pss_one (ps_setDc (i := 3) (own := [("lamp", 4)]) rfl nd rfl rfl (sw_trueD rfl rfl rfl (by decide +kernel)) (kp_list K (pe_callB (call_sortedD rfl) (by rfl) T.sorted bt_sorted (pa_cons (pv 1) pa_nil))) (blkOk_by (own := [("lamp", 4)]) (N := N_told_lights) (sc := defScope (top 44)) (by decide +kernel)) (fun _ _ _ _ _ => (pg_name (i := 4) nd rfl (Or.inl rfl))) (fun _ _ _ _ _ => pts_nil) (fun _ _ _ _ _ => (pv 4)) (fun _ _ _ _ _ => (pe_dget (hu_of hr) (pv 1) (pv 4) (fun _ _ => rfl))))) pss_nil)
      (pss_cons (ps_for PassesOwn.never rfl (pi_keysL (pv 3)) (pg_name (i := 4) nd rfl (Or.inl rfl))
      (pss_one (ps_expr (pe_fn c_check_number hr (by rfl) (pa_cons (pe_dget (hu_of hr) (pv 3) (pv 4) (fun _ _ => rfl)) pa_nil)))))
      (pss_cons (ps_if (pt_cmpR op_notN (pv 2) pe_non (nomark _)) (pss_one (ps_expr (pe_fn c_check_number hr (by rfl) (pa_cons (pv 2) pa_nil)))) pss_nil)
      (pss_cons (ps_set (i := 5) nd rfl (Or.inl rfl) (pe_pr T.clWorld c_World_web hr (pv 0) rfl))
      (pss_cons (ps_for PassesOwn.never rfl (pi_keysL (pv 3)) (pg_name (i := 4) nd rfl (Or.inl rfl))
      (pss_one (ps_if (pt_cmpR (op_inNOwn c_Web_contains hr) (pv 4) (pv 5) (by rfl)) (pss_one ps_never) pss_nil)))
      (pss_one (ps_ret (pv 3))))))))), ?_⟩
  obtain ⟨B, n, S, ps, A, hB, hW, hA, rfl, ok, q⟩ := h
  intro p0 hp0
  have g0 : Gr [] B H (upd B p0 (.dK [])) (upd H p0 (.dK [])) := Gr.newP hB hp0
  rcases hA with ⟨rfl, hps⟩ | hA
  · have hps : ps = [] := hps
    subst hps
    refine ⟨_, rfl, rfl, _, rfl, iteF ?_⟩
    exact told_rest (ys := []) (A := A) g0.sub (Rp.mono _ g0.up hW) ⟨p0, [], rfl, .inl upd_same, All2.nil0⟩ ok ((q [] (List.Perm.refl _) rfl).go g0)
  · obtain ⟨d, kvs, rfl, hd, hk⟩ := id hA
    refine ⟨_, rfl, rfl, _, rfl, ite_tt ?_⟩
    have kk : kvs.map (·.1) = ps.map Sum.inr := by rw [DAll.keys hk, List.map_map]; rfl
    have okw : n.Ok := hW.2.choose_spec.choose_spec.choose_spec.choose_spec.choose_spec.choose_spec.2.2.1.1
    have l10 := ok.le okw
    refine ⟨_, rfl, d, kvs, ps, rfl, g0.sub.rd (g0.up.rd hd), kk, by omega, fun ys l perm srt hl => ?_⟩
    have g1 : Gr [] B H _ (upd (upd H p0 (.dK [])) l (.lst (ys.map V.str))) := g0.trans (Gr.newP g0.sub hl)
    have ok' : WishOk n ys A := ⟨perm.symm.nodup ok.nd, fun p hp => ok.sub p (perm.mem_iff.mp hp), fun p hp => ok.num p (perm.mem_iff.mp hp)⟩
    have hA1 := Rp.mono _ g1.up hA
    refine ⟨l, rfl, ⟨_, SqL.of upd_same⟩, fun t ht => dc_map (Rs := rStr) (R := rInt) (fun y => y) (fun y => A y) (src_list (a := l) upd_same) g1.sub ht (strs2 ys) (by rw [List.length_map, perm.length_eq]; omega) (by rw [List.map_id']; exact ok'.nd) (fun y v B4 H4 K1 hy hv g4 k => ?_) (fun B4 H4 g4 h4 => ?_)⟩
    · obtain rfl : v = .str y := hv
      obtain ⟨d', e, hu⟩ := dgl (Rp.mono _ g4.up hA1) g4.sub (perm.mem_iff.mp hy)
      cases e
      exact ⟨_, rfl, _, rfl, _, rfl, d, _, rfl, hu, k _ _ _ (Gr.refl g4.sub) rfl⟩
    · obtain ⟨tk, ht0, htb, hth, htk⟩ := h4.at_
      have G4 := g1.trans (g4.pub ht0 htb hth)
      exact told_rest G4.sub (Rp.mono _ G4.up hW) ⟨t, tk, rfl, .inl upd_same, DAll.mono (ExW.new htb) htk⟩ ok' ((q ys perm srt).go G4)
/-! ### caps -/
def capsOf (n : Net) (S : Str → Int) (ys : List Str) (A : Str → Int) (x : Str) : Option Int := if x ∈ ys then some (A x) else freeC n S x
def spCapsOf (K : PySem.W.Frag) : Sp := sp2 fun a b H Q => ∃ B n S ys A, ExW B H ∧ (rWorld K).rel B (n, S) a ∧ (rD rInt).rel B (glow ys A) b ∧ Ret (rD rEnd) (caps n.names (capsOf n S ys A)) B H Q
/-! ### caps_of -/
abbrev F_caps_of (P : Program) (w : World) (K : PySem.W.Frag) (mg : Str → Option Value) (base : Heap) : Prop := Fn P w K mg base CX0 6 "caps_of" ["world", "told"] [] (spCapsOf K)
abbrev N_caps_of : List Str := ["world", "told", "free", "lamp"]
theorem sc_caps_of : FnScope N_caps_of ["world", "told"] (defScope (top 45)) := ⟨rfl, rfl, rfl, by decide +kernel, rfl, by decide +kernel, by decide +kernel⟩
theorem ok_caps_of (T : TX K mg) (D : DefAt K mg "caps_of" (top 45) []) (c_free_caps : F_free_caps P w K mg base)  : F_caps_of P w K mg base := by
  refine fn_ok D sc_caps_of (by decide +kernel) (fun _ _ _ _ _ _ us hl => match us, hl with | [_, _], _ => rfl) (fun vs H Q E h => len2 h) (fun f cdv A outer s H vs Q E hr h => ?_)
  have nd := sc_caps_of.nd
  obtain ⟨v0, v1, rfl, h⟩ := h
  refine ⟨_, (pss_cons (ps_set (i := 2) nd rfl (Or.inr rfl) (pe_fn c_free_caps hr (by rfl) (pa_cons (pv 0) pa_nil)))
      (pss_one (ps_ret (pe_dc (own := [("lamp", 3)]) rfl nd (pi_keysL (pv 2)) (blkOk_by (own := [("lamp", 3)]) (N := N_caps_of) (sc := defScope (top 45)) (by decide +kernel)) (fun _ _ _ _ _ => (pg_name (i := 3) nd rfl (Or.inl rfl))) (fun _ _ _ _ _ => pts_nil) (fun _ _ _ _ _ => (pv 3)) (fun _ _ _ _ _ => (pe_ifExp (pt_cmp (pc_din (hu_of hr) (pv 3) (pv 1))) (pe_dget (hu_of hr) (pv 1) (pv 3) (fun _ _ => rfl)) (pe_dget (hu_of hr) (pv 2) (pv 3) (fun _ _ => rfl)))))))), ?_⟩
  obtain ⟨B, n, S, ys, A, hB, hW, hA, q⟩ := h
  have okw : n.Ok := hW.2.choose_spec.choose_spec.choose_spec.choose_spec.choose_spec.choose_spec.2.2.1.1
  refine ⟨_, rfl, _, rfl, B, n, S, hB, hW, fun B1 H1 fv g1 hf => ?_⟩
  obtain ⟨d, kvs, rfl, hd, hk⟩ := id hf
  refine ⟨_, rfl, d, kvs, rfl, g1.sub.rd hd, fun od H2 lk => ?_⟩
  obtain ⟨B2, g2, hd2⟩ := lk_go g1.sub hd lk
  have G2 := g1.trans g2
  have hA2 := Rp.mono _ G2.up hA
  have hf2 := Rp.mono _ g2.up hf
  have ks2 : All2 (rStr.rel B2) n.names (kvs.map fun p => kV p.1) := by rw [keysS hk]; exact strs2 _
  refine ⟨d, od, rfl, .inl ⟨kvs, lk.at_, fun t ht => dc_map (Rs := rStr) (R := rEnd) (fun y => y) (capsOf n S ys A) (src_keys hd2) g2.sub ht ks2 (by rw [← ks2.len]; have := okw.lt; omega) (by rw [List.map_id']; exact okw.nd) (fun y v B4 H4 K1 hy hv g4 k => ?_) (fun B4 H4 g4 h4 => ?_)⟩⟩
  · obtain rfl : v = .str y := hv
    obtain ⟨da, o, rfl, hda, ho⟩ := dinB (k := y) (Rp.mono _ g4.up hA2) g4.sub
    refine ⟨_, rfl, _, rfl, _, rfl, da, o, rfl, hda, _, rfl, ?_⟩
    rw [ho, look_glow]
    by_cases e : y ∈ ys
    · refine iteT' (by rw [if_pos e]; rfl) ?_
      obtain ⟨d', e', hu⟩ := dgl (Rp.mono _ g4.up hA2) g4.sub e
      cases e'
      exact ⟨_, rfl, _, rfl, da, _, rfl, hu, k _ _ _ (Gr.refl g4.sub) (by show _ = vo (capsOf n S ys A y); unfold capsOf; rw [if_pos e]; rfl)⟩
    · refine iteF' (by rw [if_neg e]; rfl) ?_
      obtain ⟨d', e', hu⟩ := dgc (Rp.mono _ g4.up hf2) g4.sub hy
      cases e'
      exact ⟨_, rfl, _, rfl, d, _, rfl, hu, k _ _ _ (Gr.refl g4.sub) (by show _ = vo (capsOf n S ys A y); unfold capsOf; rw [if_neg e])⟩
  · exact (q.go G2).newD g4 h4
end
end OB

/-! ## PB -/
set_option maxHeartbeats 4000000
namespace OB
open PySem PySem.Spec PyProof.Rows L2
/-- a group that bears the light -/
def lit (S : Str → Int) (v : Int) (g : List Str) : Bool := g.any fun x => decide (S x = v)
/-- the lamps that hang on a light -/
def hung (n : Net) (S : Str → Int) (C : Str → Option Int) (v : Int) : List Str := ((groups n S C v).filter (lit S v)).flatten
theorem len_split {α : Type} [DecidableEq α] {β : Type} {L : β → α} {k : α} {ks : List α} (h : ¬ k ∈ ks) : ∀ xs : List β, (xs.filter fun x => decide (L x = k)).length + (xs.filter fun x => decide (L x ∈ ks)).length ≤ (xs.filter fun x => decide (L x ∈ k :: ks)).length
  | [] => Nat.le_refl _
  | x :: r => by
    have ih := len_split (L := L) h r
    rw [List.filter_cons, List.filter_cons, List.filter_cons]
    by_cases e : L x = k
    · have : ¬ L x ∈ ks := fun z => h (e ▸ z)
      have h1 : decide (L x = k) = true := decide_eq_true e
      have h2 : decide (L x ∈ ks) = false := decide_eq_false this
      have h3 : decide (L x ∈ k :: ks) = true := decide_eq_true (by rw [e]; exact List.mem_cons_self)
      rw [h1, h2, h3, if_pos rfl, if_pos rfl, if_neg Bool.false_ne_true, List.length_cons, List.length_cons]
      omega
    · have h1 : decide (L x = k) = false := decide_eq_false e
      by_cases e2 : L x ∈ ks
      · have h2 : decide (L x ∈ ks) = true := decide_eq_true e2
        have h3 : decide (L x ∈ k :: ks) = true := decide_eq_true (List.mem_cons_of_mem _ e2)
        rw [h1, h2, h3, if_pos rfl, if_pos rfl, if_neg Bool.false_ne_true, List.length_cons, List.length_cons]
        omega
      · have h2 : decide (L x ∈ ks) = false := decide_eq_false e2
        have h3 : decide (L x ∈ k :: ks) = false := decide_eq_false (fun z => (List.mem_cons.mp z).elim e e2)
        rw [h1, h2, h3, if_neg Bool.false_ne_true, if_neg Bool.false_ne_true, if_neg Bool.false_ne_true]
        omega
theorem flat_parts {L : Str → Str} {lamps : List Str} : ∀ {ks : List Str}, ks.Nodup → ((ks.map fun f => lamps.filter fun x => decide (L x = f)).flatten).length ≤ (lamps.filter fun x => decide (L x ∈ ks)).length
  | [], _ => Nat.zero_le _
  | k :: ks, nd => by
    obtain ⟨n1, n2⟩ := List.nodup_cons.mp nd
    have ih := flat_parts (L := L) (lamps := lamps) n2
    rw [List.map_cons, List.flatten_cons, List.length_append]
    have := len_split (L := L) n1 lamps
    omega
theorem groups_len {lamps : List Str} {rows : List Bond} (nd : lamps.Nodup) : (groupsOf lamps rows).flatten.length ≤ lamps.length := by
  unfold groupsOf
  exact Nat.le_trans (flat_parts (nd.filter _)) (List.length_filter_le _ _)
theorem groups_sub {lamps : List Str} {rows : List Bond} {g : List Str} (h : g ∈ groupsOf lamps rows) : ∀ x ∈ g, x ∈ lamps := by
  obtain ⟨f, _, rfl⟩ := List.mem_map.mp h
  exact fun x hx => (List.mem_filter.mp hx).1
theorem group_mem {n : Net} {S : Str → Int} {C : Str → Option Int} {v : Int} {g : List Str} (h : g ∈ groups n S C v) {x : Str} (hx : x ∈ g) : x ∈ n.names := (List.mem_filter.mp (groups_sub h x hx)).1
theorem flat_if {α : Type} (c : List α → Bool) : ∀ xs : List (List α), (xs.flatMap fun g => if c g = true then g else []) = (xs.filter c).flatten
  | [] => rfl
  | x :: r => by
    rw [List.flatMap_cons, List.filter_cons, flat_if c r]
    cases c x <;> rfl
theorem flat_flt {α : Type} (c : List α → Bool) : ∀ xs : List (List α), ((xs.filter c).flatten).length ≤ xs.flatten.length
  | [] => Nat.le_refl _
  | x :: r => by
    have := flat_flt c r
    rw [List.filter_cons, List.flatten_cons, List.length_append]
    cases c x
    · exact Nat.le_trans this (Nat.le_add_left _ _)
    · rw [if_pos rfl, List.flatten_cons, List.length_append]; omega
theorem hung_len {n : Net} {S : Str → Int} {C : Str → Option Int} {v : Int} (ok : n.Ok) : (hung n S C v).length ≤ 10 := by
  refine Nat.le_trans (flat_flt _ _) (Nat.le_trans (groups_len (ok.nd.filter _)) (Nat.le_trans (List.length_filter_le _ _) ok.lt10))
theorem group_len {n : Net} {S : Str → Int} {C : Str → Option Int} {v : Int} (ok : n.Ok) {g : List Str} (h : g ∈ groups n S C v) : g.length ≤ 10 := by
  obtain ⟨f, _, rfl⟩ := List.mem_map.mp h
  exact Nat.le_trans (List.length_filter_le _ _) (Nat.le_trans (List.length_filter_le _ _) ok.lt10)
section
variable {P : Program} {w : World} {K : PySem.W.Frag} {mg : Str → Option Value} {base : Heap}
def spHangers (K : PySem.W.Frag) : Sp := sp3 fun a b c H Q => ∃ B n S C v, ExW B H ∧ (rWorld K).rel B (n, S) a ∧ (rD rEnd).rel B (caps n.names C) b ∧ c = .int v ∧ (∀ p ∈ n.names, isE (C p) = true) ∧ isN v = true ∧ ∀ ys, ys.Perm (hung n S C v) → Ret (rL rStr) ys B H Q
/-! ### hangers -/
abbrev F_hangers (P : Program) (w : World) (K : PySem.W.Frag) (mg : Str → Option Value) (base : Heap) : Prop := Fn P w K mg base CX0 6 "hangers" ["world", "caps", "light"] [] (spHangers K)
abbrev N_hangers : List Str := ["world", "caps", "light", "out", "group", "lamp"]
theorem sc_hangers : FnScope N_hangers ["world", "caps", "light"] (defScope (top 46)) := ⟨rfl, rfl, rfl, by decide +kernel, rfl, by decide +kernel, by decide +kernel⟩
theorem ok_hangers (T : TX K mg) (D : DefAt K mg "hangers" (top 46) []) (c_groups_under : F_groups_under P w K mg base) (c_World_light : F_World_light P w K mg base)  : F_hangers P w K mg base := by
  refine fn_ok D sc_hangers (by decide +kernel) (fun _ _ _ _ _ _ us hl => match us, hl with | [_, _, _], _ => rfl) (fun vs H Q E h => len3 h) (fun f cdv A outer s H vs Q E hr h => ?_)
  have nd := sc_hangers.nd
  obtain ⟨v0, v1, v2, rfl, h⟩ := h
  refine ⟨_, (pss_cons (ps_set (i := 3) nd rfl (Or.inl rfl) (pe_lst pa_nil))
      (pss_cons (ps_for PassesOwn.never rfl (kp_list K (pe_fn c_groups_under hr (by rfl) (pa_cons (pv 0) (pa_cons (pv 1) (pa_cons (pv 2) pa_nil))))) (pg_name (i := 4) nd rfl (Or.inl rfl))
      (pss_one (ps_if (pt_val (pe_callB (k_any K rfl) (by rfl) T.any bt_any (pa_cons (pe_lc (own := [("lamp", 5)]) rfl nd (kp_tup K (pv 4)) (blkOk_by (own := [("lamp", 5)]) (N := N_hangers) (sc := defScope (top 46)) (by decide +kernel)) (fun _ _ _ _ _ => (pg_name (i := 5) nd rfl (Or.inl rfl))) (fun _ _ _ _ _ => pts_nil) (fun _ _ _ _ _ => (pe_cmpR op_eq (pe_mt T.clWorld c_World_light hr (pv 0) (pa_cons (pv 5) pa_nil)) (pv 2) (nomark _)))) pa_nil))) (pss_one (ps_expr (pe_bm PySem.F.plainAttrs_list PySem.F.slot_list_extend PySem.F.type_list_extend mt_extendT (pv 3) (pa_cons (pv 4) pa_nil)))) pss_nil)))
      (pss_one (ps_ret (pe_callB (k_sortedS K) (by rfl) T.sorted bt_sorted (pa_cons (pv 3) pa_nil)))))), ?_⟩
  obtain ⟨B, n, S, C, v, hB, hW, hc, rfl, hC, hv, q⟩ := h
  obtain ⟨ok, a, dx, u1, u2, u3, u4, rfl, ha, r1, r2, r3⟩ := id hW
  have okw : n.Ok := r1.1
  refine ⟨(by show 0 ≤ sizeLine; decide), fun p hp => ?_⟩
  have gp : Gr [] B H B (upd H p (.lst [])) := Gr.new_ hB hp
  have bp := hB.none hp
  refine ⟨_, rfl, _, rfl, _, rfl, _, _, _, rfl, B, n, S, C, v, gp.sub, hW, hc, rfl, hC, hv, fun B1 H1 gv g1 hg => ?_⟩
  obtain ⟨gl, gvs, rfl, hgl, hgs⟩ := id hg
  have p1 : H1 p = some (.lst []) := g1.keep p _ (fun z => nomatch z) bp upd_same
  have b1 : B1 p = none := g1.new p bp (by rw [upd_same]; exact fun z => nomatch z)
  refine ⟨gl, rfl, ⟨_, SqL.of (g1.sub.lst hgl)⟩, for_app (R := rStr) (Rs := rTU rStr) (fun g => if lit S v g = true then g else []) (fun σ1 => ∃ z4 z5, σ1 = [some (.ref a), some v1, some (.int v), some (.ref p), z4, z5]) (src_list hgl) g1.sub b1 p1 hgs ?_ ⟨_, _, rfl⟩ (fun y x σ1 B2 H2 zs N hy hx hs g2 b2 h2 hz k => ?_) (fun σ1 B2 H2 zs hs g2 b2 h2 a2 => ?_)⟩
  · rw [flat_if]; exact Nat.le_trans (hung_len okw) (by decide)
  · obtain ⟨z4, z5, rfl⟩ := hs
    obtain ⟨t, ts, rfl, ht, hts⟩ := id hx
    have st : SqT K H2 t ts := SqT.of (g2.sub.tup ht)
    have ul : ts.length ≤ 100000 := by rw [← hts.len]; have := group_len okw hy; omega
    refine ⟨_, rfl, t, rfl, ⟨_, st⟩, fun D hD => lc_map (Rs := rStr) (R := rBool) (fun z => decide (S z = v)) (src_tup ht) g2.sub hD hts ul (fun z xz B3 H3 K1 hz' hxz g3 k1 => ?_) (fun B3 H3 g3 h3 => ?_)⟩
    · obtain rfl : xz = .str z := hxz
      have G3 := (gp.trans g1).up.trans (g2.up.trans g3.up)
      refine ⟨_, rfl, a, dx, _, rfl, g3.sub.ins (G3.ins ha), worldF_no (by decide +kernel), _, rfl, _, _, rfl, B3, n, S, z, g3.sub, Rp.mono _ G3 hW, rfl, group_mem hy hz', _, rfl, rfl, ?_⟩
      rw [dec_intD]
      exact k1 _ _ _ (Gr.refl g3.sub) rfl
    · obtain ⟨bs, hr0, hrb, hrh, hrk⟩ := h3.at_
      have h3p : H3 p = some (.lst zs) := g3.keep p _ (fun z => nomatch z) b2 h2
      have b3p : B3 p = none := g3.new p b2 (by rw [h2]; exact fun z => nomatch z)
      rw [bools_eq hrk] at hrh
      refine ⟨D, _, rfl, SqL.of hrh, _, rfl, ?_⟩
      rw [List.any_map]
      refine ite2 (fun e => ?_) (fun e => ?_)
      · have e : lit S v y = true := e
        rw [if_pos e] at hz k
        refine ⟨_, rfl, ty_lst h3p, _, rfl, p, t, zs, ts, rfl, rfl, h3p, SqT.of (g3.sub.tup (g3.up.tup ht)), ?_, ?_⟩
        · rw [← hts.len]; exact Nat.le_trans hz (by decide)
        · exact k _ B3 _ ts ⟨_, _, rfl⟩ (g3.any.mut (.inr (by simp)) b3p) b3p upd_same (All2.mono g3.up hts)
      · have e : ¬ lit S v y = true := e
        rw [if_neg e] at k
        exact k _ B3 H3 [] ⟨_, _, rfl⟩ g3.any b3p (by rw [List.append_nil]; exact h3p) .nil
  · obtain ⟨z4, z5, rfl⟩ := hs
    rw [flat_if] at a2
    have G : Gr [] B H B2 H2 := (gp.trans g1).fresh hp g2
    rw [strs_eq a2] at h2
    refine ⟨_, rfl, p, _, rfl, SqL.of h2, Nat.lt_of_le_of_lt (hung_len okw) (by decide), fun ys l perm srt hl => ?_⟩
    exact ((q ys perm).go G).newL (Gr.new_ G.sub hl) ⟨l, _, rfl, hl, G.sub.none hl, upd_same, strs2 ys⟩
/-! ### the group that shades -/
def shadeIn (S : Str → Int) (x : Str) (v : Int) (gs : List (List Str)) : Option (List Str) := match gs.find? (fun g => decide (x ∈ g)) with
  | some g => if lit S v g = true then none else some g
  | none => none
def shadeOf (n : Net) (S : Str → Int) (C : Str → Option Int) (x : Str) (v : Int) : Option (List Str) := shadeIn S x v (groups n S C v)
def spShade (K : PySem.W.Frag) : Sp := sp4 fun a b c d H Q => ∃ B n S C x v, ExW B H ∧ (rWorld K).rel B (n, S) a ∧ (rD rEnd).rel B (caps n.names C) b ∧ c = .str x ∧ d = .int v ∧ (∀ p ∈ n.names, isE (C p) = true) ∧ isN v = true ∧
  ∀ B' H' r, Gr [] B H B' H' → (shadeOf n S C x v = none ∧ r = .non ∨ ∃ g, shadeOf n S C x v = some g ∧ (rTU rStr).rel B' g r) → Q r H'
/-! ### shade_group -/
abbrev F_shade_group (P : Program) (w : World) (K : PySem.W.Frag) (mg : Str → Option Value) (base : Heap) : Prop := Fn P w K mg base CX0 6 "shade_group" ["world", "caps", "lamp", "light"] [] (spShade K)
abbrev N_shade_group : List Str := ["world", "caps", "lamp", "light", "group", "one"]
theorem sc_shade_group : FnScope N_shade_group ["world", "caps", "lamp", "light"] (defScope (top 47)) := ⟨rfl, rfl, rfl, by decide +kernel, rfl, by decide +kernel, by decide +kernel⟩
theorem ok_shade_group (T : TX K mg) (D : DefAt K mg "shade_group" (top 47) []) (c_groups_under : F_groups_under P w K mg base) (c_World_light : F_World_light P w K mg base)  : F_shade_group P w K mg base := by
  refine fn_ok D sc_shade_group (by decide +kernel) (fun _ _ _ _ _ _ us hl => match us, hl with | [_, _, _, _], _ => rfl) (fun vs H Q E h => len4 h) (fun f cdv A outer s H vs Q E hr h => ?_)
  have nd := sc_shade_group.nd
  obtain ⟨v0, v1, v2, v3, rfl, h⟩ := h
  refine ⟨_, (pss_cons (ps_for PassesOwn.never rfl (kp_list K (pe_fn c_groups_under hr (by rfl) (pa_cons (pv 0) (pa_cons (pv 1) (pa_cons (pv 3) pa_nil))))) (pg_name (i := 4) nd rfl (Or.inl rfl))
      (pss_one (ps_if (pt_cmpR (k_inSeq K) (pv 2) (pv 4) (by rfl)) (pss_cons (ps_if (pt_val (pe_callB (k_any K rfl) (by rfl) T.any bt_any (pa_cons (pe_lc (own := [("one", 5)]) rfl nd (kp_tup K (pv 4)) (blkOk_by (own := [("one", 5)]) (N := N_shade_group) (sc := defScope (top 47)) (by decide +kernel)) (fun _ _ _ _ _ => (pg_name (i := 5) nd rfl (Or.inl rfl))) (fun _ _ _ _ _ => pts_nil) (fun _ _ _ _ _ => (pe_cmpR op_eq (pe_mt T.clWorld c_World_light hr (pv 0) (pa_cons (pv 5) pa_nil)) (pv 3) (nomark _)))) pa_nil))) (pss_one (ps_ret pe_non)) pss_nil)
      (pss_one (ps_ret (pv 4)))) pss_nil)))
      (pss_one (ps_ret pe_non))), ?_⟩
  obtain ⟨B, n, S, C, x, v, hB, hW, hc, rfl, rfl, hC, hv, q⟩ := h
  obtain ⟨ok, a, dx, u1, u2, u3, u4, rfl, ha, r1, r2, r3⟩ := id hW
  have okw : n.Ok := r1.1
  refine ⟨_, rfl, _, rfl, _, rfl, _, _, _, rfl, B, n, S, C, v, hB, hW, hc, rfl, hC, hv, fun B1 H1 gv g1 hg => ?_⟩
  obtain ⟨gl, gvs, rfl, hgl, hgs⟩ := id hg
  refine ⟨gl, rfl, ⟨_, SqL.of (g1.sub.lst hgl)⟩, for_go (Rs := rTU rStr) (fun i σ1 B2 H2 => (∃ z4 z5, σ1 = [some (.ref a), some v1, some (.str x), some (.int v), z4, z5]) ∧ Gr [] B1 H1 B2 H2 ∧ shadeOf n S C x v = shadeIn S x v ((groups n S C v).drop i)) (src_list hgl) hgs ⟨⟨_, _, rfl⟩, Gr.refl g1.sub, rfl⟩ (fun i σ1 B1 H1 h => ⟨h.2.1.up, h.2.1.sub⟩) (fun i y xv σ1 B2 H2 hy hx h => ?_) (fun σ1 B2 H2 h => ?_)⟩
  · obtain ⟨⟨z4, z5, rfl⟩, g2, e⟩ := h
    obtain ⟨t, ts, rfl, ht, hts⟩ := id hx
    have hy' : y ∈ groups n S C v := List.mem_of_getElem? hy
    have ed : (groups n S C v).drop i = y :: (groups n S C v).drop (i + 1) := by
      obtain ⟨hl, ey⟩ := List.getElem?_eq_some_iff.mp hy
      rw [List.drop_eq_getElem_cons hl, ey]
    rw [ed] at e
    have st : SqT K H2 t ts := SqT.of (g2.sub.tup ht)
    have ul : ts.length ≤ 100000 := by rw [← hts.len]; have := group_len okw hy'; omega
    refine ⟨_, rfl, _, rfl, inT_go g2.sub hx ⟨_, rfl, ?_⟩⟩
    refine ite2 (fun e1 => ?_) (fun e1 => ?_)
    · have ef : shadeIn S x v (y :: (groups n S C v).drop (i + 1)) = if lit S v y = true then none else some y := by
        unfold shadeIn
        rw [List.find?_cons, e1]
      rw [ef] at e
      refine ⟨_, rfl, t, rfl, ⟨_, st⟩, fun D hD => lc_map (Rs := rStr) (R := rBool) (fun z => decide (S z = v)) (src_tup ht) g2.sub hD hts ul (fun z xz B3 H3 K1 hz' hxz g3 k1 => ?_) (fun B3 H3 g3 h3 => ?_)⟩
      · obtain rfl : xz = .str z := hxz
        have G3 := g1.up.trans (g2.up.trans g3.up)
        refine ⟨_, rfl, a, dx, _, rfl, g3.sub.ins (G3.ins ha), worldF_no (by decide +kernel), _, rfl, _, _, rfl, B3, n, S, z, g3.sub, Rp.mono _ G3 hW, rfl, group_mem hy' hz', _, rfl, rfl, ?_⟩
        rw [dec_intD]
        exact k1 _ _ _ (Gr.refl g3.sub) rfl
      · obtain ⟨bs, hr0, hrb, hrh, hrk⟩ := h3.at_
        rw [bools_eq hrk] at hrh
        have G3 := (g1.trans g2).trans g3
        refine ⟨D, _, rfl, SqL.of hrh, _, rfl, ?_⟩
        rw [List.any_map]
        refine ite2 (fun e2 => ?_) (fun e2 => ?_)
        · have e2 : lit S v y = true := e2
          rw [if_pos e2] at e
          exact q B3 H3 _ G3 (.inl ⟨e, rfl⟩)
        · have e2 : ¬ lit S v y = true := e2
          rw [if_neg e2] at e
          exact ⟨_, rfl, q B3 H3 _ G3 (.inr ⟨y, e, Rp.mono _ g3.up hx⟩)⟩
    · refine ⟨B2, ⟨_, _, rfl⟩, g2, ?_⟩
      rw [e]
      unfold shadeIn
      rw [List.find?_cons, Bool.eq_false_iff.mpr e1]
  · obtain ⟨⟨z4, z5, rfl⟩, g2, e⟩ := h
    rw [List.drop_length] at e
    exact q B2 H2 _ (g1.trans g2) (.inl ⟨e, rfl⟩)
/-! ### papers -/
inductive Paper where
  | dim (x : Str)
  | ceil (x : Str)
  | shade (x : Str) (g : List Str)
def rPaper : Rp Paper := ⟨fun B p v => match p with
  | .dim x => ∃ a, v = .ref a ∧ B a = some (.tup [.str "dimmer", .str x])
  | .ceil x => ∃ a, v = .ref a ∧ B a = some (.tup [.str "ceiling", .str x])
  | .shade x g => ∃ a u, v = .ref a ∧ B a = some (.tup [.str "shade", .str x, u]) ∧ (rTU rStr).rel B g u, fun {B B' x v} e h => by
  cases x with
  | dim x => obtain ⟨a, h1, h2⟩ := h; exact ⟨a, h1, e.tup h2⟩
  | ceil x => obtain ⟨a, h1, h2⟩ := h; exact ⟨a, h1, e.tup h2⟩
  | shade x g => obtain ⟨a, u, h1, h2, h3⟩ := h; exact ⟨a, u, h1, e.tup h2, Rp.mono _ e h3⟩⟩
def dimP (S A : Str → Int) (x : Str) : List Paper := if A x < S x then [.dim x] else []
def ceilP (n : Net) (S A : Str → Int) (x : Str) : List Paper := if S x < A x ∧ leE (A x) (n.ceil x) = false then [.ceil x] else []
def shadeP (n : Net) (S A : Str → Int) (C : Str → Option Int) (x : Str) : List Paper := if S x < A x ∧ leE (A x) (n.ceil x) = true then (match shadeOf n S C x (A x) with
  | some g => [.shade x g]
  | none => []) else []
def faults (n : Net) (S : Str → Int) (ys : List Str) (A : Str → Int) (C : Str → Option Int) : List Paper := ys.flatMap (dimP S A) ++ ys.flatMap (ceilP n S A) ++ ys.flatMap (shadeP n S A C)
theorem dimP_le {S A : Str → Int} (x : Str) : (dimP S A x).length ≤ 1 := by unfold dimP; split <;> simp
theorem ceilP_le {n : Net} {S A : Str → Int} (x : Str) : (ceilP n S A x).length ≤ 1 := by unfold ceilP; split <;> simp
theorem shadeP_le {n : Net} {S A : Str → Int} {C : Str → Option Int} (x : Str) : (shadeP n S A C x).length ≤ 1 := by
  unfold shadeP
  split
  · split <;> simp
  · simp
def spFaults (K : PySem.W.Frag) : Sp := sp3 fun a b c H Q => ∃ B n S ys A C, ExW B H ∧ (rWorld K).rel B (n, S) a ∧ (rD rInt).rel B (glow ys A) b ∧ (rD rEnd).rel B (caps n.names C) c ∧ WishOk n ys A ∧ (∀ p ∈ n.names, isE (C p) = true) ∧ Ret (rL rPaper) (faults n S ys A C) B H Q
/-! ### told_faults -/
abbrev F_told_faults (P : Program) (w : World) (K : PySem.W.Frag) (mg : Str → Option Value) (base : Heap) : Prop := Fn P w K mg base CX0 7 "told_faults" ["world", "told", "caps"] [] (spFaults K)
abbrev N_told_faults : List Str := ["world", "told", "caps", "web", "dimmer", "above", "shades", "lamp", "light", "own", "group"]
theorem sc_told_faults : FnScope N_told_faults ["world", "told", "caps"] (defScope (top 48)) := ⟨rfl, rfl, rfl, by decide +kernel, rfl, by decide +kernel, by decide +kernel⟩
theorem ok_told_faults (T : TX K mg) (D : DefAt K mg "told_faults" (top 48) []) (c_World_web : F_World_web P w K mg base) (c_World_light : F_World_light P w K mg base) (c_may_take : F_may_take P w K mg base) (c_Web_ceiling : F_Web_ceiling P w K mg base) (c_shade_group : F_shade_group P w K mg base)  : F_told_faults P w K mg base := by
  refine fn_ok D sc_told_faults (by decide +kernel) (fun _ _ _ _ _ _ us hl => match us, hl with | [_, _, _], _ => rfl) (fun vs H Q E h => len3 h) (fun f cdv A outer s H vs Q E hr h => ?_)
  have nd := sc_told_faults.nd
  obtain ⟨v0, v1, v2, rfl, h⟩ := h
  refine ⟨_, (pss_cons (ps_set (i := 3) nd rfl (Or.inl rfl) (pe_pr T.clWorld c_World_web hr (pv 0) rfl))
      (pss_cons (ps_set (i := 4) nd rfl (Or.inl rfl) (pe_lst pa_nil))
      (pss_cons (ps_set (i := 5) nd rfl (Or.inl rfl) (pe_lst pa_nil))
      (pss_cons (ps_set (i := 6) nd rfl (Or.inl rfl) (pe_lst pa_nil))
      (pss_cons (ps_for PassesOwn.never rfl (pi_keysL (pv 1)) (pg_name (i := 7) nd rfl (Or.inl rfl))
      (pss_cons (ps_set (i := 8) nd rfl (Or.inl rfl) (pe_dget (hu_of hr) (pv 1) (pv 7) (fun _ _ => rfl)))
      (pss_cons (ps_set (i := 9) nd rfl (Or.inl rfl) (pe_mt T.clWorld c_World_light hr (pv 0) (pa_cons (pv 7) pa_nil)))
      (pss_one (ps_if (pt_cmpR op_lt (pv 8) (pv 9) (nomark _)) (pss_one (ps_expr (pe_bm PySem.F.plainAttrs_list PySem.F.slot_list_append PySem.F.type_list_append mt_append (pv 4) (pa_cons (pe_tup (pa_cons pe_str (pa_cons (pv 7) pa_nil))) pa_nil)))) (pss_one (ps_if (pt_cmpR op_gt (pv 8) (pv 9) (nomark _)) (pss_one (ps_if (pt_not (pt_val (pe_fn c_may_take hr (by rfl) (pa_cons (pv 8) (pa_cons (pe_mt T.clWeb c_Web_ceiling hr (pv 3) (pa_cons (pv 7) pa_nil)) pa_nil))))) (pss_one (ps_expr (pe_bm PySem.F.plainAttrs_list PySem.F.slot_list_append PySem.F.type_list_append mt_append (pv 5) (pa_cons (pe_tup (pa_cons pe_str (pa_cons (pv 7) pa_nil))) pa_nil)))) (pss_cons (ps_set (i := 10) nd rfl (Or.inl rfl) (pe_fn c_shade_group hr (by rfl) (pa_cons (pv 0) (pa_cons (pv 2) (pa_cons (pv 7) (pa_cons (pv 8) pa_nil))))))
      (pss_one (ps_if (pt_cmpR op_notN (pv 10) pe_non (nomark _)) (pss_one (ps_expr (pe_bm PySem.F.plainAttrs_list PySem.F.slot_list_append PySem.F.type_list_append mt_append (pv 6) (pa_cons (pe_tup (pa_cons pe_str (pa_cons (pv 7) (pa_cons (pv 10) pa_nil)))) pa_nil)))) pss_nil))))) pss_nil)))))))
      (pss_one (ps_ret (pe_op op_cat (pe_op op_cat (pv 4) (pv 5)) (pv 6))))))))), ?_⟩
  obtain ⟨B, n, S, ys, A, C, hB, hW, hA, hc, okA, hC, q⟩ := h
  obtain ⟨ok, a, dx, u1, u2, u3, u4, rfl, ha, r1, r2, r3⟩ := id hW
  have okw : n.Ok := r1.1
  refine ⟨_, rfl, a, dx, _, rfl, hB.ins ha, ⟨_, rfl, B, n, S, hB, hW, fun wv hw => ?_⟩⟩
  obtain ⟨_, wa, wdx, w1, w2, w3, w4, w5, w6, w7, rfl, hwa, _⟩ := id hw
  refine ⟨(by show 0 ≤ sizeLine; decide), fun p1 hp1 => ⟨(by show 0 ≤ sizeLine; decide), fun p2 hp2 => ⟨(by show 0 ≤ sizeLine; decide), fun p3 hp3 => ?_⟩⟩⟩
  have o1 : Own rPaper B (upd H p1 (.lst [])) p1 [] := Own.mk0 (hB.none hp1)
  have g1 : Gr [] B H B (upd H p1 (.lst [])) := Gr.new_ hB hp1
  have g2 : Gr [] B (upd H p1 (.lst [])) B (upd (upd H p1 (.lst [])) p2 (.lst [])) := Gr.new_ g1.sub hp2
  have g3 : Gr [] B (upd (upd H p1 (.lst [])) p2 (.lst [])) B (upd (upd (upd H p1 (.lst [])) p2 (.lst [])) p3 (.lst [])) := Gr.new_ g2.sub hp3
  have o2 : Own rPaper B (upd (upd H p1 (.lst [])) p2 (.lst [])) p2 [] := Own.mk0 (hB.none ((g1.was hp2)))
  have o3 : Own rPaper B (upd (upd (upd H p1 (.lst [])) p2 (.lst [])) p3 (.lst [])) p3 [] := Own.mk0 (hB.none (g1.was (g2.was hp3)))
  have n12 : p1 ≠ p2 := o1.ne hp2
  have n23 : p2 ≠ p3 := o2.ne hp3
  have n13 : p1 ≠ p3 := (o1.keep g2 (fun z => nomatch z)).ne hp3
  obtain ⟨d, kvs, rfl, hd, hk⟩ := id hA
  have g123 := (g1.trans g2).trans g3
  refine ⟨_, rfl, d, kvs, rfl, g3.sub.rd hd, fun od H2 lk => ?_⟩
  obtain ⟨B2, g4, hd2⟩ := lk_go g3.sub hd lk
  have G0 := g123.trans g4
  have q1 : Own rPaper B2 H2 p1 [] := ((o1.keep g2 (fun z => nomatch z)).keep g3 (fun z => nomatch z)).keep g4 (fun z => nomatch z)
  have q2 : Own rPaper B2 H2 p2 [] := (o2.keep g3 (fun z => nomatch z)).keep g4 (fun z => nomatch z)
  have q3 : Own rPaper B2 H2 p3 [] := o3.keep g4 (fun z => nomatch z)
  have ks : All2 (rStr.rel B2) ys (kvs.map fun p => kV p.1) := by rw [keysS hk]; exact strs2 ys
  have l10 : ys.length ≤ 10 := okA.le okw
  refine ⟨d, od, rfl, .inl ⟨kvs, lk.at_, for_go (Rs := rStr) (fun i σ1 B3 H3 => (∃ z7 z8 z9 z10, σ1 = [some (.ref a), some (.ref d), some v2, some (.ref wa), some (.ref p1), some (.ref p2), some (.ref p3), z7, z8, z9, z10]) ∧ Gr [p1, p2, p3] B2 H2 B3 H3 ∧
    Own rPaper B3 H3 p1 ((ys.take i).flatMap (dimP S A)) ∧ Own rPaper B3 H3 p2 ((ys.take i).flatMap (ceilP n S A)) ∧ Own rPaper B3 H3 p3 ((ys.take i).flatMap (shadeP n S A C)))
    (src_keys hd2) ks ⟨⟨_, _, _, _, rfl⟩, Gr.refl g4.sub, q1, q2, q3⟩ (fun i σ1 B1 H1 h => ⟨h.2.1.up, h.2.1.sub⟩) (fun i y xv σ1 B3 H3 hy hx h => ?_) (fun σ1 B3 H3 h => ?_)⟩⟩
  · obtain ⟨⟨z7, z8, z9, z10, rfl⟩, g5, s1, s2, s3⟩ := h
    obtain rfl : xv = .str y := hx
    have ym : y ∈ ys := List.mem_of_getElem? hy
    have yn : y ∈ n.names := okA.sub y ym
    have G5 := G0.up.trans g5.up
    have hW3 := Rp.mono _ G5 hW
    have hw3 := Rp.mono _ G5 hw
    obtain ⟨d', e, hu⟩ := dgl (Rp.mono _ G5 hA) g5.sub ym
    cases e
    have i10 : ∀ {f : Str → List Paper}, (∀ x, (f x).length ≤ 1) → ((ys.take i).flatMap f).length ≤ 10 := fun h => Nat.le_trans (flat1 h _) (by rw [List.length_take]; omega)
    rw [flat_take (f := dimP S A) hy, flat_take (f := ceilP n S A) hy, flat_take (f := shadeP n S A C) hy]
    refine ⟨_, rfl, _, rfl, d, _, rfl, hu, ?_⟩
    refine ⟨_, rfl, a, dx, _, rfl, g5.sub.ins (G5.ins ha), worldF_no (by decide +kernel), _, rfl, _, _, rfl, B3, n, S, y, g5.sub, hW3, rfl, yn, ?_⟩
    refine ⟨_, rfl, _, rfl, _, _, rfl, rfl, _, rfl, ?_⟩
    have no1 : dimP S A y = [] → ∀ {B H : Hp}, Own rPaper B H p1 ((ys.take i).flatMap (dimP S A)) → Own rPaper B H p1 ((ys.take i).flatMap (dimP S A) ++ dimP S A y) := fun e B H h => by rw [e, List.append_nil]; exact h
    have no2 : ceilP n S A y = [] → ∀ {B H : Hp}, Own rPaper B H p2 ((ys.take i).flatMap (ceilP n S A)) → Own rPaper B H p2 ((ys.take i).flatMap (ceilP n S A) ++ ceilP n S A y) := fun e B H h => by rw [e, List.append_nil]; exact h
    have no3 : shadeP n S A C y = [] → ∀ {B H : Hp}, Own rPaper B H p3 ((ys.take i).flatMap (shadeP n S A C)) → Own rPaper B H p3 ((ys.take i).flatMap (shadeP n S A C) ++ shadeP n S A C y) := fun e B H h => by rw [e, List.append_nil]; exact h
    refine ite2 (fun e => ?_) (fun e => ?_)
    · have e : A y < S y := of_decide_eq_true e
      have e1 : dimP S A y = [.dim y] := if_pos e
      have e2 : ceilP n S A y = [] := if_neg (fun z => by have := z.1; omega)
      have e3 : shadeP n S A C y = [] := if_neg (fun z => by have := z.1; omega)
      refine ⟨_, rfl, s1.ty, _, rfl, (by show 2 ≤ sizeLine; decide), fun t ht => ?_⟩
      have gT : Gr [] B3 H3 (upd B3 t (.tup [.str "dimmer", .str y])) (upd H3 t (.tup [.str "dimmer", .str y])) := Gr.newP g5.sub ht
      have s1' := s1.keep gT (fun z => nomatch z)
      obtain ⟨zs, hz, lz, s1''⟩ := s1'.app (x := Paper.dim y) (v := .ref t) ⟨t, rfl, upd_same⟩ (Nat.le_trans (i10 dimP_le) (by decide))
      refine ⟨p1, zs, .ref t, rfl, rfl, hz, lz, _, ⟨_, _, _, _, rfl⟩, (g5.trans gT.any).mut (.inr (by simp)) s1'.1, ?_, ?_, ?_⟩
      · rw [e1]; exact s1''
      · exact no2 e2 ((s2.keep gT (fun z => nomatch z)).aside n12.symm)
      · exact no3 e3 ((s3.keep gT (fun z => nomatch z)).aside n13.symm)
    have e : ¬ A y < S y := by simpa using e
    have e1 : dimP S A y = [] := if_neg e
    refine ⟨_, rfl, _, rfl, _, _, rfl, rfl, _, rfl, ?_⟩
    refine ite2 (fun f1 => ?_) (fun f1 => ?_)
    · have f1 : S y < A y := of_decide_eq_true f1
      refine ⟨_, rfl, _, rfl, wa, wdx, _, rfl, g5.sub.ins (G5.ins hwa), netF_no (by decide +kernel), _, rfl, _, _, rfl, B3, n, y, g5.sub, hw3, rfl, yn, _, _, rfl, A y, _, rfl, rfl, okA.num y ym, Net.ceil_num okw _, _, rfl, ?_⟩
      cases f2 : leE (A y) (n.ceil y) with
      | false =>
        refine ite_tt ?_
        have e2 : ceilP n S A y = [.ceil y] := if_pos ⟨f1, f2⟩
        have e3 : shadeP n S A C y = [] := if_neg (fun z => by rw [f2] at z; cases z.2)
        refine ⟨_, rfl, s2.ty, _, rfl, (by show 2 ≤ sizeLine; decide), fun t ht => ?_⟩
        have gT : Gr [] B3 H3 (upd B3 t (.tup [.str "ceiling", .str y])) (upd H3 t (.tup [.str "ceiling", .str y])) := Gr.newP g5.sub ht
        have s2' := s2.keep gT (fun z => nomatch z)
        obtain ⟨zs, hz, lz, s2''⟩ := s2'.app (x := Paper.ceil y) (v := .ref t) ⟨t, rfl, upd_same⟩ (Nat.le_trans (i10 ceilP_le) (by decide))
        refine ⟨p2, zs, .ref t, rfl, rfl, hz, lz, _, ⟨_, _, _, _, rfl⟩, (g5.trans gT.any).mut (.inr (by simp)) s2'.1, ?_, ?_, ?_⟩
        · exact no1 e1 ((s1.keep gT (fun z => nomatch z)).aside n12)
        · rw [e2]; exact s2''
        · exact no3 e3 ((s3.keep gT (fun z => nomatch z)).aside n23.symm)
      | true =>
        refine iteF ?_
        have e2 : ceilP n S A y = [] := if_neg (fun z => by rw [f2] at z; cases z.2)
        have e3 : shadeP n S A C y = match shadeOf n S C y (A y) with
          | some g => [.shade y g]
          | none => [] := if_pos ⟨f1, f2⟩
        refine ⟨_, rfl, _, rfl, _, rfl, _, rfl, _, _, _, _, rfl, B3, n, S, C, y, A y, g5.sub, hW3, Rp.mono _ G5 hc, rfl, rfl, hC, okA.num y ym, fun B4 H4 rv g6 hr => ?_⟩
        have s1 := s1.keep g6 (fun z => nomatch z)
        have s2 := s2.keep g6 (fun z => nomatch z)
        have s3 := s3.keep g6 (fun z => nomatch z)
        rcases hr with ⟨f3, rfl⟩ | ⟨g, f3, hg⟩
        · rw [f3] at e3
          exact ⟨_, rfl, rfl, _, rfl, iteF ⟨B4, ⟨_, _, _, _, rfl⟩, g5.trans g6.any, no1 e1 s1, no2 e2 s2, no3 e3 s3⟩⟩
        · rw [f3] at e3
          obtain ⟨ga, gs, rfl, hga, hgs⟩ := id hg
          refine ⟨_, rfl, rfl, _, rfl, ite_tt ⟨_, rfl, s3.ty, _, rfl, _, rfl, (by show 3 ≤ sizeLine; decide), fun t ht => ?_⟩⟩
          have gT : Gr [] B4 H4 (upd B4 t (.tup [.str "shade", .str y, .ref ga])) (upd H4 t (.tup [.str "shade", .str y, .ref ga])) := Gr.newP g6.sub ht
          have s3' := s3.keep gT (fun z => nomatch z)
          obtain ⟨zs, hz, lz, s3''⟩ := s3'.app (x := Paper.shade y g) (v := .ref t) ⟨t, .ref ga, rfl, upd_same, Rp.mono _ gT.up hg⟩ (Nat.le_trans (i10 shadeP_le) (by decide))
          refine ⟨p3, zs, .ref t, rfl, rfl, hz, lz, _, ⟨_, _, _, _, rfl⟩, (g5.trans (g6.trans gT).any).mut (.inr (by simp)) s3'.1, ?_, ?_, ?_⟩
          · exact no1 e1 ((s1.keep gT (fun z => nomatch z)).aside n13)
          · exact no2 e2 ((s2.keep gT (fun z => nomatch z)).aside n23)
          · rw [e3]; exact s3''
    · have f1 : ¬ S y < A y := by simpa using f1
      exact ⟨B3, ⟨_, _, _, _, rfl⟩, g5, no1 e1 s1, no2 (if_neg (fun z => f1 z.1)) s2, no3 (if_neg (fun z => f1 z.1)) s3⟩
  · obtain ⟨⟨z7, z8, z9, z10, rfl⟩, g5, s1, s2, s3⟩ := h
    rw [List.take_length] at s1 s2 s3
    have GA : Gr [] B H B3 H3 := Gr.fresh3 G0 hp1 (g1.was hp2) (g1.was (g2.was hp3)) g5
    obtain ⟨_, l1, h1, a1⟩ := s1
    obtain ⟨_, l2, h2, a2⟩ := s2
    obtain ⟨_, l3, h3, a3⟩ := s3
    have L1 : l1.length ≤ 10 := by rw [← a1.len]; exact Nat.le_trans (flat1 dimP_le _) l10
    have L2 : l2.length ≤ 10 := by rw [← a2.len]; exact Nat.le_trans (flat1 ceilP_le _) l10
    have L3 : l3.length ≤ 10 := by rw [← a3.len]; exact Nat.le_trans (flat1 shadeP_le _) l10
    have sl : 30 ≤ sizeLine := by decide
    refine ⟨_, rfl, _, rfl, p1, p2, l1, l2, rfl, rfl, h1, h2, by omega, fun t ht => ⟨_, rfl, t, p3, _, l3, rfl, rfl, upd_same, ?_, by rw [List.length_append]; omega, fun t2 ht2 => ?_⟩⟩
    · rw [upd_ne (ne_of_none h3 ht)]; exact h3
    · have gt := GA.trans (Gr.new_ (o := .lst (l1 ++ l2)) GA.sub ht)
      have gt2 := Gr.new_ (S := []) (o := .lst (l1 ++ l2 ++ l3)) gt.sub ht2
      refine (q.go gt).newL gt2 ⟨t2, _, rfl, ht2, gt.sub.none ht2, upd_same, ?_⟩
      exact All2.append (All2.append a1 a2) a3
end
end OB

/-! ## PC -/
set_option maxHeartbeats 4000000
namespace OB
open PySem PySem.Spec PyProof.Rows L2
section
variable {P : Program} {w : World} {K : PySem.W.Frag} {mg : Str → Option Value} {base : Heap}
def spBorne (K : PySem.W.Frag) : Sp := sp1 fun a H Q => ∃ B n S, ExW B H ∧ (rWorld K).rel B (n, S) a ∧ ∀ vs, vs.Pairwise (· < ·) → (∀ v, v ∈ vs ↔ ∃ x ∈ n.names, S x = v) → Ret (rL rInt) vs B H Q
/-! ### World.borne -/
abbrev F_World_borne (P : Program) (w : World) (K : PySem.W.Frag) (mg : Str → Option Value) (base : Heap) : Prop := FnP P w K mg base 1 "World" "borne" ["self"] [] (spBorne K)
abbrev N_World_borne : List Str := ["self"]
theorem sc_World_borne : FnScope N_World_borne ["self"] (defScope (inClass (top 25) 6)) := ⟨rfl, rfl, rfl, by decide +kernel, rfl, by decide +kernel, by decide +kernel⟩
theorem ok_World_borne (T : TX K mg) (D : FnPAt K "World" "borne" "World.borne" (inClass (top 25) 6) [])   : F_World_borne P w K mg base := by
  refine fnP_ok D sc_World_borne (by decide +kernel) (fun _ _ _ _ _ _ us hl => match us, hl with | [_], _ => rfl) (fun vs H Q E h => len1 h) (fun f cdv A outer s H vs Q E hr h => ?_)
  have nd := sc_World_borne.nd
  obtain ⟨v0, rfl, h⟩ := h
  refine ⟨_, (pss_one (ps_ret (pe_callB (cr_sortedSet rfl) (by rfl) T.sorted bt_sorted (pa_cons (pe_callTy (cr_setI rfl) (by rfl) T.set bt_set (pa_cons (pe_fd T.clWorld T.n_own_row (pv 0) rfl) pa_nil)) pa_nil)))), ?_⟩
  obtain ⟨B, n, S, hB, hW, q⟩ := h
  obtain ⟨ok, a, dx, u1, u2, u3, u4, rfl, ha, r1, r2, r3⟩ := id hW
  have okw : n.Ok := r1.1
  obtain ⟨t, ts, rfl, ht, hts⟩ := id r3
  rw [ints_eq hts] at ht
  refine ⟨_, rfl, a, dx, _, _, rfl, hB.ins ha, worldF3, ?_⟩
  refine ⟨t, n.names.map S, rfl, SqT.of (hB.tup ht), by rw [List.length_map]; have := okw.lt; omega, fun p c hp hc => ?_⟩
  have gp : Gr [] B H B (upd H p (SetO w p (fun j => decide (j ∈ n.names.map S)) c)) := Gr.new_ hB hp
  refine ⟨p, _, c, rfl, upd_same, ?_, fun vs l srt mem len hl => ?_⟩
  · rw [List.length_map] at hc; have := okw.lt; omega
  · refine ((q vs srt fun v => ?_).go gp).newL (Gr.new_ gp.sub hl) ⟨l, _, rfl, hl, gp.sub.none hl, upd_same, ints2 vs⟩
    rw [mem v, decide_eq_true_eq, List.mem_map]
/-! ### wishes -/
def spWishFaults (K : PySem.W.Frag) : Sp := sp2 fun a b H Q => ∃ B n S ps A, ExW B H ∧ (rWorld K).rel B (n, S) a ∧ rWish.rel B (ps, A) b ∧ WishOk n ps A ∧ ∀ ys, ys.Perm ps → sortedS ys = true → Ret (rL rPaper) (faults n S ys A (capsOf n S ys A)) B H Q
theorem WishOk.perm {n : Net} {ps ys : List Str} {A : Str → Int} (ok : WishOk n ps A) (perm : ys.Perm ps) : WishOk n ys A := ⟨perm.symm.nodup ok.nd, fun p hp => ok.sub p (perm.mem_iff.mp hp), fun p hp => ok.num p (perm.mem_iff.mp hp)⟩
theorem capsOf_num {n : Net} {S : Str → Int} {ys : List Str} {A : Str → Int} (okw : n.Ok) (ok : WishOk n ys A) (hS : ∀ p ∈ n.names, isN (S p) = true) : ∀ p ∈ n.names, isE (capsOf n S ys A p) = true := fun p hp => by
  unfold capsOf
  split
  · exact ok.num p (by assumption)
  · unfold freeC
    split
    · exact Net.ceil_num okw p
    · exact hS p hp
/-! ### wish_faults -/
abbrev F_wish_faults (P : Program) (w : World) (K : PySem.W.Frag) (mg : Str → Option Value) (base : Heap) : Prop := Fn P w K mg base CX0 8 "wish_faults" ["world", "wish"] [] (spWishFaults K)
abbrev N_wish_faults : List Str := ["world", "wish", "told"]
theorem sc_wish_faults : FnScope N_wish_faults ["world", "wish"] (defScope (top 50)) := ⟨rfl, rfl, rfl, by decide +kernel, rfl, by decide +kernel, by decide +kernel⟩
theorem ok_wish_faults (T : TX K mg) (D : DefAt K mg "wish_faults" (top 50) []) (c_told_lights : F_told_lights P w K mg base) (c_told_faults : F_told_faults P w K mg base) (c_caps_of : F_caps_of P w K mg base)  : F_wish_faults P w K mg base := by
  refine fn_ok D sc_wish_faults (by decide +kernel) (fun _ _ _ _ _ _ us hl => match us, hl with | [_, _], _ => rfl) (fun vs H Q E h => len2 h) (fun f cdv A outer s H vs Q E hr h => ?_)
  have nd := sc_wish_faults.nd
  obtain ⟨v0, v1, rfl, h⟩ := h
  refine ⟨_, (pss_cons (ps_set (i := 2) nd rfl (Or.inl rfl) (pe_fn c_told_lights hr (by rfl) (pa_cons (pv 0) (pa_cons (pv 1) pa_nil))))
      (pss_one (ps_ret (pe_fn c_told_faults hr (by rfl) (pa_cons (pv 0) (pa_cons (pv 2) (pa_cons (pe_fn c_caps_of hr (by rfl) (pa_cons (pv 0) (pa_cons (pv 2) pa_nil))) pa_nil))))))), ?_⟩
  obtain ⟨B, n, S, ps, A, hB, hW, hA, ok, q⟩ := h
  obtain ⟨okS, _, _, _, _, _, _, _, _, r1, _, _⟩ := id hW
  have okw : n.Ok := r1.1
  refine ⟨_, rfl, _, rfl, _, _, _, rfl, B, n, S, ps, A, hB, hW, hA, rfl, ok, fun ys perm srt B1 H1 tv g1 ht => ?_⟩
  have ok' := ok.perm perm
  have hW1 := Rp.mono _ g1.up hW
  refine ⟨_, rfl, _, rfl, _, rfl, _, rfl, _, _, rfl, B1, n, S, ys, A, g1.sub, hW1, ht, fun B2 H2 cv g2 hc => ?_⟩
  exact ⟨_, _, _, rfl, B2, n, S, ys, A, _, g2.sub, Rp.mono _ g2.up hW1, Rp.mono _ g2.up ht, hc, ok', capsOf_num okw ok' okS, (q ys perm srt).go (g1.trans g2)⟩
def spGranted (K : PySem.W.Frag) : Sp := sp2 fun a b H Q => ∃ B n S ps A, ExW B H ∧ (rWorld K).rel B (n, S) a ∧ rWish.rel B (ps, A) b ∧ WishOk n ps A ∧ ∀ ys, ys.Perm ps → sortedS ys = true → ∀ B' H', Gr [] B H B' H' → Q (.bl (faults n S ys A (capsOf n S ys A)).isEmpty) H'
/-! ### granted -/
abbrev F_granted (P : Program) (w : World) (K : PySem.W.Frag) (mg : Str → Option Value) (base : Heap) : Prop := Fn P w K mg base CX0 9 "granted" ["world", "wish"] [] (spGranted K)
abbrev N_granted : List Str := ["world", "wish"]
theorem sc_granted : FnScope N_granted ["world", "wish"] (defScope (top 51)) := ⟨rfl, rfl, rfl, by decide +kernel, rfl, by decide +kernel, by decide +kernel⟩
theorem ok_granted (T : TX K mg) (D : DefAt K mg "granted" (top 51) [.non]) (c_wish_faults : F_wish_faults P w K mg base)  : F_granted P w K mg base := by
  refine fn_okD D sc_granted (by decide +kernel) 2 1 (by decide) (by decide) (fun _ _ _ _ _ _ _ us its hl hi => match us, hl, its, hi with | [_, _], _, [_], _ => ⟨_, rfl, rfl⟩) (fun vs H Q E h => len2 h) (fun f cdv A outer s H vs Q E hr h => ?_)
  have nd := sc_granted.nd
  obtain ⟨v0, v1, rfl, h⟩ := h
  refine ⟨_, (pss_one (ps_ret (pe_notT (pe_fn c_wish_faults hr (by rfl) (pa_cons (pv 0) (pa_cons (pv 1) pa_nil)))))), ?_⟩
  obtain ⟨B, n, S, ps, A, hB, hW, hA, ok, q⟩ := h
  refine ⟨_, rfl, _, rfl, _, _, rfl, B, n, S, ps, A, hB, hW, hA, ok, fun ys perm srt B1 H1 fv g1 hf => ?_⟩
  obtain ⟨l, fs, rfl, hl, hfs⟩ := id hf
  refine ⟨_, .inl ⟨fs, SqL.of (g1.sub.lst hl), rfl⟩, ?_⟩
  have e : (!(!fs.isEmpty)) = (faults n S ys A (capsOf n S ys A)).isEmpty := by
    rw [Bool.not_not]
    have := hfs.len
    cases h1 : faults n S ys A (capsOf n S ys A) with
    | nil => rw [h1] at hfs; cases hfs; rfl
    | cons a r => rw [h1] at hfs; cases hfs; rfl
  rw [e]
  exact q ys perm srt B1 H1 g1
/-! ### webs are alike -/
def webEq (K : PySem.W.Frag) (a b : Addr) (H : Hp) : Prop := ∃ B n, ExW B H ∧ (rWeb K).rel B n (.ref a) ∧ (rWeb K).rel B n (.ref b)
theorem kit_same {t : Value} (h : (t == t) = true) : PySem.W.kitOne K t t = some true := if_pos h
theorem kit_ref {a : Addr} : PySem.W.kitOne K (.ref a) (.ref a) = some true := if_pos (by rw [beq_iff_eq])
theorem eqV_refl {v : V} (h : flatV v = true) : eqV v v = true := by
  cases v <;> simp_all [eqV, flatV]
theorem prs_self {H : Hp} : ∀ xs : List V, xs.all flatV = true → Prs DFlat xs xs H
  | [], _ => Prs.nil
  | x :: r, h => by
    rw [List.all_cons, Bool.and_eq_true] at h
    exact Prs.cons ⟨h.1, h.1, eqV_refl h.1⟩ (prs_self r h.2)
theorem prs_fix {α : Type} {f : α → List V} (hf : ∀ x, (f x).all flatV = true) {B H : Hp} (hB : ExW B H) : ∀ {xs : List α} {us vs : List V}, All2 ((rFix f).rel B) xs us → All2 ((rFix f).rel B) xs vs → Prs (DTup K DFlat) us vs H
  | _, _, _, .nil, h => by
    cases h
    exact Prs.nil
  | _, _, _, .cons a t, h => by
    cases h with
    | cons a' t' =>
      obtain ⟨p, rfl, hp⟩ := a
      obtain ⟨q, rfl, hq⟩ := a'
      exact Prs.cons ⟨p, q, _, _, rfl, rfl, SqT.of (hB.tup hp), SqT.of (hB.tup hq), prs_self _ (hf _)⟩ (prs_fix hf hB t t')
theorem flat_vo (o : Option Int) : flatV (vo o) = true := by cases o <;> rfl
theorem lenEq {R : Addr → Addr → Hp → Prop} {vs : List V} {H : Hp} {Q : VK} {E : XK} (h : spEq R vs H Q E) : vs.length = 2 := by
  obtain ⟨_, _, rfl, _⟩ := h; rfl
/-! ### Web.__eq__ -/
abbrev F_Web_eq (P : Program) (w : World) (K : PySem.W.Frag) (mg : Str → Option Value) (base : Heap) : Prop := FnM P w K mg base 3 "Web" "__eq__" ["self", "other"] [] (spEq (webEq K))
abbrev N_Web_eq : List Str := ["self", "other"]
theorem sc_Web_eq : FnScope N_Web_eq ["self", "other"] (defScope (inClass (top 71) 17)) := ⟨rfl, rfl, rfl, by decide +kernel, rfl, by decide +kernel, by decide +kernel⟩
theorem ok_Web_eq (T : TX K mg) (D : FnMAt K "Web" "__eq__" "Web.__eq__" (inClass (top 71) 17) [])   : F_Web_eq P w K mg base := by
  refine fnM_ok D sc_Web_eq (by decide +kernel) (fun _ _ _ _ _ _ us hl => match us, hl with | [_, _], _ => rfl) (fun vs H Q E h => lenEq h) (fun f cdv A outer s H vs Q E hr h => ?_)
  have nd := sc_Web_eq.nd
  obtain ⟨v0, v1, rfl, h⟩ := h
  refine ⟨_, (pss_cons (ps_if (pt_not (pt_val (pe_callB (k_isi K) (by rfl) T.isinstance bt_isinstance (pa_cons (pv 1) (pa_cons (pe_glob (v := .ref (cN K)) (by rfl) T.mgWeb rfl) pa_nil))))) (pss_one (ps_ret pe_bl)) pss_nil)
      (pss_one (ps_ret (pe_and (pe_cmpR (op_eqG (n := 2) (rcG_list (mon_tup mon_flat) (eqG_tup mon_flat eqG_flat)) hr) (pe_fd T.clWeb T.n_own_lamp_rows (pv 0) rfl) (pe_fd T.clWeb T.n_own_lamp_rows (pv 1) rfl) (nomark _)) (pe_one (pe_cmpR (op_eqG (n := 2) (rcG_list (mon_tup mon_flat) (eqG_tup mon_flat eqG_flat)) hr) (pe_fd T.clWeb T.n_own_bond_rows (pv 0) rfl) (pe_fd T.clWeb T.n_own_bond_rows (pv 1) rfl) (nomark _))))))), ?_⟩
  obtain ⟨⟨B, n, hB, ha, hb⟩, q⟩ := h
  obtain ⟨ok, a, dx, u1, u2, u3, u4, u5, u6, u7, e, ha, r1, r2, _⟩ := ha
  cases e
  obtain ⟨_, b, dy, w1, w2, w3, w4, w5, w6, w7, e, hb, s1, s2, _⟩ := hb
  cases e
  have ha' := hB.ins ha
  have hb' := hB.ins hb
  obtain ⟨la, lvs, rfl, hla, hls⟩ := r1
  obtain ⟨lb, lws, rfl, hlb, hlt⟩ := s1
  obtain ⟨ma, mvs, rfl, hma, hms⟩ := r2
  obtain ⟨mb, mws, rfl, hmb, hmt⟩ := s2
  refine ⟨_, rfl, .ref v1, .ref (cN K), .ref (cN K), .ref (cN K), true, rfl, ClsV.own _, .base (.ins hb' T.clWeb T.w_cls T.o_get T.o_takes T.w_mro), kit_ref, _, rfl, iteF ?_⟩
  refine ⟨_, rfl, v0, dx, _, _, rfl, ha', netF1, _, rfl, v1, dy, _, _, rfl, hb', netF1, ⟨la, lb, lvs, lws, rfl, rfl, hB.lst hla, hB.lst hlb, prs_fix (fun x => ?_) hB hls hlt⟩, fun H1 e1 => ?_⟩
  · show (true && (flatV (vo x.2) && true)) = true
    rw [flat_vo]; rfl
  have hB1 : ExW B H1 := hB.trans fun a o h => .inl (e1 a o h)
  refine ⟨_, rfl, ite_tt ⟨_, rfl, v0, dx, _, _, rfl, hB1.ins ha, netF2, _, rfl, v1, dy, _, _, rfl, hB1.ins hb, netF2, ⟨ma, mb, mvs, mws, rfl, rfl, hB1.lst hma, hB1.lst hmb, prs_fix (fun x => ?_) hB1 hms hmt⟩, fun H2 e2 => q H2 (e1.trans e2)⟩⟩
  show (true && (true && (true && (flatV (vo x.lo) && (flatV (vo x.hi) && true))))) = true
  rw [flat_vo, flat_vo]; rfl
theorem Gr.ofExt {S : List Addr} {B H H' : Hp} (h : ExW B H) (e : Ext H H') : Gr S B H B H' := ⟨fun a o _ _ z => e a o z, ExW.refl B, h.trans fun a o z => .inl (e a o z), fun _ z _ => z, fun a z => by
  cases q : H a with
  | none => exact absurd q z
  | some o => rw [e a o q]; exact fun z => nomatch z⟩
def spUnder (K : PySem.W.Frag) : Sp := sp2 fun a b H Q => ∃ B n S T, ExW B H ∧ (rWorld K).rel B (n, S) a ∧ (rWorld K).rel B (n, T) b ∧ ∀ B' H', Gr [] B H B' H' → Q (.bl (n.names.all fun x => decide (S x ≤ T x))) H'
/-! ### World.under -/
abbrev F_World_under (P : Program) (w : World) (K : PySem.W.Frag) (mg : Str → Option Value) (base : Heap) : Prop := FnM P w K mg base 5 "World" "under" ["self", "other"] [] (spUnder K)
abbrev N_World_under : List Str := ["self", "other", "mine", "theirs"]
theorem sc_World_under : FnScope N_World_under ["self", "other"] (defScope (inClass (top 25) 11)) := ⟨rfl, rfl, rfl, by decide +kernel, rfl, by decide +kernel, by decide +kernel⟩
theorem ok_World_under (T : TX K mg) (D : FnMAt K "World" "under" "World.under" (inClass (top 25) 11) []) (c_Web_eq : F_Web_eq P w K mg base)  : F_World_under P w K mg base := by
  refine fnM_ok D sc_World_under (by decide +kernel) (fun _ _ _ _ _ _ us hl => match us, hl with | [_, _], _ => rfl) (fun vs H Q E h => len2 h) (fun f cdv A outer s H vs Q E hr h => ?_)
  have nd := sc_World_under.nd
  obtain ⟨v0, v1, rfl, h⟩ := h
  refine ⟨_, (pss_cons (ps_if (pt_not (pt_cmpR (op_eqOwn c_Web_eq hr) (pe_fd T.clWorld T.n_own_web (pv 0) rfl) (pe_fd T.clWorld T.n_own_web (pv 1) rfl) (nomark _))) (pss_one ps_never) pss_nil)
      (pss_one (ps_ret (pe_callB (k_all K rfl) (by rfl) T.all bt_all (pa_cons (pe_lc (own := [("mine", 2), ("theirs", 3)]) rfl nd (RZ.pi_zipA (by rfl) T.zip (pa_cons (pe_fd T.clWorld T.n_own_row (pv 0) rfl) (pa_cons (pe_fd T.clWorld T.n_own_row (pv 1) rfl) pa_nil))) (blkOk_by (own := [("mine", 2), ("theirs", 3)]) (N := N_World_under) (sc := defScope (inClass (top 25) 11)) (by decide +kernel)) (fun _ _ _ _ _ => (kg_tup K 2 rfl (pgs_cons (pg_name (i := 2) nd rfl (Or.inl rfl) (Or.inr rfl)) (pgs_cons (pg_name (i := 3) nd rfl (Or.inl rfl) (Or.inr rfl)) pgs_nil)))) (fun _ _ _ _ _ => pts_nil) (fun _ _ _ _ _ => (pe_cmpR op_le (pv 2) (pv 3) (nomark _)))) pa_nil))))), ?_⟩
  obtain ⟨B, n, S, T', hB, hW, hV, q⟩ := h
  obtain ⟨ok, a, dx, u1, u2, u3, u4, rfl, ha, r1, r2, r3⟩ := id hW
  obtain ⟨ok', b, dy, w1, w2, w3, w4, rfl, hb, s1, s2, s3⟩ := id hV
  obtain ⟨_, wa, wdx, x1, x2, x3, x4, x5, x6, x7, rfl, hwa, _⟩ := id r1
  obtain ⟨_, wb, wdy, y1, y2, y3, y4, y5, y6, y7, rfl, hwb, _⟩ := id s1
  refine ⟨_, rfl, a, dx, _, _, rfl, hB.ins ha, worldF1, _, rfl, b, dy, _, _, rfl, hB.ins hb, worldF1, ⟨wa, wb, wdx, wdy, _, _, rfl, rfl, hB.ins hwa, hB.ins hwb, ⟨B, n, hB, r1, s1⟩⟩, fun H1 e1 => ?_⟩
  have g1 : Gr [] B H B H1 := Gr.ofExt hB e1
  refine ⟨_, rfl, iteF ?_⟩
  obtain ⟨ta, tvs, rfl, hta, htas⟩ := r3
  obtain ⟨tb, tws, rfl, htb, htbs⟩ := s3
  rw [ints_eq htas, List.map_map] at hta
  rw [ints_eq htbs, List.map_map] at htb
  have okn : n.Ok := r1.1
  refine ⟨_, rfl, a, dx, _, _, rfl, g1.sub.ins ha, worldF3, _, rfl, b, dy, _, _, rfl, g1.sub.ins hb, worldF3, ta, tb, _, _, rfl, .inr ⟨SqT.of (g1.sub.tup hta), SqT.of (g1.sub.tup htb), fun D hD => lc_goG (R := rBool) (fun x => decide (S x ≤ T' x)) (src_zip hta htb) g1.sub hD (by have := okn.lt10; show n.names.length ≤ _; omega) (fun y x B3 H3 K1 K0 hy hx g3 k1 => ?_) (fun B3 H3 g3 h3 => ?_)⟩⟩
  · obtain ⟨t, rfl, ht⟩ := hx
    refine ⟨t, _, rfl, SqT.of (g3.sub.tup ht), rfl, _, _, rfl, _, _, rfl, rfl, rfl, ite_tt (B := K0 H3) ⟨_, rfl, _, rfl, _, _, rfl, rfl, k1 _ _ _ (Gr.refl g3.sub) rfl⟩⟩
  · obtain ⟨bs, hr0, hrb, hrh, hrk⟩ := h3.at_
    rw [bools_eq hrk] at hrh
    refine ⟨D, _, rfl, SqL.of hrh, ?_⟩
    rw [List.all_map]
    exact q B3 H3 (g1.trans g3)
/-! ### granted caps -/
def spGrantedCaps (K : PySem.W.Frag) : Sp := sp2X fun a b H Q E => ∃ B n S ys A, ExW B H ∧ (rWorld K).rel B (n, S) a ∧ (rD rInt).rel B (glow ys A) b ∧ WishOk n ys A ∧
  (faults n S ys A (capsOf n S ys A) = [] → Ret (rD rEnd) (caps n.names (capsOf n S ys A)) B H Q) ∧
  (∀ p r, faults n S ys A (capsOf n S ys A) = p :: r → ∀ B' H' d fs v, Gr [] B H B' H' → H' d = some (.xd fs) → List.lookup ("paper" : Str) fs = some v → rPaper.rel B' p v → E (.ref (cU K)) (some d) H')
end
end OB

/-! ## PD -/
set_option maxHeartbeats 4000000
namespace OB
open PySem PySem.Spec PyProof.Rows L2
section
variable {P : Program} {w : World} {K : PySem.W.Frag} {mg : Str → Option Value} {base : Heap}
/-! ### Ungranted -/
abbrev F_Ungranted_init (P : Program) (w : World) (K : PySem.W.Frag) (mg : Str → Option Value) (base : Heap) : Prop := FnE P w K mg base 1 "Ungranted" ["self", "paper"] (spUng K)
abbrev N_Ungranted_init : List Str := ["self", "paper"]
theorem sc_Ungranted_init : FnScope N_Ungranted_init ["self", "paper"] (defScope (inClass (top 13) 0)) := ⟨rfl, rfl, rfl, by decide +kernel, rfl, by decide +kernel, by decide +kernel⟩
theorem ok_Ungranted_init (T : TX K mg) (D : FnEAt K "Ungranted" "Ungranted.__init__" (inClass (top 13) 0)) : F_Ungranted_init P w K mg base := by
  obtain ⟨f, fd, F, h1, h2⟩ := D
  refine ⟨f, fd, F.ok sc_Ungranted_init (fun vs H Q E h => len2 h) fun cdv A outer s H vs Q E hr h => ?_, h1, h2, F.bindsN (fun _ _ _ _ _ _ us hl => match us, hl with | [_, _], _ => rfl)⟩
  have nd := sc_Ungranted_init.nd
  obtain ⟨v0, v1, rfl, h⟩ := h
  refine ⟨_, (pss_one (ps_ost (X := (cxOf CX0 P w K mg base N_Ungranted_init "Ungranted.__init__" (defScope (inClass (top 13) 0)) f cdv A outer s H E).nox) (pv 0) (pv 1))).nox, ?_⟩
  obtain ⟨x, rfl, hx, q⟩ := h
  exact ⟨_, rfl, _, rfl, x, He.ga K "Ungranted", rfl, T.oexU, T.n_paper, .inl ⟨hx, fun dx h1 h2 => q dx h1 h2⟩⟩
/-! ### granted_caps -/
abbrev F_granted_caps (P : Program) (w : World) (K : PySem.W.Frag) (mg : Str → Option Value) (base : Heap) : Prop := Fn P w K mg base (L2.CX P w) 8 "granted_caps" ["world", "told"] [] (spGrantedCaps K)
abbrev N_granted_caps : List Str := ["world", "told", "caps", "papers"]
theorem sc_granted_caps : FnScope N_granted_caps ["world", "told"] (defScope (top 52)) := ⟨rfl, rfl, rfl, by decide +kernel, rfl, by decide +kernel, by decide +kernel⟩
theorem ok_granted_caps (T : TX K mg) (D : DefAt K mg "granted_caps" (top 52) []) (c_caps_of : F_caps_of P w K mg base) (c_told_faults : F_told_faults P w K mg base) (c_Ungranted_init : F_Ungranted_init P w K mg base) : F_granted_caps P w K mg base := by
  refine fn_okX D sc_granted_caps (by decide +kernel) (fun _ _ _ _ _ _ us hl => match us, hl with | [_, _], _ => rfl) (fun vs H Q E h => len2X h) (fun f cdv A outer s H vs Q E hr h => ?_)
  have nd := sc_granted_caps.nd
  obtain ⟨v0, v1, rfl, h⟩ := h
  refine ⟨_, (pss_cons (ps_set (i := 2) nd rfl (Or.inl rfl) (pe_fn c_caps_of hr (by rfl) (pa_cons (pv 0) (pa_cons (pv 1) pa_nil))))
      (pss_cons (ps_set (i := 3) nd rfl (Or.inl rfl) (pe_fn c_told_faults hr (by rfl) (pa_cons (pv 0) (pa_cons (pv 1) (pa_cons (pv 2) pa_nil)))))
      (pss_cons (ps_if (pt_truth (pv 3) (by intro _; rfl)) (pss_one (ps_raise rfl (takes_of rfl rfl rfl rfl) (pmk_U T.oexU c_Ungranted_init hr (by rfl) T.mgUngranted (pa_cons (pe_ix (kx_list K) (pv 3) pe_int (fun _ _ => rfl)) pa_nil)))) pss_nil)
      (pss_one (ps_ret (pv 2)))))), ?_⟩
  obtain ⟨B, n, S, ys, A', hB, hW, hA, okA, q1, q2⟩ := h
  obtain ⟨okS, _, _, _, _, _, _, _, _, r1, _, _⟩ := id hW
  have okw : n.Ok := r1.1
  refine ⟨_, rfl, _, rfl, _, _, rfl, B, n, S, ys, A', hB, hW, hA, fun B1 H1 cv g1 hc => ?_⟩
  refine ⟨_, rfl, _, rfl, _, rfl, _, _, _, rfl, B1, n, S, ys, A', _, g1.sub, Rp.mono _ g1.up hW, Rp.mono _ g1.up hA, hc, okA, capsOf_num okw okA okS, fun B2 H2 fv g2 hf => ?_⟩
  have G2 := g1.trans g2
  obtain ⟨l, fs, rfl, hl, hfs⟩ := id hf
  refine ⟨_, rfl, _, .inl ⟨fs, SqL.of (g2.sub.lst hl), rfl⟩, ?_⟩
  cases ef : faults n S ys A' (capsOf n S ys A') with
  | nil =>
    rw [ef] at hfs
    have : fs = [] := by cases hfs; rfl
    subst this
    exact iteF ⟨_, rfl, ((q1 ef).go G2).at_ g2.sub (Rp.mono _ g2.up hc)⟩
  | cons p r =>
    rw [ef] at hfs
    obtain ⟨v, fs', rfl, hv⟩ : ∃ v fs', fs = v :: fs' ∧ rPaper.rel B2 p v := by
      cases hfs with
      | cons a t => exact ⟨_, _, rfl, a⟩
    refine ite_tt ⟨_, rfl, l, _, 0, _, rfl, rfl, SqL.of (g2.sub.lst hl), atI_nat (j := 0) rfl, (by show 1 ≤ 1000; decide), fun a ha => ⟨_, _, rfl, ?_⟩⟩
    refine ⟨a, rfl, upd_same, fun dx hdx ne => ⟨rfl, dx, [("paper", v)], upd_same, by rw [upd_ne ne, upd_same], ?_, ?_⟩⟩
    · have := hdx
      rw [upd_ne ne] at this
      exact this
    · have hd1 : H2 dx = none := by
        have := hdx
        rw [upd_ne ne] at this
        exact this
      rw [made_same ha ne]
      exact q2 p r ef B2 _ dx _ v (G2.trans (Gr.new_ g2.sub hd1)) upd_same (by simp [List.lookup]) hv
/-! ### the brightest -/
def bestL (n : Net) (S : Str → Int) (C : Str → Option Int) (vs : List Int) : Str → Int := vs.foldl (fun L v x => if x ∈ hung n S C v then v else L x) S
def spBrightest (K : PySem.W.Frag) : Sp := sp2X fun a b H Q E => ∃ B n S ps A, ExW B H ∧ (rWorld K).rel B (n, S) a ∧ rWish.rel B (ps, A) b ∧ WishOk n ps A ∧
  (∀ ys vs, ys.Perm ps → sortedS ys = true → vs.Pairwise (· < ·) → (∀ v, v ∈ vs ↔ ∃ x ∈ n.names, S x = v) → faults n S ys A (capsOf n S ys A) = [] → Ret (rWorld K) (n, bestL n S (capsOf n S ys A) vs) B H Q) ∧
  (∀ ys p r, ys.Perm ps → sortedS ys = true → faults n S ys A (capsOf n S ys A) = p :: r → ∀ B' H' d fs v, Gr [] B H B' H' → H' d = some (.xd fs) → List.lookup ("paper" : Str) fs = some v → rPaper.rel B' p v → E (.ref (cU K)) (some d) H')
theorem bestL_num {n : Net} {S : Str → Int} {C : Str → Option Int} (okS : ∀ p ∈ n.names, isN (S p) = true) {vs : List Int} (h : ∀ v, v ∈ vs ↔ ∃ x ∈ n.names, S x = v) : ∀ x ∈ n.names, isN (bestL n S C vs x) = true := by
  have hv : ∀ v ∈ vs, isN v = true := fun v hv => by
    obtain ⟨x, hx, rfl⟩ := (h v).mp hv
    exact okS x hx
  clear h
  unfold bestL
  induction vs generalizing S with
  | nil => exact okS
  | cons v r ih =>
    intro x hx
    rw [List.foldl_cons]
    have key : ∀ (r : List Int) (L : Str → Int), (∀ p ∈ n.names, isN (L p) = true) → (∀ v ∈ r, isN v = true) → ∀ x ∈ n.names, isN (r.foldl (fun L v x => if x ∈ hung n S C v then v else L x) L x) = true := by
      intro r
      induction r with
      | nil => intro L hL _ x hx; exact hL x hx
      | cons v r ih =>
        intro L hL hr x hx
        rw [List.foldl_cons]
        refine ih _ (fun p hp => ?_) (fun v hv => hr v (List.mem_cons_of_mem _ hv)) x hx
        show isN (if p ∈ hung n S C v then v else L p) = true
        split
        · exact hr v List.mem_cons_self
        · exact hL p hp
    refine key r _ (fun p hp => ?_) (fun v hv' => hv v (List.mem_cons_of_mem _ hv')) x hx
    show isN (if p ∈ hung n S C v then v else S p) = true
    split
    · exact hv v List.mem_cons_self
    · exact okS p hp
/-! ### brightest -/
abbrev F_brightest (P : Program) (w : World) (K : PySem.W.Frag) (mg : Str → Option Value) (base : Heap) : Prop := Fn P w K mg base (L2.CX P w) 11 "brightest" ["world", "wish"] [] (spBrightest K)
abbrev N_brightest : List Str := ["world", "wish", "told", "caps", "lights", "light", "lamp"]
theorem sc_brightest : FnScope N_brightest ["world", "wish"] (defScope (top 53)) := ⟨rfl, rfl, rfl, by decide +kernel, rfl, by decide +kernel, by decide +kernel⟩
theorem ok_brightest (T : TX K mg) (D : DefAt K mg "brightest" (top 53) [.non]) (c_told_lights : F_told_lights P w K mg base) (c_World_lights : F_World_lights P w K mg base) (c_World_borne : F_World_borne P w K mg base) (c_hangers : F_hangers P w K mg base) (c_World_web : F_World_web P w K mg base) (c_World_init : F_World_init P w K mg base) (c_granted_caps : F_granted_caps P w K mg base) : F_brightest P w K mg base := by
  refine fn_okXD D sc_brightest (by decide +kernel) 2 1 (by decide) (by decide) (fun _ _ _ _ _ _ _ us its hl hi => match us, hl, its, hi with | [_, _], _, [_], _ => ⟨_, rfl, rfl⟩) (fun vs H Q E h => len2X h) (fun f cdv A outer s H vs Q E hr h => ?_)
  have nd := sc_brightest.nd
  obtain ⟨v0, v1, rfl, h⟩ := h
  refine ⟨_, (pss_cons (ps_set (i := 2) nd rfl (Or.inl rfl) (pe_fn c_told_lights hr (by rfl) (pa_cons (pv 0) (pa_cons (pv 1) pa_nil))))
      (pss_cons (ps_set (i := 3) nd rfl (Or.inl rfl) (pe_fnS c_granted_caps hr (by rfl) (takes_of rfl rfl rfl rfl) (pa_cons (pv 0) (pa_cons (pv 2) pa_nil))))
      (pss_cons (ps_set (i := 4) nd rfl (Or.inl rfl) (pe_callTy call_dictD (by rfl) T.dict bt_dict (pa_cons (pe_pr T.clWorld c_World_lights hr (pv 0) rfl) pa_nil)))
      (pss_cons (ps_for (passes_of rfl) rfl (kp_list K (pe_pr T.clWorld c_World_borne hr (pv 0) rfl)) (pg_name (i := 5) nd rfl (Or.inl rfl))
      (pss_one (ps_for (passes_of rfl) rfl (kp_list K (pe_fn c_hangers hr (by rfl) (pa_cons (pv 0) (pa_cons (pv 3) (pa_cons (pv 5) pa_nil))))) (pg_name (i := 6) nd rfl (Or.inl rfl))
      (pss_one (ps_dput (hu_of hr) (pv 4) (pv 6) (pv 5) rfl)))))
      (pss_one (ps_ret (pe_mk T.clWorld c_World_init hr (by rfl) (pa_cons (pe_pr T.clWorld c_World_web hr (pv 0) rfl) (pa_cons (pv 4) pa_nil))))))))), ?_⟩
  obtain ⟨B, n, S, ps, A', hB, hW, hA, okA, q1, q2⟩ := h
  obtain ⟨okS, a, dx, u1, u2, u3, u4, rfl, ha, r1, r2, r3⟩ := id hW
  have okw : n.Ok := r1.1
  refine ⟨_, rfl, _, rfl, _, _, _, rfl, B, n, S, ps, A', hB, hW, hA, rfl, okA, fun ys perm srt B1 H1 tv g1 ht => ?_⟩
  have ok' := okA.perm perm
  have hW1 := Rp.mono _ g1.up hW
  refine ⟨_, rfl, _, rfl, _, _, rfl, B1, n, S, ys, A', g1.sub, hW1, ht, ok', fun ef B2 H2 cv g2 hc => ?_, fun p r ef B' H' d fs v g hd hl hv => q2 ys p r perm srt ef B' H' d fs v (g1.trans g) hd hl hv⟩
  have hCn := capsOf_num okw ok' okS
  have G2 := g1.trans g2
  have hW2 := Rp.mono _ g2.up hW1
  refine ⟨_, rfl, a, dx, _, rfl, g2.sub.ins (G2.up.ins ha), ⟨_, rfl, B2, n, S, g2.sub, hW2, fun B3 H3 lv g3 hl => ?_⟩⟩
  obtain ⟨d, kvs, rfl, hd, hk⟩ := id hl
  refine ⟨d, kvs, rfl, g3.sub.rd hd, fun p hp => ?_⟩
  have G3 := G2.trans g3
  have g4 : Gr [] B3 H3 B3 (upd H3 p (.dK kvs)) := Gr.new_ g3.sub hp
  have hW3 := Rp.mono _ G3.up hW
  have bp3 := g3.sub.none hp
  refine ⟨_, rfl, a, dx, _, rfl, g4.sub.ins (G3.up.ins ha), ⟨_, rfl, B3, n, S, g4.sub, hW3, fun vs vsrt vmem B5 H5 vv g5 hv => ?_⟩⟩
  obtain ⟨vl, vvs, rfl, hvl, hvs⟩ := id hv
  have p5 : H5 p = some (.dK kvs) := g5.keep p _ (fun z => nomatch z) bp3 upd_same
  have b5 : B5 p = none := g5.new p bp3 (by rw [upd_same]; exact fun z => nomatch z)
  have hk5 := DAll.mono g5.up hk
  have hc5 := Rp.mono _ (g3.up.trans g5.up) hc
  have hW5 := Rp.mono _ g5.up hW3
  have G5 := G3.trans (g4.trans g5)
  have hp0 : H p = none := G3.was hp
  refine ⟨vl, rfl, ⟨_, SqL.of (g5.sub.lst hvl)⟩, for_go (Rs := rInt) (fun i σ1 B6 H6 => (∃ z5 z6, σ1 = [some (.ref a), some v1, some tv, some cv, some (.ref p), z5, z6]) ∧ Gr [p] B5 H5 B6 H6 ∧ B6 p = none ∧ ∃ kvs, H6 p = some (.dK kvs) ∧ DAll rInt B6 (glow n.names (bestL n S (capsOf n S ys A') (vs.take i))) kvs)
    (src_list hvl) hvs ⟨⟨_, _, rfl⟩, Gr.refl g5.sub, b5, kvs, p5, hk5⟩ (fun i σ1 B1 H1 h => ⟨h.2.1.up, h.2.1.sub⟩) (fun i v vx σ1 B6 H6 hy hx h => ?_) (fun σ1 B6 H6 h => ?_)⟩
  · obtain ⟨⟨z5, z6, rfl⟩, g6, b6, kvs6, h6, a6⟩ := h
    obtain rfl : vx = .int v := hx
    have hvN : isN v = true := by
      obtain ⟨x, hx, rfl⟩ := (vmem v).mp (List.mem_of_getElem? hy)
      exact okS x hx
    refine ⟨_, rfl, _, rfl, _, rfl, _, _, _, rfl, B6, n, S, _, v, g6.sub, Rp.mono _ g6.up hW5, Rp.mono _ g6.up hc5, rfl, hCn, hvN, fun hs hperm B7 H7 hgv g7 hh => ?_⟩
    obtain ⟨hl7, hls, rfl, hhl, hhs⟩ := id hh
    have p7 : H7 p = some (.dK kvs6) := g7.keep p _ (fun z => nomatch z) b6 h6
    have b7 : B7 p = none := g7.new p b6 (by rw [h6]; exact fun z => nomatch z)
    have a7 := DAll.mono g7.up a6
    refine ⟨hl7, rfl, ⟨_, SqL.of (g7.sub.lst hhl)⟩, for_go (Rs := rStr) (fun j σ2 B8 H8 => (∃ z6, σ2 = [some (.ref a), some v1, some tv, some cv, some (.ref p), some (.int v), z6]) ∧ Gr [p] B7 H7 B8 H8 ∧ B8 p = none ∧ ∃ kvs, H8 p = some (.dK kvs) ∧ DAll rInt B8 (glow n.names (fun x => if x ∈ hs.take j then v else bestL n S (capsOf n S ys A') (vs.take i) x)) kvs)
      (src_list hhl) hhs ⟨⟨_, rfl⟩, Gr.refl g7.sub, b7, kvs6, p7, by simpa using a7⟩ (fun i σ1 B1 H1 h => ⟨h.2.1.up, h.2.1.sub⟩) (fun j y x σ2 B8 H8 hy2 hx2 h => ?_) (fun σ2 B8 H8 h => ?_)⟩
    · obtain ⟨⟨z6, rfl⟩, g8, b8, kvs8, h8, a8⟩ := h
      obtain rfl : x = .str y := hx2
      have yn : y ∈ n.names := by
        have : y ∈ hung n S (capsOf n S ys A') v := hperm.mem_iff.mp (List.mem_of_getElem? hy2)
        unfold hung at this
        obtain ⟨g, hg, hyg⟩ := List.mem_flatten.mp this
        exact group_mem (List.mem_filter.mp hg).1 hyg
      refine ⟨_, rfl, _, rfl, _, rfl, p, _, rfl, DPut.k (k := Sum.inr y) h8 (own_lt a8 okw.lt), B8, ⟨_, rfl⟩, g8.mut (.inr (by simp)) b8, b8, _, upd_same, ?_⟩
      refine DAll.set (S := fun x => if x ∈ hs.take j then v else bestL n S (capsOf n S ys A') (vs.take i) x) (S' := fun x => if x ∈ hs.take (j + 1) then v else bestL n S (capsOf n S ys A') (vs.take i) x) ?_ (fun z hz => ?_) okw.nd yn a8
      · show V.int v = V.int _
        rw [if_pos (by rw [take_snoc hy2]; simp)]
      · have : (z ∈ hs.take (j + 1)) = (z ∈ hs.take j) := by rw [take_snoc hy2]; simp [hz]
        simp only [this]
    · obtain ⟨⟨z6, rfl⟩, g8, b8, kvs8, h8, a8⟩ := h
      rw [List.take_length] at a8
      refine ⟨B8, ⟨_, _, rfl⟩, g6.trans (g7.any.trans g8), b8, kvs8, h8, ?_⟩
      have e : bestL n S (capsOf n S ys A') (vs.take (i + 1)) = fun x => if x ∈ hs then v else bestL n S (capsOf n S ys A') (vs.take i) x := by
        unfold bestL
        rw [take_snoc hy, List.foldl_append]
        funext x
        show (if x ∈ hung n S (capsOf n S ys A') v then v else _) = _
        have : (x ∈ hung n S (capsOf n S ys A') v) = (x ∈ hs) := by rw [hperm.mem_iff]
        simp only [this]
      rw [e]
      exact a8
  · obtain ⟨⟨z5, z6, rfl⟩, g6, b6, kvs6, h6, a6⟩ := h
    rw [List.take_length] at a6
    have GA : Gr [] B H B6 H6 := G5.fresh hp0 g6
    have gP := GA.pub hp0 b6 h6
    have hW6 := Rp.mono _ gP.up hW
    refine ⟨_, rfl, a, dx, _, rfl, GA.sub.ins (GA.up.ins ha), ⟨_, rfl, _, n, S, gP.sub, hW6, fun wv hw => ?_⟩⟩
    refine ⟨_, rfl, mkWorld_go gP.sub hw ⟨p, kvs6, rfl, .inl upd_same, DAll.mono (ExW.new b6) a6⟩ (List.Perm.refl _) (fun x hx => ?_) ((q1 ys vs perm srt vsrt vmem ef).go gP)⟩
    exact bestL_num okS vmem x hx
/-! ### brightest -/
abbrev F_brightest1 (P : Program) (w : World) (K : PySem.W.Frag) (mg : Str → Option Value) (base : Heap) : Prop := Fn P w K mg base (L2.CX P w) 11 "brightest" ["world", "wish"] [.non] (spBrightest K)
abbrev N_brightest1 : List Str := ["world", "wish", "told", "caps", "lights", "light", "lamp"]
theorem sc_brightest1 : FnScope N_brightest1 ["world", "wish"] (defScope (top 53)) := ⟨rfl, rfl, rfl, by decide +kernel, rfl, by decide +kernel, by decide +kernel⟩
theorem ok_brightest1 (T : TX K mg) (D : DefAt K mg "brightest" (top 53) [.non]) (c_told_lights : F_told_lights P w K mg base) (c_World_lights : F_World_lights P w K mg base) (c_World_borne : F_World_borne P w K mg base) (c_hangers : F_hangers P w K mg base) (c_World_web : F_World_web P w K mg base) (c_World_init : F_World_init P w K mg base) (c_granted_caps : F_granted_caps P w K mg base) : F_brightest1 P w K mg base := by
  refine fn_okXD D sc_brightest1 (by decide +kernel) 1 0 (by decide) (by decide) (fun _ _ _ _ _ _ _ us its hl hi => match us, hl, its, hi with | [_], _, [_], _ => ⟨_, rfl, rfl⟩) (fun vs H Q E h => len2X h) (fun f cdv A outer s H vs Q E hr h => ?_)
  have nd := sc_brightest1.nd
  obtain ⟨v0, v1, rfl, h⟩ := h
  refine ⟨_, (pss_cons (ps_set (i := 2) nd rfl (Or.inl rfl) (pe_fn c_told_lights hr (by rfl) (pa_cons (pv 0) (pa_cons (pv 1) pa_nil))))
      (pss_cons (ps_set (i := 3) nd rfl (Or.inl rfl) (pe_fnS c_granted_caps hr (by rfl) (takes_of rfl rfl rfl rfl) (pa_cons (pv 0) (pa_cons (pv 2) pa_nil))))
      (pss_cons (ps_set (i := 4) nd rfl (Or.inl rfl) (pe_callTy call_dictD (by rfl) T.dict bt_dict (pa_cons (pe_pr T.clWorld c_World_lights hr (pv 0) rfl) pa_nil)))
      (pss_cons (ps_for (passes_of rfl) rfl (kp_list K (pe_pr T.clWorld c_World_borne hr (pv 0) rfl)) (pg_name (i := 5) nd rfl (Or.inl rfl))
      (pss_one (ps_for (passes_of rfl) rfl (kp_list K (pe_fn c_hangers hr (by rfl) (pa_cons (pv 0) (pa_cons (pv 3) (pa_cons (pv 5) pa_nil))))) (pg_name (i := 6) nd rfl (Or.inl rfl))
      (pss_one (ps_dput (hu_of hr) (pv 4) (pv 6) (pv 5) rfl)))))
      (pss_one (ps_ret (pe_mk T.clWorld c_World_init hr (by rfl) (pa_cons (pe_pr T.clWorld c_World_web hr (pv 0) rfl) (pa_cons (pv 4) pa_nil))))))))), ?_⟩
  obtain ⟨B, n, S, ps, A', hB, hW, hA, okA, q1, q2⟩ := h
  obtain ⟨okS, a, dx, u1, u2, u3, u4, rfl, ha, r1, r2, r3⟩ := id hW
  have okw : n.Ok := r1.1
  refine ⟨_, rfl, _, rfl, _, _, _, rfl, B, n, S, ps, A', hB, hW, hA, rfl, okA, fun ys perm srt B1 H1 tv g1 ht => ?_⟩
  have ok' := okA.perm perm
  have hW1 := Rp.mono _ g1.up hW
  refine ⟨_, rfl, _, rfl, _, _, rfl, B1, n, S, ys, A', g1.sub, hW1, ht, ok', fun ef B2 H2 cv g2 hc => ?_, fun p r ef B' H' d fs v g hd hl hv => q2 ys p r perm srt ef B' H' d fs v (g1.trans g) hd hl hv⟩
  have hCn := capsOf_num okw ok' okS
  have G2 := g1.trans g2
  have hW2 := Rp.mono _ g2.up hW1
  refine ⟨_, rfl, a, dx, _, rfl, g2.sub.ins (G2.up.ins ha), ⟨_, rfl, B2, n, S, g2.sub, hW2, fun B3 H3 lv g3 hl => ?_⟩⟩
  obtain ⟨d, kvs, rfl, hd, hk⟩ := id hl
  refine ⟨d, kvs, rfl, g3.sub.rd hd, fun p hp => ?_⟩
  have G3 := G2.trans g3
  have g4 : Gr [] B3 H3 B3 (upd H3 p (.dK kvs)) := Gr.new_ g3.sub hp
  have hW3 := Rp.mono _ G3.up hW
  have bp3 := g3.sub.none hp
  refine ⟨_, rfl, a, dx, _, rfl, g4.sub.ins (G3.up.ins ha), ⟨_, rfl, B3, n, S, g4.sub, hW3, fun vs vsrt vmem B5 H5 vv g5 hv => ?_⟩⟩
  obtain ⟨vl, vvs, rfl, hvl, hvs⟩ := id hv
  have p5 : H5 p = some (.dK kvs) := g5.keep p _ (fun z => nomatch z) bp3 upd_same
  have b5 : B5 p = none := g5.new p bp3 (by rw [upd_same]; exact fun z => nomatch z)
  have hk5 := DAll.mono g5.up hk
  have hc5 := Rp.mono _ (g3.up.trans g5.up) hc
  have hW5 := Rp.mono _ g5.up hW3
  have G5 := G3.trans (g4.trans g5)
  have hp0 : H p = none := G3.was hp
  refine ⟨vl, rfl, ⟨_, SqL.of (g5.sub.lst hvl)⟩, for_go (Rs := rInt) (fun i σ1 B6 H6 => (∃ z5 z6, σ1 = [some (.ref a), some v1, some tv, some cv, some (.ref p), z5, z6]) ∧ Gr [p] B5 H5 B6 H6 ∧ B6 p = none ∧ ∃ kvs, H6 p = some (.dK kvs) ∧ DAll rInt B6 (glow n.names (bestL n S (capsOf n S ys A') (vs.take i))) kvs)
    (src_list hvl) hvs ⟨⟨_, _, rfl⟩, Gr.refl g5.sub, b5, kvs, p5, hk5⟩ (fun i σ1 B1 H1 h => ⟨h.2.1.up, h.2.1.sub⟩) (fun i v vx σ1 B6 H6 hy hx h => ?_) (fun σ1 B6 H6 h => ?_)⟩
  · obtain ⟨⟨z5, z6, rfl⟩, g6, b6, kvs6, h6, a6⟩ := h
    obtain rfl : vx = .int v := hx
    have hvN : isN v = true := by
      obtain ⟨x, hx, rfl⟩ := (vmem v).mp (List.mem_of_getElem? hy)
      exact okS x hx
    refine ⟨_, rfl, _, rfl, _, rfl, _, _, _, rfl, B6, n, S, _, v, g6.sub, Rp.mono _ g6.up hW5, Rp.mono _ g6.up hc5, rfl, hCn, hvN, fun hs hperm B7 H7 hgv g7 hh => ?_⟩
    obtain ⟨hl7, hls, rfl, hhl, hhs⟩ := id hh
    have p7 : H7 p = some (.dK kvs6) := g7.keep p _ (fun z => nomatch z) b6 h6
    have b7 : B7 p = none := g7.new p b6 (by rw [h6]; exact fun z => nomatch z)
    have a7 := DAll.mono g7.up a6
    refine ⟨hl7, rfl, ⟨_, SqL.of (g7.sub.lst hhl)⟩, for_go (Rs := rStr) (fun j σ2 B8 H8 => (∃ z6, σ2 = [some (.ref a), some v1, some tv, some cv, some (.ref p), some (.int v), z6]) ∧ Gr [p] B7 H7 B8 H8 ∧ B8 p = none ∧ ∃ kvs, H8 p = some (.dK kvs) ∧ DAll rInt B8 (glow n.names (fun x => if x ∈ hs.take j then v else bestL n S (capsOf n S ys A') (vs.take i) x)) kvs)
      (src_list hhl) hhs ⟨⟨_, rfl⟩, Gr.refl g7.sub, b7, kvs6, p7, by simpa using a7⟩ (fun i σ1 B1 H1 h => ⟨h.2.1.up, h.2.1.sub⟩) (fun j y x σ2 B8 H8 hy2 hx2 h => ?_) (fun σ2 B8 H8 h => ?_)⟩
    · obtain ⟨⟨z6, rfl⟩, g8, b8, kvs8, h8, a8⟩ := h
      obtain rfl : x = .str y := hx2
      have yn : y ∈ n.names := by
        have : y ∈ hung n S (capsOf n S ys A') v := hperm.mem_iff.mp (List.mem_of_getElem? hy2)
        unfold hung at this
        obtain ⟨g, hg, hyg⟩ := List.mem_flatten.mp this
        exact group_mem (List.mem_filter.mp hg).1 hyg
      refine ⟨_, rfl, _, rfl, _, rfl, p, _, rfl, DPut.k (k := Sum.inr y) h8 (own_lt a8 okw.lt), B8, ⟨_, rfl⟩, g8.mut (.inr (by simp)) b8, b8, _, upd_same, ?_⟩
      refine DAll.set (S := fun x => if x ∈ hs.take j then v else bestL n S (capsOf n S ys A') (vs.take i) x) (S' := fun x => if x ∈ hs.take (j + 1) then v else bestL n S (capsOf n S ys A') (vs.take i) x) ?_ (fun z hz => ?_) okw.nd yn a8
      · show V.int v = V.int _
        rw [if_pos (by rw [take_snoc hy2]; simp)]
      · have : (z ∈ hs.take (j + 1)) = (z ∈ hs.take j) := by rw [take_snoc hy2]; simp [hz]
        simp only [this]
    · obtain ⟨⟨z6, rfl⟩, g8, b8, kvs8, h8, a8⟩ := h
      rw [List.take_length] at a8
      refine ⟨B8, ⟨_, _, rfl⟩, g6.trans (g7.any.trans g8), b8, kvs8, h8, ?_⟩
      have e : bestL n S (capsOf n S ys A') (vs.take (i + 1)) = fun x => if x ∈ hs then v else bestL n S (capsOf n S ys A') (vs.take i) x := by
        unfold bestL
        rw [take_snoc hy, List.foldl_append]
        funext x
        show (if x ∈ hung n S (capsOf n S ys A') v then v else _) = _
        have : (x ∈ hung n S (capsOf n S ys A') v) = (x ∈ hs) := by rw [hperm.mem_iff]
        simp only [this]
      rw [e]
      exact a8
  · obtain ⟨⟨z5, z6, rfl⟩, g6, b6, kvs6, h6, a6⟩ := h
    rw [List.take_length] at a6
    have GA : Gr [] B H B6 H6 := G5.fresh hp0 g6
    have gP := GA.pub hp0 b6 h6
    have hW6 := Rp.mono _ gP.up hW
    refine ⟨_, rfl, a, dx, _, rfl, GA.sub.ins (GA.up.ins ha), ⟨_, rfl, _, n, S, gP.sub, hW6, fun wv hw => ?_⟩⟩
    refine ⟨_, rfl, mkWorld_go gP.sub hw ⟨p, kvs6, rfl, .inl upd_same, DAll.mono (ExW.new b6) a6⟩ (List.Perm.refl _) (fun x hx => ?_) ((q1 ys vs perm srt vsrt vmem ef).go gP)⟩
    exact bestL_num okS vmem x hx
end
end OB

/-! ## PE -/
set_option maxHeartbeats 4000000
namespace OB
open PySem PySem.Spec PyProof.Rows L2
/-! ### names -/
def letters : Str := "abcdefghijklmnopqrstuvwxyz"
def signs : Str := "abcdefghijklmnopqrstuvwxyz0123456789"
structure OkName (t : Str) : Prop where
  lo : 1 ≤ t.cps.size
  hi : t.cps.size ≤ 8
  hd : ∃ c, t.cps[0]? = some c ∧ c ∈ letters.cps.toList
  tl : ∀ c ∈ t.cps.toList, c ∈ signs.cps.toList
theorem src_str {B : Hp} {z : Str} : Src (Its z) B (z.cps.toList.map fun c => V.str ⟨#[c]⟩) := fun B1 H e1 e2 i => by
  refine ⟨fun hi => (show i < z.cps.size by simpa using hi), fun x H' y => ⟨y.1, fun hi => ?_⟩, fun hi => (show z.cps.size ≤ i by simpa using hi)⟩
  obtain ⟨c, h1, rfl⟩ := y.2
  rw [List.getElem?_map, Array.getElem?_toList, h1] <;> rfl
def rSign : Rp Nat := ⟨fun _ c v => v = .str ⟨#[c]⟩, fun _ h => h⟩
theorem signs2 {B : Hp} : ∀ xs : List Nat, All2 (rSign.rel B) xs (xs.map fun c => V.str ⟨#[c]⟩)
  | [] => .nil
  | _ :: r => .cons rfl (signs2 r)
section
variable {P : Program} {w : World} {K : PySem.W.Frag} {mg : Str → Option Value} {base : Heap}
def spIsName : Sp := sp1 fun a H Q => ∃ t, a = .str t ∧ OkName t ∧ Q (.bl true) H
/-! ### is_name -/
abbrev F_is_name (P : Program) (w : World) (K : PySem.W.Frag) (mg : Str → Option Value) (base : Heap) : Prop := Fn P w K mg base CX0 1 "is_name" ["text"] [] spIsName
abbrev N_is_name : List Str := ["text", "sign"]
theorem sc_is_name : FnScope N_is_name ["text"] (defScope (top 58)) := ⟨rfl, rfl, rfl, by decide +kernel, rfl, by decide +kernel, by decide +kernel⟩
theorem ok_is_name (T : TX K mg) (D : DefAt K mg "is_name" (top 58) [])   : F_is_name P w K mg base := by
  refine fn_ok D sc_is_name (by decide +kernel) (fun _ _ _ _ _ _ us hl => match us, hl with | [_], _ => rfl) (fun vs H Q E h => len1 h) (fun f cdv A outer s H vs Q E hr h => ?_)
  have nd := sc_is_name.nd
  obtain ⟨v0, rfl, h⟩ := h
  refine ⟨_, (pss_cons (ps_if (PW.pt (pw_or (pt_cmpR op_lt (pe_callB call_len_str (by rfl) T.len bt_len (pa_cons (pv 0) pa_nil)) pe_int (nomark _)) (pw_or (pt_cmpR op_gt (pe_callB call_len_str (by rfl) T.len bt_len (pa_cons (pv 0) pa_nil)) (pe_gi (by rfl) T.LONGEST_NAME) (nomark _)) (pw_or1 (pt_cmpR op_notIn_sign (pe_ix ix_str (pv 0) pe_int (fun _ _ => rfl)) (pe_gs (by rfl) T.LETTERS) (by rfl)))))) (pss_one (ps_ret pe_bl)) pss_nil)
      (pss_cons (ps_for PassesOwn.never rfl (pi_str (pv 0)) (pg_name (i := 1) nd rfl (Or.inl rfl))
      (pss_one (ps_if (pt_cmpR op_notIn_sign (pv 1) (pe_gs (by rfl) T.SIGNS) (by rfl)) (pss_one (ps_ret pe_bl)) pss_nil)))
      (pss_one (ps_ret pe_bl)))), ?_⟩
  obtain ⟨t, rfl, ok, q⟩ := h
  have hz : t.length ≤ sizeLine := Nat.le_trans ok.hi (by decide)
  have hl : t.length = t.cps.size := rfl
  obtain ⟨c, hc, hm⟩ := ok.hd
  refine ⟨_, rfl, t, rfl, hz, _, _, rfl, rfl, _, rfl, ?_⟩
  refine iteF' (decide_eq_false (by rw [hl]; have := ok.lo; omega)) ?_
  refine ⟨_, rfl, t, rfl, hz, _, _, rfl, rfl, _, rfl, ?_⟩
  refine iteF' (decide_eq_false (by rw [hl]; have := ok.hi; omega)) ?_
  refine ⟨_, rfl, t, 0, c, rfl, rfl, hz, atI_nat (j := 0) (by rw [Array.getElem?_toList]; exact hc), c, letters, rfl, rfl, _, rfl, ?_⟩
  refine iteF' (by rw [decide_eq_true hm]; rfl) ?_
  refine ⟨_, rfl, t, rfl, for_chk (Rs := rSign) (j := 1) rfl src_str (ExW.refl H) (signs2 _) (fun y v N hy hv hN => ?_) (fun z => q)⟩
  obtain rfl : v = .str ⟨#[y]⟩ := hv
  exact ⟨_, rfl, y, signs, rfl, rfl, _, rfl, iteF' (by rw [decide_eq_true (ok.tl y hy)]; rfl) hN⟩
def spCheckName : Sp := sp1 fun a H Q => ∃ t, a = .str t ∧ OkName t ∧ Q (.str t) H
/-! ### check_name -/
abbrev F_check_name (P : Program) (w : World) (K : PySem.W.Frag) (mg : Str → Option Value) (base : Heap) : Prop := Fn P w K mg base CX0 2 "check_name" ["text"] [] spCheckName
abbrev N_check_name : List Str := ["text"]
theorem sc_check_name : FnScope N_check_name ["text"] (defScope (top 59)) := ⟨rfl, rfl, rfl, by decide +kernel, rfl, by decide +kernel, by decide +kernel⟩
theorem ok_check_name (T : TX K mg) (D : DefAt K mg "check_name" (top 59) []) (c_is_name : F_is_name P w K mg base)  : F_check_name P w K mg base := by
  refine fn_ok D sc_check_name (by decide +kernel) (fun _ _ _ _ _ _ us hl => match us, hl with | [_], _ => rfl) (fun vs H Q E h => len1 h) (fun f cdv A outer s H vs Q E hr h => ?_)
  have nd := sc_check_name.nd
  obtain ⟨v0, rfl, h⟩ := h
  refine ⟨_, (pss_cons (ps_if (pt_not (pt_val (pe_fn c_is_name hr (by rfl) (pa_cons (pv 0) pa_nil)))) (pss_one ps_never) pss_nil)
      (pss_one (ps_ret (pv 0)))), ?_⟩
  obtain ⟨t, rfl, ok, q⟩ := h
  exact ⟨_, rfl, _, rfl, t, rfl, ok, _, rfl, iteF ⟨_, rfl, q⟩⟩
/-- the answer does not matter -/
def Any (B H : Hp) (Q : VK) : Prop := ∀ B' H' v, Gr [] B H B' H' → Q v H'
def spOrdered : Sp := sp1 fun a H Q => ∃ B xs, ExW B H ∧ (rL rStr).rel B xs a ∧ (∀ x ∈ xs, OkName x) ∧ xs.Nodup ∧ xs.length < 64 ∧ Any B H Q
/-! ### ordered -/
abbrev F_ordered (P : Program) (w : World) (K : PySem.W.Frag) (mg : Str → Option Value) (base : Heap) : Prop := Fn P w K mg base CX0 3 "ordered" ["names"] [] spOrdered
abbrev N_ordered : List Str := ["names", "text", "seen"]
theorem sc_ordered : FnScope N_ordered ["names"] (defScope (top 60)) := ⟨rfl, rfl, rfl, by decide +kernel, rfl, by decide +kernel, by decide +kernel⟩
theorem ok_ordered (T : TX K mg) (D : DefAt K mg "ordered" (top 60) []) (c_check_name : F_check_name P w K mg base)  : F_ordered P w K mg base := by
  refine fn_ok D sc_ordered (by decide +kernel) (fun _ _ _ _ _ _ us hl => match us, hl with | [_], _ => rfl) (fun vs H Q E h => len1 h) (fun f cdv A outer s H vs Q E hr h => ?_)
  have nd := sc_ordered.nd
  obtain ⟨v0, rfl, h⟩ := h
  refine ⟨_, (pss_cons (ps_for PassesOwn.never rfl (kp_list K (pv 0)) (pg_name (i := 1) nd rfl (Or.inl rfl))
      (pss_one (ps_expr (pe_fn c_check_name hr (by rfl) (pa_cons (pv 1) pa_nil)))))
      (pss_cons (ps_set (i := 2) nd rfl (Or.inl rfl) pe_dnewK)
      (pss_cons (ps_for PassesOwn.never rfl (kp_list K (pv 0)) (pg_name (i := 1) nd rfl (Or.inl rfl))
      (pss_cons (ps_if (pt_cmp (pc_din (hu_of hr) (pv 1) (pv 2))) (pss_one ps_never) pss_nil)
      (pss_one (ps_dput (hu_of hr) (pv 2) (pv 1) pe_bl rfl))))
      (pss_one (ps_ret (pe_callB (k_sortedS K) (by rfl) T.sorted bt_sorted (pa_cons (pv 0) pa_nil))))))), ?_⟩
  obtain ⟨B, xs, hB, hx, ok, ndx, l64, q⟩ := h
  obtain ⟨l, vs, rfl, hl, hvs⟩ := id hx
  refine ⟨_, rfl, l, rfl, ⟨_, SqL.of (hB.lst hl)⟩, for_chk (Rs := rStr) (j := 1) rfl (src_list hl) hB hvs (fun y v N hy hv hN => ?_) (fun z => ?_)⟩
  · obtain rfl : v = .str y := hv
    exact ⟨_, rfl, _, rfl, y, rfl, ok y hy, hN⟩
  intro p hp
  have gp : Gr [] B H B (upd H p (.dK [])) := Gr.new_ hB hp
  have bp := hB.none hp
  refine ⟨_, rfl, l, rfl, ⟨_, SqL.of (gp.sub.lst hl)⟩, for_go (Rs := rStr) (fun i σ1 B1 H1 => (∃ z1, σ1 = [some (.ref l), z1, some (.ref p)]) ∧ Gr [p] B (upd H p (.dK [])) B1 H1 ∧ B1 p = none ∧ ∃ kvs, H1 p = some (.dK kvs) ∧ DAll rBool B1 ((xs.take i).map fun x => (x, true)) kvs)
    (src_list hl) hvs ⟨⟨_, rfl⟩, Gr.refl gp.sub, bp, [], upd_same, .nil⟩ (fun i σ1 B1 H1 h => ⟨h.2.1.up, h.2.1.sub⟩) (fun i y x σ1 B1 H1 hy hx h => ?_) (fun σ1 B1 H1 h => ?_)⟩
  · obtain ⟨⟨z1, rfl⟩, g1, b1, kvs, h1, a1⟩ := h
    obtain rfl : x = .str y := hx
    have ny : ¬ y ∈ ((xs.take i).map fun x => (x, true)).map (·.1) := by
      rw [List.map_map]
      show ¬ y ∈ (xs.take i).map id
      rw [List.map_id]
      exact nd_take ndx hy
    have nk : valV kvs (Sum.inr y) = none := (DAll.look y a1).2 (by
      rw [List.lookup_eq_none_iff]
      intro q hq
      have : y ≠ q.1 := fun z => ny (by rw [z]; exact List.mem_map.mpr ⟨q, hq, rfl⟩)
      simpa using this)
    have lk : kvs.length < sizeLine := by
      have e := a1.len
      rw [List.length_map, List.length_take] at e
      exact Nat.lt_trans (m := 64) (by omega) (by decide)
    refine ⟨_, rfl, _, rfl, p, none, rfl, .inl ⟨kvs, Sum.inr y, .inl h1, rfl, nk.symm⟩, _, rfl, iteF ⟨_, rfl, _, rfl, p, _, rfl, DPut.k (k := Sum.inr y) h1 lk, B1, ⟨_, rfl⟩, g1.mut (.inr (by simp)) b1, b1, _, upd_same, ?_⟩⟩
    rw [take_snoc hy, List.map_append]
    exact a1.new ny rfl
  · obtain ⟨⟨z1, rfl⟩, g1, b1, kvs, h1, a1⟩ := h
    have G : Gr [] B H B1 H1 := gp.fresh hp g1
    rw [strs_eq hvs] at hl
    refine ⟨_, rfl, l, xs, rfl, SqL.of (G.sub.lst (G.up.lst hl)), l64, fun ys t perm srt ht => q _ _ _ (G.trans (Gr.new_ G.sub ht))⟩
def spCheckOpen : Sp := sp1 fun a H Q => ∃ o, a = vo o ∧ isE o = true ∧ Q .non H
/-! ### check_open -/
abbrev F_check_open (P : Program) (w : World) (K : PySem.W.Frag) (mg : Str → Option Value) (base : Heap) : Prop := Fn P w K mg base CX0 3 "check_open" ["value"] [] spCheckOpen
abbrev N_check_open : List Str := ["value"]
theorem sc_check_open : FnScope N_check_open ["value"] (defScope (top 64)) := ⟨rfl, rfl, rfl, by decide +kernel, rfl, by decide +kernel, by decide +kernel⟩
theorem ok_check_open (T : TX K mg) (D : DefAt K mg "check_open" (top 64) []) (c_check_number : F_check_number P w K mg base)  : F_check_open P w K mg base := by
  refine fn_ok D sc_check_open (by decide +kernel) (fun _ _ _ _ _ _ us hl => match us, hl with | [_], _ => rfl) (fun vs H Q E h => len1 h) (fun f cdv A outer s H vs Q E hr h => ?_)
  have nd := sc_check_open.nd
  obtain ⟨v0, rfl, h⟩ := h
  refine ⟨_, (pss_one (ps_if (pt_cmpR op_notN (pv 0) pe_non (nomark _)) (pss_one (ps_expr (pe_fn c_check_number hr (by rfl) (pa_cons (pv 0) pa_nil)))) pss_nil)), ?_⟩
  obtain ⟨o, rfl, ho, q⟩ := h
  cases o with
  | none => exact ⟨_, rfl, rfl, _, rfl, iteF q⟩
  | some i => exact ⟨_, rfl, rfl, _, rfl, ite_tt ⟨_, rfl, _, rfl, i, rfl, ho, q⟩⟩
def spCheckCount : Sp := sp3 fun a b c H Q => ∃ (i l h : Int), a = .int i ∧ b = .int l ∧ c = .int h ∧ l ≤ i ∧ i ≤ h ∧ Q .non H
/-! ### check_count -/
abbrev F_check_count (P : Program) (w : World) (K : PySem.W.Frag) (mg : Str → Option Value) (base : Heap) : Prop := Fn P w K mg base CX0 1 "check_count" ["count", "low", "high"] [] spCheckCount
abbrev N_check_count : List Str := ["count", "low", "high"]
theorem sc_check_count : FnScope N_check_count ["count", "low", "high"] (defScope (top 65)) := ⟨rfl, rfl, rfl, by decide +kernel, rfl, by decide +kernel, by decide +kernel⟩
theorem ok_check_count (T : TX K mg) (D : DefAt K mg "check_count" (top 65) [])   : F_check_count P w K mg base := by
  refine fn_ok D sc_check_count (by decide +kernel) (fun _ _ _ _ _ _ us hl => match us, hl with | [_, _, _], _ => rfl) (fun vs H Q E h => len3 h) (fun f cdv A outer s H vs Q E hr h => ?_)
  have nd := sc_check_count.nd
  obtain ⟨v0, v1, v2, rfl, h⟩ := h
  refine ⟨_, (pss_one (ps_if (PW.pt (pw_or (pt_cmpR op_lt (pv 0) (pv 1) (nomark _)) (pw_or1 (pt_cmpR op_gt (pv 0) (pv 2) (nomark _))))) (pss_one ps_never) pss_nil)), ?_⟩
  obtain ⟨i, l, u, rfl, rfl, rfl, h1, h2, q⟩ := h
  exact ⟨_, rfl, _, rfl, _, _, rfl, rfl, _, rfl, iteF' (decide_eq_false (by omega)) ⟨_, rfl, _, rfl, _, _, rfl, rfl, _, rfl, iteF' (decide_eq_false (by omega)) q⟩⟩
/-- what a web may be made of -/
structure RowsOk (ls : List (Str × Option Int)) (bs : List Bond) : Prop where
  nm : ∀ r ∈ ls, OkName r.1
  bnm : ∀ r ∈ bs, OkName r.nm
  nd : (ls.map (·.1)).Nodup
  bnd : (bs.map (·.nm)).Nodup
  num : ∀ r ∈ ls, isE r.2 = true
  bnum : ∀ r ∈ bs, isE r.lo = true ∧ isE r.hi = true ∧ okE r.lo r.hi = true
  ends : ∀ r ∈ bs, r.a ∈ ls.map (·.1) ∧ r.b ∈ ls.map (·.1) ∧ r.a ≠ r.b
  len : 1 ≤ ls.length ∧ ls.length ≤ 10
  blen : bs.length ≤ 16
def spCheckEnds : Sp := sp2 fun a b H Q => ∃ B ls bs, ExW B H ∧ (rL rLRow).rel B ls a ∧ (rL rBRow).rel B bs b ∧ RowsOk ls bs ∧ Any B H Q
/-! ### check_ends -/
abbrev F_check_ends (P : Program) (w : World) (K : PySem.W.Frag) (mg : Str → Option Value) (base : Heap) : Prop := Fn P w K mg base CX0 2 "check_ends" ["lamps", "bonds"] [] spCheckEnds
abbrev N_check_ends : List Str := ["lamps", "bonds", "known", "row"]
theorem sc_check_ends : FnScope N_check_ends ["lamps", "bonds"] (defScope (top 67)) := ⟨rfl, rfl, rfl, by decide +kernel, rfl, by decide +kernel, by decide +kernel⟩
theorem ok_check_ends (T : TX K mg) (D : DefAt K mg "check_ends" (top 67) []) (c_check_known : F_check_known P w K mg base)  : F_check_ends P w K mg base := by
  refine fn_ok D sc_check_ends (by decide +kernel) (fun _ _ _ _ _ _ us hl => match us, hl with | [_, _], _ => rfl) (fun vs H Q E h => len2 h) (fun f cdv A outer s H vs Q E hr h => ?_)
  have nd := sc_check_ends.nd
  obtain ⟨v0, v1, rfl, h⟩ := h
  refine ⟨_, (pss_cons (ps_setDc (i := 2) (own := [("row", 3)]) rfl nd rfl rfl (sw_trueD rfl rfl rfl (by decide +kernel)) (kp_list K (pv 0)) (blkOk_by (own := [("row", 3)]) (N := N_check_ends) (sc := defScope (top 67)) (by decide +kernel)) (fun _ _ _ _ _ => (pg_name (i := 3) nd rfl (Or.inl rfl))) (fun _ _ _ _ _ => pts_nil) (fun _ _ _ _ _ => (pe_ix (kx_tup K) (pv 3) pe_int (fun _ _ => rfl))) (fun _ _ _ _ _ => pe_bl))
      (pss_cons (ps_for PassesOwn.never rfl (kp_list K (pv 1)) (pg_name (i := 3) nd rfl (Or.inl rfl))
      (pss_one (ps_if (pt_cmpR op_eq (pe_ix (kx_tup K) (pv 3) pe_int (fun _ _ => rfl)) (pe_ix (kx_tup K) (pv 3) pe_int (fun _ _ => rfl)) (nomark _)) (pss_one ps_never) pss_nil)))
      (pss_one (ps_for PassesOwn.never rfl (kp_list K (pv 1)) (pg_name (i := 3) nd rfl (Or.inl rfl))
      (pss_cons (ps_expr (pe_fn c_check_known hr (by rfl) (pa_cons (pe_ix (kx_tup K) (pv 3) pe_int (fun _ _ => rfl)) (pa_cons (pv 2) pa_nil))))
      (pss_one (ps_expr (pe_fn c_check_known hr (by rfl) (pa_cons (pe_ix (kx_tup K) (pv 3) pe_int (fun _ _ => rfl)) (pa_cons (pv 2) pa_nil)))))))))), ?_⟩
  obtain ⟨B, ls, bs, hB, hl, hb, ok, q⟩ := h
  obtain ⟨la, lvs, rfl, hla, hls⟩ := id hl
  obtain ⟨ba, bvs, rfl, hba, hbs⟩ := id hb
  refine ⟨_, rfl, la, rfl, ⟨_, SqL.of (hB.lst hla)⟩, fun p hp => dc_map (Rs := rLRow) (R := rBool) (fun r => r.1) (fun _ => true) (src_list hla) hB hp hls (by rw [← hls.len]; have := ok.len; omega) ok.nd (fun y v B4 H4 K1 hy hv g4 k => ?_) (fun B2 H2 g2 h2 => ?_)⟩
  · obtain ⟨ra, rfl, hra⟩ := id hv
    exact ⟨_, rfl, ra, _, _, _, rfl, rfl, SqT.of (g4.sub.tup hra), atI_nat (j := 0) rfl, k _ _ _ (Gr.refl g4.sub) rfl⟩
  obtain ⟨kvs, hp0, bp2, hp2, hk2⟩ := h2.at_
  have gP := g2.pub hp0 bp2 hp2
  have hd : (rD rBool).rel (upd B2 p (.dK kvs)) (ls.map fun r => (r.1, true)) (.ref p) := ⟨p, kvs, rfl, .inl upd_same, DAll.mono (ExW.new bp2) hk2⟩
  have hbs1 := All2.mono gP.up hbs
  have hba1 := gP.up.lst hba
  refine ⟨_, rfl, ba, rfl, ⟨_, SqL.of (gP.sub.lst hba1)⟩, for_chk (Rs := rBRow) (j := 3) rfl (src_list hba1) gP.sub hbs1 (fun y v N hy hv hN => ?_) (fun z => ?_)⟩
  · obtain ⟨ra, rfl, hra⟩ := id hv
    have sx := SqT.of (K := K) (gP.sub.tup hra)
    refine ⟨_, rfl, ra, _, _, _, rfl, rfl, sx, atI_nat (j := 1) rfl, _, rfl, ra, _, _, _, rfl, rfl, sx, atI_nat (j := 2) rfl, rfl, _, rfl, ?_⟩
    rw [dec_strD, decide_eq_false (ok.ends y hy).2.2]
    exact iteF hN
  refine ⟨_, rfl, ba, rfl, ⟨_, SqL.of (gP.sub.lst hba1)⟩, for_chk (Rs := rBRow) (j := 3) rfl (src_list hba1) gP.sub hbs1 (fun y v N hy hv hN => ?_) (fun z => q _ _ _ gP)⟩
  obtain ⟨ra, rfl, hra⟩ := id hv
  have sx := SqT.of (K := K) (gP.sub.tup hra)
  obtain ⟨e1, e2, _⟩ := ok.ends y hy
  obtain ⟨d1, o1, e, hd1, ho1⟩ := dinB (k := y.a) hd gP.sub
  cases e
  obtain ⟨d1, o2, e, hd2, ho2⟩ := dinB (k := y.b) hd gP.sub
  cases e
  rw [look_some, List.map_map] at ho1 ho2
  refine ⟨_, rfl, ra, _, _, _, rfl, rfl, sx, atI_nat (j := 1) rfl, _, rfl, _, _, rfl, y.a, p, o1, rfl, rfl, hd1, ?_, ?_⟩
  · rw [ho1]; exact decide_eq_true e1
  refine ⟨_, rfl, ra, _, _, _, rfl, rfl, sx, atI_nat (j := 2) rfl, _, rfl, _, _, rfl, y.b, p, o2, rfl, rfl, hd2, ?_, hN⟩
  rw [ho2]; exact decide_eq_true e2
def spCheckRows : Sp := sp2 fun a b H Q => ∃ B ls bs, ExW B H ∧ (rL rLRow).rel B ls a ∧ (rL rBRow).rel B bs b ∧ RowsOk ls bs ∧ Any B H Q
/-! ### check_rows -/
abbrev F_check_rows (P : Program) (w : World) (K : PySem.W.Frag) (mg : Str → Option Value) (base : Heap) : Prop := Fn P w K mg base CX0 6 "check_rows" ["lamps", "bonds"] [] spCheckRows
abbrev N_check_rows : List Str := ["lamps", "bonds", "row"]
theorem sc_check_rows : FnScope N_check_rows ["lamps", "bonds"] (defScope (top 68)) := ⟨rfl, rfl, rfl, by decide +kernel, rfl, by decide +kernel, by decide +kernel⟩
theorem ok_check_rows (T : TX K mg) (D : DefAt K mg "check_rows" (top 68) []) (c_check_name : F_check_name P w K mg base) (c_check_open : F_check_open P w K mg base) (c_Span_init : F_Span_init P w K mg base) (c_ordered : F_ordered P w K mg base) (c_check_ends : F_check_ends P w K mg base) (c_check_count : F_check_count P w K mg base)  : F_check_rows P w K mg base := by
  refine fn_ok D sc_check_rows (by decide +kernel) (fun _ _ _ _ _ _ us hl => match us, hl with | [_, _], _ => rfl) (fun vs H Q E h => len2 h) (fun f cdv A outer s H vs Q E hr h => ?_)
  have nd := sc_check_rows.nd
  obtain ⟨v0, v1, rfl, h⟩ := h
  refine ⟨_, (pss_cons (ps_for PassesOwn.never rfl (kp_list K (pv 0)) (pg_name (i := 2) nd rfl (Or.inl rfl))
      (pss_one (ps_expr (pe_fn c_check_name hr (by rfl) (pa_cons (pe_ix (kx_tup K) (pv 2) pe_int (fun _ _ => rfl)) pa_nil)))))
      (pss_cons (ps_for PassesOwn.never rfl (kp_list K (pv 1)) (pg_name (i := 2) nd rfl (Or.inl rfl))
      (pss_one (ps_expr (pe_fn c_check_name hr (by rfl) (pa_cons (pe_ix (kx_tup K) (pv 2) pe_int (fun _ _ => rfl)) pa_nil)))))
      (pss_cons (ps_for PassesOwn.never rfl (kp_list K (pv 0)) (pg_name (i := 2) nd rfl (Or.inl rfl))
      (pss_one (ps_expr (pe_fn c_check_open hr (by rfl) (pa_cons (pe_ix (kx_tup K) (pv 2) pe_int (fun _ _ => rfl)) pa_nil)))))
      (pss_cons (ps_for PassesOwn.never rfl (kp_list K (pv 1)) (pg_name (i := 2) nd rfl (Or.inl rfl))
      (pss_cons (ps_expr (pe_fn c_check_open hr (by rfl) (pa_cons (pe_ix (kx_tup K) (pv 2) pe_int (fun _ _ => rfl)) pa_nil)))
      (pss_one (ps_expr (pe_fn c_check_open hr (by rfl) (pa_cons (pe_ix (kx_tup K) (pv 2) pe_int (fun _ _ => rfl)) pa_nil))))))
      (pss_cons (ps_for PassesOwn.never rfl (kp_list K (pv 1)) (pg_name (i := 2) nd rfl (Or.inl rfl))
      (pss_one (ps_expr (pe_mk T.clSpan c_Span_init hr (by rfl) (pa_cons (pe_ix (kx_tup K) (pv 2) pe_int (fun _ _ => rfl)) (pa_cons (pe_ix (kx_tup K) (pv 2) pe_int (fun _ _ => rfl)) pa_nil))))))
      (pss_cons (ps_expr (pe_fn c_ordered hr (by rfl) (pa_cons (pe_lc (own := [("row", 2)]) rfl nd (kp_list K (pv 0)) (blkOk_by (own := [("row", 2)]) (N := N_check_rows) (sc := defScope (top 68)) (by decide +kernel)) (fun _ _ _ _ _ => (pg_name (i := 2) nd rfl (Or.inl rfl))) (fun _ _ _ _ _ => pts_nil) (fun _ _ _ _ _ => (pe_ix (kx_tup K) (pv 2) pe_int (fun _ _ => rfl)))) pa_nil)))
      (pss_cons (ps_expr (pe_fn c_ordered hr (by rfl) (pa_cons (pe_lc (own := [("row", 2)]) rfl nd (kp_list K (pv 1)) (blkOk_by (own := [("row", 2)]) (N := N_check_rows) (sc := defScope (top 68)) (by decide +kernel)) (fun _ _ _ _ _ => (pg_name (i := 2) nd rfl (Or.inl rfl))) (fun _ _ _ _ _ => pts_nil) (fun _ _ _ _ _ => (pe_ix (kx_tup K) (pv 2) pe_int (fun _ _ => rfl)))) pa_nil)))
      (pss_cons (ps_expr (pe_fn c_check_ends hr (by rfl) (pa_cons (pv 0) (pa_cons (pv 1) pa_nil))))
      (pss_cons (ps_expr (pe_fn c_check_count hr (by rfl) (pa_cons (pe_callB (k_len K) (by rfl) T.len bt_len (pa_cons (pv 0) pa_nil)) (pa_cons pe_int (pa_cons (pe_gi (by rfl) T.MOST_LAMPS) pa_nil)))))
      (pss_one (ps_expr (pe_fn c_check_count hr (by rfl) (pa_cons (pe_callB (k_len K) (by rfl) T.len bt_len (pa_cons (pv 1) pa_nil)) (pa_cons pe_int (pa_cons (pe_gi (by rfl) T.MOST_BONDS) pa_nil))))))))))))))), ?_⟩
  obtain ⟨B, ls, bs, hB, hl, hb, ok, q⟩ := h
  obtain ⟨la, lvs, rfl, hla, hls⟩ := id hl
  obtain ⟨ba, bvs, rfl, hba, hbs⟩ := id hb
  have sL : ∃ xs, SqL K H la xs := ⟨_, SqL.of (hB.lst hla)⟩
  have sB : ∃ xs, SqL K H ba xs := ⟨_, SqL.of (hB.lst hba)⟩
  refine ⟨_, rfl, la, rfl, sL, for_chk (Rs := rLRow) (j := 2) rfl (src_list hla) hB hls (fun y v N hy hv hN => ?_) (fun z => ?_)⟩
  · obtain ⟨ra, rfl, hra⟩ := id hv
    have sx := SqT.of (K := K) (hB.tup hra)
    exact ⟨_, rfl, ra, _, _, _, rfl, rfl, sx, atI_nat (j := 0) rfl, _, rfl, y.1, rfl, ok.nm y hy, hN⟩
  refine ⟨_, rfl, ba, rfl, sB, for_chk (Rs := rBRow) (j := 2) rfl (src_list hba) hB hbs (fun y v N hy hv hN => ?_) (fun z => ?_)⟩
  · obtain ⟨ra, rfl, hra⟩ := id hv
    have sx := SqT.of (K := K) (hB.tup hra)
    exact ⟨_, rfl, ra, _, _, _, rfl, rfl, sx, atI_nat (j := 0) rfl, _, rfl, y.nm, rfl, ok.bnm y hy, hN⟩
  refine ⟨_, rfl, la, rfl, sL, for_chk (Rs := rLRow) (j := 2) rfl (src_list hla) hB hls (fun y v N hy hv hN => ?_) (fun z => ?_)⟩
  · obtain ⟨ra, rfl, hra⟩ := id hv
    have sx := SqT.of (K := K) (hB.tup hra)
    exact ⟨_, rfl, ra, _, _, _, rfl, rfl, sx, atI_nat (j := 1) rfl, _, rfl, y.2, rfl, ok.num y hy, hN⟩
  refine ⟨_, rfl, ba, rfl, sB, for_chk (Rs := rBRow) (j := 2) rfl (src_list hba) hB hbs (fun y v N hy hv hN => ?_) (fun z => ?_)⟩
  · obtain ⟨ra, rfl, hra⟩ := id hv
    have sx := SqT.of (K := K) (hB.tup hra)
    exact ⟨_, rfl, ra, _, _, _, rfl, rfl, sx, atI_nat (j := 3) rfl, _, rfl, y.lo, rfl, (ok.bnum y hy).1, _, rfl, ra, _, _, _, rfl, rfl, sx, atI_nat (j := 4) rfl, _, rfl, y.hi, rfl, (ok.bnum y hy).2.1, hN⟩
  refine ⟨_, rfl, ba, rfl, sB, for_go (Rs := rBRow) (fun i σ1 B1 H1 => (∃ z2, σ1 = [some (.ref la), some (.ref ba), z2]) ∧ Gr [] B H B1 H1) (src_list hba) hbs ⟨⟨_, rfl⟩, Gr.refl hB⟩ (fun i σ1 B1 H1 h => ⟨h.2.up, h.2.sub⟩) (fun i y x σ1 B1 H1 hy hx h => ?_) (fun σ1 B1 H1 h => ?_)⟩
  · obtain ⟨⟨z2, rfl⟩, g1⟩ := h
    obtain ⟨ra, rfl, hra⟩ := id hx
    have sx := SqT.of (K := K) (g1.sub.tup hra)
    have hb := ok.bnum y (List.mem_of_getElem? hy)
    refine ⟨_, rfl, ra, _, _, _, rfl, rfl, sx, atI_nat (j := 3) rfl, _, rfl, ra, _, _, _, rfl, rfl, sx, atI_nat (j := 4) rfl, fun x dx hx hdx ne => ⟨_, _, _, rfl, x, dx, y.lo, y.hi, rfl, upd_same, rfl, rfl, hb.1, hb.2.1, hb.2.2, rfl, ?_⟩⟩
    rw [upd_upd]
    exact ⟨_, ⟨_, rfl⟩, g1.trans (Gr.made g1.sub hx hdx ne)⟩
  obtain ⟨⟨z2, rfl⟩, g1⟩ := h
  have hla1 := g1.up.lst hla
  have hls1 := All2.mono g1.up hls
  have lln : lvs.length ≤ 100000 := by rw [← hls.len]; have := ok.len; omega
  have bln : bvs.length ≤ 100000 := by rw [← hbs.len]; have := ok.blen; omega
  refine ⟨_, rfl, la, rfl, ⟨_, SqL.of (g1.sub.lst hla1)⟩, fun D hD => lc_map (Rs := rLRow) (R := rStr) (fun r => r.1) (src_list hla1) g1.sub hD hls1 lln (fun y x B3 H3 K1 hy hx g3 k1 => ?_) (fun B3 H3 g3 h3 => ?_)⟩
  · obtain ⟨ra, rfl, hra⟩ := id hx
    exact ⟨_, rfl, ra, _, _, _, rfl, rfl, SqT.of (K := K) (g3.sub.tup hra), atI_nat (j := 0) rfl, k1 _ _ _ (Gr.refl g3.sub) rfl⟩
  obtain ⟨vs3, h30, h3b, h3h, h3a⟩ := h3.at_
  have gP := (g1.trans g3).pub (g1.was h30) h3b h3h
  refine ⟨_, rfl, _, _, gP.sub, ⟨D, vs3, rfl, upd_same, All2.mono (ExW.new h3b) h3a⟩, fun x hx => ?_, ok.nd, by rw [List.length_map]; have := ok.len; omega, fun B4 H4 v4 g4 => ?_⟩
  · obtain ⟨r, hr, rfl⟩ := List.mem_map.mp hx
    exact ok.nm r hr
  have G4 := gP.trans g4
  have hba4 := G4.up.lst hba
  have hbs4 := All2.mono G4.up hbs
  refine ⟨_, rfl, ba, rfl, ⟨_, SqL.of (G4.sub.lst hba4)⟩, fun D hD => lc_map (Rs := rBRow) (R := rStr) (fun r => r.nm) (src_list hba4) G4.sub hD hbs4 bln (fun y x B3 H3 K1 hy hx g3 k1 => ?_) (fun B5 H5 g5 h5 => ?_)⟩
  · obtain ⟨ra, rfl, hra⟩ := id hx
    exact ⟨_, rfl, ra, _, _, _, rfl, rfl, SqT.of (K := K) (g3.sub.tup hra), atI_nat (j := 0) rfl, k1 _ _ _ (Gr.refl g3.sub) rfl⟩
  obtain ⟨vs5, h50, h5b, h5h, h5a⟩ := h5.at_
  have gQ := (G4.trans g5).pub (G4.was h50) h5b h5h
  refine ⟨_, rfl, _, _, gQ.sub, ⟨D, vs5, rfl, upd_same, All2.mono (ExW.new h5b) h5a⟩, fun x hx => ?_, ok.bnd, by rw [List.length_map]; have := ok.blen; omega, fun B6 H6 v6 g6 => ?_⟩
  · obtain ⟨r, hr, rfl⟩ := List.mem_map.mp hx
    exact ok.bnm r hr
  have G6 := gQ.trans g6
  refine ⟨_, rfl, _, rfl, _, _, rfl, B6, ls, bs, G6.sub, Rp.mono _ G6.up hl, Rp.mono _ G6.up hb, ok, fun B7 H7 v7 g7 => ?_⟩
  have G7 := G6.trans g7
  have l7 := SqL.of (K := K) (G7.sub.lst (G7.up.lst hla))
  have b7 := SqL.of (K := K) (G7.sub.lst (G7.up.lst hba))
  refine ⟨_, rfl, la, _, rfl, .inl l7, _, _, _, rfl, _, 1, 10, rfl, rfl, rfl, ?_, ?_, ?_⟩
  · rw [← hls.len]; have := ok.len; omega
  · rw [← hls.len]; have := ok.len; omega
  refine ⟨_, rfl, ba, _, rfl, .inl b7, _, _, _, rfl, _, 0, 16, rfl, rfl, rfl, ?_, ?_, q _ _ _ G7⟩
  · omega
  · rw [← hbs.len]; have := ok.blen; omega
/-- a bond's ends in name order -/
def kept (b : Bond) : Bond := if sLt b.b b.a then { b with a := b.b, b := b.a } else b
def spKept : Sp := sp1 fun a H Q => ∃ B b, ExW B H ∧ rBRow.rel B b a ∧ Ret rBRow (kept b) B H Q
/-! ### kept_bond -/
abbrev F_kept_bond (P : Program) (w : World) (K : PySem.W.Frag) (mg : Str → Option Value) (base : Heap) : Prop := Fn P w K mg base CX0 1 "kept_bond" ["row"] [] spKept
abbrev N_kept_bond : List Str := ["row", "name", "first", "second", "low", "high"]
theorem sc_kept_bond : FnScope N_kept_bond ["row"] (defScope (top 69)) := ⟨rfl, rfl, rfl, by decide +kernel, rfl, by decide +kernel, by decide +kernel⟩
theorem ok_kept_bond (T : TX K mg) (D : DefAt K mg "kept_bond" (top 69) [])   : F_kept_bond P w K mg base := by
  refine fn_ok D sc_kept_bond (by decide +kernel) (fun _ _ _ _ _ _ us hl => match us, hl with | [_], _ => rfl) (fun vs H Q E h => len1 h) (fun f cdv A outer s H vs Q E hr h => ?_)
  have nd := sc_kept_bond.nd
  obtain ⟨v0, rfl, h⟩ := h
  refine ⟨_, (pss_cons (ps_asg (pv 0) (pg_tup rfl (pgs_cons (pg_name (i := 1) nd rfl (Or.inl rfl)) (pgs_cons (pg_name (i := 2) nd rfl (Or.inl rfl)) (pgs_cons (pg_name (i := 3) nd rfl (Or.inl rfl)) (pgs_cons (pg_name (i := 4) nd rfl (Or.inl rfl)) (pgs_cons (pg_name (i := 5) nd rfl (Or.inl rfl)) pgs_nil)))))))
      (pss_cons (ps_if (pt_cmpR op_lt_str (pv 3) (pv 2) (nomark _)) (pss_one (ps_ret (pe_tup (pa_cons (pv 1) (pa_cons (pv 3) (pa_cons (pv 2) (pa_cons (pv 4) (pa_cons (pv 5) pa_nil)))))))) pss_nil)
      (pss_one (ps_ret (pe_tup (pa_cons (pv 1) (pa_cons (pv 2) (pa_cons (pv 3) (pa_cons (pv 4) (pa_cons (pv 5) pa_nil)))))))))), ?_⟩
  obtain ⟨B, b, hB, hb, q⟩ := h
  obtain ⟨ra, rfl, hra⟩ := id hb
  refine ⟨_, rfl, ra, _, rfl, SqT.of (hB.tup hra), rfl, _, _, rfl, _, _, rfl, _, _, rfl, _, _, rfl, _, _, rfl, rfl, ?_⟩
  refine ⟨_, rfl, _, rfl, _, _, rfl, rfl, _, rfl, ?_⟩
  have ek : kept b = if sLt b.b b.a then { b with a := b.b, b := b.a } else b := rfl
  refine ite2 (fun e => ?_) (fun e => ?_)
  · rw [if_pos (of_decide_eq_true e)] at ek
    rw [ek] at q
    exact ⟨_, rfl, _, rfl, _, rfl, _, rfl, _, rfl, (by show 5 ≤ sizeLine; decide), fun p hp => q.tup hB hp⟩
  · rw [if_neg (by simpa using e)] at ek
    rw [ek] at q
    exact ⟨_, rfl, _, rfl, _, rfl, _, rfl, _, rfl, (by show 5 ≤ sizeLine; decide), fun p hp => q.tup hB hp⟩
def spArms : Sp := sp2 fun a b H Q => ∃ B x bs, ExW B H ∧ a = .str x ∧ (rL rBRow).rel B bs b ∧ bs.length ≤ 1000 ∧ Any B H Q
/-! ### arms_at -/
abbrev F_arms_at (P : Program) (w : World) (K : PySem.W.Frag) (mg : Str → Option Value) (base : Heap) : Prop := Fn P w K mg base CX0 1 "arms_at" ["lamp", "bond_rows"] [] spArms
abbrev N_arms_at : List Str := ["lamp", "bond_rows", "row"]
theorem sc_arms_at : FnScope N_arms_at ["lamp", "bond_rows"] (defScope (top 70)) := ⟨rfl, rfl, rfl, by decide +kernel, rfl, by decide +kernel, by decide +kernel⟩
theorem ok_arms_at (T : TX K mg) (D : DefAt K mg "arms_at" (top 70) [])   : F_arms_at P w K mg base := by
  refine fn_ok D sc_arms_at (by decide +kernel) (fun _ _ _ _ _ _ us hl => match us, hl with | [_, _], _ => rfl) (fun vs H Q E h => len2 h) (fun f cdv A outer s H vs Q E hr h => ?_)
  have nd := sc_arms_at.nd
  obtain ⟨v0, v1, rfl, h⟩ := h
  refine ⟨_, (pss_one (ps_ret (pe_lc (own := [("row", 2)]) rfl nd (kp_list K (pv 1)) (blkOk_by (own := [("row", 2)]) (N := N_arms_at) (sc := defScope (top 70)) (by decide +kernel)) (fun _ _ _ _ _ => (pg_name (i := 2) nd rfl (Or.inl rfl))) (fun _ _ _ _ _ => (pts_one (PW.pt (pw_or (pt_cmpR op_eq (pv 0) (pe_ix (kx_tup K) (pv 2) pe_int (fun _ _ => rfl)) (nomark _)) (pw_or1 (pt_cmpR op_eq (pv 0) (pe_ix (kx_tup K) (pv 2) pe_int (fun _ _ => rfl)) (nomark _))))))) (fun _ _ _ _ _ => (pe_ix (kx_tup K) (pv 2) pe_int (fun _ _ => rfl)))))), ?_⟩
  obtain ⟨B, x, bs, hB, rfl, hb, hl, q⟩ := h
  obtain ⟨ba, bvs, rfl, hba, hbs⟩ := id hb
  refine ⟨_, rfl, ba, rfl, ⟨_, SqL.of (hB.lst hba)⟩, fun D hD => lc_flt (Rs := rBRow) (R := rU) (fun r => if x = r.a ∨ x = r.b then some () else none) (src_list hba) hB hD hbs (by rw [← hbs.len]; omega) (fun y v B3 H3 K1 K0 hy hx g3 k1 k0 => ?_) (fun B3 H3 g3 h3 => ?_)⟩
  · obtain ⟨ra, rfl, hra⟩ := id hx
    have sx := SqT.of (K := K) (g3.sub.tup hra)
    have yes : (x = y.a ∨ x = y.b) → K1 (.str y.nm) H3 := fun e => k1 () _ _ _ (if_pos e) (Gr.refl g3.sub) trivial
    refine ⟨_, rfl, _, rfl, ra, _, _, _, rfl, rfl, sx, atI_nat (j := 1) rfl, rfl, _, rfl, ?_⟩
    rw [dec_strD]
    refine ite2 (fun e => ?_) (fun e => ?_)
    · exact ite_tt ⟨_, rfl, ra, _, _, _, rfl, rfl, sx, atI_nat (j := 0) rfl, yes (.inl (of_decide_eq_true e))⟩
    · have e : ¬ x = y.a := by simpa using e
      refine ⟨_, rfl, _, rfl, ra, _, _, _, rfl, rfl, sx, atI_nat (j := 2) rfl, rfl, _, rfl, ?_⟩
      rw [dec_strD]
      refine ite2 (fun e2 => ?_) (fun e2 => ?_)
      · exact ⟨_, rfl, ra, _, _, _, rfl, rfl, sx, atI_nat (j := 0) rfl, yes (.inr (of_decide_eq_true e2))⟩
      · have e2 : ¬ x = y.b := by simpa using e2
        exact k0 _ _ (if_neg (fun z => z.elim e e2)) (Gr.refl g3.sub)
  · exact q _ _ _ g3
end
end OB

/-! ## PF -/
set_option maxHeartbeats 4000000
namespace OB
open PySem PySem.Spec PyProof.Rows L2
/-- the web of these rows -/
def netOf (ls : List (Str × Option Int)) (bs : List Bond) : Net := ⟨ls.mergeSort fun a b => leN a.1 b.1, (bs.map kept).mergeSort fun a b => leN a.nm b.nm⟩
theorem kept_nm (b : Bond) : (kept b).nm = b.nm := by unfold kept; split <;> rfl
theorem kept_nms (bs : List Bond) : (bs.map kept).map (·.nm) = bs.map (·.nm) := by
  rw [List.map_map]; exact List.map_congr_left fun b _ => kept_nm b
theorem netOf_lamps {ls : List (Str × Option Int)} {bs : List Bond} : (netOf ls bs).lamps.Perm ls := List.mergeSort_perm _ _
theorem netOf_bonds {ls : List (Str × Option Int)} {bs : List Bond} : (netOf ls bs).bonds.Perm (bs.map kept) := List.mergeSort_perm _ _
theorem netOf_ok {ls : List (Str × Option Int)} {bs : List Bond} (ok : RowsOk ls bs) : (netOf ls bs).Ok where
  nd := (netOf_lamps.map _).symm.nodup ok.nd
  bnd := (netOf_bonds.map _).symm.nodup (by rw [kept_nms]; exact ok.bnd)
  len := by rw [netOf_lamps.length_eq]; exact ok.len.2
  blen := by rw [netOf_bonds.length_eq, List.length_map]; exact ok.blen
  num := fun p hp => ok.num p (netOf_lamps.mem_iff.mp hp)
  bnum := fun b hb => by
    obtain ⟨c, hc, rfl⟩ := List.mem_map.mp (netOf_bonds.mem_iff.mp hb)
    have := ok.bnum c hc
    unfold kept
    split <;> exact ⟨this.1, this.2.1⟩
  ends := fun b hb => by
    obtain ⟨c, hc, rfl⟩ := List.mem_map.mp (netOf_bonds.mem_iff.mp hb)
    obtain ⟨h1, h2, h3⟩ := ok.ends c hc
    have m : ∀ {x : Str}, x ∈ ls.map (·.1) → x ∈ (netOf ls bs).names := fun h => (netOf_lamps.map _).mem_iff.mpr h
    unfold kept
    split
    · exact ⟨m h2, m h1, fun z => h3 z.symm⟩
    · exact ⟨m h1, m h2, h3⟩
/-- the name that a row begins with -/
def nmOf (B : Hp) (v : V) : Str := match v with
  | .ref t => (match B t with
    | some (.tup (.str z :: _)) => z
    | _ => "")
  | _ => ""
theorem nmOf_fix {α : Type} {f : α → List V} {g : α → Str} {r : α → List V} (hf : ∀ x, f x = .str (g x) :: r x) {B : Hp} {x : α} {v : V} (h : (rFix f).rel B x v) : nmOf B v = g x := by
  obtain ⟨t, rfl, ht⟩ := h
  unfold nmOf
  simp only [ht, hf]
theorem nmOf_all {α : Type} {f : α → List V} {g : α → Str} {r : α → List V} (hf : ∀ x, f x = .str (g x) :: r x) {B H : Hp} {K : PySem.W.Frag} (hB : ExW B H) (hl : ∀ x, (r x).length < 900) : ∀ {xs : List α} {vs : List V}, All2 ((rFix f).rel B) xs vs → ∀ y ∈ vs, ∃ t r, y = .ref t ∧ SqT K H t (.str (nmOf B y) :: r) ∧ r.length < 900
  | _, _, .nil, y, h => nomatch h
  | x :: _, v :: _, .cons a t, y, h => by
    rcases List.mem_cons.mp h with rfl | h
    · have e := nmOf_fix hf a
      obtain ⟨p, rfl, hp⟩ := a
      refine ⟨p, r x, rfl, ?_, hl x⟩
      rw [e, ← hf x]
      exact SqT.of (hB.tup hp)
    · exact nmOf_all hf hB hl t y h
theorem nmOf_sort {α : Type} {f : α → List V} {g : α → Str} {r : α → List V} (hf : ∀ x, f x = .str (g x) :: r x) {B : Hp} : ∀ {xs : List α} {vs : List V}, All2 ((rFix f).rel B) xs vs → vs.Pairwise (fun y z => ¬ (nmOf B z).cps.toList < (nmOf B y).cps.toList) → xs.Pairwise fun a b => leN (g a) (g b) = true
  | _, _, .nil, _ => .nil
  | x :: xs, v :: vs, .cons a t, h => by
    obtain ⟨h1, h2⟩ := List.pairwise_cons.mp h
    refine List.pairwise_cons.mpr ⟨fun y hy => ?_, nmOf_sort hf t h2⟩
    obtain ⟨i, hi⟩ := List.getElem?_of_mem hy
    obtain ⟨u, hu, ru⟩ := All2.get t hi
    have := h1 u (List.mem_of_getElem? hu)
    rw [nmOf_fix hf a, nmOf_fix hf ru] at this
    unfold leN
    simp [this]
section
variable {P : Program} {w : World} {K : PySem.W.Frag} {mg : Str → Option Value} {base : Heap}
def spMkWeb (K : PySem.W.Frag) (Pt : Addr) : Sp := sp3 fun a b c H Q => ∃ B ls bs x dx, ExW B H ∧ a = .ref x ∧ B x = none ∧ H x = some (.ins (He.ga K "Web") dx []) ∧ (rL rLRow).rel B ls b ∧ (rL rBRow).rel B bs c ∧ RowsOk ls bs ∧ B Pt = none ∧ LamX.TabS H Pt qLam ∧
  ∀ B' H' v1 v2 v3 v4 v5 v6 v7, Gr [x, Pt] B H B' H' → LamX.TabS H' Pt qLam → B' x = none → B' Pt = none → H' x = some (.ins (He.ga K "Web") dx (netF v1 v2 v3 v4 v5 v6 v7)) →
    (rL rLRow).rel B' (netOf ls bs).lamps v1 → (rL rBRow).rel B' (netOf ls bs).bonds v2 → (rL rStr).rel B' (netOf ls bs).names v3 → (rD rEnd).rel B' (netOf ls bs).lamps v4 → (rD rPair).rel B' ((netOf ls bs).bonds.map fun (b : Bond) => (b.nm, (b.a, b.b))) v5 → (rD (rSpan K)).rel B' ((netOf ls bs).bonds.map fun (b : Bond) => (b.nm, (b.lo, b.hi))) v6 → Q .non H'
/-- the making of a web, on its way -/
structure WSt (K : PySem.W.Frag) (B H : Hp) (Pt x dx : Addr) (B' H' : Hp) (fs : List (Str × V)) : Prop where
  g : Gr [x, Pt] B H B' H'
  t : LamX.TabS H' Pt qLam
  hx : H' x = some (.ins (He.ga K "Web") dx fs)
  hb : B' x = none
  hP : B' Pt = none
theorem WSt.put {B H B' H' : Hp} {Pt x dx : Addr} {fs gs : List (Str × V)} (s : WSt K B H Pt x dx B' H' fs) : WSt K B H Pt x dx B' (upd H' x (.ins (He.ga K "Web") dx gs)) gs :=
  ⟨s.g.mut (.inr (by simp)) s.hb, Tab.ins s.t s.hx, upd_same, s.hb, s.hP⟩
theorem WSt.gr0 {B H B' H' B'' H'' : Hp} {Pt x dx : Addr} {fs : List (Str × V)} (s : WSt K B H Pt x dx B' H' fs) (g : Gr [] B' H' B'' H'') : WSt K B H Pt x dx B'' H'' fs := by
  have nP : H' Pt ≠ none := by
    obtain ⟨ps, hp, _⟩ := s.t
    rw [hp]; exact fun z => nomatch z
  exact ⟨s.g.trans g.any, Tab.gr0 s.t s.g.sub g, g.keep x _ (fun z => nomatch z) s.hb s.hx, g.new x s.hb (by rw [s.hx]; exact fun z => nomatch z), g.new Pt s.hP nP⟩
theorem WSt.lam {B H B' H' H'' : Hp} {Pt x dx : Addr} {fs : List (Str × V)} (s : WSt K B H Pt x dx B' H' fs) (lt : LamTo Pt qLam H' H'') : WSt K B H Pt x dx B' H'' fs :=
  ⟨s.g.trans ((lt.gr s.g.sub s.hP).mono (by simp)), lt.tab, lt.at_ s.t s.hx (fun _ z => by cases z), s.hb, s.hP⟩
theorem WSt.new {B H B' H' : Hp} {Pt x dx p : Addr} {fs : List (Str × V)} {o : HO} (s : WSt K B H Pt x dx B' H' fs) (hp : H' p = none) (_ho : ∀ ps, o ≠ .tbl ps) : WSt K B H Pt x dx (upd B' p o) (upd H' p o) fs := s.gr0 (Gr.newP s.g.sub hp)
theorem WSt.pub {B H B' H' : Hp} {Pt x dx p : Addr} {fs : List (Str × V)} {o : HO} (s : WSt K B H Pt x dx B' H' fs) (hx0 : H x ≠ none) (hP0 : H Pt ≠ none) (hp : H p = none) (hb : B' p = none) (ho : H' p = some o) : WSt K B H Pt x dx (upd B' p o) H' fs :=
  ⟨s.g.pub hp hb ho, s.t, s.hx, by rw [upd_ne (fun z => hx0 (by rw [z]; exact hp))]; exact s.hb, by rw [upd_ne (fun z => hP0 (by rw [z]; exact hp))]; exact s.hP⟩
theorem pair_eta {α β : Type} (l : List (α × β)) : (l.map fun y => (y.1, y.2)) = l := by
  rw [show (fun y : α × β => (y.1, y.2)) = id from rfl, List.map_id]
/-! ### Web.__init__ -/
abbrev F_Web_init (P : Program) (w : World) (K : PySem.W.Frag) (mg : Str → Option Value) (base : Heap) (Pt : Addr) : Prop := FnI P w K mg base 7 "Web" "__init__" ["self", "lamps", "bonds"] [] (spMkWeb K Pt)
abbrev N_Web_init : List Str := ["self", "lamps", "bonds", "lamp", "row"]
theorem sc_Web_init : FnScope N_Web_init ["self", "lamps", "bonds"] (defScope (inClass (top 71) 0)) := ⟨rfl, rfl, rfl, by decide +kernel, rfl, by decide +kernel, by decide +kernel⟩
theorem ok_Web_init {Pt : Addr} (T : TX K mg) (D : WebAt K mg base Pt "Web" "__init__" "Web.__init__" (inClass (top 71) 0)) (c_check_rows : F_check_rows P w K mg base) (c_kept_bond : F_kept_bond P w K mg base) (c_Span_init : F_Span_init P w K mg base) (c_arms_at : F_arms_at P w K mg base)  : F_Web_init P w K mg base Pt := by
  refine fnI_okT D sc_Web_init (by decide +kernel) (fun _ _ _ _ _ _ _ us its hl hi => match us, hl, its, hi with | [_, _, _], _, [_], _ => ⟨_, rfl, rfl⟩) (fun vs H Q E h => len3 h) (fun f cdv A outer s H vs Q E TB hr h => ?_)
  have nd := sc_Web_init.nd
  obtain ⟨v0, v1, v2, rfl, h⟩ := h
  refine ⟨_, (pss_cons (ps_expr (pe_fn c_check_rows hr (by rfl) (pa_cons (pv 1) (pa_cons (pv 2) pa_nil))))
      (pss_cons (ps_fd T.clWeb T.n_own_lamp_rows (pv 0) (pe_sortedFst TB rfl hr (by rfl) T.sorted (pa_cons (pe_lc (own := [("row", 4)]) rfl nd (kp_list K (pv 1)) (blkOk_by (own := [("row", 4)]) (N := N_Web_init) (sc := defScope (inClass (top 71) 0)) (by decide +kernel)) (fun _ _ _ _ _ => (pg_name (i := 4) nd rfl (Or.inl rfl))) (fun _ _ _ _ _ => pts_nil) (fun _ _ _ _ _ => (pe_tup (pa_cons (pe_ix (kx_tup K) (pv 4) pe_int (fun _ _ => rfl)) (pa_cons (pe_ix (kx_tup K) (pv 4) pe_int (fun _ _ => rfl)) pa_nil))))) pa_nil) (hfree := no_free (by decide +kernel)) (hb := fun _ _ _ _ _ _ => rfl) (hcell := by decide +kernel) (hl := by decide +kernel)) rfl)
      (pss_cons (ps_fd T.clWeb T.n_own_bond_rows (pv 0) (pe_sortedFst TB rfl hr (by rfl) T.sorted (pa_cons (pe_lc (own := [("row", 4)]) rfl nd (kp_list K (pv 2)) (blkOk_by (own := [("row", 4)]) (N := N_Web_init) (sc := defScope (inClass (top 71) 0)) (by decide +kernel)) (fun _ _ _ _ _ => (pg_name (i := 4) nd rfl (Or.inl rfl))) (fun _ _ _ _ _ => pts_nil) (fun _ _ _ _ _ => (pe_fn c_kept_bond hr (by rfl) (pa_cons (pv 4) pa_nil)))) pa_nil) (hfree := no_free (by decide +kernel)) (hb := fun _ _ _ _ _ _ => rfl) (hcell := by decide +kernel) (hl := by decide +kernel)) rfl)
      (pss_cons (ps_fd T.clWeb T.n_own_lamps (pv 0) (pe_lc (own := [("row", 4)]) rfl nd (kp_list K (pe_fd T.clWeb T.n_own_lamp_rows (pv 0) rfl)) (blkOk_by (own := [("row", 4)]) (N := N_Web_init) (sc := defScope (inClass (top 71) 0)) (by decide +kernel)) (fun _ _ _ _ _ => (pg_name (i := 4) nd rfl (Or.inl rfl))) (fun _ _ _ _ _ => pts_nil) (fun _ _ _ _ _ => (pe_ix (kx_tup K) (pv 4) pe_int (fun _ _ => rfl)))) rfl)
      (pss_cons (ps_fd T.clWeb T.n_own_ceilings (pv 0) (pe_dc (own := [("row", 4)]) rfl nd (kp_list K (pe_fd T.clWeb T.n_own_lamp_rows (pv 0) rfl)) (blkOk_by (own := [("row", 4)]) (N := N_Web_init) (sc := defScope (inClass (top 71) 0)) (by decide +kernel)) (fun _ _ _ _ _ => (pg_name (i := 4) nd rfl (Or.inl rfl))) (fun _ _ _ _ _ => pts_nil) (fun _ _ _ _ _ => (pe_ix (kx_tup K) (pv 4) pe_int (fun _ _ => rfl))) (fun _ _ _ _ _ => (pe_ix (kx_tup K) (pv 4) pe_int (fun _ _ => rfl)))) rfl)
      (pss_cons (ps_fd T.clWeb T.n_own_ends (pv 0) (pe_dc (own := [("row", 4)]) rfl nd (kp_list K (pe_fd T.clWeb T.n_own_bond_rows (pv 0) rfl)) (blkOk_by (own := [("row", 4)]) (N := N_Web_init) (sc := defScope (inClass (top 71) 0)) (by decide +kernel)) (fun _ _ _ _ _ => (pg_name (i := 4) nd rfl (Or.inl rfl))) (fun _ _ _ _ _ => pts_nil) (fun _ _ _ _ _ => (pe_ix (kx_tup K) (pv 4) pe_int (fun _ _ => rfl))) (fun _ _ _ _ _ => (pe_tup (pa_cons (pe_ix (kx_tup K) (pv 4) pe_int (fun _ _ => rfl)) (pa_cons (pe_ix (kx_tup K) (pv 4) pe_int (fun _ _ => rfl)) pa_nil))))) rfl)
      (pss_cons (ps_fd T.clWeb T.n_own_spans (pv 0) (pe_dc (own := [("row", 4)]) rfl nd (kp_list K (pe_fd T.clWeb T.n_own_bond_rows (pv 0) rfl)) (blkOk_by (own := [("row", 4)]) (N := N_Web_init) (sc := defScope (inClass (top 71) 0)) (by decide +kernel)) (fun _ _ _ _ _ => (pg_name (i := 4) nd rfl (Or.inl rfl))) (fun _ _ _ _ _ => pts_nil) (fun _ _ _ _ _ => (pe_ix (kx_tup K) (pv 4) pe_int (fun _ _ => rfl))) (fun _ _ _ _ _ => (pe_mk T.clSpan c_Span_init hr (by rfl) (pa_cons (pe_ix (kx_tup K) (pv 4) pe_int (fun _ _ => rfl)) (pa_cons (pe_ix (kx_tup K) (pv 4) pe_int (fun _ _ => rfl)) pa_nil))))) rfl)
      (pss_one (ps_fd T.clWeb T.n_own_arms (pv 0) (pe_dc (own := [("lamp", 3)]) rfl nd (kp_list K (pe_fd T.clWeb T.n_own_lamps (pv 0) rfl)) (blkOk_by (own := [("lamp", 3)]) (N := N_Web_init) (sc := defScope (inClass (top 71) 0)) (by decide +kernel)) (fun _ _ _ _ _ => (pg_name (i := 3) nd rfl (Or.inl rfl))) (fun _ _ _ _ _ => pts_nil) (fun _ _ _ _ _ => (pv 3)) (fun _ _ _ _ _ => (pe_fn c_arms_at hr (by rfl) (pa_cons (pv 3) (pa_cons (pe_fd T.clWeb T.n_own_bond_rows (pv 0) rfl) pa_nil))))) rfl))))))))), ?_⟩
  obtain ⟨B, ls, bs, x, dx, hB, rfl, bx, hx, hl, hb, ok, bP, hT, q⟩ := h
  have okn := netOf_ok ok
  have xP : x ≠ Pt := fun z => by
    obtain ⟨ps, hp, _⟩ := hT
    rw [z, hp] at hx; cases hx
  have nP : ∀ {H : Hp}, LamX.TabS H Pt qLam → H Pt ≠ none := fun ⟨ps, hp, _⟩ => by rw [hp]; exact fun z => nomatch z
  obtain ⟨la, lvs, rfl, hla, hls⟩ := id hl
  obtain ⟨ba, bvs, rfl, hba, hbs⟩ := id hb
  have lln : lvs.length ≤ 100000 := by rw [← hls.len]; have := ok.len; omega
  have bln : bvs.length ≤ 100000 := by rw [← hbs.len]; have := ok.blen; omega
  -- check_rows(lamps, bonds)
  refine ⟨_, rfl, _, rfl, _, _, rfl, B, ls, bs, hB, hl, hb, ok, fun B1 H1 _ g1 => ?_⟩
  have T1 := Tab.gr0 hT hB g1
  have G1 : Gr [x, Pt] B H B1 H1 := g1.any
  have x1 : H1 x = some (.ins (He.ga K "Web") dx []) := g1.keep x _ (fun z => nomatch z) bx hx
  have bx1 : B1 x = none := g1.new x bx (by rw [hx]; exact fun z => nomatch z)
  have bP1 : B1 Pt = none := g1.new Pt bP (nP hT)
  -- self.own_lamp_rows
  have hla1 := g1.up.lst hla
  refine ⟨_, rfl, la, rfl, ⟨_, SqL.of (g1.sub.lst hla1)⟩, fun D hD => lc_map (Rs := rLRow) (R := rLRow) (fun r => r) (src_list hla1) g1.sub hD (All2.mono g1.up hls) lln (fun y v B3 H3 K1 hy hv g3 k1 => ?_) (fun B2 H2 g2 h2 => ?_)⟩
  · obtain ⟨ra, rfl, hra⟩ := id hv
    have sx := SqT.of (K := K) (g3.sub.tup hra)
    exact ⟨_, rfl, ra, _, _, _, rfl, rfl, sx, atI_nat (j := 0) rfl, _, rfl, ra, _, _, _, rfl, rfl, sx, atI_nat (j := 1) rfl, (by show 2 ≤ sizeLine; decide), fun t ht => k1 _ _ _ (Gr.newP g3.sub ht) ⟨t, rfl, upd_same⟩⟩
  rw [List.map_id'] at h2
  obtain ⟨vs2, h20, h2b, h2h, h2a⟩ := h2.at_
  have T2 := Tab.gr0 T1 g1.sub g2
  have x2 : H2 x = some (.ins (He.ga K "Web") dx []) := g2.keep x _ (fun z => nomatch z) bx1 x1
  have bx2 : B2 x = none := g2.new x bx1 (by rw [x1]; exact fun z => nomatch z)
  have bP2 : B2 Pt = none := g2.new Pt bP1 (nP T1)
  have G2 := G1.trans g2.any
  have f1 : ∀ r : Str × Option Int, (fun x => [V.str x.1, vo x.2]) r = .str r.1 :: [vo r.2] := fun _ => rfl
  refine ⟨D, vs2, nmOf B2, rfl, SqL.of h2h, nmOf_all f1 g2.sub (fun _ => by show 1 < 900; decide) h2a, T2, fun H3 p vs3 lt perm srt hp => ?_⟩
  obtain ⟨rows, rperm, h3a⟩ := All2.perm perm h2a
  have er : rows = (netOf ls bs).lamps := sorted_uniq ok.nd rperm (nmOf_sort f1 h3a srt)
  subst er
  have g3 := lt.gr g2.sub bP2
  have x3 : H3 x = some (.ins (He.ga K "Web") dx []) := lt.at_ T2 x2 (fun _ z => by cases z)
  have G3 : Gr [x, Pt] B H B2 H3 := G2.trans (g3.mono (by simp))
  have n3 := Gr.newP (S := [x, Pt]) (o := .lst vs3) G3.sub hp
  have G4 := G3.trans n3
  have xp : x ≠ p := ne_of_none x3 hp
  have bp := G3.sub.none hp
  have T4 : LamX.TabS (upd H3 p (.lst vs3)) Pt qLam := Tab.gr0 lt.tab G3.sub (Gr.newP G3.sub hp)
  have x4 : (upd H3 p (.lst vs3)) x = some (.ins (He.ga K "Web") dx []) := by rw [upd_ne xp]; exact x3
  have bx4 : (upd B2 p (.lst vs3)) x = none := by rw [upd_ne xp]; exact bx2
  have bP4 : (upd B2 p (.lst vs3)) Pt = none := G4.new Pt bP (nP hT)
  have hL4 : (rL rLRow).rel (upd B2 p (.lst vs3)) (netOf ls bs).lamps (.ref p) := ⟨p, vs3, rfl, upd_same, All2.mono (ExW.new bp) h3a⟩
  refine ⟨_, rfl, x, dx, [], rfl, x4, (by show 0 < 1000; decide), ?_⟩
  rw [putF_new (ns := []) rfl rfl]
  generalize e5 : upd B2 p (.lst vs3) = B5 at *
  generalize e6 : upd H3 p (.lst vs3) = H5 at *
  have P5 : WSt K B H Pt x dx B5 (upd H5 x (.ins (He.ga K "Web") dx [(("own_lamp_rows" : Str), V.ref p)])) [(("own_lamp_rows" : Str), V.ref p)] := WSt.put ⟨G4, T4, x4, bx4, bP4⟩
  -- self.own_bond_rows
  have hb5 := Rp.mono _ P5.g.up hb
  have hba5 := P5.g.up.lst hba
  refine ⟨_, rfl, ba, rfl, ⟨_, SqL.of (P5.g.sub.lst hba5)⟩, fun D hD => lc_map (Rs := rBRow) (R := rBRow) kept (src_list hba5) P5.g.sub hD (All2.mono P5.g.up hbs) bln (fun y v B3 H3 K1 hy hv g3 k1 => ?_) (fun B6 H6 g6 h6 => ?_)⟩
  · exact ⟨_, rfl, _, rfl, B3, y, g3.sub, hv, fun B4 H4 u g4 hu => k1 u _ _ g4 hu⟩
  obtain ⟨vs6, h60, h6b, h6h, h6a⟩ := h6.at_
  have P6 := P5.gr0 g6
  have f2 : ∀ r : Bond, (fun x : Bond => [V.str x.nm, V.str x.a, V.str x.b, vo x.lo, vo x.hi]) r = .str r.nm :: [V.str r.a, V.str r.b, vo r.lo, vo r.hi] := fun _ => rfl
  refine ⟨D, vs6, nmOf B6, rfl, SqL.of h6h, nmOf_all f2 g6.sub (fun _ => by show 4 < 900; decide) h6a, P6.t, fun H7 q7 vs7 lt perm srt hq7 => ?_⟩
  obtain ⟨rows, rperm, h7a⟩ := All2.perm perm h6a
  have er : rows = (netOf ls bs).bonds := sorted_uniq (by rw [kept_nms]; exact ok.bnd) rperm (nmOf_sort f2 h7a srt)
  subst er
  have P7 := P6.lam lt
  have P8 := P7.new hq7 (o := .lst vs7) (fun _ z => by cases z)
  have hM8 : (rL rBRow).rel (upd B6 q7 (.lst vs7)) (netOf ls bs).bonds (.ref q7) := ⟨q7, vs7, rfl, upd_same, All2.mono (ExW.new (P7.g.sub.none hq7)) h7a⟩
  have e58 : ExW B5 (upd B6 q7 (.lst vs7)) := g6.up.trans (ExW.new (P7.g.sub.none hq7))
  have hL8 := Rp.mono _ e58 hL4
  refine ⟨_, rfl, x, dx, _, rfl, P8.hx, (by show 1 < 1000; decide), ?_⟩
  rw [putF_new (ns := ["own_lamp_rows"]) rfl (by decide +kernel)]
  generalize upd B6 q7 (.lst vs7) = B8 at *
  generalize upd H7 q7 (.lst vs7) = H8 at *
  have P9 := P8.put (gs := [(("own_lamp_rows" : Str), V.ref p), (("own_bond_rows" : Str), V.ref q7)])
  have hx0 : H x ≠ none := by rw [hx]; exact fun z => nomatch z
  have hP0 : H Pt ≠ none := nP hT
  have lln' : (netOf ls bs).lamps.length ≤ 100000 := Nat.le_trans okn.len (by decide)
  have bln' : (netOf ls bs).bonds.length ≤ 100000 := Nat.le_trans okn.blen (by decide)
  -- self.own_lamps
  obtain ⟨_, vl, e, hvl, hvls⟩ := id hL8
  cases e
  refine ⟨_, rfl, x, dx, _, _, rfl, P9.hx, look_at (i := 0) (by show ([("own_lamp_rows" : Str), "own_bond_rows"]).Nodup; decide +kernel) rfl, p, rfl, ⟨_, SqL.of (P9.g.sub.lst hvl)⟩, fun D3 hD3 => lc_map (Rs := rLRow) (R := rStr) (fun r => r.1) (src_list hvl) P9.g.sub hD3 hvls (by rw [← hvls.len]; exact lln') (fun y v B3 H3 K1 hy hv g3 k1 => ?_) (fun B10 H10 g10 h10 => ?_)⟩
  · obtain ⟨ra, rfl, hra⟩ := id hv
    exact ⟨_, rfl, ra, _, _, _, rfl, rfl, SqT.of (K := K) (g3.sub.tup hra), atI_nat (j := 0) rfl, k1 _ _ _ (Gr.refl g3.sub) rfl⟩
  obtain ⟨vs10, h100, h10b, h10h, h10a⟩ := h10.at_
  have P10 := (P9.gr0 g10).pub hx0 hP0 (P9.g.was h100) h10b h10h
  have hN10 : (rL rStr).rel (upd B10 D3 (.lst vs10)) (netOf ls bs).names (.ref D3) := ⟨D3, vs10, rfl, upd_same, All2.mono (ExW.new h10b) h10a⟩
  have u10 := g10.up.trans (ExW.new (o := .lst vs10) h10b)
  have hL10 := Rp.mono _ u10 hL8
  have hM10 := Rp.mono _ u10 hM8
  clear u10
  refine ⟨_, rfl, x, dx, _, rfl, P10.hx, (by show 2 < 1000; decide), ?_⟩
  rw [putF_new (ns := ["own_lamp_rows", "own_bond_rows"]) rfl (by decide +kernel)]
  have P11 := P10.put (gs := [(("own_lamp_rows" : Str), V.ref p), (("own_bond_rows" : Str), V.ref q7), (("own_lamps" : Str), V.ref D3)])
  generalize upd B10 D3 (.lst vs10) = B11 at *
  -- self.own_ceilings
  obtain ⟨_, vl, e, hvl, hvls⟩ := id hL10
  cases e
  refine ⟨_, rfl, x, dx, _, _, rfl, P11.hx, look_at (i := 0) (by show ([("own_lamp_rows" : Str), "own_bond_rows", "own_lamps"]).Nodup; decide +kernel) rfl, p, rfl, ⟨_, SqL.of (P11.g.sub.lst hvl)⟩, fun D4 hD4 => dc_map (Rs := rLRow) (R := rEnd) (fun r => r.1) (fun r => r.2) (src_list hvl) P11.g.sub hD4 hvls (by rw [← hvls.len]; exact lln') okn.nd (fun y v B3 H3 K1 hy hv g3 k1 => ?_) (fun B12 H12 g12 h12 => ?_)⟩
  · obtain ⟨ra, rfl, hra⟩ := id hv
    have sx := SqT.of (K := K) (g3.sub.tup hra)
    exact ⟨_, rfl, ra, _, _, _, rfl, rfl, sx, atI_nat (j := 0) rfl, _, rfl, ra, _, _, _, rfl, rfl, sx, atI_nat (j := 1) rfl, k1 _ _ _ (Gr.refl g3.sub) rfl⟩
  rw [pair_eta] at h12
  obtain ⟨vs12, h120, h12b, h12h, h12a⟩ := h12.at_
  have P12 := (P11.gr0 g12).pub hx0 hP0 (P11.g.was h120) h12b h12h
  have u12 := g12.up.trans (ExW.new (o := .dK vs12) h12b)
  have hC12 : (rD rEnd).rel (upd B12 D4 (.dK vs12)) (netOf ls bs).lamps (.ref D4) := ⟨D4, vs12, rfl, .inl upd_same, DAll.mono (ExW.new h12b) h12a⟩
  have hN12 := Rp.mono _ u12 hN10
  have hL12 := Rp.mono _ u12 hL10
  have hM12 := Rp.mono _ u12 hM10
  refine ⟨_, rfl, x, dx, _, rfl, P12.hx, (by show 3 < 1000; decide), ?_⟩
  rw [putF_new (ns := ["own_lamp_rows", "own_bond_rows", "own_lamps"]) rfl (by decide +kernel)]
  have P13 := P12.put (gs := [(("own_lamp_rows" : Str), V.ref p), (("own_bond_rows" : Str), V.ref q7), (("own_lamps" : Str), V.ref D3), (("own_ceilings" : Str), V.ref D4)])
  clear u12
  generalize upd B12 D4 (.dK vs12) = B13 at *
  -- self.own_ends
  obtain ⟨_, vl, e, hvl, hvls⟩ := id hM12
  cases e
  refine ⟨_, rfl, x, dx, _, _, rfl, P13.hx, look_at (i := 1) (by show ([("own_lamp_rows" : Str), "own_bond_rows", "own_lamps", "own_ceilings"]).Nodup; decide +kernel) rfl, q7, rfl, ⟨_, SqL.of (P13.g.sub.lst hvl)⟩, fun D5 hD5 => dc_map (Rs := rBRow) (R := rPair) (fun (r : Bond) => r.nm) (fun r => (r.a, r.b)) (src_list hvl) P13.g.sub hD5 hvls (by rw [← hvls.len]; exact bln') okn.bnd (fun y v B3 H3 K1 hy hv g3 k1 => ?_) (fun B14 H14 g14 h14 => ?_)⟩
  · obtain ⟨ra, rfl, hra⟩ := id hv
    have sx := SqT.of (K := K) (g3.sub.tup hra)
    exact ⟨_, rfl, ra, _, _, _, rfl, rfl, sx, atI_nat (j := 0) rfl, _, rfl, ra, _, _, _, rfl, rfl, sx, atI_nat (j := 1) rfl, _, rfl, ra, _, _, _, rfl, rfl, sx, atI_nat (j := 2) rfl, (by show 2 ≤ sizeLine; decide), fun t ht => k1 _ _ _ (Gr.newP g3.sub ht) ⟨t, rfl, upd_same⟩⟩
  obtain ⟨vs14, h140, h14b, h14h, h14a⟩ := h14.at_
  have P14 := (P13.gr0 g14).pub hx0 hP0 (P13.g.was h140) h14b h14h
  have u14 := g14.up.trans (ExW.new (o := .dK vs14) h14b)
  have hE14 : (rD rPair).rel (upd B14 D5 (.dK vs14)) ((netOf ls bs).bonds.map fun (b : Bond) => (b.nm, (b.a, b.b))) (.ref D5) := ⟨D5, vs14, rfl, .inl upd_same, DAll.mono (ExW.new h14b) h14a⟩
  have hC14 := Rp.mono _ u14 hC12
  have hN14 := Rp.mono _ u14 hN12
  have hL14 := Rp.mono _ u14 hL12
  have hM14 := Rp.mono _ u14 hM12
  refine ⟨_, rfl, x, dx, _, rfl, P14.hx, (by show 4 < 1000; decide), ?_⟩
  rw [putF_new (ns := ["own_lamp_rows", "own_bond_rows", "own_lamps", "own_ceilings"]) rfl (by decide +kernel)]
  have P15 := P14.put (gs := [(("own_lamp_rows" : Str), V.ref p), (("own_bond_rows" : Str), V.ref q7), (("own_lamps" : Str), V.ref D3), (("own_ceilings" : Str), V.ref D4), (("own_ends" : Str), V.ref D5)])
  clear u14
  generalize upd B14 D5 (.dK vs14) = B15 at *
  -- self.own_spans
  obtain ⟨_, vl, e, hvl, hvls⟩ := id hM14
  cases e
  have okE' : ∀ b ∈ (netOf ls bs).bonds, isE b.lo = true ∧ isE b.hi = true ∧ okE b.lo b.hi = true := fun b hb => by
    obtain ⟨c, hc, rfl⟩ := List.mem_map.mp (netOf_bonds.mem_iff.mp hb)
    have := ok.bnum c hc
    unfold kept
    split <;> exact this
  refine ⟨_, rfl, x, dx, _, _, rfl, P15.hx, look_at (i := 1) (by show ([("own_lamp_rows" : Str), "own_bond_rows", "own_lamps", "own_ceilings", "own_ends"]).Nodup; decide +kernel) rfl, q7, rfl, ⟨_, SqL.of (P15.g.sub.lst hvl)⟩, fun D6 hD6 => dc_map (Rs := rBRow) (R := rSpan K) (fun (r : Bond) => r.nm) (fun r => (r.lo, r.hi)) (src_list hvl) P15.g.sub hD6 hvls (by rw [← hvls.len]; exact bln') okn.bnd (fun y v B3 H3 K1 hy hv g3 k1 => ?_) (fun B16 H16 g16 h16 => ?_)⟩
  · obtain ⟨ra, rfl, hra⟩ := id hv
    have sx := SqT.of (K := K) (g3.sub.tup hra)
    have hb := okE' y hy
    refine ⟨_, rfl, ra, _, _, _, rfl, rfl, sx, atI_nat (j := 0) rfl, _, rfl, ra, _, _, _, rfl, rfl, sx, atI_nat (j := 3) rfl, _, rfl, ra, _, _, _, rfl, rfl, sx, atI_nat (j := 4) rfl, fun z dz hz hdz ne => ⟨_, _, _, rfl, z, dz, y.lo, y.hi, rfl, upd_same, rfl, rfl, hb.1, hb.2.1, hb.2.2, rfl, ?_⟩⟩
    rw [upd_upd]
    exact k1 _ _ _ (Gr.made g3.sub hz hdz ne) ⟨z, dz, rfl, upd_same⟩
  obtain ⟨vs16, h160, h16b, h16h, h16a⟩ := h16.at_
  have P16 := (P15.gr0 g16).pub hx0 hP0 (P15.g.was h160) h16b h16h
  have u16 := g16.up.trans (ExW.new (o := .dK vs16) h16b)
  have hS16 : (rD (rSpan K)).rel (upd B16 D6 (.dK vs16)) ((netOf ls bs).bonds.map fun (b : Bond) => (b.nm, (b.lo, b.hi))) (.ref D6) := ⟨D6, vs16, rfl, .inl upd_same, DAll.mono (ExW.new h16b) h16a⟩
  have hE16 := Rp.mono _ u16 hE14
  have hC16 := Rp.mono _ u16 hC14
  have hN16 := Rp.mono _ u16 hN14
  have hL16 := Rp.mono _ u16 hL14
  have hM16 := Rp.mono _ u16 hM14
  refine ⟨_, rfl, x, dx, _, rfl, P16.hx, (by show 5 < 1000; decide), ?_⟩
  rw [putF_new (ns := ["own_lamp_rows", "own_bond_rows", "own_lamps", "own_ceilings", "own_ends"]) rfl (by decide +kernel)]
  have P17 := P16.put (gs := [(("own_lamp_rows" : Str), V.ref p), (("own_bond_rows" : Str), V.ref q7), (("own_lamps" : Str), V.ref D3), (("own_ceilings" : Str), V.ref D4), (("own_ends" : Str), V.ref D5), (("own_spans" : Str), V.ref D6)])
  clear u16
  generalize upd B16 D6 (.dK vs16) = B17 at *
  -- self.own_arms
  obtain ⟨_, vl, e, hvl, hvls⟩ := id hN16
  cases e
  refine ⟨_, rfl, x, dx, _, _, rfl, P17.hx, look_at (i := 2) (by show ([("own_lamp_rows" : Str), "own_bond_rows", "own_lamps", "own_ceilings", "own_ends", "own_spans"]).Nodup; decide +kernel) rfl, D3, rfl, ⟨_, SqL.of (P17.g.sub.lst hvl)⟩, fun D7 hD7 => dc_map (Rs := rStr) (R := rU) (fun y => y) (fun _ => ()) (src_list hvl) P17.g.sub hD7 hvls (by rw [← hvls.len]; have := okn.lt10; omega) (by rw [List.map_id']; exact okn.nd) (fun y v B3 H3 K1 hy hv g3 k1 => ?_) (fun B18 H18 g18 h18 => ?_)⟩
  · obtain rfl : v = .str y := hv
    have x3 : H3 x = _ := g3.keep x _ (fun z => nomatch z) P17.hb P17.hx
    exact ⟨_, rfl, _, rfl, _, rfl, x, dx, _, _, rfl, x3, look_at (i := 1) (by show ([("own_lamp_rows" : Str), "own_bond_rows", "own_lamps", "own_ceilings", "own_ends", "own_spans"]).Nodup; decide +kernel) rfl, _, _, rfl, B3, y, (netOf ls bs).bonds, g3.sub, rfl, Rp.mono _ g3.up hM16, Nat.le_trans okn.blen (by decide), fun B4 H4 v4 g4 => k1 _ _ _ g4 trivial⟩
  obtain ⟨vs18, h180, h18b, h18h, _⟩ := h18.at_
  have P18 := P17.gr0 g18
  refine ⟨_, rfl, x, dx, _, rfl, P18.hx, (by show 6 < 1000; decide), ?_⟩
  rw [putF_new (ns := ["own_lamp_rows", "own_bond_rows", "own_lamps", "own_ceilings", "own_ends", "own_spans"]) rfl (by decide +kernel)]
  have P19 := P18.put (gs := netF (V.ref p) (V.ref q7) (V.ref D3) (V.ref D4) (V.ref D5) (V.ref D6) (V.ref D7))
  exact q B18 _ _ _ _ _ _ _ _ P19.g P19.t P19.hb P19.hP P19.hx (Rp.mono _ g18.up hL16) (Rp.mono _ g18.up hM16) (Rp.mono _ g18.up hN16) (Rp.mono _ g18.up hC16) (Rp.mono _ g18.up hE16) (Rp.mono _ g18.up hS16)
end
end OB

/-! ## Q1 -/
set_option maxHeartbeats 4000000
namespace OB
open PySem PySem.Spec PyProof.Rows L2
/-! ### the store -/
abbrev stoL (c : Addr) (i1 i2 i3 i4 i5 i6 : Int) : List V := [.ref c, .int i1, .int i2, .int i3, .int i4, .int i5, .int i6]
structure StoOk (B : Hp) (c : Addr) (i1 i2 i3 i4 i5 i6 : Int) : Prop where
  cells : ∃ cs, (rL rInt).rel B cs (.ref c)
  h1 : 0 ≤ i1
  h2 : 0 ≤ i2
  h3 : 0 ≤ i3
  h5 : 0 ≤ i5 ∧ i5 < 2147483647
  h6 : 0 ≤ i6 ∧ i6 < 2147483399
def Store (B H : Hp) (st : Addr) : Prop := B st = none ∧ ∃ c i1 i2 i3 i4 i5 i6, H st = some (.lst (stoL c i1 i2 i3 i4 i5 i6)) ∧ StoOk B c i1 i2 i3 i4 i5 i6
theorem StoOk.mono {B B' : Hp} {c : Addr} {i1 i2 i3 i4 i5 i6 : Int} (s : StoOk B c i1 i2 i3 i4 i5 i6) (e : ExW B B') : StoOk B' c i1 i2 i3 i4 i5 i6 := by
  obtain ⟨⟨cs, h⟩, h1, h2, h3, h5, h6⟩ := s
  exact ⟨⟨cs, Rp.mono _ e h⟩, h1, h2, h3, h5, h6⟩
theorem Store.keep {S : List Addr} {B H B' H' : Hp} {st : Addr} (s : Store B H st) (g : Gr S B H B' H') (h : st ∉ S) : Store B' H' st := by
  obtain ⟨b, c, i1, i2, i3, i4, i5, i6, h1, ok⟩ := s
  exact ⟨g.new st b (by rw [h1]; exact fun z => nomatch z), c, i1, i2, i3, i4, i5, i6, g.keep st _ h b h1, ok.mono g.up⟩
theorem Store.keep0 {B H B' H' : Hp} {st : Addr} (s : Store B H st) (g : Gr [] B H B' H') : Store B' H' st := s.keep g (fun z => nomatch z)
section
variable {P : Program} {w : World} {K : PySem.W.Frag} {mg : Str → Option Value} {base : Heap}
def spStir : Sp := sp2 fun a b H Q => ∃ B st c, ExW B H ∧ Store B H st ∧ a = .ref st ∧ b = .int c ∧ ∀ H', Gr [st] B H B H' → Store B H' st → Q .non H'
/-! ### _law_stir -/
abbrev F__law_stir (P : Program) (w : World) (K : PySem.W.Frag) (mg : Str → Option Value) (base : Heap) : Prop := Fn P w K mg base CX0 1 "_law_stir" ["_law_store_here", "_law_cell"] [] spStir
abbrev N__law_stir : List Str := ["_law_store_here", "_law_cell", "_law_one", "_law_two"]
theorem sc__law_stir : FnScope N__law_stir ["_law_store_here", "_law_cell"] (defScope (top 74)) := ⟨rfl, rfl, rfl, by decide +kernel, rfl, by decide +kernel, by decide +kernel⟩
theorem ok__law_stir (T : TX K mg) (D : DefAt K mg "_law_stir" (top 74) [])   : F__law_stir P w K mg base := by
  refine fn_ok D sc__law_stir (by decide +kernel) (fun _ _ _ _ _ _ us hl => match us, hl with | [_, _], _ => rfl) (fun vs H Q E h => len2 h) (fun f cdv A outer s H vs Q E hr h => ?_)
  have nd := sc__law_stir.nd
  obtain ⟨v0, v1, rfl, h⟩ := h
  refine ⟨_, (pss_cons (ps_asg (pe_op op_add (pe_callTy call_int1 (by rfl) T.int bt_int (pa_cons (pe_ix (kx_list K) (pv 0) pe_int (fun _ _ => rfl)) pa_nil)) pe_int) (pg_sub (pv 0) pe_int set_list))
      (pss_cons (ps_set (i := 2) nd rfl (Or.inl rfl) (pe_op op_add (pe_op op_add (pe_op op_mul (pe_callTy call_int1 (by rfl) T.int bt_int (pa_cons (pe_ix (kx_list K) (pv 0) pe_int (fun _ _ => rfl)) pa_nil)) pe_int) (pe_op op_mod (pe_callTy call_int1 (by rfl) T.int bt_int (pa_cons (pv 1) pa_nil)) pe_int)) (pe_callTy call_int1 (by rfl) T.int bt_int (pa_cons (pe_ix (kx_list K) (pv 0) pe_int (fun _ _ => rfl)) pa_nil))))
      (pss_cons (ps_asg (pe_op op_mod (pe_callTy call_int1 (by rfl) T.int bt_int (pa_cons (pv 2) pa_nil)) pe_int) (pg_sub (pv 0) pe_int set_list))
      (pss_cons (ps_set (i := 3) nd rfl (Or.inl rfl) (pe_op op_add (pe_op op_add (pe_op op_add (pe_op op_mul (pe_callTy call_int1 (by rfl) T.int bt_int (pa_cons (pe_ix (kx_list K) (pv 0) pe_int (fun _ _ => rfl)) pa_nil)) pe_int) (pe_op op_mul (pe_callTy call_int1 (by rfl) T.int bt_int (pa_cons (pe_ix (kx_list K) (pv 0) pe_int (fun _ _ => rfl)) pa_nil)) pe_int)) (pe_op op_mod (pe_callTy call_int1 (by rfl) T.int bt_int (pa_cons (pv 1) pa_nil)) pe_int)) (pe_callTy call_int1 (by rfl) T.int bt_int (pa_cons (pe_ix (kx_list K) (pv 0) pe_int (fun _ _ => rfl)) pa_nil))))
      (pss_one (ps_asg (pe_op op_mod (pe_callTy call_int1 (by rfl) T.int bt_int (pa_cons (pv 3) pa_nil)) pe_int) (pg_sub (pv 0) pe_int set_list))))))), ?_⟩
  obtain ⟨B, st, cell, hB, ⟨bst, c, i1, i2, i3, i4, i5, i6, hst, ok⟩, rfl, rfl, q⟩ := h
  obtain ⟨hc, h1, h2, h3, h5, h6⟩ := ok
  have s0 := SqL.of (K := K) hst
  refine ⟨_, rfl, st, _, _, _, rfl, rfl, s0, atI_nat (j := 4) rfl, .inl ⟨_, rfl, _, _, rfl, rfl, _, rfl, st, _, _, 4, rfl, rfl, hst, rfl, ?_⟩⟩
  have hst1 : upd H st (.lst (stoL c i1 i2 i3 (i4 + 1) i5 i6)) st = some (.lst (stoL c i1 i2 i3 (i4 + 1) i5 i6)) := upd_same
  have s1 := SqL.of (K := K) hst1
  refine ⟨_, rfl, st, _, _, _, rfl, rfl, s1, atI_nat (j := 5) rfl, .inl ⟨_, rfl, _, _, rfl, rfl, .inl ⟨by omega, by omega⟩, _, rfl, .inl ⟨_, rfl, _, _, rfl, rfl, (by show (0 : Int) < 2147483647; decide), _, _, rfl, rfl, _, rfl, st, _, _, _, rfl, rfl, s1, atI_nat (j := 4) rfl, .inl ⟨_, rfl, _, _, rfl, rfl, ?_⟩⟩⟩⟩
  refine ⟨_, rfl, .inl ⟨_, rfl, _, _, rfl, rfl, (by show (0 : Int) < 2147483647; decide), _, rfl, st, _, _, 5, rfl, rfl, hst1, rfl, ?_⟩⟩
  rw [upd_upd]
  show tSeq _ _ _ _ (upd H st (.lst (stoL c i1 i2 i3 (i4 + 1) ((i5 * 48271 + cell % 2147483647 + (i4 + 1)) % 2147483647) i6)))
  generalize e5 : (i5 * 48271 + cell % 2147483647 + (i4 + 1)) % 2147483647 = j5
  have hj5 : 0 ≤ j5 ∧ j5 < 2147483647 := by
    rw [← e5]
    exact ⟨Int.emod_nonneg _ (by decide), Int.emod_lt_of_pos _ (by decide)⟩
  have hst2 : upd H st (.lst (stoL c i1 i2 i3 (i4 + 1) j5 i6)) st = some (.lst (stoL c i1 i2 i3 (i4 + 1) j5 i6)) := upd_same
  have s2 := SqL.of (K := K) hst2
  refine ⟨_, rfl, st, _, _, _, rfl, rfl, s2, atI_nat (j := 6) rfl, .inl ⟨_, rfl, _, _, rfl, rfl, .inl ⟨by omega, by omega⟩, _, rfl, st, _, _, _, rfl, rfl, s2, atI_nat (j := 5) rfl, .inl ⟨_, rfl, _, _, rfl, rfl, .inl ⟨by omega, by omega⟩, _, _, rfl, rfl, ?_⟩⟩⟩
  refine ⟨_, rfl, .inl ⟨_, rfl, _, _, rfl, rfl, (by show (0 : Int) < 2147483399; decide), _, _, rfl, rfl, _, rfl, st, _, _, _, rfl, rfl, s2, atI_nat (j := 4) rfl, .inl ⟨_, rfl, _, _, rfl, rfl, ?_⟩⟩⟩
  refine ⟨_, rfl, .inl ⟨_, rfl, _, _, rfl, rfl, (by show (0 : Int) < 2147483399; decide), _, rfl, st, _, _, 6, rfl, rfl, hst2, rfl, ?_⟩⟩
  rw [upd_upd]
  show Q .non (upd H st (.lst (stoL c i1 i2 i3 (i4 + 1) j5 ((i6 * 40692 + j5 * 16807 + cell % 2147483399 + (i4 + 1)) % 2147483399))))
  generalize e6 : (i6 * 40692 + j5 * 16807 + cell % 2147483399 + (i4 + 1)) % 2147483399 = j6
  have hj6 : 0 ≤ j6 ∧ j6 < 2147483399 := by
    rw [← e6]
    exact ⟨Int.emod_nonneg _ (by decide), Int.emod_lt_of_pos _ (by decide)⟩
  exact q _ ((Gr.refl hB).mut (.inr (by simp)) bst) ⟨bst, c, i1, i2, i3, i4 + 1, j5, j6, upd_same, hc, h1, h2, h3, hj5, hj6⟩
/-- a number that was drawn -/
def Drawn1 (B H : Hp) (st : Addr) (m : Int) (Q : VK) : Prop := ∀ H' r, Gr [st] B H B H' → Store B H' st → 0 ≤ r → r < m → Q (.int r) H'
def max1 (m : Int) : Int := if m > 1 then m else 1
theorem max1_le (m : Int) : 1 ≤ max1 m := by unfold max1; split <;> omega
theorem max1_lt {m : Int} (h : m < 2 ^ 64) : max1 m < 2 ^ 64 := by unfold max1; split <;> omega
def spLTake : Sp := sp2 fun a b H Q => ∃ (B : Hp) (st : Addr) (m : Int), ExW B H ∧ Store B H st ∧ a = .ref st ∧ b = .int m ∧ m < 2 ^ 64 ∧ Drawn1 B H st (max1 m) Q
abbrev tInt (t : TE) : TE := tCB (fun xs H Q => (∃ i, xs = [V.int i] ∧ Q (V.int i) H) ∨ ∃ k, xs = [V.bl k] ∧ Q (V.int (if k = true then 1 else 0)) H) (tCons t tNil)
theorem take_tail {B H : Hp} {st : Addr} {M : Int} {D : Ends} {z2 z3 z4 : Option V} (hB : ExW B H) (sto : Store B H st) (hM : 1 ≤ M) (hM2 : M < 2 ^ 64) (q : Drawn1 B H st M D.rt) :
    (tSeq (tAsg (tInt (tOp (rIxL K) (tVar 0) (tC (V.int 2)))) (gName 4))
      (tSeq (tIfS (tTest (tOp (rI0 fun i j => V.bl (decide (j < i))) (tVar 4) (tC (V.int 0))))
          (tSeq (tAsg (tOp (rI CDivW fun i j => V.int (i / j)) (tVar 4) (tVar 1)) (gSub (tVar 0) (tC (V.int 2)) rSetL))
            (tRet (tOp (rI (fun x j => 0 < j) fun i j => V.int (i % j)) (tInt (tVar 4)) (tVar 1)))) tNext)
        (tSeq (tDrop (tCall spStir [] E0 (tCons (tVar 0) (tCons (tC (V.int 0)) tNil))))
          (tSeq (tAsg (tCB (fun xs H Q => ∃ i j, xs = [V.int i, V.int j] ∧ Q (V.int (if j > i then j else i)) H) (tCons (tC (V.int 0)) (tCons (tOp (rI0 fun i j => V.int (i - j)) (tInt (tOp (rIxL K) (tVar 0) (tC (V.int 3)))) (tC (V.int 1))) tNil))) (gSub (tVar 0) (tC (V.int 3)) rSetL))
            (tRet (tOp (rI (fun x j => 0 < j) fun i j => V.int (i % j)) (tInt (tOp (rI0 fun i j => V.int (i + j)) (tOp (rI CMul fun i j => V.int (i * j)) (tInt (tOp (rIxL K) (tVar 0) (tC (V.int 5)))) (tC (V.int 2147483399))) (tInt (tOp (rIxL K) (tVar 0) (tC (V.int 6)))))) (tVar 1))))))) D [some (.ref st), some (.int M), z2, z3, z4] H := by
  obtain ⟨bst, c, i1, i2, i3, i4, i5, i6, hst, hc, h1, h2, h3, h5, h6⟩ := id sto
  have s0 := SqL.of (K := K) hst
  have divW : CDivW i2 M := wide_div (b := 64) (by omega) (by omega) (by decide) (by decide)
  refine ⟨_, rfl, st, _, _, _, rfl, rfl, s0, atI_nat (j := 2) rfl, .inl ⟨_, rfl, ?_⟩⟩
  refine ⟨_, rfl, _, _, rfl, rfl, _, rfl, ?_⟩
  refine ite2 (fun e => ?_) (fun e => ?_)
  · have hst1 : upd H st (.lst (stoL c i1 (i2 / M) i3 i4 i5 i6)) st = some (.lst (stoL c i1 (i2 / M) i3 i4 i5 i6)) := upd_same
    refine ⟨_, rfl, _, rfl, _, _, rfl, rfl, divW, _, rfl, st, _, _, 2, rfl, rfl, hst, rfl, _, rfl, .inl ⟨_, rfl, _, rfl, _, _, rfl, rfl, by omega, ?_⟩⟩
    exact q _ _ ((Gr.refl hB).mut (.inr (by simp)) bst) ⟨bst, c, i1, i2 / M, i3, i4, i5, i6, hst1, hc, h1, Int.ediv_nonneg h2 (by omega), h3, h5, h6⟩ (Int.emod_nonneg _ (by omega)) (Int.emod_lt_of_pos _ (by omega))
  · refine ⟨_, rfl, _, _, rfl, B, st, 0, hB, sto, rfl, rfl, fun H1 g1 sto1 => ?_⟩
    obtain ⟨bst, c, i1, i2, i3, i4, i5, i6, hst, hc, h1, h2, h3, h5, h6⟩ := sto1
    have s1 := SqL.of (K := K) hst
    refine ⟨_, rfl, st, _, _, _, rfl, rfl, s1, atI_nat (j := 3) rfl, .inl ⟨_, rfl, _, _, rfl, rfl, _, _, rfl, _, rfl, st, _, _, 3, rfl, rfl, hst, rfl, ?_⟩⟩
    have h3' : 0 ≤ (if i3 - 1 > 0 then i3 - 1 else 0) := by split <;> omega
    generalize (if i3 - 1 > 0 then i3 - 1 else 0) = j3 at *
    have hst2 : upd H1 st (.lst (stoL c i1 i2 j3 i4 i5 i6)) st = some (.lst (stoL c i1 i2 j3 i4 i5 i6)) := upd_same
    have s2 := SqL.of (K := K) hst2
    refine ⟨_, rfl, st, _, _, _, rfl, rfl, s2, atI_nat (j := 5) rfl, .inl ⟨_, rfl, _, _, rfl, rfl, .inl ⟨by omega, by omega⟩, _, rfl, st, _, _, _, rfl, rfl, s2, atI_nat (j := 6) rfl, .inl ⟨_, rfl, _, _, rfl, rfl, .inl ⟨_, rfl, _, rfl, _, _, rfl, rfl, by omega, ?_⟩⟩⟩⟩
    exact q _ _ (g1.mut (.inr (by simp)) bst) ⟨bst, c, i1, i2, j3, i4, i5, i6, hst2, hc, h1, h2, h3', h5, h6⟩ (Int.emod_nonneg _ (by omega)) (Int.emod_lt_of_pos _ (by omega))
/-! ### _law_take -/
abbrev F__law_take (P : Program) (w : World) (K : PySem.W.Frag) (mg : Str → Option Value) (base : Heap) : Prop := Fn P w K mg base CX0 2 "_law_take" ["_law_store_here", "_law_many"] [] spLTake
abbrev N__law_take : List Str := ["_law_store_here", "_law_many", "_law_cells", "_law_cell", "_law_rest"]
theorem sc__law_take : FnScope N__law_take ["_law_store_here", "_law_many"] (defScope (top 75)) := ⟨rfl, rfl, rfl, by decide +kernel, rfl, by decide +kernel, by decide +kernel⟩
theorem ok__law_take (T : TX K mg) (D : DefAt K mg "_law_take" (top 75) []) (c__law_stir : F__law_stir P w K mg base)  : F__law_take P w K mg base := by
  refine fn_ok D sc__law_take (by decide +kernel) (fun _ _ _ _ _ _ us hl => match us, hl with | [_, _], _ => rfl) (fun vs H Q E h => len2 h) (fun f cdv A outer s H vs Q E hr h => ?_)
  have nd := sc__law_take.nd
  obtain ⟨v0, v1, rfl, h⟩ := h
  refine ⟨_, (pss_cons (ps_set (i := 1) nd rfl (Or.inl rfl) (pe_callB (call_max2 rfl) (by rfl) T.max bt_max (pa_cons pe_int (pa_cons (pe_callTy call_int1 (by rfl) T.int bt_int (pa_cons (pv 1) pa_nil)) pa_nil))))
      (pss_cons (ps_set (i := 2) nd rfl (Or.inl rfl) (pe_ix (kx_list K) (pv 0) pe_int (fun _ _ => rfl)))
      (pss_cons (ps_if (PW.pt (pw_and (pt_cmpR op_eq (pe_callTy call_int1 (by rfl) T.int bt_int (pa_cons (pe_ix (kx_list K) (pv 0) pe_int (fun _ _ => rfl)) pa_nil)) pe_int (nomark _)) (pw_and (pt_cmpR op_eq (pe_callTy call_int1 (by rfl) T.int bt_int (pa_cons (pe_ix (kx_list K) (pv 0) pe_int (fun _ _ => rfl)) pa_nil)) pe_int (nomark _)) (pw_and1 (pt_cmpR op_lt (pe_callTy call_int1 (by rfl) T.int bt_int (pa_cons (pe_ix (kx_list K) (pv 0) pe_int (fun _ _ => rfl)) pa_nil)) (pe_callB (k_len K) (by rfl) T.len bt_len (pa_cons (pv 2) pa_nil)) (nomark _)))))) (pss_cons (ps_set (i := 3) nd rfl (Or.inl rfl) (pe_callTy call_int1 (by rfl) T.int bt_int (pa_cons (pe_ix (kx_list K) (pv 2) (pe_callTy call_int1 (by rfl) T.int bt_int (pa_cons (pe_ix (kx_list K) (pv 0) pe_int (fun _ _ => rfl)) pa_nil)) (fun _ _ => rfl)) pa_nil)))
      (pss_cons (ps_asg (pe_op op_add (pe_callTy call_int1 (by rfl) T.int bt_int (pa_cons (pe_ix (kx_list K) (pv 0) pe_int (fun _ _ => rfl)) pa_nil)) pe_int) (pg_sub (pv 0) pe_int set_list))
      (pss_cons (ps_asg pe_int (pg_sub (pv 0) pe_int set_list))
      (pss_cons (ps_expr (pe_fn c__law_stir hr (by rfl) (pa_cons (pv 0) (pa_cons (pv 3) pa_nil))))
      (pss_one (ps_if (pt_cmpR op_ge (pv 3) (pe_op op_pow pe_int pe_int) (nomark _)) (pss_cons (ps_asg (pv 3) (pg_sub (pv 0) pe_int set_list))
      (pss_one (ps_asg pe_int (pg_sub (pv 0) pe_int set_list)))) pss_nil)))))) pss_nil)
      (pss_cons (ps_set (i := 4) nd rfl (Or.inl rfl) (pe_callTy call_int1 (by rfl) T.int bt_int (pa_cons (pe_ix (kx_list K) (pv 0) pe_int (fun _ _ => rfl)) pa_nil)))
      (pss_cons (ps_if (pt_cmpR op_gt (pv 4) pe_int (nomark _)) (pss_cons (ps_asg (pe_op op_fdivW (pv 4) (pv 1)) (pg_sub (pv 0) pe_int set_list))
      (pss_one (ps_ret (pe_op op_mod (pe_callTy call_int1 (by rfl) T.int bt_int (pa_cons (pv 4) pa_nil)) (pv 1))))) pss_nil)
      (pss_cons (ps_expr (pe_fn c__law_stir hr (by rfl) (pa_cons (pv 0) (pa_cons pe_int pa_nil))))
      (pss_cons (ps_asg (pe_callB (call_max2 rfl) (by rfl) T.max bt_max (pa_cons pe_int (pa_cons (pe_op op_sub (pe_callTy call_int1 (by rfl) T.int bt_int (pa_cons (pe_ix (kx_list K) (pv 0) pe_int (fun _ _ => rfl)) pa_nil)) pe_int) pa_nil))) (pg_sub (pv 0) pe_int set_list))
      (pss_one (ps_ret (pe_op op_mod (pe_callTy call_int1 (by rfl) T.int bt_int (pa_cons (pe_op op_add (pe_op op_mul (pe_callTy call_int1 (by rfl) T.int bt_int (pa_cons (pe_ix (kx_list K) (pv 0) pe_int (fun _ _ => rfl)) pa_nil)) pe_int) (pe_callTy call_int1 (by rfl) T.int bt_int (pa_cons (pe_ix (kx_list K) (pv 0) pe_int (fun _ _ => rfl)) pa_nil))) pa_nil)) (pv 1))))))))))), ?_⟩
  obtain ⟨B, st, m, hB, sto, rfl, rfl, hm, q⟩ := h
  have hM := max1_le m
  have hM2 := max1_lt hm
  refine ⟨_, rfl, .inl ⟨_, rfl, _, _, rfl, ?_⟩⟩
  show gName 1 (.int (max1 m)) _ _ _
  generalize max1 m = M at *
  obtain ⟨bst, c, i1, i2, i3, i4, i5, i6, hst, ⟨cs, hc⟩, h1, h2, h3, h5, h6⟩ := id sto
  have s0 := SqL.of (K := K) hst
  obtain ⟨_, cvs, e, hcv, hcvs⟩ := id hc
  cases e
  have sc := SqL.of (K := K) (hB.lst hcv)
  refine ⟨_, rfl, st, _, _, _, rfl, rfl, s0, atI_nat (j := 0) rfl, ?_⟩
  refine ⟨_, rfl, st, _, _, _, rfl, rfl, s0, atI_nat (j := 2) rfl, .inl ⟨_, rfl, rfl, _, rfl, ?_⟩⟩
  refine ite2 (fun e1 => ?_) (fun e1 => take_tail hB sto hM hM2 q)
  refine ⟨_, rfl, st, _, _, _, rfl, rfl, s0, atI_nat (j := 3) rfl, .inl ⟨_, rfl, rfl, _, rfl, ?_⟩⟩
  refine ite2 (fun e2 => ?_) (fun e2 => take_tail hB sto hM hM2 q)
  refine ⟨_, rfl, st, _, _, _, rfl, rfl, s0, atI_nat (j := 1) rfl, .inl ⟨_, rfl, _, rfl, c, _, rfl, .inl sc, _, _, rfl, rfl, _, rfl, ?_⟩⟩
  refine ite2 (fun e3 => ?_) (fun e3 => take_tail hB sto hM hM2 q)
  have e3 : i1 < (cvs.length : Int) := of_decide_eq_true e3
  obtain ⟨k, rfl⟩ := Int.eq_ofNat_of_zero_le h1
  have hk : k < cvs.length := by omega
  obtain ⟨cell, hcell, rc⟩ := hcvs.at_ (List.getElem?_eq_getElem hk)
  have rc : cvs[k] = .int cell := rc
  refine ⟨_, rfl, _, rfl, st, _, _, _, rfl, rfl, s0, atI_nat (j := 1) rfl, .inl ⟨_, rfl, c, _, _, _, rfl, rfl, sc, atI_nat (j := k) (by rw [List.getElem?_eq_getElem hk, rc]), .inl ⟨_, rfl, ?_⟩⟩⟩
  refine ⟨_, rfl, st, _, _, _, rfl, rfl, s0, atI_nat (j := 1) rfl, .inl ⟨_, rfl, _, _, rfl, rfl, _, rfl, st, _, _, 1, rfl, rfl, hst, rfl, ?_⟩⟩
  have hst1 : upd H st (.lst (stoL c (k + 1) i2 i3 i4 i5 i6)) st = some (.lst (stoL c (k + 1) i2 i3 i4 i5 i6)) := upd_same
  refine ⟨_, rfl, st, _, _, 3, rfl, rfl, hst1, rfl, ?_⟩
  rw [upd_upd]
  show tSeq _ _ _ _ (upd H st (.lst (stoL c (k + 1) i2 3 i4 i5 i6)))
  have hst2 : upd H st (.lst (stoL c (k + 1) i2 3 i4 i5 i6)) st = some (.lst (stoL c (k + 1) i2 3 i4 i5 i6)) := upd_same
  have g2 : Gr [st] B H B (upd H st (.lst (stoL c (k + 1) i2 3 i4 i5 i6))) := (Gr.refl hB).mut (.inr (by simp)) bst
  have sto2 : Store B (upd H st (.lst (stoL c (k + 1) i2 3 i4 i5 i6))) st := ⟨bst, c, k + 1, i2, 3, i4, i5, i6, hst2, ⟨cs, hc⟩, by omega, h2, by decide, h5, h6⟩
  refine ⟨_, rfl, _, rfl, _, _, rfl, B, st, cell, g2.sub, sto2, rfl, rfl, fun H3 g3 sto3 => ?_⟩
  have G3 := g2.trans g3
  refine ⟨_, rfl, _, _, rfl, rfl, by constructor <;> (try constructor) <;> decide, _, _, rfl, rfl, _, rfl, ?_⟩
  have q3 : Drawn1 B H3 st M Q := fun H' r g s h1 h2 => q H' r (G3.trans g) s h1 h2
  refine ite2 (fun e4 => ?_) (fun e4 => take_tail G3.sub sto3 hM hM2 q3)
  have e4 := of_decide_eq_true e4
  obtain ⟨bst, c, i1, i2, i3, i4, i5, i6, hst, hc, h1, h2, h3, h5, h6⟩ := sto3
  refine ⟨_, rfl, _, rfl, st, _, _, 2, rfl, rfl, hst, rfl, ?_⟩
  have hst4 : upd H3 st (.lst (stoL c i1 cell i3 i4 i5 i6)) st = some (.lst (stoL c i1 cell i3 i4 i5 i6)) := upd_same
  refine ⟨_, rfl, st, _, _, 3, rfl, rfl, hst4, rfl, ?_⟩
  rw [upd_upd]
  have g5 : Gr [st] B H3 B (upd H3 st (.lst (stoL c i1 cell 0 i4 i5 i6))) := (Gr.refl G3.sub).mut (.inr (by simp)) bst
  refine take_tail (g5.sub) ⟨bst, c, i1, cell, 0, i4, i5, i6, upd_same, hc, h1, ?_, by decide, h5, h6⟩ hM hM2 fun H' r g s h1 h2 => q3 H' r (g5.trans g) s h1 h2
  exact Int.le_trans (by decide) e4
end
end OB

/-! ## Q2 -/
set_option maxHeartbeats 4000000
namespace OB
open PySem PySem.Spec PyProof.Rows L2
/-- an answer that was drawn -/
def RetD {α : Type} (R : Rp α) (x : α) (B H : Hp) (st : Addr) (Q : VK) : Prop := ∀ B' H' v, Gr [st] B H B' H' → Store B' H' st → R.rel B' x v → Q v H'
theorem RetD.go {α : Type} {R : Rp α} {x : α} {B H B1 H1 : Hp} {st : Addr} {Q : VK} (r : RetD R x B H st Q) (g : Gr [st] B H B1 H1) : RetD R x B1 H1 st Q := fun B' H' v g' s h => r B' H' v (g.trans g') s h
def rNat : Rp Nat := ⟨fun _ n v => v = .int (n : Int), fun _ h => h⟩
theorem nats2' {B : Hp} : ∀ l : List Nat, All2 (rNat.rel B) l (l.map fun (i : Nat) => V.int (i : Int))
  | [] => .nil
  | _ :: r => .cons rfl (nats2' r)
theorem nats2 {B : Hp} (n : Nat) : All2 (rNat.rel B) (List.range n) ((List.range n).map fun (i : Nat) => V.int (i : Int)) := nats2' _
theorem ixN_nat {n j : Nat} (h : j < n) : ixN n (j : Int) = some j := by
  unfold ixN
  rw [if_pos (by omega), if_pos (by omega)]
  simp
section
variable {P : Program} {w : World} {K : PySem.W.Frag} {mg : Str → Option Value} {base : Heap}
def spStore (K : PySem.W.Frag) : Sp := sp1 fun a H Q => ∃ (B : Hp) (s : Addr) (ns : List Int), ExW B H ∧ a = .ref s ∧ SqL K H s (ns.map V.int) ∧ ∀ B' H' p, Gr [] B H B' H' → Store B' H' p → H p = none → Q (.ref p) H'
/-! ### _law_store -/
abbrev F__law_store (P : Program) (w : World) (K : PySem.W.Frag) (mg : Str → Option Value) (base : Heap) : Prop := Fn P w K mg base CX0 1 "_law_store" ["_law_script"] [] (spStore K)
abbrev N__law_store : List Str := ["_law_script"]
theorem sc__law_store : FnScope N__law_store ["_law_script"] (defScope (top 73)) := ⟨rfl, rfl, rfl, by decide +kernel, rfl, by decide +kernel, by decide +kernel⟩
theorem ok__law_store (T : TX K mg) (D : DefAt K mg "_law_store" (top 73) [])   : F__law_store P w K mg base := by
  refine fn_ok D sc__law_store (by decide +kernel) (fun _ _ _ _ _ _ us hl => match us, hl with | [_], _ => rfl) (fun vs H Q E h => len1 h) (fun f cdv A outer s H vs Q E hr h => ?_)
  have nd := sc__law_store.nd
  obtain ⟨v0, rfl, h⟩ := h
  refine ⟨_, (pss_one (ps_ret (pe_lst (pa_cons (pe_callTy (k_list K) (by rfl) T.list bt_list (pa_cons (pv 0) pa_nil)) (pa_cons pe_int (pa_cons pe_int (pa_cons pe_int (pa_cons pe_int (pa_cons pe_int (pa_cons pe_int pa_nil)))))))))), ?_⟩
  obtain ⟨B, s, ns, hB, rfl, hs, q⟩ := h
  refine ⟨_, rfl, s, _, rfl, .inl hs, fun l hl => ⟨(by show 7 ≤ sizeLine; decide), fun p hp => ?_⟩⟩
  have g1 : Gr [] B H (upd B l (.lst (ns.map V.int))) (upd H l (.lst (ns.map V.int))) := Gr.newP hB hl
  have np : p ≠ l := fun z => by rw [z, upd_same] at hp; cases hp
  have hp0 : H p = none := g1.was hp
  refine q _ _ p (g1.trans (Gr.new_ g1.sub hp)) ⟨g1.sub.none hp, l, 0, 0, 0, 0, 1, 1, upd_same, ⟨ns, l, _, rfl, upd_same, ints2 ns⟩, by decide, by decide, by decide, by decide, by decide⟩ hp0
def spPick : Sp := sp2 fun a b H Q => ∃ B st l xs, ExW B H ∧ Store B H st ∧ a = .ref st ∧ b = .ref l ∧ B l = some (.lst xs) ∧ xs ≠ [] ∧ xs.length < 2 ^ 63 ∧ ∀ H' v, v ∈ xs → Gr [st] B H B H' → Store B H' st → Q v H'
/-! ### _law_pick -/
abbrev F__law_pick (P : Program) (w : World) (K : PySem.W.Frag) (mg : Str → Option Value) (base : Heap) : Prop := Fn P w K mg base CX0 3 "_law_pick" ["_law_store_here", "_law_items"] [] spPick
abbrev N__law_pick : List Str := ["_law_store_here", "_law_items"]
theorem sc__law_pick : FnScope N__law_pick ["_law_store_here", "_law_items"] (defScope (top 76)) := ⟨rfl, rfl, rfl, by decide +kernel, rfl, by decide +kernel, by decide +kernel⟩
theorem ok__law_pick (T : TX K mg) (D : DefAt K mg "_law_pick" (top 76) []) (c__law_take : F__law_take P w K mg base)  : F__law_pick P w K mg base := by
  refine fn_ok D sc__law_pick (by decide +kernel) (fun _ _ _ _ _ _ us hl => match us, hl with | [_, _], _ => rfl) (fun vs H Q E h => len2 h) (fun f cdv A outer s H vs Q E hr h => ?_)
  have nd := sc__law_pick.nd
  obtain ⟨v0, v1, rfl, h⟩ := h
  refine ⟨_, (pss_one (ps_ret (pe_ix (kx_list K) (pv 1) (pe_fn c__law_take hr (by rfl) (pa_cons (pv 0) (pa_cons (pe_callB (k_len K) (by rfl) T.len bt_len (pa_cons (pv 1) pa_nil)) pa_nil))) (fun _ _ => rfl)))), ?_⟩
  obtain ⟨B, st, l, xs, hB, sto, rfl, rfl, hl, hne, hlen, q⟩ := h
  have sl := SqL.of (K := K) (hB.lst hl)
  have hpos : 0 < xs.length := List.length_pos_iff.mpr hne
  refine ⟨_, rfl, _, rfl, _, rfl, l, _, rfl, .inl sl, _, _, rfl, B, st, _, hB, sto, rfl, rfl, by omega, fun H1 r g1 sto1 h0 h1 => ?_⟩
  have hr : r < xs.length := by
    unfold max1 at h1
    split at h1 <;> omega
  obtain ⟨k, rfl⟩ := Int.eq_ofNat_of_zero_le h0
  have hk : k < xs.length := by omega
  exact ⟨l, _, _, _, rfl, rfl, SqL.of (K := K) (g1.sub.lst hl), atI_nat (j := k) (List.getElem?_eq_getElem hk), q H1 _ (List.getElem_mem hk) g1 sto1⟩
def spShuffled : Sp := sp2 fun a b H Q => ∃ B st xs, ExW B H ∧ Store B H st ∧ a = .ref st ∧ (rL rStr).rel B xs b ∧ xs.length < 64 ∧ ∀ ys, ys.Perm xs → RetD (rL rStr) ys B H st Q
/-! ### _law_shuffled -/
abbrev F__law_shuffled (P : Program) (w : World) (K : PySem.W.Frag) (mg : Str → Option Value) (base : Heap) : Prop := Fn P w K mg base CX0 3 "_law_shuffled" ["_law_store_here", "_law_items"] [] spShuffled
abbrev N__law_shuffled : List Str := ["_law_store_here", "_law_items", "_law_mixed", "_law_k", "_law_j", "_law_held"]
theorem sc__law_shuffled : FnScope N__law_shuffled ["_law_store_here", "_law_items"] (defScope (top 77)) := ⟨rfl, rfl, rfl, by decide +kernel, rfl, by decide +kernel, by decide +kernel⟩
theorem ok__law_shuffled (T : TX K mg) (D : DefAt K mg "_law_shuffled" (top 77) []) (c__law_take : F__law_take P w K mg base)  : F__law_shuffled P w K mg base := by
  refine fn_ok D sc__law_shuffled (by decide +kernel) (fun _ _ _ _ _ _ us hl => match us, hl with | [_, _], _ => rfl) (fun vs H Q E h => len2 h) (fun f cdv A outer s H vs Q E hr h => ?_)
  have nd := sc__law_shuffled.nd
  obtain ⟨v0, v1, rfl, h⟩ := h
  refine ⟨_, (pss_cons (ps_set (i := 2) nd rfl (Or.inl rfl) (pe_callTy (k_list K) (by rfl) T.list bt_list (pa_cons (pv 1) pa_nil)))
      (pss_cons (ps_for PassesOwn.never rfl (pi_range1 (by rfl) T.range (pa_cons (pe_callB (k_len K) (by rfl) T.len bt_len (pa_cons (pv 2) pa_nil)) pa_nil)) (pg_name (i := 3) nd rfl (Or.inl rfl))
      (pss_cons (ps_set (i := 4) nd rfl (Or.inl rfl) (pe_op op_add (pv 3) (pe_fn c__law_take hr (by rfl) (pa_cons (pv 0) (pa_cons (pe_op op_sub (pe_callB (k_len K) (by rfl) T.len bt_len (pa_cons (pv 2) pa_nil)) (pv 3)) pa_nil)))))
      (pss_cons (ps_set (i := 5) nd rfl (Or.inl rfl) (pe_ix (kx_list K) (pv 2) (pv 3) (fun _ _ => rfl)))
      (pss_cons (ps_asg (pe_ix (kx_list K) (pv 2) (pv 4) (fun _ _ => rfl)) (pg_sub (pv 2) (pv 3) set_list))
      (pss_one (ps_asg (pv 5) (pg_sub (pv 2) (pv 4) set_list)))))))
      (pss_one (ps_ret (pv 2))))), ?_⟩
  obtain ⟨B, st, xs, hB, sto, rfl, hx, h64, q⟩ := h
  obtain ⟨l, vs, rfl, hl, hvs⟩ := id hx
  refine ⟨_, rfl, l, _, rfl, .inl (SqL.of (hB.lst hl)), fun p hp => ?_⟩
  have g0 : Gr [] B H B (upd H p (.lst vs)) := Gr.new_ hB hp
  have bp := hB.none hp
  have sto0 := sto.keep0 g0
  have hsp : st ≠ p := fun z => by
    obtain ⟨_, c, i1, i2, i3, i4, i5, i6, h1, _⟩ := sto
    rw [z, hp] at h1; cases h1
  have lvs : vs.length = xs.length := hvs.len.symm
  refine ⟨_, rfl, p, _, rfl, .inl (SqL.of upd_same), vs.length, rfl, by omega, by omega, ?_⟩
  rw [Int.toNat_natCast]
  have G0 : Gr [p, st] B (upd H p (.lst vs)) B (upd H p (.lst vs)) := Gr.refl g0.sub
  refine for_go (Rs := rNat) (fun i σ1 B1 H1 => (∃ z3 z4 z5, σ1 = [some (.ref st), some (.ref l), some (.ref p), z3, z4, z5]) ∧ Gr [p, st] B (upd H p (.lst vs)) B1 H1 ∧ Store B1 H1 st ∧ B1 p = none ∧ ∃ zs, H1 p = some (.lst zs) ∧ zs.Perm vs)
    src_rng (nats2 _) ⟨⟨_, _, _, rfl⟩, G0, sto0, bp, vs, upd_same, List.Perm.refl _⟩ (fun i σ1 B1 H1 h => ⟨h.2.1.up, h.2.1.sub⟩) (fun i y x σ1 B1 H1 hy hx h => ?_) (fun σ1 B1 H1 h => ?_)
  · obtain ⟨⟨z3, z4, z5, rfl⟩, g1, sto1, b1, zs, h1, pm⟩ := h
    obtain rfl : x = .int y := hx
    have hyn : y < vs.length := List.mem_range.mp (List.mem_of_getElem? hy)
    have lz : zs.length = vs.length := pm.length_eq
    have sz := SqL.of (K := K) h1
    refine ⟨_, rfl, _, rfl, _, rfl, p, _, rfl, .inl sz, _, rfl, _, _, rfl, rfl, _, _, rfl, B1, st, _, g1.sub, sto1, rfl, rfl, by omega, fun H2 r g2 sto2 hr0 hr1 => ?_⟩
    have hr : y + r < zs.length := by
      unfold max1 at hr1
      split at hr1 <;> omega
    obtain ⟨k, rfl⟩ := Int.eq_ofNat_of_zero_le hr0
    have hk : y + k < zs.length := by omega
    have hy' : y < zs.length := by omega
    have h2 : H2 p = some (.lst zs) := g2.keep p _ (by simp [hsp.symm]) b1 h1
    have b2 : B1 p = none := b1
    have s2 := SqL.of (K := K) h2
    refine ⟨_, _, rfl, rfl, _, rfl, _, rfl, p, _, _, _, rfl, rfl, s2, atI_nat (j := y) (List.getElem?_eq_getElem hy'), ?_⟩
    have ek : ((y : Int) + (k : Int)) = ((y + k : Nat) : Int) := by omega
    refine ⟨_, rfl, _, rfl, p, zs, (y : Int) + k, zs[y + k], rfl, rfl, s2, (by rw [ek]; exact atI_nat (List.getElem?_eq_getElem hk)), _, rfl, _, rfl, p, zs, y, y, rfl, rfl, h2, ixN_nat hy', ?_⟩
    have h3 : upd H2 p (.lst (zs.set y zs[y + k])) p = some (.lst (zs.set y zs[y + k])) := upd_same
    refine ⟨_, rfl, _, rfl, _, rfl, p, _, (y : Int) + k, y + k, rfl, rfl, h3, (by rw [ek]; exact ixN_nat (by rw [List.length_set]; exact hk)), ?_⟩
    rw [upd_upd]
    have g3 : Gr [p, st] B1 H1 B1 (upd H2 p (.lst ((zs.set y zs[y + k]).set (y + k) zs[y]))) := (g2.mono (by simp)).mut (.inr (by simp)) b1
    refine ⟨B1, ⟨_, _, _, rfl⟩, g1.trans g3, ?_, b1, _, upd_same, (List.set_set_perm hy' hk).trans pm⟩
    obtain ⟨bst, c, i1, i2, i3, i4, i5, i6, hst, ok⟩ := sto2
    exact ⟨bst, c, i1, i2, i3, i4, i5, i6, by rw [upd_ne hsp]; exact hst, ok⟩
  · obtain ⟨⟨z3, z4, z5, rfl⟩, g1, sto1, b1, zs, h1, pm⟩ := h
    have GA : Gr [st] B H B1 H1 := g0.any.fresh hp g1
    obtain ⟨ys, yp, ya⟩ := All2.perm pm hvs
    have sto2 : Store (upd B1 p (.lst zs)) H1 st := by
      obtain ⟨bst, c, i1, i2, i3, i4, i5, i6, hst, ok⟩ := sto1
      exact ⟨by rw [upd_ne hsp]; exact bst, c, i1, i2, i3, i4, i5, i6, hst, ok.mono (ExW.new b1)⟩
    exact ⟨_, rfl, q ys yp _ H1 _ (GA.pub hp b1 h1) sto2 ⟨p, zs, rfl, upd_same, All2.mono (GA.up.trans (ExW.new b1)) ya⟩⟩
def spSome : Sp := sp2 fun a b H Q => ∃ B st xs, ExW B H ∧ Store B H st ∧ a = .ref st ∧ (rL rStr).rel B xs b ∧ xs.length < 64 ∧ ∀ ys, ys.Sublist xs → RetD (rL rStr) ys B H st Q
/-! ### _law_some -/
abbrev F__law_some (P : Program) (w : World) (K : PySem.W.Frag) (mg : Str → Option Value) (base : Heap) : Prop := Fn P w K mg base CX0 3 "_law_some" ["_law_store_here", "_law_items"] [] spSome
abbrev N__law_some : List Str := ["_law_store_here", "_law_items", "_law_kind", "_law_only", "_law_chosen", "_law_k"]
theorem sc__law_some : FnScope N__law_some ["_law_store_here", "_law_items"] (defScope (top 78)) := ⟨rfl, rfl, rfl, by decide +kernel, rfl, by decide +kernel, by decide +kernel⟩
theorem ok__law_some (T : TX K mg) (D : DefAt K mg "_law_some" (top 78) []) (c__law_take : F__law_take P w K mg base)  : F__law_some P w K mg base := by
  refine fn_ok D sc__law_some (by decide +kernel) (fun _ _ _ _ _ _ us hl => match us, hl with | [_, _], _ => rfl) (fun vs H Q E h => len2 h) (fun f cdv A outer s H vs Q E hr h => ?_)
  have nd := sc__law_some.nd
  obtain ⟨v0, v1, rfl, h⟩ := h
  refine ⟨_, (pss_cons (ps_set (i := 2) nd rfl (Or.inl rfl) (pe_fn c__law_take hr (by rfl) (pa_cons (pv 0) (pa_cons pe_int pa_nil))))
      (pss_cons (ps_set (i := 3) nd rfl (Or.inl rfl) (pe_fn c__law_take hr (by rfl) (pa_cons (pv 0) (pa_cons (pe_callB (k_len K) (by rfl) T.len bt_len (pa_cons (pv 1) pa_nil)) pa_nil))))
      (pss_cons (ps_set (i := 4) nd rfl (Or.inl rfl) (pe_lst pa_nil))
      (pss_cons (ps_for PassesOwn.never rfl (pi_range1 (by rfl) T.range (pa_cons (pe_callB (k_len K) (by rfl) T.len bt_len (pa_cons (pv 1) pa_nil)) pa_nil)) (pg_name (i := 5) nd rfl (Or.inl rfl))
      (pss_one (ps_if (PW.pt (pw_or (PW.pt (pw_and (pt_cmpR op_lt (pv 2) pe_int (nomark _)) (pw_and1 (pt_cmpR op_eq (pe_fn c__law_take hr (by rfl) (pa_cons (pv 0) (pa_cons pe_int pa_nil))) pe_int (nomark _))))) (pw_or (pt_cmpR op_eq (pv 2) pe_int (nomark _)) (pw_or1 (PW.pt (pw_and (pt_cmpR op_eq (pv 2) pe_int (nomark _)) (pw_and1 (pt_cmpR op_eq (pv 5) (pv 3) (nomark _))))))))) (pss_one (ps_expr (pe_bm PySem.F.plainAttrs_list PySem.F.slot_list_append PySem.F.type_list_append mt_append (pv 4) (pa_cons (pe_ix (kx_list K) (pv 1) (pv 5) (fun _ _ => rfl)) pa_nil)))) pss_nil)))
      (pss_one (ps_ret (pv 4))))))), ?_⟩
  obtain ⟨B, st, xs, hB, sto, rfl, hx, h64, q⟩ := h
  obtain ⟨l, vs, rfl, hl, hvs⟩ := id hx
  have lvs : vs.length = xs.length := hvs.len.symm
  refine ⟨_, rfl, _, _, rfl, B, st, 6, hB, sto, rfl, rfl, by omega, fun H1 kind g1 sto1 hk0 hk1 => ?_⟩
  refine ⟨_, rfl, _, rfl, l, _, rfl, .inl (SqL.of (g1.sub.lst hl)), _, _, rfl, B, st, _, g1.sub, sto1, rfl, rfl, by omega, fun H2 only g2 sto2 _ _ => ?_⟩
  have G2 := g1.trans g2
  refine ⟨(by show 0 ≤ sizeLine; decide), fun p hp => ?_⟩
  have gp : Gr [st] B H B (upd H2 p (.lst [])) := G2.trans (Gr.new_ G2.sub hp)
  have hp0 := G2.was hp
  have o0 : Own rStr B (upd H2 p (.lst [])) p [] := Own.mk0 (G2.sub.none hp)
  have hsp : p ≠ st := fun z => by
    obtain ⟨_, c, i1, i2, i3, i4, i5, i6, h1, _⟩ := sto2
    rw [← z, hp] at h1; cases h1
  have sto3 : Store B (upd H2 p (.lst [])) st := by
    obtain ⟨b, c, i1, i2, i3, i4, i5, i6, h1, ok⟩ := sto2
    exact ⟨b, c, i1, i2, i3, i4, i5, i6, by rw [upd_ne hsp.symm]; exact h1, ok⟩
  refine ⟨_, rfl, l, _, rfl, .inl (SqL.of (gp.sub.lst hl)), vs.length, rfl, by omega, by omega, ?_⟩
  rw [Int.toNat_natCast]
  refine for_go (Rs := rNat) (fun i σ1 B3 H3 => (∃ z5, σ1 = [some (.ref st), some (.ref l), some (.int kind), some (.int only), some (.ref p), z5]) ∧ Gr [p, st] B (upd H2 p (.lst [])) B3 H3 ∧ Store B3 H3 st ∧ ∃ ys, ys.Sublist (xs.take i) ∧ Own rStr B3 H3 p ys)
    src_rng (nats2 _) ⟨⟨_, rfl⟩, Gr.refl gp.sub, sto3, [], by simp, o0⟩ (fun i σ1 B1 H1 h => ⟨h.2.1.up, h.2.1.sub⟩) (fun i y x σ1 B3 H3 hy hx h => ?_) (fun σ1 B3 H3 h => ?_)
  · obtain ⟨⟨z5, rfl⟩, g3, sto3, ys, hys, o3⟩ := h
    obtain rfl : x = .int y := hx
    have ei : y = i := by
      have := hy
      rw [List.getElem?_range (by
        have := List.getElem?_eq_some_iff.mp hy
        obtain ⟨h1, _⟩ := this
        simpa using h1)] at this
      simpa using this.symm
    subst ei
    have hyn : y < xs.length := by rw [← lvs]; exact List.mem_range.mp (List.mem_of_getElem? hy)
    have et := take_snoc (List.getElem?_eq_getElem hyn)
    have hyv : y < vs.length := by omega
    obtain ⟨z, ez, rz⟩ := hvs.at_ (List.getElem?_eq_getElem hyv)
    have lys : ys.length ≤ 64 := Nat.le_trans hys.length_le (by rw [List.length_take]; omega)
    have hpn : p ∉ [st] := by simp [hsp]
    have no : ∀ H4, Gr [st] B3 H3 B3 H4 → Store B3 H4 st → ∃ B', (∃ z5, [some (V.ref st), some (.ref l), some (.int kind), some (.int only), some (.ref p), some (.int y)] = [some (.ref st), some (.ref l), some (.int kind), some (.int only), some (.ref p), z5]) ∧ Gr [p, st] B (upd H2 p (.lst [])) B' H4 ∧ Store B' H4 st ∧ ∃ ys, ys.Sublist (xs.take (y + 1)) ∧ Own rStr B' H4 p ys := fun H4 g4 s4 =>
      ⟨B3, ⟨_, rfl⟩, g3.trans (g4.mono (by simp)), s4, ys, by rw [et]; exact hys.trans (List.sublist_append_left _ _), o3.keep g4 hpn⟩
    have yes : ∀ (D : Ends) H4, Gr [st] B3 H3 B3 H4 → Store B3 H4 st → (∀ σ' H', (∃ B', (∃ z5, σ' = [some (.ref st), some (.ref l), some (.int kind), some (.int only), some (.ref p), z5]) ∧ Gr [p, st] B (upd H2 p (.lst [])) B' H' ∧ Store B' H' st ∧ ∃ ys, ys.Sublist (xs.take (y + 1)) ∧ Own rStr B' H' p ys) → D.nx σ' H') →
        tDrop (tBM K "list" rAppend (tVar 4) (tCons (tOp (rIxL K) (tVar 1) (tVar 5)) tNil)) D [some (.ref st), some (.ref l), some (.int kind), some (.int only), some (.ref p), some (.int y)] H4 := fun D H4 g4 s4 k => by
      have o4 := o3.keep g4 hpn
      have G4 : Gr [p, st] B (upd H2 p (.lst [])) B3 H4 := g3.trans (g4.mono (by simp))
      obtain ⟨zs, hz, lz, o5⟩ := o4.app (x := z) (v := vs[y]) (rStr.mono G4.up rz) (by omega)
      refine ⟨_, rfl, o4.ty, _, rfl, _, rfl, l, _, _, _, rfl, rfl, SqL.of (G4.sub.lst (G4.up.lst hl)), atI_nat (j := y) (List.getElem?_eq_getElem hyv), p, zs, _, rfl, rfl, hz, lz, ?_⟩
      refine k _ _ ⟨B3, ⟨_, rfl⟩, G4.mut (.inr (by simp)) o4.1, ?_, ys ++ [z], ?_, o5⟩
      · obtain ⟨b, c, i1, i2, i3, i4, i5, i6, h1, ok⟩ := s4
        exact ⟨b, c, i1, i2, i3, i4, i5, i6, by rw [upd_ne hsp.symm]; exact h1, ok⟩
      · rw [et]
        have : xs[y] = z := by
          rw [List.getElem?_eq_getElem hyn] at ez
          exact Option.some.inj ez
        rw [this]
        exact List.Sublist.append hys (List.Sublist.refl _)
    have tail : ∀ (D : Ends) H4, Gr [st] B3 H3 B3 H4 → Store B3 H4 st → D.nx = (fun σ' H' => ∃ B', (∃ z5, σ' = [some (.ref st), some (.ref l), some (.int kind), some (.int only), some (.ref p), z5]) ∧ Gr [p, st] B (upd H2 p (.lst [])) B' H' ∧ Store B' H' st ∧ ∃ ys, ys.Sublist (xs.take (y + 1)) ∧ Own rStr B' H' p ys) →
        (tOr (tTest (tOp rEq (tVar 2) (tC (V.int 4)))) (tAnd (tTest (tOp rEq (tVar 2) (tC (V.int 5)))) (tTest (tOp rEq (tVar 5) (tVar 3))))) [some (.ref st), some (.ref l), some (.int kind), some (.int only), some (.ref p), some (.int y)] H4 fun b H1 => if b = true then tDrop (tBM K "list" rAppend (tVar 4) (tCons (tOp (rIxL K) (tVar 1) (tVar 5)) tNil)) D [some (.ref st), some (.ref l), some (.int kind), some (.int only), some (.ref p), some (.int y)] H1 else tNext D [some (.ref st), some (.ref l), some (.int kind), some (.int only), some (.ref p), some (.int y)] H1 := fun D H4 g4 s4 hD => by
      have n4 : D.nx [some (.ref st), some (.ref l), some (.int kind), some (.int only), some (.ref p), some (.int y)] H4 := by rw [hD]; exact no H4 g4 s4
      have y4 := yes D H4 g4 s4 (fun σ' H' h => by rw [hD]; exact h)
      refine ⟨_, rfl, rfl, _, rfl, ?_⟩
      refine ite2 (fun _ => ite_tt y4) (fun _ => ?_)
      refine ⟨_, rfl, rfl, _, rfl, ?_⟩
      refine ite2 (fun _ => ?_) (fun _ => iteF n4)
      refine ⟨_, rfl, _, rfl, rfl, _, rfl, ?_⟩
      exact ite2 (fun _ => y4) (fun _ => n4)
    refine ⟨_, rfl, _, _, rfl, rfl, _, rfl, ?_⟩
    refine ite2 (fun _ => ?_) (fun _ => tail _ H3 (Gr.refl g3.sub) sto3 rfl)
    refine ⟨_, rfl, _, _, rfl, B3, st, 2, g3.sub, sto3, rfl, rfl, by omega, fun H4 r g4 sto4 _ _ => ⟨rfl, _, rfl, ?_⟩⟩
    exact ite2 (fun _ => ite_tt (yes _ H4 g4 sto4 fun σ' H' h => h)) (fun _ => tail _ H4 g4 sto4 rfl)
  · obtain ⟨⟨z5, rfl⟩, g3, sto3, ys, hys, o3⟩ := h
    have : xs.take (List.range vs.length).length = xs := by rw [List.length_range, lvs, List.take_length]
    rw [this] at hys
    obtain ⟨b3, zs, h3, a3⟩ := o3
    have GA : Gr [st] B H B3 H3 := gp.fresh hp0 g3
    have sto4 : Store (upd B3 p (.lst zs)) H3 st := by
      obtain ⟨bst, c, i1, i2, i3, i4, i5, i6, hst, ok⟩ := sto3
      exact ⟨by rw [upd_ne hsp.symm]; exact bst, c, i1, i2, i3, i4, i5, i6, hst, ok.mono (ExW.new b3)⟩
    exact ⟨_, rfl, q ys hys _ H3 _ (GA.pub hp0 b3 h3) sto4 ⟨p, zs, rfl, upd_same, All2.mono (ExW.new b3) a3⟩⟩
end
end OB

/-! ## Q3 -/
set_option maxHeartbeats 4000000
namespace OB
open PySem PySem.Spec PyProof.Rows L2
structure Plan where
  ls : List (Str × Option Int)
  bs : List Bond
  pool : List Int
def Plan.net (p : Plan) : Net := netOf p.ls p.bs
def rPlan : Rp Plan := ⟨fun B p v => ∃ a v1 v2 v3, v = .ref a ∧ B a = some (.lst [v1, v2, v3]) ∧ (rL rLRow).rel B p.ls v1 ∧ (rL rBRow).rel B p.bs v2 ∧ (rL rInt).rel B p.pool v3,
  fun e ⟨a, v1, v2, v3, h0, h1, h2, h3, h4⟩ => ⟨a, v1, v2, v3, h0, e.lst h1, Rp.mono _ e h2, Rp.mono _ e h3, Rp.mono _ e h4⟩⟩
theorem ltCps_eq : ∀ a b : List Nat, ltCps a b = decide (a < b)
  | [], [] => by simp [ltCps]
  | [], b :: t => by simp [ltCps]
  | a :: r, [] => by simp [ltCps]
  | a :: r, b :: t => by
    unfold ltCps
    rw [ltCps_eq r t, Bool.eq_iff_iff]
    simp [List.cons_lt_cons_iff]
theorem rising_pw : ∀ {l : List Str} {p : Str}, risingS p l = true → (p :: l).Pairwise fun a b => leN a b = true
  | [], p, _ => List.pairwise_singleton _ _
  | x :: r, p, h => by
    have h : (!ltCps x.cps.toList p.cps.toList && risingS x r) = true := h
    rw [Bool.and_eq_true, ltCps_eq] at h
    have ih := rising_pw h.2
    have hx : leN p x = true := h.1
    refine List.pairwise_cons.mpr ⟨fun y hy => ?_, ih⟩
    rcases List.mem_cons.mp hy with rfl | hy
    · exact hx
    · exact leN_trans hx ((List.pairwise_cons.mp ih).1 y hy)
theorem sorted_pw {l : List Str} (h : sortedS l = true) : l.Pairwise fun a b => leN a b = true := by
  cases l with
  | nil => exact List.Pairwise.nil
  | cons x r => exact rising_pw h
theorem net_names_pw {ls : List (Str × Option Int)} {bs : List Bond} : (netOf ls bs).names.Pairwise fun a b => leN a b = true := by
  unfold Net.names
  rw [List.pairwise_map]
  exact List.pairwise_mergeSort (le := fun (a b : Str × Option Int) => leN a.1 b.1) (fun a b c => leN_trans) (fun a b => leN_total _ _) ls
theorem netOf_names {ls : List (Str × Option Int)} {bs : List Bond} : (netOf ls bs).names.Perm (ls.map (·.1)) := netOf_lamps.map _
/-- the names, sorted, are the web's -/
theorem names_sorted {ls : List (Str × Option Int)} {bs : List Bond} {ys : List Str} (ok : RowsOk ls bs) (perm : ys.Perm (ls.map (·.1))) (srt : sortedS ys = true) : ys = (netOf ls bs).names := by
  have nd := ok.nd
  have e1 := sorted_uniq (k := id) (xs := ls.map (·.1)) (ys := ys) (by rw [List.map_id]; exact nd) perm (sorted_pw srt)
  have e2 := sorted_uniq (k := id) (xs := ls.map (·.1)) (ys := (netOf ls bs).names) (by rw [List.map_id]; exact nd) netOf_names net_names_pw
  rw [e1, e2]
section
variable {P : Program} {w : World} {K : PySem.W.Frag} {mg : Str → Option Value} {base : Heap}
def spLPosts : Sp := sp1 fun a H Q => ∃ B p, ExW B H ∧ rPlan.rel B p a ∧ RowsOk p.ls p.bs ∧ Ret (rL rStr) p.net.names B H Q
/-! ### _law_posts -/
abbrev F__law_posts (P : Program) (w : World) (K : PySem.W.Frag) (mg : Str → Option Value) (base : Heap) : Prop := Fn P w K mg base CX0 1 "_law_posts" ["_law_plan"] [] spLPosts
abbrev N__law_posts : List Str := ["_law_plan", "_law_node"]
theorem sc__law_posts : FnScope N__law_posts ["_law_plan"] (defScope (top 81)) := ⟨rfl, rfl, rfl, by decide +kernel, rfl, by decide +kernel, by decide +kernel⟩
theorem ok__law_posts (T : TX K mg) (D : DefAt K mg "_law_posts" (top 81) [])   : F__law_posts P w K mg base := by
  refine fn_ok D sc__law_posts (by decide +kernel) (fun _ _ _ _ _ _ us hl => match us, hl with | [_], _ => rfl) (fun vs H Q E h => len1 h) (fun f cdv A outer s H vs Q E hr h => ?_)
  have nd := sc__law_posts.nd
  obtain ⟨v0, rfl, h⟩ := h
  refine ⟨_, (pss_one (ps_ret (pe_callB (k_sortedS K) (by rfl) T.sorted bt_sorted (pa_cons (pe_lc (own := [("_law_node", 1)]) rfl nd (kp_list K (pe_ix (kx_list K) (pv 0) pe_int (fun _ _ => rfl))) (blkOk_by (own := [("_law_node", 1)]) (N := N__law_posts) (sc := defScope (top 81)) (by decide +kernel)) (fun _ _ _ _ _ => (pg_name (i := 1) nd rfl (Or.inl rfl))) (fun _ _ _ _ _ => pts_nil) (fun _ _ _ _ _ => (pe_ix (kx_tup K) (pv 1) pe_int (fun _ _ => rfl)))) pa_nil)))), ?_⟩
  obtain ⟨B, p, hB, ⟨a, v1, v2, v3, rfl, ha, h1, h2, h3⟩, ok, q⟩ := h
  obtain ⟨l, vs, rfl, hl, hvs⟩ := id h1
  refine ⟨_, rfl, a, _, _, _, rfl, rfl, SqL.of (hB.lst ha), atI_nat (j := 0) rfl, l, rfl, ⟨_, SqL.of (hB.lst hl)⟩, fun D hD => lc_map (Rs := rLRow) (R := rStr) (fun r => r.1) (src_list hl) hB hD hvs (by rw [← hvs.len]; have := ok.len; omega) (fun y x B3 H3 K1 hy hx g3 k1 => ?_) (fun B3 H3 g3 h3 => ?_)⟩
  · obtain ⟨ra, rfl, hra⟩ := id hx
    exact ⟨_, rfl, ra, _, _, _, rfl, rfl, SqT.of (K := K) (g3.sub.tup hra), atI_nat (j := 0) rfl, k1 _ _ _ (Gr.refl g3.sub) rfl⟩
  · obtain ⟨vs3, h30, h3b, h3h, h3a⟩ := h3.at_
    rw [strs_eq h3a] at h3h
    refine ⟨D, _, rfl, SqL.of h3h, by rw [List.length_map]; have := ok.len; omega, fun ys t perm srt ht => ?_⟩
    have e := names_sorted ok perm srt
    rw [show p.net.names = ys from e.symm] at q
    exact (q.go g3).newL (Gr.new_ g3.sub ht) ⟨t, _, rfl, ht, g3.sub.none ht, upd_same, strs2 ys⟩
/-- a lamp's bar, in the order of the rows -/
theorem net_ceil {ls : List (Str × Option Int)} {bs : List Bond} (ok : RowsOk ls bs) {r : Str × Option Int} (hr : r ∈ ls) : (netOf ls bs).ceil r.1 = r.2 := by
  have h1 : r ∈ (netOf ls bs).lamps := netOf_lamps.mem_iff.mpr hr
  have := look_mem (kf := fun (x : Str × Option Int) => x.1) (vf := fun x => x.2) (netOf_ok ok).nd h1
  rw [pair_eta] at this
  unfold Net.ceil
  rw [this]
  rfl
def spLBar : Sp := sp2 fun a b H Q => ∃ B p x, ExW B H ∧ rPlan.rel B p a ∧ RowsOk p.ls p.bs ∧ b = .str x ∧ x ∈ p.net.names ∧ Q (vo (p.net.ceil x)) H
/-! ### _law_bar_of -/
abbrev F__law_bar_of (P : Program) (w : World) (K : PySem.W.Frag) (mg : Str → Option Value) (base : Heap) : Prop := Fn P w K mg base CX0 1 "_law_bar_of" ["_law_plan", "_law_post"] [] spLBar
abbrev N__law_bar_of : List Str := ["_law_plan", "_law_post", "_law_node"]
theorem sc__law_bar_of : FnScope N__law_bar_of ["_law_plan", "_law_post"] (defScope (top 82)) := ⟨rfl, rfl, rfl, by decide +kernel, rfl, by decide +kernel, by decide +kernel⟩
theorem ok__law_bar_of (T : TX K mg) (D : DefAt K mg "_law_bar_of" (top 82) [])   : F__law_bar_of P w K mg base := by
  refine fn_ok D sc__law_bar_of (by decide +kernel) (fun _ _ _ _ _ _ us hl => match us, hl with | [_, _], _ => rfl) (fun vs H Q E h => len2 h) (fun f cdv A outer s H vs Q E hr h => ?_)
  have nd := sc__law_bar_of.nd
  obtain ⟨v0, v1, rfl, h⟩ := h
  refine ⟨_, (pss_cons (ps_for PassesOwn.never rfl (kp_list K (pe_ix (kx_list K) (pv 0) pe_int (fun _ _ => rfl))) (pg_name (i := 2) nd rfl (Or.inl rfl))
      (pss_one (ps_if (pt_cmpR op_eq (pe_ix (kx_tup K) (pv 2) pe_int (fun _ _ => rfl)) (pv 1) (nomark _)) (pss_one (ps_ret (pe_ix (kx_tup K) (pv 2) pe_int (fun _ _ => rfl)))) pss_nil)))
      (pss_one (ps_ret pe_non))), ?_⟩
  obtain ⟨B, p, x, hB, ⟨a, v1, v2, v3, rfl, ha, h1, h2, h3⟩, ok, rfl, hx, q⟩ := h
  obtain ⟨l, vs, rfl, hl, hvs⟩ := id h1
  have hx' : x ∈ p.ls.map (·.1) := (netOf_lamps.map _).mem_iff.mp hx
  refine ⟨_, rfl, a, _, _, _, rfl, rfl, SqL.of (hB.lst ha), atI_nat (j := 0) rfl, l, rfl, ⟨_, SqL.of (hB.lst hl)⟩, for_go (Rs := rLRow) (fun i σ1 B1 H1 => (∃ z2, σ1 = [some (.ref a), some (.str x), z2]) ∧ B1 = B ∧ H1 = H ∧ ∀ r ∈ p.ls.take i, r.1 ≠ x) (src_list hl) hvs ⟨⟨_, rfl⟩, rfl, rfl, by simp⟩ (fun i σ1 B1 H1 h => ?_) (fun i y v σ1 B1 H1 hy hv h => ?_) (fun σ1 B1 H1 h => ?_)⟩
  · obtain ⟨_, rfl, rfl, _⟩ := h; exact ⟨ExW.refl _, hB⟩
  · obtain ⟨⟨z2, rfl⟩, rfl, rfl, hn⟩ := h
    obtain ⟨ra, rfl, hra⟩ := id hv
    have sx := SqT.of (K := K) (hB.tup hra)
    refine ⟨_, rfl, ra, _, _, _, rfl, rfl, sx, atI_nat (j := 0) rfl, _, rfl, rfl, _, rfl, ?_⟩
    rw [dec_strD]
    refine ite2 (fun e => ?_) (fun e => ?_)
    · have e := of_decide_eq_true e
      refine ⟨_, rfl, ra, _, _, _, rfl, rfl, sx, atI_nat (j := 1) rfl, ?_⟩
      rw [← e, show p.net.ceil y.1 = y.2 from net_ceil ok (List.mem_of_getElem? hy)] at q
      exact q
    · have e : ¬ y.1 = x := by simpa using e
      refine ⟨_, ⟨_, rfl⟩, rfl, rfl, fun r hr => ?_⟩
      rw [take_snoc hy] at hr
      rcases List.mem_append.mp hr with hr | hr
      · exact hn r hr
      · have : r = y := by simpa using hr
        rw [this]; exact e
  · obtain ⟨⟨z2, rfl⟩, rfl, rfl, hn⟩ := h
    rw [List.take_length] at hn
    obtain ⟨r, hr, e⟩ := List.mem_map.mp hx'
    exact absurd e (hn r hr)
def spLEdge : Sp := sp2 fun a b H Q => ∃ B p y, ExW B H ∧ rPlan.rel B p a ∧ RowsOk p.ls p.bs ∧ y ∈ p.bs ∧ b = .str y.nm ∧ ∀ v, rBRow.rel B y v → Q v H
/-! ### _law_edge_of -/
abbrev F__law_edge_of (P : Program) (w : World) (K : PySem.W.Frag) (mg : Str → Option Value) (base : Heap) : Prop := Fn P w K mg base CX0 1 "_law_edge_of" ["_law_plan", "_law_label"] [] spLEdge
abbrev N__law_edge_of : List Str := ["_law_plan", "_law_label", "_law_edge"]
theorem sc__law_edge_of : FnScope N__law_edge_of ["_law_plan", "_law_label"] (defScope (top 83)) := ⟨rfl, rfl, rfl, by decide +kernel, rfl, by decide +kernel, by decide +kernel⟩
theorem ok__law_edge_of (T : TX K mg) (D : DefAt K mg "_law_edge_of" (top 83) [])   : F__law_edge_of P w K mg base := by
  refine fn_ok D sc__law_edge_of (by decide +kernel) (fun _ _ _ _ _ _ us hl => match us, hl with | [_, _], _ => rfl) (fun vs H Q E h => len2 h) (fun f cdv A outer s H vs Q E hr h => ?_)
  have nd := sc__law_edge_of.nd
  obtain ⟨v0, v1, rfl, h⟩ := h
  refine ⟨_, (pss_cons (ps_for PassesOwn.never rfl (kp_list K (pe_ix (kx_list K) (pv 0) pe_int (fun _ _ => rfl))) (pg_name (i := 2) nd rfl (Or.inl rfl))
      (pss_one (ps_if (pt_cmpR op_eq (pe_ix (kx_tup K) (pv 2) pe_int (fun _ _ => rfl)) (pv 1) (nomark _)) (pss_one (ps_ret (pv 2))) pss_nil)))
      (pss_one (ps_ret pe_non))), ?_⟩
  obtain ⟨B, p, y0, hB, ⟨a, v1, v2, v3, rfl, ha, h1, h2, h3⟩, ok, hy0, rfl, q⟩ := h
  obtain ⟨l, vs, rfl, hl, hvs⟩ := id h2
  refine ⟨_, rfl, a, _, _, _, rfl, rfl, SqL.of (hB.lst ha), atI_nat (j := 1) rfl, l, rfl, ⟨_, SqL.of (hB.lst hl)⟩, for_go (Rs := rBRow) (fun i σ1 B1 H1 => (∃ z2, σ1 = [some (.ref a), some (.str y0.nm), z2]) ∧ B1 = B ∧ H1 = H ∧ ∀ r ∈ p.bs.take i, r.nm ≠ y0.nm) (src_list hl) hvs ⟨⟨_, rfl⟩, rfl, rfl, by simp⟩ (fun i σ1 B1 H1 h => ?_) (fun i y v σ1 B1 H1 hy hv h => ?_) (fun σ1 B1 H1 h => ?_)⟩
  · obtain ⟨_, rfl, rfl, _⟩ := h; exact ⟨ExW.refl _, hB⟩
  · obtain ⟨⟨z2, rfl⟩, rfl, rfl, hn⟩ := h
    obtain ⟨ra, rfl, hra⟩ := id hv
    have sx := SqT.of (K := K) (hB.tup hra)
    refine ⟨_, rfl, ra, _, _, _, rfl, rfl, sx, atI_nat (j := 0) rfl, _, rfl, rfl, _, rfl, ?_⟩
    rw [dec_strD]
    refine ite2 (fun e => ?_) (fun e => ?_)
    · have e := of_decide_eq_true e
      have : y = y0 := inj_of_nodup ok.bnd (List.mem_of_getElem? hy) hy0 e
      subst this
      exact ⟨_, rfl, q _ hv⟩
    · have e : ¬ y.nm = y0.nm := by simpa using e
      refine ⟨_, ⟨_, rfl⟩, rfl, rfl, fun r hr => ?_⟩
      rw [take_snoc hy] at hr
      rcases List.mem_append.mp hr with hr | hr
      · exact hn r hr
      · have : r = y := by simpa using hr
        rw [this]; exact e
  · obtain ⟨⟨z2, rfl⟩, rfl, rfl, hn⟩ := h
    rw [List.take_length] at hn
    exact absurd rfl (hn y0 hy0)
def spLLets : Sp := sp2 fun a b H Q => ∃ B y l, ExW B H ∧ rBRow.rel B y a ∧ b = .int l ∧ Q (.bl (letB y.lo y.hi l)) H
/-! ### _law_lets -/
abbrev F__law_lets (P : Program) (w : World) (K : PySem.W.Frag) (mg : Str → Option Value) (base : Heap) : Prop := Fn P w K mg base CX0 1 "_law_lets" ["_law_edge", "_law_level"] [] spLLets
abbrev N__law_lets : List Str := ["_law_edge", "_law_level"]
theorem sc__law_lets : FnScope N__law_lets ["_law_edge", "_law_level"] (defScope (top 86)) := ⟨rfl, rfl, rfl, by decide +kernel, rfl, by decide +kernel, by decide +kernel⟩
theorem ok__law_lets (T : TX K mg) (D : DefAt K mg "_law_lets" (top 86) [])   : F__law_lets P w K mg base := by
  refine fn_ok D sc__law_lets (by decide +kernel) (fun _ _ _ _ _ _ us hl => match us, hl with | [_, _], _ => rfl) (fun vs H Q E h => len2 h) (fun f cdv A outer s H vs Q E hr h => ?_)
  have nd := sc__law_lets.nd
  obtain ⟨v0, v1, rfl, h⟩ := h
  refine ⟨_, (pss_one (ps_ret (pe_and (pe_or (pe_cmpR op_isN (pe_ix (kx_tup K) (pv 0) pe_int (fun _ _ => rfl)) pe_non (nomark _)) (pe_one (pe_cmpR op_le (pe_ix (kx_tup K) (pv 0) pe_int (fun _ _ => rfl)) (pv 1) (nomark _)))) (pe_one (pe_or (pe_cmpR op_isN (pe_ix (kx_tup K) (pv 0) pe_int (fun _ _ => rfl)) pe_non (nomark _)) (pe_one (pe_cmpR op_le (pv 1) (pe_ix (kx_tup K) (pv 0) pe_int (fun _ _ => rfl)) (nomark _)))))))), ?_⟩
  obtain ⟨B, y, l, hB, hy, rfl, q⟩ := h
  obtain ⟨ra, rfl, hra⟩ := id hy
  have sx := SqT.of (K := K) (hB.tup hra)
  have fin : (if (geE l y.lo) = true then Q (.bl (leE l y.hi)) H else Q (.bl false) H) := by
    unfold letB at q
    cases e : geE l y.lo with
    | true => rw [e] at q; exact ite_tt q
    | false => rw [e] at q; exact iteF q
  have snd : ∀ (b : Bool), (b = true → Q (.bl (leE l y.hi)) H) → (b = false → Q (.bl false) H) → ∃ c, V.bl b = .bl c ∧ if c = true then (tOrV (tOp (fun x y H Q => y = V.non ∧ Q (V.bl (decide (x = V.non))) H) (tOp (rIxT K) (tVar 0) (tC (V.int 4))) (tC V.non)) (tOp (rI0 fun i j => V.bl (decide (i ≤ j))) (tVar 1) (tOp (rIxT K) (tVar 0) (tC (V.int 4))))) [some (.ref ra), some (.int l)] H Q else Q (.bl false) H := fun b h1 h2 => by
    refine ⟨b, rfl, ?_⟩
    refine ite2 (fun e => ?_) (fun e => h2 (by simpa using e))
    have h1 := h1 e
    refine ⟨_, rfl, ra, _, _, _, rfl, rfl, sx, atI_nat (j := 4) rfl, rfl, ?_⟩
    cases eh : y.hi with
    | none => rw [eh] at h1; exact ⟨_, rfl, ite_tt h1⟩
    | some u => rw [eh] at h1; exact ⟨_, rfl, iteF ⟨_, rfl, _, rfl, ra, _, _, _, rfl, rfl, sx, atI_nat (j := 4) (v := .int u) (by rw [← show vo y.hi = .int u by rw [eh]; rfl]; rfl), _, _, rfl, rfl, h1⟩⟩
  refine ⟨_, rfl, ra, _, _, _, rfl, rfl, sx, atI_nat (j := 3) rfl, rfl, ?_⟩
  cases el : y.lo with
  | none =>
    rw [el] at fin
    exact ⟨_, rfl, ite_tt (snd true (fun _ => by simpa [geE] using fin) (fun z => by cases z))⟩
  | some u =>
    rw [el] at fin
    refine ⟨_, rfl, iteF ⟨_, rfl, ra, _, _, _, rfl, rfl, sx, atI_nat (j := 3) (v := .int u) (by rw [← show vo y.lo = .int u by rw [el]; rfl]; rfl), _, rfl, _, _, rfl, rfl, ?_⟩⟩
    refine snd _ (fun e => ?_) (fun e => ?_)
    · have : geE l (some u) = true := e
      rw [this] at fin
      simpa using fin
    · have : geE l (some u) = false := e
      rw [this] at fin
      simpa using fin
end
end OB

/-! ## Q4 -/
set_option maxHeartbeats 4000000
namespace OB
open PySem PySem.Spec PyProof.Rows L2
theorem fm_map {α β : Type} (c : α → Bool) (g : α → β) : ∀ xs : List α, xs.filterMap (fun y => if c y = true then some (g y) else none) = (xs.filter c).map g
  | [] => rfl
  | x :: r => by
    rw [List.filterMap_cons, List.filter_cons, fm_map c g r]
    cases c x <;> rfl
theorem gt_swap {S : Str → Int} {x y : Str} (h : S x ≠ S y) : gt S y x = gt S x y := by
  unfold gt
  by_cases e : S x < S y
  · rw [if_pos e, if_neg (by omega)]
  · rw [if_neg e, if_pos (by omega)]
theorem can_kept {n : Net} {S : Str → Int} {y : Bond} : can n S (kept y) = can n S y := by
  unfold kept
  split
  · unfold can giv tak
    show (decide (S y.b ≠ S y.a) && letB y.lo y.hi (S (gt S y.b y.a).1) && leE (S (gt S y.b y.a).1) (n.ceil (gt S y.b y.a).2)) = _
    by_cases e : S y.a = S y.b
    · have h1 : decide (S y.b ≠ S y.a) = false := decide_eq_false (fun z => z e.symm)
      have h2 : decide (S y.a ≠ S y.b) = false := decide_eq_false (fun z => z e)
      rw [h1, h2, Bool.false_and, Bool.false_and, Bool.false_and, Bool.false_and]
    · have h1 : decide (S y.b ≠ S y.a) = true := decide_eq_true (fun z => e z.symm)
      have h2 : decide (S y.a ≠ S y.b) = true := decide_eq_true e
      rw [gt_swap e, h1, h2]
  · rfl
section
variable {P : Program} {w : World} {K : PySem.W.Frag} {mg : Str → Option Value} {base : Heap}
def spLRefusal : Sp := sp3 fun a b c H Q => ∃ B p ps S y, ExW B H ∧ rPlan.rel B p a ∧ RowsOk p.ls p.bs ∧ (rD rInt).rel B (glow ps S) b ∧ (∀ x, x ∈ ps ↔ x ∈ p.net.names) ∧ y ∈ p.bs ∧ rBRow.rel B y c ∧
  ∀ v, (v = .non ∧ can p.net S y = true) ∨ (∃ z, v = .str z ∧ can p.net S y = false) → Q v H
theorem dgl2 {B H : Hp} {ps : List Str} {S : Str → Int} {x : Str} {d : Addr} (hl : (rD rInt).rel B (glow ps S) (.ref d)) (hB : ExW B H) (hx : x ∈ ps) : DGet H d (.str x) (some (.int (S x))) := by
  obtain ⟨d', e, h⟩ := dgl hl hB hx
  cases e
  exact h
/-! ### _law_refusal -/
abbrev F__law_refusal (P : Program) (w : World) (K : PySem.W.Frag) (mg : Str → Option Value) (base : Heap) : Prop := Fn P w K mg base CX0 2 "_law_refusal" ["_law_plan", "_law_glow", "_law_edge"] [] spLRefusal
abbrev N__law_refusal : List Str := ["_law_plan", "_law_glow", "_law_edge", "_law_beam", "_law_taker", "_law_bar"]
theorem sc__law_refusal : FnScope N__law_refusal ["_law_plan", "_law_glow", "_law_edge"] (defScope (top 87)) := ⟨rfl, rfl, rfl, by decide +kernel, rfl, by decide +kernel, by decide +kernel⟩
theorem ok__law_refusal (T : TX K mg) (D : DefAt K mg "_law_refusal" (top 87) []) (c__law_lets : F__law_lets P w K mg base) (c__law_bar_of : F__law_bar_of P w K mg base)  : F__law_refusal P w K mg base := by
  refine fn_ok D sc__law_refusal (by decide +kernel) (fun _ _ _ _ _ _ us hl => match us, hl with | [_, _, _], _ => rfl) (fun vs H Q E h => len3 h) (fun f cdv A outer s H vs Q E hr h => ?_)
  have nd := sc__law_refusal.nd
  obtain ⟨v0, v1, v2, rfl, h⟩ := h
  refine ⟨_, (pss_cons (ps_if (pt_cmpR op_eq (pe_dget (hu_of hr) (pv 1) (pe_ix (kx_tup K) (pv 2) pe_int (fun _ _ => rfl)) (fun _ _ => rfl)) (pe_dget (hu_of hr) (pv 1) (pe_ix (kx_tup K) (pv 2) pe_int (fun _ _ => rfl)) (fun _ _ => rfl)) (nomark _)) (pss_one (ps_ret pe_str)) pss_nil)
      (pss_cons (ps_set (i := 3) nd rfl (Or.inl rfl) (pe_callB (call_max2 rfl) (by rfl) T.max bt_max (pa_cons (pe_dget (hu_of hr) (pv 1) (pe_ix (kx_tup K) (pv 2) pe_int (fun _ _ => rfl)) (fun _ _ => rfl)) (pa_cons (pe_dget (hu_of hr) (pv 1) (pe_ix (kx_tup K) (pv 2) pe_int (fun _ _ => rfl)) (fun _ _ => rfl)) pa_nil))))
      (pss_cons (ps_if (pt_not (pt_val (pe_fn c__law_lets hr (by rfl) (pa_cons (pv 2) (pa_cons (pv 3) pa_nil))))) (pss_one (ps_ret pe_str)) pss_nil)
      (pss_cons (ps_set (i := 4) nd rfl (Or.inl rfl) (pe_ix (kx_tup K) (pv 2) pe_int (fun _ _ => rfl)))
      (pss_cons (ps_if (pt_cmpR op_lt (pe_dget (hu_of hr) (pv 1) (pe_ix (kx_tup K) (pv 2) pe_int (fun _ _ => rfl)) (fun _ _ => rfl)) (pv 3) (nomark _)) (pss_one (ps_set (i := 4) nd rfl (Or.inl rfl) (pe_ix (kx_tup K) (pv 2) pe_int (fun _ _ => rfl)))) pss_nil)
      (pss_cons (ps_set (i := 5) nd rfl (Or.inl rfl) (pe_fn c__law_bar_of hr (by rfl) (pa_cons (pv 0) (pa_cons (pv 4) pa_nil))))
      (pss_cons (ps_if (PW.pt (pw_and (pt_cmpR op_notN (pv 5) pe_non (nomark _)) (pw_and1 (pt_cmpR op_gt (pv 3) (pv 5) (nomark _))))) (pss_one (ps_ret pe_str)) pss_nil)
      (pss_one (ps_ret pe_non))))))))), ?_⟩
  obtain ⟨B, p, ps, S, y, hB, hp, ok, hl, hps, hy, hyr, q⟩ := h
  obtain ⟨d, kvs, rfl, _⟩ := id hl
  obtain ⟨ra, rfl, hra⟩ := id hyr
  have sx := SqT.of (K := K) (hB.tup hra)
  obtain ⟨e1, e2, e3⟩ := ok.ends y hy
  have ma : y.a ∈ ps := (hps _).mpr (netOf_names.mem_iff.mpr e1)
  have mb : y.b ∈ ps := (hps _).mpr (netOf_names.mem_iff.mpr e2)
  have da := dgl2 hl hB ma
  have db := dgl2 hl hB mb
  have a1 : atI [V.str y.nm, V.str y.a, V.str y.b, vo y.lo, vo y.hi] ((1 : Nat) : Int) = some (V.str y.a) := atI_nat (j := 1) rfl
  have a2 : atI [V.str y.nm, V.str y.a, V.str y.b, vo y.lo, vo y.hi] ((2 : Nat) : Int) = some (V.str y.b) := atI_nat (j := 2) rfl
  refine ⟨_, rfl, _, rfl, ra, _, _, _, rfl, rfl, sx, a1, d, _, rfl, da, _, rfl, _, rfl, ra, _, _, _, rfl, rfl, sx, a2, d, _, rfl, db, rfl, _, rfl, ?_⟩
  rw [dec_intD]
  refine ite2 (fun e => ?_) (fun e => ?_)
  · have e := of_decide_eq_true e
    refine q _ (.inr ⟨_, rfl, ?_⟩)
    unfold can
    have h1 : decide (S y.a ≠ S y.b) = false := decide_eq_false (fun z => z e)
    rw [h1]; rfl
  have e : ¬ S y.a = S y.b := by simpa using e
  have hne : decide (S y.a ≠ S y.b) = true := decide_eq_true e
  refine ⟨_, rfl, _, rfl, ra, _, _, _, rfl, rfl, sx, a1, d, _, rfl, da, _, rfl, _, rfl, ra, _, _, _, rfl, rfl, sx, a2, d, _, rfl, db, _, _, rfl, ?_⟩
  have hbeam : (if S y.b > S y.a then S y.b else S y.a) = S (giv S y) := by
    unfold giv gt
    by_cases h : S y.a < S y.b
    · rw [if_pos h, if_pos h]
    · rw [if_neg h, if_neg h]
  rw [hbeam]
  refine ⟨_, rfl, _, rfl, _, _, rfl, B, y, _, hB, hyr, rfl, _, rfl, ?_⟩
  cases e1 : letB y.lo y.hi (S (giv S y)) with
  | false =>
    refine ite_tt (q _ (.inr ⟨_, rfl, ?_⟩))
    unfold can
    rw [e1, Bool.and_false, Bool.false_and]
  | true =>
    refine iteF ⟨_, rfl, ra, _, _, _, rfl, rfl, sx, a1, _, rfl, _, rfl, ra, _, _, _, rfl, rfl, sx, a2, d, _, rfl, db, _, rfl, _, _, rfl, rfl, _, rfl, ?_⟩
    have tl : ∀ t, t = tak S y → (tSeq (tAsg (tCall spLBar [] E0 (tCons (tVar 0) (tCons (tVar 4) tNil))) (gName 5))
        (tSeq (tIfS (tAnd (tTest (tOp (fun x y H Q => y = V.non ∧ Q (V.bl !decide (x = V.non)) H) (tVar 5) (tC V.non))) (tTest (tOp (rI0 fun i j => V.bl (decide (j < i))) (tVar 3) (tVar 5)))) (tRet (tC (V.str "ceiling"))) tNext)
          (tRet (tC V.non)))) { nx := fun _ H' => Q .non H', rt := Q } [some v0, some (.ref d), some (.ref ra), some (.int (S (giv S y))), some (.str t), none] H := fun t et => by
      subst et
      have mt : tak S y ∈ p.net.names := (gt_mem (S := S) ((hps _).mp ma) ((hps _).mp mb)).2
      refine ⟨_, rfl, _, rfl, _, _, rfl, B, p, _, hB, hp, ok, rfl, mt, ?_⟩
      have hcan : can p.net S y = leE (S (giv S y)) (p.net.ceil (tak S y)) := by
        unfold can
        rw [hne, e1]; rfl
      rw [hcan] at q
      cases ec : p.net.ceil (tak S y) with
      | none =>
        rw [ec] at q
        exact ⟨_, rfl, rfl, _, rfl, iteF (iteF (q _ (.inl ⟨rfl, rfl⟩)))⟩
      | some c =>
        rw [ec] at q
        refine ⟨_, rfl, rfl, _, rfl, ite_tt ⟨_, rfl, _, rfl, _, _, rfl, rfl, _, rfl, ?_⟩⟩
        refine ite2 (fun e => ?_) (fun e => ?_)
        · have e := of_decide_eq_true e
          exact q _ (.inr ⟨_, rfl, decide_eq_false (by omega)⟩)
        · have e : ¬ c < S (giv S y) := by simpa using e
          exact q _ (.inl ⟨rfl, decide_eq_true (by omega)⟩)
    refine ite2 (fun h => ?_) (fun h => ?_)
    · have h := of_decide_eq_true h
      refine ⟨_, rfl, ra, _, _, _, rfl, rfl, sx, a2, tl y.b ?_⟩
      unfold tak gt
      unfold giv gt at h
      split
      · rename_i h2; rw [if_pos h2] at h; exact absurd h (Int.lt_irrefl _)
      · rfl
    · have h : ¬ S y.b < S (giv S y) := by simpa using h
      refine tl y.a ?_
      unfold tak gt
      unfold giv gt at h
      split
      · rfl
      · rename_i h2; rw [if_neg h2] at h; have h : ¬ S y.b < S y.a := h; omega
def spLAfter : Sp := sp2 fun a b H Q => ∃ B ps S y, ExW B H ∧ (rD rInt).rel B (glow ps S) a ∧ ps.Nodup ∧ ps.length < 64 ∧ y.a ∈ ps ∧ y.b ∈ ps ∧ rBRow.rel B y b ∧ Ret (rD rInt) (glow ps (stp S y)) B H Q
theorem stp_eq {S : Str → Int} {y : Bond} {m : Int} (hm : m = S (giv S y)) : setS (setS S y.a m) y.b m = stp S y := by
  funext x
  subst hm
  unfold stp setS giv tak gt
  by_cases h : S y.a < S y.b
  · rw [if_pos h]
    by_cases h1 : x = y.b
    · rw [if_pos h1]
      by_cases h2 : x = y.a
      · rw [if_pos h2]
      · rw [if_neg h2, h1]
    · rw [if_neg h1]
  · rw [if_neg h]
    by_cases h1 : x = y.b
    · rw [if_pos h1, if_pos h1]
    · rw [if_neg h1, if_neg h1]
      by_cases h2 : x = y.a
      · rw [if_pos h2, h2]
      · rw [if_neg h2]
/-! ### _law_after -/
abbrev F__law_after (P : Program) (w : World) (K : PySem.W.Frag) (mg : Str → Option Value) (base : Heap) : Prop := Fn P w K mg base CX0 1 "_law_after" ["_law_glow", "_law_edge"] [] spLAfter
abbrev N__law_after : List Str := ["_law_glow", "_law_edge", "_law_fresh", "_law_beam"]
theorem sc__law_after : FnScope N__law_after ["_law_glow", "_law_edge"] (defScope (top 88)) := ⟨rfl, rfl, rfl, by decide +kernel, rfl, by decide +kernel, by decide +kernel⟩
theorem ok__law_after (T : TX K mg) (D : DefAt K mg "_law_after" (top 88) [])   : F__law_after P w K mg base := by
  refine fn_ok D sc__law_after (by decide +kernel) (fun _ _ _ _ _ _ us hl => match us, hl with | [_, _], _ => rfl) (fun vs H Q E h => len2 h) (fun f cdv A outer s H vs Q E hr h => ?_)
  have nd := sc__law_after.nd
  obtain ⟨v0, v1, rfl, h⟩ := h
  refine ⟨_, (pss_cons (ps_set (i := 2) nd rfl (Or.inl rfl) (pe_callTy call_dictD (by rfl) T.dict bt_dict (pa_cons (pv 0) pa_nil)))
      (pss_cons (ps_set (i := 3) nd rfl (Or.inl rfl) (pe_callB (call_max2 rfl) (by rfl) T.max bt_max (pa_cons (pe_dget (hu_of hr) (pv 0) (pe_ix (kx_tup K) (pv 1) pe_int (fun _ _ => rfl)) (fun _ _ => rfl)) (pa_cons (pe_dget (hu_of hr) (pv 0) (pe_ix (kx_tup K) (pv 1) pe_int (fun _ _ => rfl)) (fun _ _ => rfl)) pa_nil))))
      (pss_cons (ps_dput (hu_of hr) (pv 2) (pe_ix (kx_tup K) (pv 1) pe_int (fun _ _ => rfl)) (pv 3) rfl)
      (pss_cons (ps_dput (hu_of hr) (pv 2) (pe_ix (kx_tup K) (pv 1) pe_int (fun _ _ => rfl)) (pv 3) rfl)
      (pss_one (ps_ret (pv 2))))))), ?_⟩
  obtain ⟨B, ps, S, y, hB, hl, ndp, l64, ma, mb, hyr, q⟩ := h
  obtain ⟨d, kvs, rfl, hd, hk⟩ := id hl
  obtain ⟨ra, rfl, hra⟩ := id hyr
  have da := dgl2 hl hB ma
  have db := dgl2 hl hB mb
  refine ⟨_, rfl, d, kvs, rfl, hB.rd hd, fun p hp => ?_⟩
  have a1 : atI [V.str y.nm, V.str y.a, V.str y.b, vo y.lo, vo y.hi] ((1 : Nat) : Int) = some (V.str y.a) := atI_nat (j := 1) rfl
  have a2 : atI [V.str y.nm, V.str y.a, V.str y.b, vo y.lo, vo y.hi] ((2 : Nat) : Int) = some (V.str y.b) := atI_nat (j := 2) rfl
  have gp : Gr [] B H B (upd H p (.dK kvs)) := Gr.new_ hB hp
  have sx := SqT.of (K := K) (gp.sub.tup hra)
  have da := dgl2 hl gp.sub ma
  have db := dgl2 hl gp.sub mb
  refine ⟨_, rfl, _, rfl, ra, _, _, _, rfl, rfl, sx, a1, d, _, rfl, da, _, rfl, _, rfl, ra, _, _, _, rfl, rfl, sx, a2, d, _, rfl, db, _, _, rfl, ?_⟩
  have hbeam : (if S y.b > S y.a then S y.b else S y.a) = S (giv S y) := by
    unfold giv gt
    by_cases h : S y.a < S y.b
    · rw [if_pos h, if_pos h]
    · rw [if_neg h, if_neg h]
  rw [hbeam]
  have bp := hB.none hp
  have hk1 : DAll rInt B (glow ps (setS S y.a (S (giv S y)))) (putK kvs (Sum.inr y.a) (.int (S (giv S y)))) :=
    DAll.set (S := S) (S' := setS S y.a (S (giv S y))) (show _ = _ by unfold setS; rw [if_pos rfl]) (fun z hz => if_neg hz) ndp ma hk
  have hk2 : DAll rInt B (glow ps (setS (setS S y.a (S (giv S y))) y.b (S (giv S y)))) (putK (putK kvs (Sum.inr y.a) (.int (S (giv S y)))) (Sum.inr y.b) (.int (S (giv S y)))) :=
    DAll.set (S := setS S y.a (S (giv S y))) (S' := setS (setS S y.a (S (giv S y))) y.b (S (giv S y))) (show _ = _ by unfold setS; rw [if_pos rfl]) (fun z hz => if_neg hz) ndp mb hk1
  rw [stp_eq rfl] at hk2
  refine ⟨_, rfl, _, rfl, _, rfl, ra, _, _, _, rfl, rfl, sx, a1, p, _, rfl, DPut.k (k := Sum.inr y.a) upd_same (own_lt hk l64), ?_⟩
  rw [upd_upd]
  have g1 : Gr [] B H B (upd H p (.dK (putK kvs (Sum.inr y.a) (.int (S (giv S y)))))) := Gr.new_ hB hp
  have sx1 := SqT.of (K := K) (g1.sub.tup hra)
  refine ⟨_, rfl, _, rfl, _, rfl, ra, _, _, _, rfl, rfl, sx1, a2, p, _, rfl, DPut.k (k := Sum.inr y.b) upd_same (own_lt hk1 l64), ?_⟩
  rw [upd_upd]
  exact ⟨_, rfl, q.newD (Gr.new_ hB hp) ⟨p, _, rfl, hp, bp, upd_same, hk2⟩⟩
/-- a row of lights -/
def spLRow : Sp := sp1 fun a H Q => ∃ B ps S ns, ExW B H ∧ (rD rInt).rel B (glow ps S) a ∧ ps.Perm ns ∧ ns.Nodup ∧ ns.Pairwise (fun a b => leN a b = true) ∧ ns.length < 64 ∧ Ret (rTU rInt) (ns.map S) B H Q
/-! ### _law_row -/
abbrev F__law_row (P : Program) (w : World) (K : PySem.W.Frag) (mg : Str → Option Value) (base : Heap) : Prop := Fn P w K mg base CX0 1 "_law_row" ["_law_glow"] [] spLRow
abbrev N__law_row : List Str := ["_law_glow", "_law_post"]
theorem sc__law_row : FnScope N__law_row ["_law_glow"] (defScope (top 84)) := ⟨rfl, rfl, rfl, by decide +kernel, rfl, by decide +kernel, by decide +kernel⟩
theorem ok__law_row (T : TX K mg) (D : DefAt K mg "_law_row" (top 84) [])   : F__law_row P w K mg base := by
  refine fn_ok D sc__law_row (by decide +kernel) (fun _ _ _ _ _ _ us hl => match us, hl with | [_], _ => rfl) (fun vs H Q E h => len1 h) (fun f cdv A outer s H vs Q E hr h => ?_)
  have nd := sc__law_row.nd
  obtain ⟨v0, rfl, h⟩ := h
  refine ⟨_, (pss_one (ps_ret (pe_callTy (k_tuple K) (by rfl) T.tuple bt_tuple (pa_cons (pe_lc (own := [("_law_post", 1)]) rfl nd (kp_list K (pe_callB (k_sortedS K) (by rfl) T.sorted bt_sorted (pa_cons (pe_callTy (call_listD rfl) (by rfl) T.list bt_list (pa_cons (pv 0) pa_nil)) pa_nil))) (blkOk_by (own := [("_law_post", 1)]) (N := N__law_row) (sc := defScope (top 84)) (by decide +kernel)) (fun _ _ _ _ _ => (pg_name (i := 1) nd rfl (Or.inl rfl))) (fun _ _ _ _ _ => pts_nil) (fun _ _ _ _ _ => (pe_dget (hu_of hr) (pv 0) (pv 1) (fun _ _ => rfl)))) pa_nil)))), ?_⟩
  obtain ⟨B, ps, S, ns, hB, hl, perm, ndn, pw, l64, q⟩ := h
  obtain ⟨d, kvs, rfl, hd, hk⟩ := id hl
  refine ⟨_, rfl, d, kvs, rfl, hB.rd hd, fun l1 hl1 => ?_⟩
  rw [keysS hk]
  have g1 : Gr [] B H (upd B l1 (.lst (ps.map V.str))) (upd H l1 (.lst (ps.map V.str))) := Gr.newP hB hl1
  refine ⟨l1, ps, rfl, SqL.of upd_same, by rw [perm.length_eq]; exact l64, fun ys l2 yperm srt hl2 => ?_⟩
  have ey : ys = ns := by
    have e1 := sorted_uniq (k := id) (xs := ns) (ys := ys) (by rw [List.map_id]; exact ndn) (yperm.trans perm) (sorted_pw srt)
    have e2 := sorted_uniq (k := id) (xs := ns) (ys := ns) (by rw [List.map_id]; exact ndn) (List.Perm.refl _) pw
    rw [e1]; exact e2.symm
  subst ey
  have g2 : Gr [] B H _ (upd (upd H l1 (.lst (ps.map V.str))) l2 (.lst (ys.map V.str))) := g1.trans (Gr.newP g1.sub hl2)
  have hl' := Rp.mono _ g2.up hl
  refine ⟨l2, rfl, ⟨_, SqL.of upd_same⟩, fun D hD => lc_map (Rs := rStr) (R := rInt) (fun x => S x) (src_list (a := l2) upd_same) g2.sub hD (strs2 ys) (by rw [List.length_map]; omega) (fun y x B3 H3 K1 hy hx g3 k1 => ?_) (fun B3 H3 g3 h3 => ?_)⟩
  · obtain rfl : x = .str y := hx
    exact ⟨_, rfl, _, rfl, d, _, rfl, dgl2 (Rp.mono _ g3.up hl') g3.sub (perm.mem_iff.mpr hy), k1 _ _ _ (Gr.refl g3.sub) rfl⟩
  · obtain ⟨vs, h0, hb, hh, ha⟩ := h3.at_
    refine ⟨D, vs, rfl, .inl ⟨SqL.of hh, fun t ht => ?_⟩⟩
    have g4 := (g2.trans g3).trans (Gr.newP (o := .tup vs) g3.sub ht)
    exact q _ _ _ g4 ⟨t, vs, rfl, upd_same, All2.mono (ExW.new (g3.sub.none ht)) ha⟩
def spLIsNum : Sp := sp1 fun a H Q => ∃ i, a = .int i ∧ Q (.bl (isN i)) H
/-! ### _law_is_number -/
abbrev F__law_is_number (P : Program) (w : World) (K : PySem.W.Frag) (mg : Str → Option Value) (base : Heap) : Prop := Fn P w K mg base CX0 1 "_law_is_number" ["_law_value"] [] spLIsNum
abbrev N__law_is_number : List Str := ["_law_value"]
theorem sc__law_is_number : FnScope N__law_is_number ["_law_value"] (defScope (top 80)) := ⟨rfl, rfl, rfl, by decide +kernel, rfl, by decide +kernel, by decide +kernel⟩
theorem ok__law_is_number (T : TX K mg) (D : DefAt K mg "_law_is_number" (top 80) [])   : F__law_is_number P w K mg base := by
  refine fn_ok D sc__law_is_number (by decide +kernel) (fun _ _ _ _ _ _ us hl => match us, hl with | [_], _ => rfl) (fun vs H Q E h => len1 h) (fun f cdv A outer s H vs Q E hr h => ?_)
  have nd := sc__law_is_number.nd
  obtain ⟨v0, rfl, h⟩ := h
  refine ⟨_, (pss_one (ps_ret (pe_and (pe_callB (k_isi K) (by rfl) T.isinstance bt_isinstance (pa_cons (pv 0) (pa_cons (pe_bty (by rfl) T.int bt_int) pa_nil))) (pe_and (pe_not (pe_callB (k_isi K) (by rfl) T.isinstance bt_isinstance (pa_cons (pv 0) (pa_cons (pe_bty (by rfl) T.bool bt_bool) pa_nil)))) (pe_one (pe_chain op_le op_le (pe_un un_neg (pe_op op_pow pe_int pe_int)) (pv 0) (pe_op op_pow pe_int pe_int))))))), ?_⟩
  obtain ⟨i, rfl, q⟩ := h
  have p12 : (10 : Int) ^ (12 : Int).toNat = 1000000000000 := by decide
  have cp : CPow 10 12 := ⟨by decide, by decide, by decide⟩
  refine ⟨_, rfl, _, _, _, _, true, rfl, .ty _, .base (.int i), kit_ty (by decide +kernel), _, rfl, ite_tt ?_⟩
  refine ⟨_, rfl, _, _, _, _, false, rfl, .ty _, .base (.int i), kit_ty (by decide +kernel), _, rfl, _, rfl, ite_tt ?_⟩
  refine ⟨_, _, rfl, rfl, cp, _, rfl, _, rfl, _, _, rfl, rfl, ?_⟩
  rw [p12]
  have q' : Q (.bl (decide (-1000000000000 ≤ i) && decide (i ≤ 1000000000000))) H := q
  refine ⟨_, rfl, ?_⟩
  refine ite2 (fun e => ?_) (fun e => ?_)
  · rw [show decide (-1000000000000 ≤ i) = true from e] at q'
    refine ⟨_, _, rfl, rfl, cp, _, _, rfl, rfl, ?_⟩
    rw [p12]
    exact q'
  · rw [show decide (-1000000000000 ≤ i) = false from Bool.eq_false_iff.mpr e] at q'
    exact q'
def spLRowGlow : Sp := sp2 fun a b H Q => ∃ B p S, ExW B H ∧ rPlan.rel B p a ∧ RowsOk p.ls p.bs ∧ (rTU rInt).rel B (p.net.names.map S) b ∧ (∀ x ∈ p.net.names, isN (S x) = true) ∧ Ret (rD rInt) (glow p.net.names S) B H Q
/-! ### _law_row_glow -/
abbrev F__law_row_glow (P : Program) (w : World) (K : PySem.W.Frag) (mg : Str → Option Value) (base : Heap) : Prop := Fn P w K mg base CX0 2 "_law_row_glow" ["_law_plan", "_law_row_here"] [] spLRowGlow
abbrev N__law_row_glow : List Str := ["_law_plan", "_law_row_here", "_law_posts_here", "_law_glow", "_law_k"]
theorem sc__law_row_glow : FnScope N__law_row_glow ["_law_plan", "_law_row_here"] (defScope (top 85)) := ⟨rfl, rfl, rfl, by decide +kernel, rfl, by decide +kernel, by decide +kernel⟩
theorem ok__law_row_glow (T : TX K mg) (D : DefAt K mg "_law_row_glow" (top 85) []) (c__law_posts : F__law_posts P w K mg base) (c__law_is_number : F__law_is_number P w K mg base)  : F__law_row_glow P w K mg base := by
  refine fn_ok D sc__law_row_glow (by decide +kernel) (fun _ _ _ _ _ _ us hl => match us, hl with | [_, _], _ => rfl) (fun vs H Q E h => len2 h) (fun f cdv A outer s H vs Q E hr h => ?_)
  have nd := sc__law_row_glow.nd
  obtain ⟨v0, v1, rfl, h⟩ := h
  refine ⟨_, (pss_cons (ps_set (i := 2) nd rfl (Or.inl rfl) (pe_fn c__law_posts hr (by rfl) (pa_cons (pv 0) pa_nil)))
      (pss_cons (ps_if (pt_cmpR op_ne (pe_callB (k_len K) (by rfl) T.len bt_len (pa_cons (pv 1) pa_nil)) (pe_callB (k_len K) (by rfl) T.len bt_len (pa_cons (pv 2) pa_nil)) (nomark _)) (pss_one (ps_ret pe_non)) pss_nil)
      (pss_cons (ps_set (i := 3) nd rfl (Or.inl rfl) pe_dnewK)
      (pss_cons (ps_for PassesOwn.never rfl (pi_range1 (by rfl) T.range (pa_cons (pe_callB (k_len K) (by rfl) T.len bt_len (pa_cons (pv 2) pa_nil)) pa_nil)) (pg_name (i := 4) nd rfl (Or.inl rfl))
      (pss_cons (ps_if (pt_not (pt_val (pe_fn c__law_is_number hr (by rfl) (pa_cons (pe_ix (kx_tup K) (pv 1) (pv 4) (fun _ _ => rfl)) pa_nil)))) (pss_one (ps_ret pe_non)) pss_nil)
      (pss_one (ps_dput (hu_of hr) (pv 3) (pe_ix (kx_list K) (pv 2) (pv 4) (fun _ _ => rfl)) (pe_ix (kx_tup K) (pv 1) (pv 4) (fun _ _ => rfl)) rfl))))
      (pss_one (ps_ret (pv 3))))))), ?_⟩
  obtain ⟨B, p, S, hB, hp, ok, hr, hS, q⟩ := h
  have okn : p.net.Ok := netOf_ok ok
  obtain ⟨t, ts, rfl, ht, hts⟩ := id hr
  refine ⟨_, rfl, _, rfl, B, p, hB, hp, ok, fun B1 H1 pv g1 hpv => ?_⟩
  obtain ⟨l, lvs, rfl, hl, hls⟩ := id hpv
  have e1 := ints_eq hts
  rw [List.map_map] at e1
  subst e1
  have e2 := strs_eq hls
  subst e2
  refine ⟨_, rfl, t, _, rfl, .inr (SqT.of (g1.sub.tup (g1.up.tup ht))), _, rfl, l, _, rfl, .inl (SqL.of (g1.sub.lst hl)), rfl, _, rfl, ?_⟩
  refine iteF' (by simp) ?_
  intro d hd
  have gd := g1.trans (Gr.new_ (o := .dK []) g1.sub hd)
  have bd := g1.sub.none hd
  have hd0 := g1.was hd
  refine ⟨_, rfl, l, _, rfl, .inl (SqL.of (gd.sub.lst hl)), _, rfl, by omega, by have := okn.lt10; rw [List.length_map]; omega, ?_⟩
  rw [Int.toNat_natCast, List.length_map]
  refine for_go (Rs := rNat) (fun i σ1 B3 H3 => (∃ z4, σ1 = [some v0, some (.ref t), some (.ref l), some (.ref d), z4]) ∧ Gr [d] B1 (upd H1 d (.dK [])) B3 H3 ∧ B3 d = none ∧ ∃ kvs, H3 d = some (.dK kvs) ∧ DAll rInt B3 (glow (p.net.names.take i) S) kvs)
    src_rng (nats2 _) ⟨⟨_, rfl⟩, Gr.refl gd.sub, bd, [], upd_same, .nil⟩ (fun i σ1 B1 H1 h => ⟨h.2.1.up, h.2.1.sub⟩) (fun i y x σ1 B3 H3 hy hx h => ?_) (fun σ1 B3 H3 h => ?_)
  · obtain ⟨⟨z4, rfl⟩, g3, b3, kvs, h3, a3⟩ := h
    obtain rfl : x = .int y := hx
    have hyn : y < p.net.names.length := List.mem_range.mp (List.mem_of_getElem? hy)
    have ei : y = i := by
      have hi : i < p.net.names.length := by
        obtain ⟨h1, _⟩ := List.getElem?_eq_some_iff.mp hy
        simpa using h1
      rw [List.getElem?_range hi] at hy
      simpa using hy.symm
    subst ei
    have ey := List.getElem?_eq_getElem hyn
    have st := SqT.of (K := K) (g3.sub.tup (g3.up.tup (g1.up.tup ht)))
    have sl := SqL.of (K := K) (g3.sub.lst (g3.up.lst hl))
    have at1 : atI (p.net.names.map (V.int ∘ S)) ((y : Nat) : Int) = some (.int (S p.net.names[y])) := atI_nat (by rw [List.getElem?_map, ey]; rfl)
    have at2 : atI (p.net.names.map V.str) ((y : Nat) : Int) = some (.str p.net.names[y]) := atI_nat (by rw [List.getElem?_map, ey]; rfl)
    have ym : p.net.names[y] ∈ p.net.names := List.getElem_mem hyn
    refine ⟨_, rfl, _, rfl, t, _, _, _, rfl, rfl, st, at1, _, rfl, _, rfl, _, rfl, ?_⟩
    rw [hS _ ym]
    refine iteF ⟨_, rfl, _, rfl, t, _, _, _, rfl, rfl, st, at1, _, rfl, _, rfl, _, rfl, l, _, _, _, rfl, rfl, sl, at2, d, _, rfl, DPut.k (k := Sum.inr p.net.names[y]) h3 ?_, B3, ⟨_, rfl⟩, g3.mut (.inr (by simp)) b3, b3, _, upd_same, ?_⟩
    · have e := a3.len
      rw [List.length_map, List.length_take] at e
      have := okn.lt10
      exact Nat.lt_trans (m := 64) (by omega) (by decide)
    · rw [take_snoc ey, show glow (p.net.names.take y ++ [p.net.names[y]]) S = glow (p.net.names.take y) S ++ [(p.net.names[y], S p.net.names[y])] from List.map_append]
      refine a3.new ?_ rfl
      rw [List.map_map]
      show ¬ p.net.names[y] ∈ (p.net.names.take y).map id
      rw [List.map_id]
      exact nd_take okn.nd ey
  · obtain ⟨⟨z4, rfl⟩, g3, b3, kvs, h3, a3⟩ := h
    rw [List.length_range, List.take_length] at a3
    have GA : Gr [] B H B3 H3 := gd.fresh hd0 g3
    exact ⟨_, rfl, q.newD GA ⟨d, kvs, rfl, hd0, b3, h3, a3⟩⟩
theorem cans_sorted {ls : List (Str × Option Int)} {bs ys : List Bond} {S : Str → Int} (ok : RowsOk ls bs) (perm : ys.Perm bs) (pw : ys.Pairwise fun a b => leN a.nm b.nm = true) : (ys.filter (can (netOf ls bs) S)).map (·.nm) = cans (netOf ls bs) S := by
  have e : ys.map kept = (netOf ls bs).bonds := by
    refine sorted_uniq (k := fun (b : Bond) => b.nm) (by rw [kept_nms]; exact ok.bnd) (perm.map _) ?_
    rw [List.pairwise_map]
    exact pw.imp fun {a b} h => by rw [kept_nm, kept_nm]; exact h
  unfold cans
  rw [← e, List.filter_map, List.map_map]
  have e1 : (can (netOf ls bs) S ∘ kept) = can (netOf ls bs) S := funext fun y => can_kept
  rw [e1]
  exact List.map_congr_left fun y _ => (kept_nm y).symm
def spLCan : Sp := sp2 fun a b H Q => ∃ B p ps S, ExW B H ∧ rPlan.rel B p a ∧ RowsOk p.ls p.bs ∧ (rD rInt).rel B (glow ps S) b ∧ (∀ x, x ∈ ps ↔ x ∈ p.net.names) ∧ Ret (rL rStr) (cans p.net S) B H Q
/-! ### _law_can -/
abbrev F__law_can (P : Program) (w : World) (K : PySem.W.Frag) (mg : Str → Option Value) (base : Heap) : Prop := Fn P w K mg base CX0 3 "_law_can" ["_law_plan", "_law_glow"] [] spLCan
abbrev N__law_can : List Str := ["_law_plan", "_law_glow", "_law_edge"]
theorem sc__law_can : FnScope N__law_can ["_law_plan", "_law_glow"] (defScope (top 89)) := ⟨rfl, rfl, rfl, by decide +kernel, rfl, by decide +kernel, by decide +kernel⟩
theorem ok__law_can (T : TX K mg) (D : DefAt K mg "_law_can" (top 89) []) (c__law_refusal : F__law_refusal P w K mg base)  : F__law_can P w K mg base := by
  refine fn_ok D sc__law_can (by decide +kernel) (fun _ _ _ _ _ _ us hl => match us, hl with | [_, _], _ => rfl) (fun vs H Q E h => len2 h) (fun f cdv A outer s H vs Q E hr h => ?_)
  have nd := sc__law_can.nd
  obtain ⟨v0, v1, rfl, h⟩ := h
  refine ⟨_, (pss_one (ps_ret (pe_lc (own := [("_law_edge", 2)]) rfl nd (kp_list K (pe_callB cr_sortedRows (by rfl) T.sorted bt_sorted (pa_cons (pe_ix (kx_list K) (pv 0) pe_int (fun _ _ => rfl)) pa_nil))) (blkOk_by (own := [("_law_edge", 2)]) (N := N__law_can) (sc := defScope (top 89)) (by decide +kernel)) (fun _ _ _ _ _ => (pg_name (i := 2) nd rfl (Or.inl rfl))) (fun _ _ _ _ _ => (pts_one (pt_cmpR op_isN (pe_fn c__law_refusal hr (by rfl) (pa_cons (pv 0) (pa_cons (pv 1) (pa_cons (pv 2) pa_nil)))) pe_non (nomark _)))) (fun _ _ _ _ _ => (pe_ix (kx_tup K) (pv 2) pe_int (fun _ _ => rfl)))))), ?_⟩
  obtain ⟨B, p, ps, S, hB, hp, ok, hl, hps, q⟩ := h
  obtain ⟨a, u1, u2, u3, rfl, ha, h1, h2, h3⟩ := id hp
  obtain ⟨l, vs, rfl, hl2, hvs⟩ := id h2
  have f2 : ∀ r : Bond, (fun x : Bond => [V.str x.nm, V.str x.a, V.str x.b, vo x.lo, vo x.hi]) r = .str r.nm :: [V.str r.a, V.str r.b, vo r.lo, vo r.hi] := fun _ => rfl
  refine ⟨_, rfl, a, _, _, _, rfl, rfl, SqL.of (hB.lst ha), atI_nat (j := 1) rfl, l, vs, nmOf B, rfl, SqL.of (hB.lst hl2), ?_, ?_, fun ys t perm srt ht => ?_⟩
  · intro x hx
    obtain ⟨i, hi⟩ := List.getElem?_of_mem hx
    obtain ⟨y, ey, ry⟩ := hvs.at_ hi
    have e := nmOf_fix f2 ry
    obtain ⟨ra, rfl, hra⟩ := id ry
    refine ⟨ra, [V.str y.a, V.str y.b, vo y.lo, vo y.hi], rfl, ?_, rfl⟩
    rw [e]; exact SqT.of (hB.tup hra)
  · intro x hx y hy e
    obtain ⟨i, hi⟩ := List.getElem?_of_mem hx
    obtain ⟨j, hj⟩ := List.getElem?_of_mem hy
    obtain ⟨b1, eb1, r1⟩ := hvs.at_ hi
    obtain ⟨b2, eb2, r2⟩ := hvs.at_ hj
    rw [nmOf_fix f2 r1, nmOf_fix f2 r2] at e
    have q1 : (p.bs.map (·.nm))[i]? = some b1.nm := by rw [List.getElem?_map, eb1]; rfl
    have q2 : (p.bs.map (·.nm))[j]? = some b1.nm := by rw [List.getElem?_map, eb2, e]; rfl
    have := nd_ix ok.bnd q1 q2
    subst this
    rw [hi] at hj
    exact Option.some.inj hj
  · obtain ⟨rows, rperm, ra⟩ := All2.perm perm hvs
    have g1 : Gr [] B H (upd B t (.lst ys)) (upd H t (.lst ys)) := Gr.newP hB ht
    have ra' := All2.mono g1.up ra
    have hp' := Rp.mono _ g1.up hp
    have hl' := Rp.mono _ g1.up hl
    refine ⟨t, rfl, ⟨_, SqL.of upd_same⟩, fun D hD => lc_flt (Rs := rBRow) (R := rStr) (fun y => if can p.net S y = true then some y.nm else none) (src_list (a := t) upd_same) g1.sub hD ra' (by rw [← ra.len, rperm.length_eq]; have := ok.blen; omega) (fun y x B3 H3 K1 K0 hy hx g3 k1 k0 => ?_) (fun B3 H3 g3 h3 => ?_)⟩
    · obtain ⟨ra2, rfl, hra2⟩ := id hx
      refine ⟨_, rfl, _, rfl, _, rfl, _, _, _, rfl, B3, p, ps, S, y, g3.sub, Rp.mono _ g3.up hp', ok, Rp.mono _ g3.up hl', hps, rperm.mem_iff.mp hy, hx, fun v hv => ?_⟩
      rcases hv with ⟨rfl, hc⟩ | ⟨z, rfl, hc⟩
      · exact ⟨rfl, _, rfl, ite_tt ⟨_, rfl, ra2, _, _, _, rfl, rfl, SqT.of (K := K) (g3.sub.tup hra2), atI_nat (j := 0) rfl, k1 y.nm _ _ _ (if_pos hc) (Gr.refl g3.sub) rfl⟩⟩
      · exact ⟨rfl, _, rfl, iteF (k0 _ _ (if_neg (by rw [hc]; exact Bool.false_ne_true)) (Gr.refl g3.sub))⟩
    · have e : rows.filterMap (fun y => if can p.net S y = true then some y.nm else none) = cans p.net S := by
        rw [show p.net = netOf p.ls p.bs from rfl, ← cans_sorted ok rperm (nmOf_sort f2 ra srt)]
        exact fm_map _ _ rows
      rw [e] at h3
      exact (q.go g1).newL g3 h3
end
end OB

/-! ## Q5 -/
set_option maxHeartbeats 4000000
namespace OB
open PySem PySem.Spec PyProof.Rows L2
/-! ### the search, mirrored -/
structure RS where
  found : List (List Int)
  fresh : List (Str → Int)
def visit (n : Net) (bound : Nat) (now : Str → Int) (e : Bond) (st : RS) : Option RS :=
  if can n now e = true then
    (if n.names.map (stp now e) ∈ st.found then some st
    else if (st.found ++ [n.names.map (stp now e)]).length > bound then none else some ⟨st.found ++ [n.names.map (stp now e)], st.fresh ++ [stp now e]⟩)
  else some st
def edgesGo (n : Net) (bound : Nat) (now : Str → Int) : List Bond → RS → Option RS
  | [], st => some st
  | e :: r, st => (visit n bound now e st).bind (edgesGo n bound now r)
def layerGo (n : Net) (bound : Nat) (es : List Bond) : List (Str → Int) → RS → Option RS
  | [], st => some st
  | g :: r, st => (edgesGo n bound g es st).bind (layerGo n bound es r)
def reachGo (n : Net) (bound : Nat) (es : List Bond) : Nat → List (List Int) → List (Str → Int) → Option (List (List Int))
  | 0, f, _ => some f
  | k + 1, f, l => (layerGo n bound es l ⟨f, []⟩).bind fun st => reachGo n bound es k st.found st.fresh
def reachOf (p : Plan) (S : Str → Int) (bound : Nat) : Option (List (List Int)) := reachGo p.net bound p.bs 50 [p.net.names.map S] [S]
/-- lights in a dict whose keys stand as ps -/
def rGl (ps : List Str) : Rp (Str → Int) := ⟨fun B S v => (rD rInt).rel B (glow ps S) v, fun e h => Rp.mono _ e h⟩
/-- a dict of rows -/
def FoundAt (H : Hp) (d : Addr) (found : List (List Int)) : Prop := ∃ kvs : List (List Key × V), H d = some (.dT kvs) ∧ kvs.map (·.1) = found.map fun r => r.map Sum.inl
theorem inl_inj : ∀ {a b : List Int}, a.map (Sum.inl : Int → Key) = b.map Sum.inl → a = b
  | [], [], _ => rfl
  | [], _ :: _, h => by simp at h
  | _ :: _, [], h => by simp at h
  | x :: a, y :: b, h => by
    rw [List.map_cons, List.map_cons, List.cons.injEq] at h
    rw [Sum.inl.inj h.1, inl_inj h.2]
theorem inl_mem {found : List (List Int)} {r : List Int} : (r.map Sum.inl : List Key) ∈ found.map (fun r => (r.map Sum.inl : List Key)) ↔ r ∈ found := by
  rw [List.mem_map]
  exact ⟨fun ⟨x, hx, e⟩ => inl_inj e ▸ hx, fun h => ⟨r, h, rfl⟩⟩
theorem valV_mem {k : List Key} : ∀ {kvs : List (List Key × V)}, (valV kvs k).isSome = true ↔ k ∈ kvs.map (·.1)
  | [] => by
    constructor
    · intro h; cases h
    · intro h; simp at h
  | p :: r => by
    by_cases e : p.1 = k
    · rw [valV_pos e]
      simp [e]
    · rw [valV_neg e, valV_mem (kvs := r)]
      have : ¬ k = p.1 := fun z => e z.symm
      simp [this]
theorem FoundAt.get {H : Hp} {d b : Addr} {found : List (List Int)} {r : List Int} (h : FoundAt H d found) (hb : H b = some (.tup (r.map V.int))) : ∃ o, DGet H d (.ref b) o ∧ o.isSome = decide (r ∈ found) := by
  obtain ⟨kvs, h1, h2⟩ := h
  refine ⟨_, DGet.t (k := r.map Sum.inl) h1 (by rw [List.map_map]; exact hb), ?_⟩
  rw [Bool.eq_iff_iff, valV_mem, h2, decide_eq_true_eq]
  exact inl_mem
theorem FoundAt.put {H : Hp} {d b : Addr} {found : List (List Int)} {r : List Int} {v : V} (h : FoundAt H d found) (hb : H b = some (.tup (r.map V.int))) (hr : ¬ r ∈ found) (hl : found.length ≤ 100000) : ∃ o, DPut H d (.ref b) v (upd H d o) ∧ FoundAt (upd H d o) d (found ++ [r]) := by
  obtain ⟨kvs, h1, h2⟩ := h
  have len : kvs.length = found.length := by
    have := congrArg List.length h2
    simpa using this
  refine ⟨_, DPut.t (k := r.map Sum.inl) h1 (by rw [List.map_map]; exact hb) (by rw [len]; exact Nat.lt_of_le_of_lt hl (by decide)), _, upd_same, ?_⟩
  have hk : ¬ (r.map Sum.inl : List Key) ∈ kvs.map (·.1) := by rw [h2]; exact fun z => hr (inl_mem.mp z)
  have nk : (putK kvs (r.map Sum.inl) v).map (·.1) = kvs.map (·.1) ++ [r.map Sum.inl] := by
    unfold putK
    have : kvs.any (fun kv => decide (kv.1 = (r.map Sum.inl : List Key))) = false := by
      rw [List.any_eq_false]
      intro x hx
      have : x.1 ≠ r.map Sum.inl := fun z => hk (z ▸ List.mem_map.mpr ⟨x, hx, rfl⟩)
      simp [this]
    rw [if_neg (by rw [this]; exact Bool.false_ne_true)]
    simp
  rw [nk, h2, List.map_append]
  rfl
theorem FoundAt.keep {S : List Addr} {B H B' H' : Hp} {d : Addr} {f : List (List Int)} (h : FoundAt H d f) (g : Gr S B H B' H') (hs : d ∉ S) (hb : B d = none) : FoundAt H' d f := by
  obtain ⟨kvs, h1, h2⟩ := h
  exact ⟨kvs, g.keep d _ hs hb h1, h2⟩
theorem FoundAt.aside {H : Hp} {d a : Addr} {o : HO} {f : List (List Int)} (h : FoundAt H d f) (ne : d ≠ a) : FoundAt (upd H a o) d f := by
  obtain ⟨kvs, h1, h2⟩ := h
  exact ⟨kvs, by rw [upd_ne ne]; exact h1, h2⟩
theorem FoundAt.ne {H : Hp} {d a : Addr} {f : List (List Int)} (h : FoundAt H d f) (ha : H a = none) : d ≠ a := by
  obtain ⟨kvs, h1, h2⟩ := h
  exact ne_of_none h1 ha
theorem drop_cons {α : Type} {xs : List α} {i : Nat} {y : α} (h : xs[i]? = some y) : xs.drop i = y :: xs.drop (i + 1) := by
  obtain ⟨hl, ey⟩ := List.getElem?_eq_some_iff.mp h
  rw [List.drop_eq_getElem_cons hl, ey]
def rFound : Rp (List (List Int)) := ⟨fun B f v => ∃ d kvs, v = .ref d ∧ B d = some (.dT kvs) ∧ kvs.map (·.1) = f.map fun r => r.map Sum.inl, fun {B B' x v} e h => by
  obtain ⟨d, kvs, h1, h2, h3⟩ := h
  refine ⟨d, kvs, h1, ?_, h3⟩
  rcases e d _ h2 with q | ⟨_, q, _⟩
  · exact q
  · cases q⟩
section
variable {P : Program} {w : World} {K : PySem.W.Frag} {mg : Str → Option Value} {base : Heap}
def spLReach : Sp := sp3 fun a b c H Q => ∃ (B : Hp) (p : Plan) (ps : List Str) (S : Str → Int) (bound : Nat), ExW B H ∧ rPlan.rel B p a ∧ RowsOk p.ls p.bs ∧ (rD rInt).rel B (glow ps S) b ∧ ps.Perm p.net.names ∧ c = .int bound ∧ 1 ≤ bound ∧ bound ≤ 1000 ∧
  ∀ B' H' v, Gr [] B H B' H' → (match reachOf p S bound with
    | none => v = .non
    | some f => rFound.rel B' f v) → Q v H'
/-! ### _law_reach -/
abbrev F__law_reach (P : Program) (w : World) (K : PySem.W.Frag) (mg : Str → Option Value) (base : Heap) : Prop := Fn P w K mg base CX0 3 "_law_reach" ["_law_plan", "_law_glow", "_law_bound"] [] spLReach
abbrev N__law_reach : List Str := ["_law_plan", "_law_glow", "_law_bound", "_law_layer", "_law_found", "_law_turn", "_law_fresh", "_law_now", "_law_edge", "_law_after_here", "_law_row_here"]
theorem sc__law_reach : FnScope N__law_reach ["_law_plan", "_law_glow", "_law_bound"] (defScope (top 90)) := ⟨rfl, rfl, rfl, by decide +kernel, rfl, by decide +kernel, by decide +kernel⟩
theorem ok__law_reach (T : TX K mg) (D : DefAt K mg "_law_reach" (top 90) []) (c__law_row : F__law_row P w K mg base) (c__law_refusal : F__law_refusal P w K mg base) (c__law_after : F__law_after P w K mg base)  : F__law_reach P w K mg base := by
  refine fn_ok D sc__law_reach (by decide +kernel) (fun _ _ _ _ _ _ us hl => match us, hl with | [_, _, _], _ => rfl) (fun vs H Q E h => len3 h) (fun f cdv A outer s H vs Q E hr h => ?_)
  have nd := sc__law_reach.nd
  obtain ⟨v0, v1, v2, rfl, h⟩ := h
  refine ⟨_, (pss_cons (ps_set (i := 3) nd rfl (Or.inl rfl) (pe_lst (pa_cons (pe_callTy call_dictD (by rfl) T.dict bt_dict (pa_cons (pv 1) pa_nil)) pa_nil)))
      (pss_cons (ps_set (i := 4) nd rfl (Or.inl rfl) pe_dnewT)
      (pss_cons (ps_dput (hu_of hr) (pv 4) (pe_fn c__law_row hr (by rfl) (pa_cons (pv 1) pa_nil)) pe_int rfl)
      (pss_cons (ps_for PassesOwn.never rfl (pi_range1 (by rfl) T.range (pa_cons pe_int pa_nil)) (pg_name (i := 5) nd rfl (Or.inl rfl))
      (pss_cons (ps_set (i := 6) nd rfl (Or.inl rfl) (pe_lst pa_nil))
      (pss_cons (ps_for PassesOwn.never rfl (kp_list K (pe_callTy (k_list K) (by rfl) T.list bt_list (pa_cons (pv 3) pa_nil))) (pg_name (i := 7) nd rfl (Or.inl rfl))
      (pss_one (ps_for PassesOwn.never rfl (kp_list K (pe_ix (kx_list K) (pv 0) pe_int (fun _ _ => rfl))) (pg_name (i := 8) nd rfl (Or.inl rfl))
      (pss_one (ps_if (pt_cmpR op_isN (pe_fn c__law_refusal hr (by rfl) (pa_cons (pv 0) (pa_cons (pv 7) (pa_cons (pv 8) pa_nil)))) pe_non (nomark _)) (pss_cons (ps_set (i := 9) nd rfl (Or.inl rfl) (pe_fn c__law_after hr (by rfl) (pa_cons (pv 7) (pa_cons (pv 8) pa_nil))))
      (pss_cons (ps_set (i := 10) nd rfl (Or.inl rfl) (pe_fn c__law_row hr (by rfl) (pa_cons (pv 9) pa_nil)))
      (pss_one (ps_if (pt_cmp (pc_dnotin (hu_of hr) (pv 10) (pv 4))) (pss_cons (ps_dput (hu_of hr) (pv 4) (pv 10) (pe_op op_add (pv 5) pe_int) rfl)
      (pss_cons (ps_expr (pe_bm PySem.F.plainAttrs_list PySem.F.slot_list_append PySem.F.type_list_append mt_append (pv 6) (pa_cons (pv 9) pa_nil)))
      (pss_one (ps_if (pt_cmpR op_gt (pe_callB call_len_dT (by rfl) T.len bt_len (pa_cons (pv 4) pa_nil)) (pv 2) (nomark _)) (pss_one (ps_ret pe_non)) pss_nil)))) pss_nil)))) pss_nil)))))
      (pss_one (ps_set (i := 3) nd rfl (Or.inl rfl) (pv 6))))))
      (pss_one (ps_ret (pv 4))))))), ?_⟩
  obtain ⟨B, p, ps, S, bound, hB, hp, ok, hl, perm, rfl, hb1, hb2, q⟩ := h
  have okn : p.net.Ok := netOf_ok ok
  have hpw : p.net.names.Pairwise (fun a b => leN a b = true) := net_names_pw
  have ndp : ps.Nodup := perm.symm.nodup okn.nd
  have l64 : ps.length < 64 := by rw [perm.length_eq]; exact okn.lt
  have hps : ∀ x, x ∈ ps ↔ x ∈ p.net.names := fun x => perm.mem_iff
  obtain ⟨g0, gkvs, rfl, hgd, hgk⟩ := id hl
  obtain ⟨pa, u1, u2, u3, rfl, hpa, hp1, hp2, hp3⟩ := id hp
  obtain ⟨el, evs, rfl, hel, hes⟩ := id hp2
  -- layer
  refine ⟨_, rfl, g0, gkvs, rfl, hB.rd hgd, fun c0 hc0 => ⟨(by show 1 ≤ sizeLine; decide), fun l0 hl0 => ?_⟩⟩
  have gA : Gr [] B H (upd B c0 (.dK gkvs)) (upd H c0 (.dK gkvs)) := Gr.newP hB hc0
  have gB : Gr [] B H (upd (upd B c0 (.dK gkvs)) l0 (.lst [.ref c0])) (upd (upd H c0 (.dK gkvs)) l0 (.lst [.ref c0])) := gA.trans (Gr.newP gA.sub hl0)
  have hlay : (rL (rGl ps)).rel (upd (upd B c0 (.dK gkvs)) l0 (.lst [.ref c0])) [S] (.ref l0) :=
    ⟨l0, _, rfl, upd_same, .cons ((rGl ps).mono (ExW.new (gA.sub.none hl0)) ⟨c0, gkvs, rfl, .inl upd_same, DAll.mono (ExW.new (hB.none hc0)) hgk⟩) All2.nil0⟩
  generalize upd (upd B c0 (.dK gkvs)) l0 (.lst [.ref c0]) = B1 at *
  generalize upd (upd H c0 (.dK gkvs)) l0 (.lst [.ref c0]) = H1 at *
  -- found
  refine fun d hd => ?_
  have hd0 : H d = none := gB.was hd
  have gC : Gr [] B H B1 (upd H1 d (.dT [])) := gB.trans (Gr.new_ gB.sub hd)
  have bd := gB.sub.none hd
  refine ⟨_, rfl, _, rfl, _, rfl, B1, ps, S, p.net.names, gC.sub, Rp.mono _ gC.up hl, perm, okn.nd, hpw, okn.lt, fun B2 H2 rv g2 hrv => ?_⟩
  obtain ⟨rt, rts, rfl, hrt, hrts⟩ := id hrv
  have e1 := ints_eq hrts
  subst e1
  have d2 : H2 d = some (.dT []) := g2.keep d _ (fun z => nomatch z) bd upd_same
  have bd2 : B2 d = none := g2.new d bd (by rw [upd_same]; exact fun z => nomatch z)
  have F2 : FoundAt H2 d [] := ⟨[], d2, rfl⟩
  obtain ⟨o3, put3, F3⟩ := F2.put (r := p.net.names.map S) (v := .int 0) (g2.sub.tup hrt) (fun z => nomatch z) (by simp)
  refine ⟨d, _, rfl, put3, ?_⟩
  have g3 : Gr [d] B1 (upd H1 d (.dT [])) B2 (upd H2 d o3) := (g2.any).mut (.inr (by simp)) bd2
  generalize upd H2 d o3 = H3 at *
  have hl3 := Rp.mono _ g3.up hlay
  refine ⟨50, rfl, by decide, by decide, ?_⟩
  rw [show (50 : Int).toNat = 50 from rfl]
  refine for_go (Rs := rNat) (fun i σ1 B4 H4 => ∃ lay found layer z5 z6 z7 z8 z9 z10, σ1 = [some (.ref pa), some (.ref g0), some (.int bound), some (.ref lay), some (.ref d), z5, z6, z7, z8, z9, z10] ∧ Gr [d] B2 H3 B4 H4 ∧ B4 d = none ∧ FoundAt H4 d found ∧ (rL (rGl ps)).rel B4 layer (.ref lay) ∧ reachOf p S bound = reachGo p.net bound p.bs (50 - i) found layer ∧ found.length ≤ bound ∧ layer.length ≤ found.length)
    src_rng (nats2 _) ⟨l0, [p.net.names.map S], [S], _, _, _, _, _, _, rfl, Gr.refl g3.sub, bd2, F3, hl3, rfl, hb1, Nat.le_refl _⟩ (fun i σ1 B1 H1 ⟨_, _, _, _, _, _, _, _, _, _, h, _⟩ => ⟨h.up, h.sub⟩) (fun i y x σ1 B4 H4 hy hx h => ?_) (fun σ1 B4 H4 h => ?_)
  · obtain ⟨lay, found, layer, z5, z6, z7, z8, z9, z10, rfl, g4, bd4, F4, hlay4, ans, fl, ll⟩ := h
    obtain rfl : x = .int y := hx
    have hi50 : i < 50 := by
      obtain ⟨h1, _⟩ := List.getElem?_eq_some_iff.mp hy
      simpa using h1
    refine ⟨(by show 0 ≤ sizeLine; decide), fun f hf => ?_⟩
    have df : d ≠ f := F4.ne hf
    have F5 := F4.aside (o := .lst []) df
    have g5 : Gr [] B4 H4 B4 (upd H4 f (.lst [])) := Gr.new_ g4.sub hf
    have own5 : Own (rGl ps) B4 (upd H4 f (.lst [])) f [] := Own.mk0 (g4.sub.none hf)
    obtain ⟨_, lvs, e, hlv, hlvs⟩ := id hlay4
    cases e
    refine ⟨_, rfl, lay, lvs, rfl, .inl (SqL.of (g5.sub.lst hlv)), fun l1 hl1 => ?_⟩
    have g6 : Gr [] B4 (upd H4 f (.lst [])) (upd B4 l1 (.lst lvs)) (upd (upd H4 f (.lst [])) l1 (.lst lvs)) := Gr.newP g5.sub hl1
    have own6 := own5.keep g6 (fun z => nomatch z)
    have F6 := F5.keep g6 (fun z => nomatch z) bd4
    have bd6 : (upd B4 l1 (.lst lvs)) d = none := by rw [upd_ne (F5.ne hl1)]; exact bd4
    have hl6 : (upd B4 l1 (.lst lvs)) l1 = some (.lst lvs) := upd_same
    have hlvs6 := All2.mono g6.up hlvs
    have G46 := g5.trans g6
    generalize upd B4 l1 (.lst lvs) = B6 at *
    generalize upd (upd H4 f (.lst [])) l1 (.lst lvs) = H6 at *
    have ek : 50 - i = (50 - (i + 1)) + 1 := by omega
    rw [ek] at ans
    have ans : reachOf p S bound = (layerGo p.net bound p.bs layer ⟨found, []⟩).bind fun st => reachGo p.net bound p.bs (50 - (i + 1)) st.found st.fresh := ans
    have up46 : ExW B B6 := gC.up.trans (g3.up.trans (g4.up.trans G46.up))
    refine ⟨l1, rfl, ⟨_, SqL.of (g6.sub.lst hl6)⟩, for_go (Rs := rGl ps) (fun j σ2 B7 H7 => ∃ st z7 z8 z9 z10, σ2 = [some (.ref pa), some (.ref g0), some (.int bound), some (.ref lay), some (.ref d), some (.int y), some (.ref f), z7, z8, z9, z10] ∧ Gr [f, d] B6 H6 B7 H7 ∧ B7 d = none ∧ FoundAt H7 d st.found ∧ Own (rGl ps) B7 H7 f st.fresh ∧ reachOf p S bound = (layerGo p.net bound p.bs (layer.drop j) st).bind (fun st => reachGo p.net bound p.bs (50 - (i + 1)) st.found st.fresh) ∧ st.found.length ≤ bound ∧ st.fresh.length ≤ st.found.length)
      (src_list hl6) hlvs6 ⟨⟨found, []⟩, _, _, _, _, rfl, Gr.refl g6.sub, bd6, F6, own6, ans, fl, Nat.zero_le _⟩ (fun i σ1 B1 H1 ⟨_, _, _, _, _, _, h, _⟩ => ⟨h.up, h.sub⟩) (fun j now nx σ2 B7 H7 hj hnx h => ?_) (fun σ2 B7 H7 h => ?_)⟩
    · obtain ⟨st, z7, z8, z9, z10, rfl, g7, bd7, F7, own7, ans, fl, ll⟩ := h
      rw [drop_cons hj] at ans
      have ans : reachOf p S bound = ((edgesGo p.net bound now p.bs st).bind (layerGo p.net bound p.bs (layer.drop (j + 1)))).bind (fun st => reachGo p.net bound p.bs (50 - (i + 1)) st.found st.fresh) := ans
      have up7 : ExW B B7 := up46.trans g7.up
      refine ⟨_, rfl, pa, _, _, _, rfl, rfl, SqL.of (g7.sub.lst (up7.lst hpa)), atI_nat (j := 1) rfl, el, rfl, ⟨_, SqL.of (g7.sub.lst (up7.lst hel))⟩, for_go (Rs := rBRow) (fun k σ3 B8 H8 => ∃ st z8 z9 z10, σ3 = [some (.ref pa), some (.ref g0), some (.int bound), some (.ref lay), some (.ref d), some (.int y), some (.ref f), some nx, z8, z9, z10] ∧ Gr [f, d] B7 H7 B8 H8 ∧ B8 d = none ∧ FoundAt H8 d st.found ∧ Own (rGl ps) B8 H8 f st.fresh ∧ reachOf p S bound = ((edgesGo p.net bound now (p.bs.drop k) st).bind (layerGo p.net bound p.bs (layer.drop (j + 1)))).bind (fun st => reachGo p.net bound p.bs (50 - (i + 1)) st.found st.fresh) ∧ st.found.length ≤ bound ∧ st.fresh.length ≤ st.found.length)
        (src_list (up7.lst hel)) (All2.mono up7 hes) ⟨st, _, _, _, rfl, Gr.refl g7.sub, bd7, F7, own7, ans, fl, ll⟩ (fun i σ1 B1 H1 ⟨_, _, _, _, _, h, _⟩ => ⟨h.up, h.sub⟩) (fun k e ev σ3 B8 H8 hk hev h => ?_) (fun σ3 B8 H8 h => ?_)⟩
      · obtain ⟨st, z8, z9, z10, rfl, g8, bd8, F8, own8, ans, fl, ll⟩ := h
        rw [drop_cons hk] at ans
        have ans : reachOf p S bound = (((visit p.net bound now e st).bind (edgesGo p.net bound now (p.bs.drop (k + 1)))).bind (layerGo p.net bound p.bs (layer.drop (j + 1)))).bind (fun st => reachGo p.net bound p.bs (50 - (i + 1)) st.found st.fresh) := ans
        have up8 : ExW B B8 := up7.trans g8.up
        have hnow8 := (rGl ps).mono g8.up hnx
        have em : e ∈ p.bs := List.mem_of_getElem? hk
        have hp8 := Rp.mono _ up8 hp
        obtain ⟨e1, e2, e3⟩ := ok.ends e em
        have ma : e.a ∈ ps := (hps _).mpr (netOf_names.mem_iff.mpr e1)
        have mb : e.b ∈ ps := (hps _).mpr (netOf_names.mem_iff.mpr e2)
        refine ⟨_, rfl, _, rfl, _, rfl, _, _, _, rfl, B8, p, ps, now, e, g8.sub, hp8, ok, hnow8, hps, em, hev, fun v hv => ?_⟩
        rcases hv with ⟨rfl, hc⟩ | ⟨z, rfl, hc⟩
        case inr =>
          have ev : visit p.net bound now e st = some st := by unfold visit; rw [hc, if_neg Bool.false_ne_true]
          rw [ev] at ans
          exact ⟨rfl, _, rfl, iteF ⟨B8, st, _, _, _, rfl, g8, bd8, F8, own8, ans, fl, ll⟩⟩
        refine ⟨rfl, _, rfl, ite_tt ?_⟩
        refine ⟨_, rfl, _, rfl, _, _, rfl, B8, ps, now, e, g8.sub, hnow8, ndp, l64, ma, mb, hev, fun B9 H9 av g9 hav => ?_⟩
        refine ⟨_, rfl, _, rfl, B9, ps, stp now e, p.net.names, g9.sub, hav, perm, okn.nd, hpw, okn.lt, fun B10 H10 rv g10 hrv => ?_⟩
        obtain ⟨rt, rts, rfl, hrt, hrts⟩ := id hrv
        have er := ints_eq hrts
        subst er
        have g810 := g9.trans g10
        have F10 := F8.keep g810 (fun z => nomatch z) bd8
        have own10 := own8.keep g810 (fun z => nomatch z)
        have bd10 : B10 d = none := g810.new d bd8 (by obtain ⟨kvs, h1, _⟩ := F8; rw [h1]; exact fun z => nomatch z)
        have G10 : Gr [f, d] B7 H7 B10 H10 := g8.trans g810.any
        have hrt' : H10 rt = some (.tup ((p.net.names.map (stp now e)).map V.int)) := g10.sub.tup hrt
        obtain ⟨o, hget, ho⟩ := F10.get hrt'
        refine ⟨_, rfl, _, rfl, d, o, rfl, hget, _, rfl, ?_⟩
        rw [ho]
        by_cases hmem : p.net.names.map (stp now e) ∈ st.found
        · have ev : visit p.net bound now e st = some st := by unfold visit; rw [if_pos hc, if_pos hmem]
          rw [ev] at ans
          exact iteF' (by rw [decide_eq_true hmem]; rfl) ⟨B10, st, _, _, _, rfl, G10, bd10, F10, own10, ans, fl, ll⟩
        · refine iteT' (by rw [decide_eq_false hmem]; rfl) ?_
          obtain ⟨o2, put, F11⟩ := F10.put (v := .int (y + 1)) hrt' hmem (by omega)
          have dfne : f ≠ d := df.symm
          refine ⟨_, rfl, _, _, rfl, rfl, _, rfl, _, rfl, d, _, rfl, put, ?_⟩
          have g11 : Gr [f, d] B7 H7 B10 (upd H10 d o2) := G10.mut (.inr (by simp)) bd10
          have own11 := own10.aside (o := o2) dfne
          have hav11 : (rGl ps).rel B10 (stp now e) av := (rGl ps).mono g10.up hav
          obtain ⟨zs, hz, lz, own12⟩ := own11.app hav11 (by omega)
          refine ⟨_, rfl, own11.ty, _, rfl, f, zs, _, rfl, rfl, hz, lz, ?_⟩
          have g12 : Gr [f, d] B7 H7 B10 (upd (upd H10 d o2) f (.lst (zs ++ [av]))) := g11.mut (.inr (by simp)) own11.1
          have F12 := F11.aside (o := .lst (zs ++ [av])) dfne.symm
          obtain ⟨kvs, hkv, hkk⟩ := id F12
          have hlen : (kvs.length : Nat) = (st.found ++ [p.net.names.map (stp now e)]).length := by
            have := congrArg List.length hkk
            simpa using this
          refine ⟨_, rfl, d, kvs, rfl, hkv, _, rfl, _, _, rfl, rfl, _, rfl, ?_⟩
          rw [hlen]
          by_cases hb : (st.found ++ [p.net.names.map (stp now e)]).length > bound
          · have ev : visit p.net bound now e st = none := by unfold visit; rw [if_pos hc, if_neg hmem, if_pos hb]
            rw [ev] at ans
            have ans : reachOf p S bound = none := ans
            refine iteT' (decide_eq_true (by omega)) (q B10 _ _ ?_ (by rw [ans]))
            have G7 : Gr [d] B4 H4 B10 _ := (G46.any (S := [d])).fresh hf (g7.trans g12)
            exact gC.fresh hd0 ((g3.trans g4).trans G7)
          · have ev : visit p.net bound now e st = some ⟨st.found ++ [p.net.names.map (stp now e)], st.fresh ++ [stp now e]⟩ := by unfold visit; rw [if_pos hc, if_neg hmem, if_neg hb]
            rw [ev] at ans
            refine iteF' (decide_eq_false (by omega)) ⟨B10, ⟨st.found ++ [p.net.names.map (stp now e)], st.fresh ++ [stp now e]⟩, _, _, _, rfl, g12, bd10, F12, own12, ans, Nat.not_lt.mp hb, ?_⟩
            show (st.fresh ++ [stp now e]).length ≤ (st.found ++ [p.net.names.map (stp now e)]).length
            rw [List.length_append, List.length_append]
            exact Nat.add_le_add_right ll _
      · obtain ⟨st, z8, z9, z10, rfl, g8, bd8, F8, own8, ans, fl, ll⟩ := h
        rw [List.drop_length] at ans
        exact ⟨B8, st, _, _, _, _, rfl, g7.trans g8, bd8, F8, own8, ans, fl, ll⟩
    · obtain ⟨st, z7, z8, z9, z10, rfl, g7, bd7, F7, own7, ans, fl, ll⟩ := h
      rw [List.drop_length] at ans
      have ans : reachOf p S bound = reachGo p.net bound p.bs (50 - (i + 1)) st.found st.fresh := ans
      have hf0 : H4 f = none := hf
      have G7 : Gr [d] B4 H4 B7 H7 := (G46.any (S := [d])).fresh hf0 g7
      obtain ⟨bf, zs, hz, az⟩ := own7
      refine ⟨_, rfl, upd B7 f (.lst zs), f, st.found, st.fresh, _, _, _, _, _, _, rfl, g4.trans (G7.pub hf0 bf hz), by rw [upd_ne df]; exact bd7, F7, ⟨f, zs, rfl, upd_same, All2.mono (ExW.new bf) az⟩, ans, fl, ll⟩
  · obtain ⟨lay, found, layer, z5, z6, z7, z8, z9, z10, rfl, g4, bd4, F4, hlay4, ans, fl, ll⟩ := h
    rw [List.length_range] at ans
    have ans : reachOf p S bound = some found := ans
    obtain ⟨kvs, hk1, hk2⟩ := F4
    have GA : Gr [] B H B4 H4 := gC.fresh hd0 (g3.trans g4)
    refine ⟨_, rfl, q _ H4 _ (GA.pub hd0 bd4 hk1) ?_⟩
    rw [ans]
    exact ⟨d, kvs, rfl, upd_same, hk2⟩
end
end OB

/-! ## Q6 -/
set_option maxHeartbeats 4000000
namespace OB
open PySem PySem.Spec PyProof.Rows L2
theorem RowsOk.take {ls : List (Str × Option Int)} {bs : List Bond} (ok : RowsOk ls bs) (k : Nat) : RowsOk ls (bs.take k) where
  nm := ok.nm
  bnm := fun r hr => ok.bnm r (List.mem_of_mem_take hr)
  nd := ok.nd
  bnd := by rw [List.map_take]; exact List.Sublist.nodup (List.take_sublist _ _) ok.bnd
  num := ok.num
  bnum := fun r hr => ok.bnum r (List.mem_of_mem_take hr)
  ends := fun r hr => ok.ends r (List.mem_of_mem_take hr)
  len := ok.len
  blen := by rw [List.length_take]; have := ok.blen; omega
theorem layerGo_nil {n : Net} {bound : Nat} : ∀ (l : List (Str → Int)) (st : RS), layerGo n bound [] l st = some st
  | [], st => rfl
  | g :: r, st => by
    show ((some st).bind (layerGo n bound [] r)) = _
    exact layerGo_nil r st
theorem reachGo_nil {n : Net} {bound : Nat} : ∀ (k : Nat) (f : List (List Int)) (l : List (Str → Int)), reachGo n bound [] k f l ≠ none
  | 0, f, l => fun z => by cases z
  | k + 1, f, l => by
    show ((layerGo n bound [] l ⟨f, []⟩).bind fun st => reachGo n bound [] k st.found st.fresh) ≠ none
    rw [layerGo_nil]
    exact reachGo_nil k _ _
theorem cut_to {xs : List V} {m : Nat} : cutV xs none (some (m : Int)) = xs.take m := by
  unfold cutV
  rw [HT.sIx_nat, HT.sIx_none, List.drop_zero, Nat.sub_zero, ← List.take_take, List.take_length]
theorem All2.take {α β : Type} {R : α → β → Prop} : ∀ {xs : List α} {vs : List β} (k : Nat), All2 R xs vs → All2 R (xs.take k) (vs.take k)
  | _, _, 0, _ => .nil
  | _, _, k + 1, .nil => .nil
  | _, _, k + 1, .cons a t => .cons a (All2.take k t)
section
variable {P : Program} {w : World} {K : PySem.W.Frag} {mg : Str → Option Value} {base : Heap}
def spLTamed : Sp := sp3 fun a b c H Q => ∃ (B : Hp) (p : Plan) (ps : List Str) (S : Str → Int) (bound : Nat), ExW B H ∧ rPlan.rel B p a ∧ RowsOk p.ls p.bs ∧ (rD rInt).rel B (glow ps S) b ∧ ps.Perm p.net.names ∧ c = .int bound ∧ 1 ≤ bound ∧ bound ≤ 1000 ∧
  ∀ k, reachOf ⟨p.ls, p.bs.take k, p.pool⟩ S bound ≠ none → Ret rPlan ⟨p.ls, p.bs.take k, p.pool⟩ B H Q
/-! ### _law_tamed -/
abbrev F__law_tamed (P : Program) (w : World) (K : PySem.W.Frag) (mg : Str → Option Value) (base : Heap) : Prop := Fn P w K mg base CX0 4 "_law_tamed" ["_law_plan", "_law_glow", "_law_bound"] [] spLTamed
abbrev N__law_tamed : List Str := ["_law_plan", "_law_glow", "_law_bound", "_law_turn"]
theorem sc__law_tamed : FnScope N__law_tamed ["_law_plan", "_law_glow", "_law_bound"] (defScope (top 91)) := ⟨rfl, rfl, rfl, by decide +kernel, rfl, by decide +kernel, by decide +kernel⟩
theorem ok__law_tamed (T : TX K mg) (D : DefAt K mg "_law_tamed" (top 91) []) (c__law_reach : F__law_reach P w K mg base)  : F__law_tamed P w K mg base := by
  refine fn_ok D sc__law_tamed (by decide +kernel) (fun _ _ _ _ _ _ us hl => match us, hl with | [_, _, _], _ => rfl) (fun vs H Q E h => len3 h) (fun f cdv A outer s H vs Q E hr h => ?_)
  have nd := sc__law_tamed.nd
  obtain ⟨v0, v1, v2, rfl, h⟩ := h
  refine ⟨_, (pss_cons (ps_for PassesOwn.never rfl (pi_range1 (by rfl) T.range (pa_cons pe_int pa_nil)) (pg_name (i := 3) nd rfl (Or.inl rfl))
      (pss_one (ps_if (PW.pt (pw_and (pt_cmpR op_gt (pe_callB (k_len K) (by rfl) T.len bt_len (pa_cons (pe_ix (kx_list K) (pv 0) pe_int (fun _ _ => rfl)) pa_nil)) pe_int (nomark _)) (pw_and1 (pt_cmpR op_isN (pe_fn c__law_reach hr (by rfl) (pa_cons (pv 0) (pa_cons (pv 1) (pa_cons (pv 2) pa_nil)))) pe_non (nomark _))))) (pss_one (ps_set (i := 0) nd rfl (Or.inl rfl) (pe_lst (pa_cons (pe_ix (kx_list K) (pv 0) pe_int (fun _ _ => rfl)) (pa_cons (pe_slice (kx_sl K) (pe_ix (kx_list K) (pv 0) pe_int (fun _ _ => rfl)) po_none (po_some (pe_op op_fdivW (pe_callB (k_len K) (by rfl) T.len bt_len (pa_cons (pe_ix (kx_list K) (pv 0) pe_int (fun _ _ => rfl)) pa_nil)) pe_int))) (pa_cons (pe_ix (kx_list K) (pv 0) pe_int (fun _ _ => rfl)) pa_nil)))))) pss_nil)))
      (pss_one (ps_ret (pv 0)))), ?_⟩
  obtain ⟨B, p, ps, S, bound, hB, hp, ok, hl, perm, rfl, hb1, hb2, q⟩ := h
  obtain ⟨g0, gkvs, rfl, _⟩ := id hl
  refine ⟨5, rfl, by decide, by decide, ?_⟩
  rw [show (5 : Int).toNat = 5 from rfl]
  refine for_go (Rs := rNat) (fun i σ1 B4 H4 => ∃ pv k z3, σ1 = [some pv, some (.ref g0), some (.int bound), z3] ∧ Gr [] B H B4 H4 ∧ rPlan.rel B4 ⟨p.ls, p.bs.take k, p.pool⟩ pv ∧ (reachOf ⟨p.ls, p.bs.take k, p.pool⟩ S bound ≠ none ∨ (p.bs.take k).length ≤ 16 / 2 ^ i))
    src_rng (nats2 _) ⟨v0, 16, _, rfl, Gr.refl hB, ?_, .inr (by rw [List.length_take]; omega)⟩ (fun i σ1 B1 H1 ⟨_, _, _, _, h, _⟩ => ⟨h.up, h.sub⟩) (fun i y x σ1 B4 H4 hy hx h => ?_) (fun σ1 B4 H4 h => ?_)
  · rw [List.take_of_length_le ok.blen]; exact hp
  · obtain ⟨pv, k, z3, rfl, g4, hp4, hor⟩ := h
    obtain rfl : x = .int y := hx
    obtain ⟨pa, u1, u2, u3, rfl, hpa, hp1, hp2, hp3⟩ := id hp4
    obtain ⟨el, evs, rfl, hel, hes⟩ := id hp2
    have spa := SqL.of (K := K) (g4.sub.lst hpa)
    have sel := SqL.of (K := K) (g4.sub.lst hel)
    refine ⟨_, rfl, pa, _, _, _, rfl, rfl, spa, atI_nat (j := 1) rfl, el, _, rfl, .inl sel, _, _, rfl, rfl, _, rfl, ?_⟩
    have okk := ok.take k
    have lenv : evs.length = (p.bs.take k).length := hes.len.symm
    by_cases e : (0 : Int) < (evs.length : Int)
    case neg =>
      refine iteF' (decide_eq_false e) ⟨B4, _, k, _, rfl, g4, hp4, .inl ?_⟩
      have : p.bs.take k = [] := List.eq_nil_of_length_eq_zero (by omega)
      rw [this]
      exact reachGo_nil _ _ _
    refine iteT' (decide_eq_true e) ?_
    refine ⟨_, rfl, _, rfl, _, rfl, _, _, _, rfl, B4, ⟨p.ls, p.bs.take k, p.pool⟩, ps, S, bound, g4.sub, hp4, okk, Rp.mono _ g4.up hl, perm, rfl, hb1, hb2, fun B5 H5 v g5 hv => ?_⟩
    have hp5 := Rp.mono _ g5.up hp4
    have G5 := g4.trans g5
    cases er : reachOf ⟨p.ls, p.bs.take k, p.pool⟩ S bound with
    | some f =>
      rw [er] at hv
      obtain ⟨d, kvs, rfl, _⟩ := hv
      exact ⟨rfl, _, rfl, iteF ⟨B5, _, k, _, rfl, G5, hp5, .inl (by rw [er]; exact fun z => nomatch z)⟩⟩
    | none =>
      rw [er] at hv
      obtain rfl : v = .non := hv
      refine ⟨rfl, _, rfl, ite_tt ?_⟩
      have spa := SqL.of (K := K) (g5.sub.lst (g5.up.lst hpa))
      have sel := SqL.of (K := K) (g5.sub.lst (g5.up.lst hel))
      refine ⟨_, rfl, pa, _, _, _, rfl, rfl, spa, atI_nat (j := 0) rfl, ?_⟩
      refine ⟨_, rfl, pa, _, _, _, rfl, rfl, spa, atI_nat (j := 1) rfl, _, rfl, pa, _, _, _, rfl, rfl, spa, atI_nat (j := 1) rfl, el, _, rfl, .inl sel, _, _, rfl, rfl, ⟨by decide, by decide⟩, _, rfl, el, evs, rfl, sel, fun c hc => ?_⟩
      have em : ((evs.length : Int) / 2) = ((evs.length / 2 : Nat) : Int) := by omega
      rw [em, cut_to]
      have g6 : Gr [] B5 H5 (upd B5 c (.lst (evs.take (evs.length / 2)))) (upd H5 c (.lst (evs.take (evs.length / 2)))) := Gr.newP g5.sub hc
      have spa6 := SqL.of (K := K) (g6.sub.lst (g6.up.lst (g5.up.lst hpa)))
      refine ⟨_, rfl, pa, _, _, _, rfl, rfl, spa6, atI_nat (j := 2) rfl, (by show 3 ≤ sizeLine; decide), fun n hn => ?_⟩
      have g7 := (G5.trans g6).trans (Gr.newP (o := .lst [u1, .ref c, u3]) g6.sub hn)
      have u57 : ExW B4 (upd (upd B5 c (.lst (evs.take (evs.length / 2)))) n (.lst [u1, .ref c, u3])) := g5.up.trans (g6.up.trans (ExW.new (g6.sub.none hn)))
      have etk : (p.bs.take k).take (evs.length / 2) = p.bs.take (min (evs.length / 2) k) := by rw [List.take_take]
      refine ⟨_, .ref n, min (evs.length / 2) k, _, rfl, g7, ⟨n, u1, .ref c, u3, rfl, upd_same, Rp.mono _ u57 hp1, ?_, Rp.mono _ u57 hp3⟩, ?_⟩
      · show (rL rBRow).rel _ (p.bs.take (min (evs.length / 2) k)) (.ref c)
        rw [← etk]
        refine ⟨c, _, rfl, ?_, All2.mono u57 (hes.take _)⟩
        rw [upd_ne (fun z => by rw [← z, upd_same] at hn; cases hn), upd_same]
      · rcases hor with h | h
        · exact absurd er h
        · refine .inr ?_
          rw [← etk, List.length_take]
          have : 16 / 2 ^ (i + 1) = 16 / 2 ^ i / 2 := by rw [Nat.pow_succ, Nat.div_div_eq_div_mul]
          rw [this, lenv]
          omega
  · obtain ⟨pv, k, z3, rfl, g4, hp4, hor⟩ := h
    rw [List.length_range] at hor
    refine ⟨_, rfl, q k ?_ B4 H4 _ g4 hp4⟩
    rcases hor with h | h
    · exact h
    · have : p.bs.take k = [] := List.eq_nil_of_length_eq_zero (by omega)
      rw [this]
      exact reachGo_nil _ _ _
end
end OB

/-! ## Q7 -/
set_option maxHeartbeats 4000000
namespace OB
open PySem PySem.Spec PyProof.Rows L2
section
variable {P : Program} {w : World} {K : PySem.W.Frag} {mg : Str → Option Value} {base : Heap}
/-- a dict that its maker hands over -/
def RetND {α : Type} (R : Rp α) (l : List (Str × α)) (B H : Hp) (Q : VK) : Prop := ∀ B' H' d, Gr [] B H B' H' → NewD R l H B' H' (.ref d) → Q (.ref d) H'
def spLFree : Sp := sp2 fun a b H Q => ∃ B p ps S, ExW B H ∧ rPlan.rel B p a ∧ RowsOk p.ls p.bs ∧ (rD rInt).rel B (glow ps S) b ∧ (∀ x, x ∈ ps ↔ x ∈ p.net.names) ∧ RetND rEnd (caps p.net.names (freeC p.net S)) B H Q
/-! ### _law_free_limits -/
abbrev F__law_free_limits (P : Program) (w : World) (K : PySem.W.Frag) (mg : Str → Option Value) (base : Heap) : Prop := Fn P w K mg base CX0 2 "_law_free_limits" ["_law_plan", "_law_glow"] [] spLFree
abbrev N__law_free_limits : List Str := ["_law_plan", "_law_glow", "_law_limits", "_law_post", "_law_bar"]
theorem sc__law_free_limits : FnScope N__law_free_limits ["_law_plan", "_law_glow"] (defScope (top 92)) := ⟨rfl, rfl, rfl, by decide +kernel, rfl, by decide +kernel, by decide +kernel⟩
theorem ok__law_free_limits (T : TX K mg) (D : DefAt K mg "_law_free_limits" (top 92) []) (c__law_posts : F__law_posts P w K mg base) (c__law_bar_of : F__law_bar_of P w K mg base)  : F__law_free_limits P w K mg base := by
  refine fn_ok D sc__law_free_limits (by decide +kernel) (fun _ _ _ _ _ _ us hl => match us, hl with | [_, _], _ => rfl) (fun vs H Q E h => len2 h) (fun f cdv A outer s H vs Q E hr h => ?_)
  have nd := sc__law_free_limits.nd
  obtain ⟨v0, v1, rfl, h⟩ := h
  refine ⟨_, (pss_cons (ps_set (i := 2) nd rfl (Or.inl rfl) pe_dnewK)
      (pss_cons (ps_for PassesOwn.never rfl (kp_list K (pe_fn c__law_posts hr (by rfl) (pa_cons (pv 0) pa_nil))) (pg_name (i := 3) nd rfl (Or.inl rfl))
      (pss_cons (ps_set (i := 4) nd rfl (Or.inl rfl) (pe_fn c__law_bar_of hr (by rfl) (pa_cons (pv 0) (pa_cons (pv 3) pa_nil))))
      (pss_cons (ps_if (pt_cmpR op_notN (pv 4) pe_non (nomark _)) (pss_one (ps_set (i := 4) nd rfl (Or.inl rfl) (pe_callB (call_max2 rfl) (by rfl) T.max bt_max (pa_cons (pv 4) (pa_cons (pe_dget (hu_of hr) (pv 1) (pv 3) (fun _ _ => rfl)) pa_nil))))) pss_nil)
      (pss_one (ps_dput (hu_of hr) (pv 2) (pv 3) (pv 4) rfl)))))
      (pss_one (ps_ret (pv 2))))), ?_⟩
  obtain ⟨B, p, ps, S, hB, hp, ok, hl, hps, q⟩ := h
  have okn : p.net.Ok := netOf_ok ok
  obtain ⟨g0, gkvs, rfl, _⟩ := id hl
  intro d hd
  have gd : Gr [] B H B (upd H d (.dK [])) := Gr.new_ hB hd
  have bd := hB.none hd
  refine ⟨_, rfl, _, rfl, B, p, gd.sub, hp, ok, fun B1 H1 pv g1 hpv => ?_⟩
  obtain ⟨l, lvs, rfl, hlv, hlvs⟩ := id hpv
  have d1 : H1 d = some (.dK []) := g1.keep d _ (fun z => nomatch z) bd upd_same
  have bd1 : B1 d = none := g1.new d bd (by rw [upd_same]; exact fun z => nomatch z)
  refine ⟨l, rfl, ⟨_, SqL.of (g1.sub.lst hlv)⟩, for_go (Rs := rStr) (fun i σ1 B3 H3 => (∃ z3 z4, σ1 = [some v0, some (.ref g0), some (.ref d), z3, z4]) ∧ Gr [d] B1 H1 B3 H3 ∧ B3 d = none ∧ ∃ kvs, H3 d = some (.dK kvs) ∧ DAll rEnd B3 (caps (p.net.names.take i) (freeC p.net S)) kvs)
    (src_list hlv) hlvs ⟨⟨_, _, rfl⟩, Gr.refl g1.sub, bd1, [], d1, .nil⟩ (fun i σ1 B1 H1 h => ⟨h.2.1.up, h.2.1.sub⟩) (fun i y x σ1 B3 H3 hy hx h => ?_) (fun σ1 B3 H3 h => ?_)⟩
  · obtain ⟨⟨z3, z4, rfl⟩, g3, b3, kvs, h3, a3⟩ := h
    obtain rfl : x = .str y := hx
    have ym : y ∈ p.net.names := List.mem_of_getElem? hy
    have up3 : ExW B B3 := g1.up.trans g3.up
    refine ⟨_, rfl, _, rfl, _, _, rfl, B3, p, y, g3.sub, Rp.mono _ up3 hp, ok, rfl, ym, ?_⟩
    have ny : ¬ y ∈ (caps (p.net.names.take i) (freeC p.net S)).map (·.1) := by
      rw [List.map_map]
      show ¬ y ∈ (p.net.names.take i).map id
      rw [List.map_id]
      exact nd_take okn.nd hy
    have lk : kvs.length < sizeLine := by
      have e := a3.len
      rw [List.length_map, List.length_take] at e
      have := okn.lt10
      exact Nat.lt_trans (m := 64) (by omega) (by decide)
    have fin : ∀ v : V, v = vo (freeC p.net S y) → ∃ B', (∃ z3 z4, [some v0, some (V.ref g0), some (.ref d), some (.str y), some v] = [some v0, some (.ref g0), some (.ref d), z3, z4]) ∧ Gr [d] B1 H1 B' (upd H3 d (.dK (putK kvs (Sum.inr y) v))) ∧ B' d = none ∧ ∃ kvs', (upd H3 d (.dK (putK kvs (Sum.inr y) v))) d = some (.dK kvs') ∧ DAll rEnd B' (caps (p.net.names.take (i + 1)) (freeC p.net S)) kvs' := fun v hv => by
      refine ⟨B3, ⟨_, _, rfl⟩, g3.mut (.inr (by simp)) b3, b3, _, upd_same, ?_⟩
      rw [take_snoc hy, caps_snoc]
      exact a3.new ny hv
    cases ec : p.net.ceil y with
    | none =>
      have e : vo none = vo (freeC p.net S y) := by unfold freeC; rw [ec]; rfl
      exact ⟨_, rfl, rfl, _, rfl, iteF ⟨_, rfl, _, rfl, _, rfl, d, _, rfl, DPut.k (k := Sum.inr y) h3 lk, fin _ e⟩⟩
    | some c =>
      have hx := dgl2 (Rp.mono _ up3 hl) g3.sub ((hps y).mpr ym)
      refine ⟨_, rfl, rfl, _, rfl, ite_tt ⟨_, rfl, _, rfl, _, rfl, g0, _, rfl, hx, _, _, rfl, _, rfl, _, rfl, _, rfl, d, _, rfl, DPut.k (k := Sum.inr y) h3 lk, fin _ ?_⟩⟩
      unfold freeC
      rw [ec]
      show V.int (if S y > c then S y else c) = vo (if decide (S y ≤ c) = true then some c else some (S y))
      by_cases h : S y ≤ c
      · rw [if_neg (by omega), if_pos (by simpa using h)]; rfl
      · rw [if_pos (by omega), if_neg (by simpa using h)]; rfl
  · obtain ⟨⟨z3, z4, rfl⟩, g3, b3, kvs, h3, a3⟩ := h
    rw [List.take_length] at a3
    have GA : Gr [] B H B3 H3 := (gd.trans g1).fresh hd g3
    exact ⟨_, rfl, q B3 H3 d GA ⟨d, kvs, rfl, hd, b3, h3, a3⟩⟩
def spLAim : Sp := sp3 fun a b c H Q => ∃ B p ps S ys A, ExW B H ∧ rPlan.rel B p a ∧ RowsOk p.ls p.bs ∧ (rD rInt).rel B (glow ps S) b ∧ (∀ x, x ∈ ps ↔ x ∈ p.net.names) ∧ (rD rInt).rel B (glow ys A) c ∧ WishOk p.net ys A ∧ Ret (rD rEnd) (caps p.net.names (capsOf p.net S ys A)) B H Q
/-! ### _law_aim_limits -/
abbrev F__law_aim_limits (P : Program) (w : World) (K : PySem.W.Frag) (mg : Str → Option Value) (base : Heap) : Prop := Fn P w K mg base CX0 3 "_law_aim_limits" ["_law_plan", "_law_glow", "_law_aims"] [] spLAim
abbrev N__law_aim_limits : List Str := ["_law_plan", "_law_glow", "_law_aims", "_law_limits", "_law_post"]
theorem sc__law_aim_limits : FnScope N__law_aim_limits ["_law_plan", "_law_glow", "_law_aims"] (defScope (top 93)) := ⟨rfl, rfl, rfl, by decide +kernel, rfl, by decide +kernel, by decide +kernel⟩
theorem ok__law_aim_limits (T : TX K mg) (D : DefAt K mg "_law_aim_limits" (top 93) []) (c__law_free_limits : F__law_free_limits P w K mg base)  : F__law_aim_limits P w K mg base := by
  refine fn_ok D sc__law_aim_limits (by decide +kernel) (fun _ _ _ _ _ _ us hl => match us, hl with | [_, _, _], _ => rfl) (fun vs H Q E h => len3 h) (fun f cdv A outer s H vs Q E hr h => ?_)
  have nd := sc__law_aim_limits.nd
  obtain ⟨v0, v1, v2, rfl, h⟩ := h
  refine ⟨_, (pss_cons (ps_set (i := 3) nd rfl (Or.inl rfl) (pe_fn c__law_free_limits hr (by rfl) (pa_cons (pv 0) (pa_cons (pv 1) pa_nil))))
      (pss_cons (ps_for PassesOwn.never rfl (kp_list K (pe_callTy (call_listD rfl) (by rfl) T.list bt_list (pa_cons (pv 2) pa_nil))) (pg_name (i := 4) nd rfl (Or.inl rfl))
      (pss_one (ps_dput (hu_of hr) (pv 3) (pv 4) (pe_dget (hu_of hr) (pv 2) (pv 4) (fun _ _ => rfl)) rfl)))
      (pss_one (ps_ret (pv 3))))), ?_⟩
  obtain ⟨B, p, ps, S, ys, A', hB, hp, ok, hl, hps, hA, okA, q⟩ := h
  have okn : p.net.Ok := netOf_ok ok
  obtain ⟨ga, akvs, rfl, hgd, hgk⟩ := id hA
  refine ⟨_, rfl, _, rfl, _, _, rfl, B, p, ps, S, hB, hp, ok, hl, hps, fun B1 H1 d g1 hd => ?_⟩
  obtain ⟨kvs, hd0, bd, hdd, hk⟩ := hd.at_
  refine ⟨_, rfl, ga, akvs, rfl, g1.sub.rd (g1.up.rd hgd), fun l hl1 => ?_⟩
  rw [keysS hgk]
  have g2 : Gr [] B1 H1 (upd B1 l (.lst (ys.map V.str))) (upd H1 l (.lst (ys.map V.str))) := Gr.newP g1.sub hl1
  have d2 : (upd H1 l (.lst (ys.map V.str))) d = some (.dK kvs) := g2.keep d _ (fun z => nomatch z) bd hdd
  have bd2 : (upd B1 l (.lst (ys.map V.str))) d = none := g2.new d bd (by rw [hdd]; exact fun z => nomatch z)
  refine ⟨l, rfl, ⟨_, SqL.of upd_same⟩, for_go (Rs := rStr) (fun i σ1 B3 H3 => (∃ z4, σ1 = [some v0, some v1, some (.ref ga), some (.ref d), z4]) ∧ Gr [d] (upd B1 l (.lst (ys.map V.str))) (upd H1 l (.lst (ys.map V.str))) B3 H3 ∧ B3 d = none ∧ ∃ kvs, H3 d = some (.dK kvs) ∧ DAll rEnd B3 (caps p.net.names (fun x => if x ∈ ys.take i then some (A' x) else freeC p.net S x)) kvs)
    (src_list (a := l) upd_same) (strs2 ys) ⟨⟨_, rfl⟩, Gr.refl g2.sub, bd2, kvs, d2, by simpa using DAll.mono g2.up hk⟩ (fun i σ1 B1 H1 h => ⟨h.2.1.up, h.2.1.sub⟩) (fun i y x σ1 B3 H3 hy hx h => ?_) (fun σ1 B3 H3 h => ?_)⟩
  · obtain ⟨⟨z4, rfl⟩, g3, b3, kvs, h3, a3⟩ := h
    obtain rfl : x = .str y := hx
    have ym := List.mem_of_getElem? hy
    have yn := okA.sub y ym
    have hx := dgl2 (Rp.mono _ (g1.up.trans (g2.up.trans g3.up)) hA) g3.sub ym
    refine ⟨_, rfl, _, rfl, ga, _, rfl, hx, _, rfl, _, rfl, d, _, rfl, DPut.k (k := Sum.inr y) h3 (own_lt a3 okn.lt), B3, ⟨_, rfl⟩, g3.mut (.inr (by simp)) b3, b3, _, upd_same, ?_⟩
    refine DAll.set (S := fun x => if x ∈ ys.take i then some (A' x) else freeC p.net S x) (S' := fun x => if x ∈ ys.take (i + 1) then some (A' x) else freeC p.net S x) ?_ (fun z hz => ?_) okn.nd yn a3
    · show V.int (A' y) = vo _
      rw [if_pos (by rw [take_snoc hy]; simp)]; rfl
    · have : (z ∈ ys.take (i + 1)) = (z ∈ ys.take i) := by rw [take_snoc hy]; simp [hz]
      simp only [this]
  · obtain ⟨⟨z4, rfl⟩, g3, b3, kvs, h3, a3⟩ := h
    rw [List.take_length] at a3
    have GA : Gr [] B H B3 H3 := (g1.trans g2).fresh hd0 g3
    exact ⟨_, rfl, q.newD GA ⟨d, kvs, rfl, hd0, b3, h3, a3⟩⟩
def spLInField : Sp := sp4 fun a b c e H Q => ∃ B ps ns S C x v, ExW B H ∧ (rD rInt).rel B (glow ps S) a ∧ (rD rEnd).rel B (caps ns C) b ∧ c = .str x ∧ e = .int v ∧ x ∈ ps ∧ x ∈ ns ∧ Q (.bl (inF S C v x)) H
/-! ### _law_in_field -/
abbrev F__law_in_field (P : Program) (w : World) (K : PySem.W.Frag) (mg : Str → Option Value) (base : Heap) : Prop := Fn P w K mg base CX0 1 "_law_in_field" ["_law_glow", "_law_limits", "_law_post", "_law_level"] [] spLInField
abbrev N__law_in_field : List Str := ["_law_glow", "_law_limits", "_law_post", "_law_level"]
theorem sc__law_in_field : FnScope N__law_in_field ["_law_glow", "_law_limits", "_law_post", "_law_level"] (defScope (top 94)) := ⟨rfl, rfl, rfl, by decide +kernel, rfl, by decide +kernel, by decide +kernel⟩
theorem ok__law_in_field (T : TX K mg) (D : DefAt K mg "_law_in_field" (top 94) [])   : F__law_in_field P w K mg base := by
  refine fn_ok D sc__law_in_field (by decide +kernel) (fun _ _ _ _ _ _ us hl => match us, hl with | [_, _, _, _], _ => rfl) (fun vs H Q E h => len4 h) (fun f cdv A outer s H vs Q E hr h => ?_)
  have nd := sc__law_in_field.nd
  obtain ⟨v0, v1, v2, v3, rfl, h⟩ := h
  refine ⟨_, (pss_one (ps_ret (pe_and (pe_cmpR op_le (pe_dget (hu_of hr) (pv 0) (pv 2) (fun _ _ => rfl)) (pv 3) (nomark _)) (pe_one (pe_or (pe_cmpR op_isN (pe_dget (hu_of hr) (pv 1) (pv 2) (fun _ _ => rfl)) pe_non (nomark _)) (pe_one (pe_cmpR op_le (pv 3) (pe_dget (hu_of hr) (pv 1) (pv 2) (fun _ _ => rfl)) (nomark _)))))))), ?_⟩
  obtain ⟨B, ps, ns, S, C, x, v, hB, hl, hc, rfl, rfl, hx1, hx2, q⟩ := h
  obtain ⟨d, rfl, h1⟩ := dgl hl hB hx1
  obtain ⟨cd, rfl, h2⟩ := dgc hc hB hx2
  refine ⟨_, rfl, _, rfl, d, _, rfl, h1, _, rfl, _, _, rfl, rfl, _, rfl, ?_⟩
  have q' : Q (.bl (decide (S x ≤ v) && leE v (C x))) H := q
  refine ite2 (fun e => ?_) (fun e => ?_)
  · rw [show decide (S x ≤ v) = true from e] at q'
    cases ec : C x with
    | none =>
      rw [ec] at q' h2
      exact ⟨_, rfl, _, rfl, cd, _, rfl, h2, rfl, _, rfl, ite_tt q'⟩
    | some c =>
      rw [ec] at q' h2
      exact ⟨_, rfl, _, rfl, cd, _, rfl, h2, rfl, _, rfl, iteF ⟨_, rfl, _, rfl, _, rfl, cd, _, rfl, h2, _, _, rfl, rfl, q'⟩⟩
  · rw [show decide (S x ≤ v) = false from Bool.eq_false_iff.mpr e] at q'
    exact q'
def spLHas : Sp := sp2 fun a b H Q => ∃ B ps S ys A, ExW B H ∧ (rD rInt).rel B (glow ps S) a ∧ (rD rInt).rel B (glow ys A) b ∧ (∀ x ∈ ys, x ∈ ps) ∧ ys.length < 64 ∧ ∀ B' H', Gr [] B H B' H' → Q (.bl (ys.all fun x => decide (S x = A x))) H'
/-! ### _law_has_lights -/
abbrev F__law_has_lights (P : Program) (w : World) (K : PySem.W.Frag) (mg : Str → Option Value) (base : Heap) : Prop := Fn P w K mg base CX0 1 "_law_has_lights" ["_law_now", "_law_aims"] [] spLHas
abbrev N__law_has_lights : List Str := ["_law_now", "_law_aims", "_law_post"]
theorem sc__law_has_lights : FnScope N__law_has_lights ["_law_now", "_law_aims"] (defScope (top 106)) := ⟨rfl, rfl, rfl, by decide +kernel, rfl, by decide +kernel, by decide +kernel⟩
theorem ok__law_has_lights (T : TX K mg) (D : DefAt K mg "_law_has_lights" (top 106) [])   : F__law_has_lights P w K mg base := by
  refine fn_ok D sc__law_has_lights (by decide +kernel) (fun _ _ _ _ _ _ us hl => match us, hl with | [_, _], _ => rfl) (fun vs H Q E h => len2 h) (fun f cdv A outer s H vs Q E hr h => ?_)
  have nd := sc__law_has_lights.nd
  obtain ⟨v0, v1, rfl, h⟩ := h
  refine ⟨_, (pss_one (ps_ret (pe_cmpR op_eq (pe_callB (k_len K) (by rfl) T.len bt_len (pa_cons (pe_lc (own := [("_law_post", 2)]) rfl nd (kp_list K (pe_callTy (call_listD rfl) (by rfl) T.list bt_list (pa_cons (pv 1) pa_nil))) (blkOk_by (own := [("_law_post", 2)]) (N := N__law_has_lights) (sc := defScope (top 106)) (by decide +kernel)) (fun _ _ _ _ _ => (pg_name (i := 2) nd rfl (Or.inl rfl))) (fun _ _ _ _ _ => (pts_one (pt_cmpR op_ne (pe_dget (hu_of hr) (pv 0) (pv 2) (fun _ _ => rfl)) (pe_dget (hu_of hr) (pv 1) (pv 2) (fun _ _ => rfl)) (nomark _)))) (fun _ _ _ _ _ => (pv 2))) pa_nil)) pe_int (nomark _)))), ?_⟩
  obtain ⟨B, ps, S, ys, A', hB, hl, hA, hsub, l64, q⟩ := h
  obtain ⟨d, rfl⟩ : ∃ d, v0 = .ref d := by obtain ⟨d, _, rfl, _⟩ := id hl; exact ⟨d, rfl⟩
  obtain ⟨ga, akvs, rfl, hgd, hgk⟩ := id hA
  refine ⟨_, rfl, ga, akvs, rfl, hB.rd hgd, fun l hl1 => ?_⟩
  rw [keysS hgk]
  have g1 : Gr [] B H (upd B l (.lst (ys.map V.str))) (upd H l (.lst (ys.map V.str))) := Gr.newP hB hl1
  refine ⟨l, rfl, ⟨_, SqL.of upd_same⟩, fun D hD => lc_flt (ys := ys) (Rs := rStr) (R := rStr) (fun y => if decide (S y ≠ A' y) = true then some y else none) (src_list (a := l) upd_same) g1.sub hD (strs2 ys) (by rw [List.length_map]; omega) (fun y x B3 H3 K1 K0 hy hx g3 k1 k0 => ?_) (fun B3 H3 g3 h3 => ?_)⟩
  · obtain rfl : x = .str y := hx
    have up := g1.up.trans g3.up
    have h1 := dgl2 (Rp.mono _ up hl) g3.sub (hsub y hy)
    have h2 := dgl2 (Rp.mono _ up hA) g3.sub hy
    refine ⟨_, rfl, _, rfl, d, _, rfl, h1, _, rfl, _, rfl, ga, _, rfl, h2, rfl, _, rfl, ?_⟩
    by_cases e : S y = A' y
    · exact iteF' (by rw [dec_intD]; simp [e]) (k0 _ _ (if_neg (by simp [e])) (Gr.refl g3.sub))
    · exact iteT' (by rw [dec_intD]; simp [e]) ⟨_, rfl, k1 y _ _ _ (if_pos (by simp [e])) (Gr.refl g3.sub) rfl⟩
  · obtain ⟨vs, h0, hb, hh, ha⟩ := h3.at_
    refine ⟨D, vs, rfl, .inl (SqL.of hh), rfl, ?_⟩
    have e : decide ((V.int (vs.length : Nat)) = V.int 0) = ys.all fun x => decide (S x = A' x) := by
      rw [← ha.len, dec_intD, fm_filter (p := fun y => decide (S y ≠ A' y)), Bool.eq_iff_iff, decide_eq_true_eq, List.all_eq_true]
      constructor
      · intro h x hx
        have h0 : (ys.filter fun y => decide (S y ≠ A' y)).length = 0 := by omega
        have := List.eq_nil_of_length_eq_zero h0
        rw [List.filter_eq_nil_iff] at this
        have := this x hx
        simpa using this
      · intro h
        have : (ys.filter fun y => decide (S y ≠ A' y)) = [] := by
          rw [List.filter_eq_nil_iff]
          intro x hx
          have := h x hx
          simp at this
          simp [this]
        rw [this]; rfl
    rw [e]
    exact q _ _ (g1.trans g3)
/-- a group that shades: what _law_is_cover asks -/
structure CoverOk (p : Plan) (S : Str → Int) (C : Str → Option Int) (x : Str) (v : Int) (g : List Str) : Prop where
  mem : ∀ y ∈ g, y ∈ p.net.names ∧ S y ≠ v
  pw : g.Pairwise fun a b => sLt a b
  has : x ∈ g
  cl : ∀ e ∈ p.bs, letB e.lo e.hi v = true → (e.a ∈ g → e.b ∉ g → inF S C v e.b = false) ∧ (e.b ∈ g → e.a ∉ g → inF S C v e.a = false)
def spLCover : Sp := sp6 fun a b c e f g H Q => ∃ B p ps S C x v gr, ExW B H ∧ rPlan.rel B p a ∧ RowsOk p.ls p.bs ∧ (rD rInt).rel B (glow ps S) b ∧ (∀ x, x ∈ ps ↔ x ∈ p.net.names) ∧ (rD rEnd).rel B (caps p.net.names C) c ∧ e = .str x ∧ f = .int v ∧ (rTU rStr).rel B gr g ∧ gr.length ≤ 1000 ∧ CoverOk p S C x v gr ∧ ∀ B' H', Gr [] B H B' H' → Q (.bl true) H'
/-! ### _law_is_cover -/
abbrev F__law_is_cover (P : Program) (w : World) (K : PySem.W.Frag) (mg : Str → Option Value) (base : Heap) : Prop := Fn P w K mg base CX0 2 "_law_is_cover" ["_law_plan", "_law_glow", "_law_limits", "_law_post", "_law_level", "_law_cover"] [] spLCover
abbrev N__law_is_cover : List Str := ["_law_plan", "_law_glow", "_law_limits", "_law_post", "_law_level", "_law_cover", "_law_k", "_law_edge", "_law_side", "_law_out"]
theorem sc__law_is_cover : FnScope N__law_is_cover ["_law_plan", "_law_glow", "_law_limits", "_law_post", "_law_level", "_law_cover"] (defScope (top 95)) := ⟨rfl, rfl, rfl, by decide +kernel, rfl, by decide +kernel, by decide +kernel⟩
theorem ok__law_is_cover (T : TX K mg) (D : DefAt K mg "_law_is_cover" (top 95) []) (c__law_lets : F__law_lets P w K mg base) (c__law_in_field : F__law_in_field P w K mg base)  : F__law_is_cover P w K mg base := by
  refine fn_ok D sc__law_is_cover (by decide +kernel) (fun _ _ _ _ _ _ us hl => match us, hl with | [_, _, _, _, _, _], _ => rfl) (fun vs H Q E h => len6 h) (fun f cdv A outer s H vs Q E hr h => ?_)
  have nd := sc__law_is_cover.nd
  obtain ⟨v0, v1, v2, v3, v4, v5, rfl, h⟩ := h
  refine ⟨_, (pss_cons (ps_for PassesOwn.never rfl (pi_range1 (by rfl) T.range (pa_cons (pe_callB (k_len K) (by rfl) T.len bt_len (pa_cons (pv 5) pa_nil)) pa_nil)) (pg_name (i := 6) nd rfl (Or.inl rfl))
      (pss_cons (ps_if (PW.pt (pw_or (pt_cmp (pc_dnotin (hu_of hr) (pe_ix (kx_tup K) (pv 5) (pv 6) (fun _ _ => rfl)) (pv 1))) (pw_or1 (pt_cmpR op_eq (pe_dget (hu_of hr) (pv 1) (pe_ix (kx_tup K) (pv 5) (pv 6) (fun _ _ => rfl)) (fun _ _ => rfl)) (pv 4) (nomark _))))) (pss_one (ps_ret pe_bl)) pss_nil)
      (pss_one (ps_if (PW.pt (pw_and (pt_cmpR op_gt (pv 6) pe_int (nomark _)) (pw_and1 (pt_cmpR op_ge_str (pe_ix (kx_tup K) (pv 5) (pe_op op_sub (pv 6) pe_int) (fun _ _ => rfl)) (pe_ix (kx_tup K) (pv 5) (pv 6) (fun _ _ => rfl)) (nomark _))))) (pss_one (ps_ret pe_bl)) pss_nil))))
      (pss_cons (ps_if (pt_cmpR (k_notInSeq K) (pv 3) (pv 5) (by rfl)) (pss_one (ps_ret pe_bl)) pss_nil)
      (pss_cons (ps_for PassesOwn.never rfl (kp_list K (pe_ix (kx_list K) (pv 0) pe_int (fun _ _ => rfl))) (pg_name (i := 7) nd rfl (Or.inl rfl))
      (pss_one (ps_for PassesOwn.never rfl (kp_list K (pe_lst (pa_cons pe_int (pa_cons pe_int pa_nil)))) (pg_name (i := 8) nd rfl (Or.inl rfl))
      (pss_cons (ps_set (i := 9) nd rfl (Or.inl rfl) (pe_ix (kx_tup K) (pv 7) (pe_op op_sub pe_int (pv 8)) (fun _ _ => rfl)))
      (pss_one (ps_if (PW.pt (pw_and (pt_cmpR (k_inSeq K) (pe_ix (kx_tup K) (pv 7) (pv 8) (fun _ _ => rfl)) (pv 5) (by rfl)) (pw_and1 (pt_cmpR (k_notInSeq K) (pv 9) (pv 5) (by rfl))))) (pss_one (ps_if (PW.pt (pw_and (pt_val (pe_fn c__law_lets hr (by rfl) (pa_cons (pv 7) (pa_cons (pv 4) pa_nil)))) (pw_and1 (pt_val (pe_fn c__law_in_field hr (by rfl) (pa_cons (pv 1) (pa_cons (pv 2) (pa_cons (pv 9) (pa_cons (pv 4) pa_nil))))))))) (pss_one (ps_ret pe_bl)) pss_nil)) pss_nil))))))
      (pss_one (ps_ret pe_bl))))), ?_⟩
  obtain ⟨B, p, ps, S, C, x, v, gr, hB, hp, ok, hl, hps, hc, rfl, rfl, hg, glen, cov, q⟩ := h
  obtain ⟨d, rfl⟩ : ∃ d, v1 = .ref d := by obtain ⟨d, _, rfl, _⟩ := id hl; exact ⟨d, rfl⟩
  obtain ⟨t, ts, rfl, ht, hts⟩ := id hg
  have ets := strs_eq hts
  subst ets
  have st := SqT.of (K := K) (hB.tup ht)
  obtain ⟨pa, u1, u2, u3, rfl, hpa, hp1, hp2, hp3⟩ := id hp
  obtain ⟨el, evs, rfl, hel, hes⟩ := id hp2
  have l1000 : (gr.map V.str).length ≤ 1000 := by rw [List.length_map]; exact glen
  -- the names
  refine ⟨_, rfl, t, _, rfl, .inr st, _, rfl, by omega, by omega, ?_⟩
  rw [Int.toNat_natCast]
  refine for_chk (Rs := rNat) (j := 6) rfl src_rng hB (nats2 _) (fun k kv N hk hkv hN => ?_) (fun z => ?_)
  · obtain rfl : kv = .int k := hkv
    have hkn : k < gr.length := by have := List.mem_range.mp hk; simpa using this
    have ek := List.getElem?_eq_getElem hkn
    have at1 : atI (gr.map V.str) ((k : Nat) : Int) = some (.str gr[k]) := atI_nat (by rw [List.getElem?_map, ek]; rfl)
    obtain ⟨m1, m2⟩ := cov.mem _ (List.getElem_mem hkn)
    have mps := (hps _).mpr m1
    obtain ⟨d', o, e, hd, ho⟩ := dinB (k := gr[k]) hl hB
    cases e
    rw [look_glow, if_pos mps] at ho
    refine ⟨_, rfl, _, rfl, t, _, _, _, rfl, rfl, st, at1, _, rfl, d, o, rfl, hd, _, rfl, ?_⟩
    rw [ho]
    refine iteF ⟨_, rfl, _, rfl, _, rfl, t, _, _, _, rfl, rfl, st, at1, d, _, rfl, dgl2 hl hB mps, _, rfl, rfl, _, rfl, ?_⟩
    rw [dec_intD, decide_eq_false m2]
    refine iteF ⟨_, rfl, _, _, rfl, rfl, _, rfl, ?_⟩
    refine ite2 (fun e => ?_) (fun _ => hN)
    have e : (0 : Int) < k := of_decide_eq_true e
    have hk1 : k - 1 < gr.length := by omega
    have ek1 := List.getElem?_eq_getElem hk1
    have eki : ((k : Int) - 1) = ((k - 1 : Nat) : Int) := by omega
    have at2 : atI (gr.map V.str) ((k : Int) - 1) = some (.str gr[k - 1]) := by rw [eki]; exact atI_nat (by rw [List.getElem?_map, ek1]; rfl)
    have lt : sLt gr[k - 1] gr[k] := List.pairwise_iff_getElem.mp cov.pw (k - 1) k hk1 hkn (by omega)
    refine ⟨_, rfl, _, rfl, _, _, rfl, rfl, t, _, _, _, rfl, rfl, st, at2, _, rfl, _, rfl, t, _, _, _, rfl, rfl, st, at1, _, _, rfl, rfl, _, rfl, ?_⟩
    rw [decide_eq_true lt]
    exact iteF hN
  -- post in cover
  refine ⟨_, rfl, _, rfl, ninT_go hB hg ⟨_, rfl, ?_⟩⟩
  rw [decide_eq_true cov.has]
  refine iteF ?_
  -- the edges
  refine ⟨_, rfl, pa, _, _, _, rfl, rfl, SqL.of (hB.lst hpa), atI_nat (j := 1) rfl, el, rfl, ⟨_, SqL.of (hB.lst hel)⟩, for_go (Rs := rBRow) (fun i σ1 B1 H1 => (∃ z6 z7 z8 z9, σ1 = [some (.ref pa), some (.ref d), some v2, some (.str x), some (.int v), some (.ref t), z6, z7, z8, z9]) ∧ Gr [] B H B1 H1) (src_list hel) hes ⟨⟨_, _, _, _, rfl⟩, Gr.refl hB⟩ (fun i σ1 B1 H1 h => ⟨h.2.up, h.2.sub⟩) (fun i e ev σ1 B1 H1 he hev h => ?_) (fun σ1 B1 H1 h => ?_)⟩
  · obtain ⟨⟨z6, z7, z8, z9, rfl⟩, g1⟩ := h
    have em := List.mem_of_getElem? he
    obtain ⟨ra, rfl, hra⟩ := id hev
    obtain ⟨me1, me2, _⟩ := ok.ends e em
    have na : e.a ∈ p.net.names := netOf_names.mem_iff.mpr me1
    have nb : e.b ∈ p.net.names := netOf_names.mem_iff.mpr me2
    refine ⟨(by show 2 ≤ sizeLine; decide), fun l hl1 => ?_⟩
    have g2 : Gr [] B1 H1 (upd B1 l (.lst [.int 1, .int 2])) (upd H1 l (.lst [.int 1, .int 2])) := Gr.newP g1.sub hl1
    have G2 := g1.trans g2
    have hl2 := Rp.mono _ G2.up hl
    have hc2 := Rp.mono _ G2.up hc
    have hg2 := Rp.mono _ G2.up hg
    have hev2 := Rp.mono _ g2.up hev
    have sx := SqT.of (K := K) (g2.sub.tup (g2.up.tup hra))
    have hll : (upd B1 l (.lst [.int 1, .int 2])) l = some (.lst [.int 1, .int 2]) := upd_same
    generalize upd B1 l (.lst [.int 1, .int 2]) = B2 at *
    generalize upd H1 l (.lst [.int 1, .int 2]) = H2 at *
    refine ⟨l, rfl, ⟨_, SqL.of (g2.sub.lst hll)⟩, for_go (Rs := rInt) (ys := [1, 2]) (fun j σ2 B3 H3 => (∃ z8 z9, σ2 = [some (.ref pa), some (.ref d), some v2, some (.str x), some (.int v), some (.ref t), z6, some (.ref ra), z8, z9]) ∧ B3 = B2 ∧ H3 = H2) (src_list hll) (ints2 [1, 2]) ⟨⟨_, _, rfl⟩, rfl, rfl⟩ (fun i σ1 B1 H1 h => ?_) (fun j sd sv σ2 B3 H3 hsd hsv h => ?_) (fun σ2 B3 H3 h => ?_)⟩
    · obtain ⟨_, rfl, rfl⟩ := h; exact ⟨ExW.refl _, g2.sub⟩
    · obtain ⟨⟨z8, z9, rfl⟩, rfl, rfl⟩ := h
      obtain rfl : sv = .int sd := hsv
      -- both sides at once: u the near end, w the far one
      have both : ∀ u w : Str, atI [V.str e.nm, V.str e.a, V.str e.b, vo e.lo, vo e.hi] sd = some (.str u) → atI [V.str e.nm, V.str e.a, V.str e.b, vo e.lo, vo e.hi] (3 - sd) = some (.str w) → w ∈ p.net.names → (letB e.lo e.hi v = true → u ∈ gr → w ∉ gr → inF S C v w = false) →
          ∀ D : Ends, (∀ z9, D.nx [some (.ref pa), some (.ref d), some v2, some (.str x), some (.int v), some (.ref t), z6, some (.ref ra), some (.int sd), z9] H3) →
          (tSeq (tAsg (tOp (rIxT K) (tVar 7) (tOp (rI0 fun i j => V.int (i - j)) (tC (V.int 3)) (tVar 8))) (gName 9))
            (tIfS (tAnd (tTest (tOp (rIn K false) (tOp (rIxT K) (tVar 7) (tVar 8)) (tVar 5))) (tTest (tOp (rIn K true) (tVar 9) (tVar 5))))
              (tIfS (tAnd (tB (tCall spLLets [] E0 (tCons (tVar 7) (tCons (tVar 4) tNil)))) (tB (tCall spLInField [] E0 (tCons (tVar 1) (tCons (tVar 2) (tCons (tVar 9) (tCons (tVar 4) tNil)))))))
                (tRet (tC (V.bl false))) tNext) tNext)) D [some (.ref pa), some (.ref d), some v2, some (.str x), some (.int v), some (.ref t), z6, some (.ref ra), some (.int sd), z9] H3 := fun u w h1 h2 hw hcl D hN => by
        refine ⟨_, rfl, _, rfl, _, _, rfl, rfl, ra, _, _, _, rfl, rfl, sx, h2, ?_⟩
        refine ⟨_, rfl, _, rfl, ra, _, _, _, rfl, rfl, sx, h1, _, rfl, inT_go g2.sub hg2 ⟨_, rfl, ?_⟩⟩
        refine ite2 (fun e1 => ?_) (fun _ => iteF (hN _))
        refine ⟨_, rfl, _, rfl, ninT_go g2.sub hg2 ⟨_, rfl, ?_⟩⟩
        refine ite2 (fun e2 => ?_) (fun _ => hN _)
        have e1 : u ∈ gr := of_decide_eq_true e1
        have e2 : w ∉ gr := by simpa using e2
        refine ⟨_, rfl, _, rfl, _, _, rfl, B3, e, v, g2.sub, hev2, rfl, _, rfl, ?_⟩
        refine ite2 (fun e3 => ?_) (fun _ => iteF (hN _))
        refine ⟨_, rfl, _, rfl, _, rfl, _, rfl, _, _, _, _, rfl, B3, ps, p.net.names, S, C, w, v, g2.sub, hl2, hc2, rfl, rfl, (hps _).mpr hw, hw, _, rfl, ?_⟩
        rw [hcl e3 e1 e2]
        exact iteF (hN _)
      have hcl := cov.cl e em
      match j, hsd with
      | 0, h0 =>
        obtain rfl : (1 : Int) = sd := by simpa using h0
        exact both e.a e.b (atI_nat (j := 1) rfl) (atI_nat (j := 2) rfl) nb (fun q1 q2 q3 => (hcl q1).1 q2 q3) _ (fun z9 => ⟨B3, ⟨_, _, rfl⟩, rfl, rfl⟩)
      | 1, h0 =>
        obtain rfl : (2 : Int) = sd := by simpa using h0
        exact both e.b e.a (atI_nat (j := 2) rfl) (atI_nat (j := 1) rfl) na (fun q1 q2 q3 => (hcl q1).2 q2 q3) _ (fun z9 => ⟨B3, ⟨_, _, rfl⟩, rfl, rfl⟩)
      | j + 2, h0 => simp at h0
    · obtain ⟨⟨z8, z9, rfl⟩, rfl, rfl⟩ := h
      exact ⟨B3, ⟨_, _, _, _, rfl⟩, G2⟩
  · obtain ⟨⟨z6, z7, z8, z9, rfl⟩, g1⟩ := h
    exact q B1 H1 g1
end
end OB

/-! ## Q8 -/
set_option maxHeartbeats 4000000
namespace OB
open PySem PySem.Spec PyProof.Rows L2
def PaperOk (p : Plan) (S : Str → Int) (ys : List Str) (A : Str → Int) : Paper → Prop
  | .dim x => x ∈ ys ∧ A x < S x
  | .ceil x => x ∈ ys ∧ S x < A x ∧ leE (A x) (p.net.ceil x) = false
  | .shade x g => x ∈ ys ∧ S x < A x ∧ CoverOk p S (capsOf p.net S ys A) x (A x) g ∧ g.length ≤ 1000
section
variable {P : Program} {w : World} {K : PySem.W.Frag} {mg : Str → Option Value} {base : Heap}
def spLPaper : Sp := sp4 fun a b c e H Q => ∃ B p ps S ys A pp, ExW B H ∧ rPlan.rel B p a ∧ RowsOk p.ls p.bs ∧ (rD rInt).rel B (glow ps S) b ∧ (∀ x, x ∈ ps ↔ x ∈ p.net.names) ∧ (rD rInt).rel B (glow ys A) c ∧ WishOk p.net ys A ∧ rPaper.rel B pp e ∧ PaperOk p S ys A pp ∧ ∀ B' H', Gr [] B H B' H' → Q (.bl true) H'
/-! ### _law_paper_holds -/
abbrev F__law_paper_holds (P : Program) (w : World) (K : PySem.W.Frag) (mg : Str → Option Value) (base : Heap) : Prop := Fn P w K mg base CX0 4 "_law_paper_holds" ["_law_plan", "_law_glow", "_law_aims", "_law_paper"] [] spLPaper
abbrev N__law_paper_holds : List Str := ["_law_plan", "_law_glow", "_law_aims", "_law_paper", "_law_post", "_law_level", "_law_bar"]
theorem sc__law_paper_holds : FnScope N__law_paper_holds ["_law_plan", "_law_glow", "_law_aims", "_law_paper"] (defScope (top 96)) := ⟨rfl, rfl, rfl, by decide +kernel, rfl, by decide +kernel, by decide +kernel⟩
theorem ok__law_paper_holds (T : TX K mg) (D : DefAt K mg "_law_paper_holds" (top 96) []) (c__law_bar_of : F__law_bar_of P w K mg base) (c__law_is_cover : F__law_is_cover P w K mg base) (c__law_aim_limits : F__law_aim_limits P w K mg base)  : F__law_paper_holds P w K mg base := by
  refine fn_ok D sc__law_paper_holds (by decide +kernel) (fun _ _ _ _ _ _ us hl => match us, hl with | [_, _, _, _], _ => rfl) (fun vs H Q E h => len4 h) (fun f cdv A outer s H vs Q E hr h => ?_)
  have nd := sc__law_paper_holds.nd
  obtain ⟨v0, v1, v2, v3, rfl, h⟩ := h
  refine ⟨_, (pss_cons (ps_if (PW.pt (pw_or (pt_cmpR op_lt (pe_callB (k_len K) (by rfl) T.len bt_len (pa_cons (pv 3) pa_nil)) pe_int (nomark _)) (pw_or1 (pt_cmp (pc_dnotin (hu_of hr) (pe_ix (kx_tup K) (pv 3) pe_int (fun _ _ => rfl)) (pv 2)))))) (pss_one (ps_ret pe_bl)) pss_nil)
      (pss_cons (ps_set (i := 4) nd rfl (Or.inl rfl) (pe_ix (kx_tup K) (pv 3) pe_int (fun _ _ => rfl)))
      (pss_cons (ps_set (i := 5) nd rfl (Or.inl rfl) (pe_dget (hu_of hr) (pv 2) (pv 4) (fun _ _ => rfl)))
      (pss_cons (ps_set (i := 6) nd rfl (Or.inl rfl) (pe_fn c__law_bar_of hr (by rfl) (pa_cons (pv 0) (pa_cons (pv 4) pa_nil))))
      (pss_cons (ps_if (pt_cmpR op_eq (pe_ix (kx_tup K) (pv 3) pe_int (fun _ _ => rfl)) pe_str (nomark _)) (pss_one (ps_ret (pe_and (pe_cmpR op_eq (pe_callB (k_len K) (by rfl) T.len bt_len (pa_cons (pv 3) pa_nil)) pe_int (nomark _)) (pe_one (pe_cmpR op_lt (pv 5) (pe_dget (hu_of hr) (pv 1) (pv 4) (fun _ _ => rfl)) (nomark _)))))) pss_nil)
      (pss_cons (ps_if (pt_cmpR op_eq (pe_ix (kx_tup K) (pv 3) pe_int (fun _ _ => rfl)) pe_str (nomark _)) (pss_one (ps_ret (pe_and (pe_cmpR op_eq (pe_callB (k_len K) (by rfl) T.len bt_len (pa_cons (pv 3) pa_nil)) pe_int (nomark _)) (pe_and (pe_cmpR op_gt (pv 5) (pe_dget (hu_of hr) (pv 1) (pv 4) (fun _ _ => rfl)) (nomark _)) (pe_and (pe_cmpR op_notN (pv 6) pe_non (nomark _)) (pe_one (pe_cmpR op_gt (pv 5) (pv 6) (nomark _)))))))) pss_nil)
      (pss_cons (ps_if (PW.pt (pw_or (pt_cmpR op_ne (pe_ix (kx_tup K) (pv 3) pe_int (fun _ _ => rfl)) pe_str (nomark _)) (pw_or (pt_cmpR op_ne (pe_callB (k_len K) (by rfl) T.len bt_len (pa_cons (pv 3) pa_nil)) pe_int (nomark _)) (pw_or1 (pt_cmpR op_le (pv 5) (pe_dget (hu_of hr) (pv 1) (pv 4) (fun _ _ => rfl)) (nomark _)))))) (pss_one (ps_ret pe_bl)) pss_nil)
      (pss_one (ps_ret (pe_fn c__law_is_cover hr (by rfl) (pa_cons (pv 0) (pa_cons (pv 1) (pa_cons (pe_fn c__law_aim_limits hr (by rfl) (pa_cons (pv 0) (pa_cons (pv 1) (pa_cons (pv 2) pa_nil)))) (pa_cons (pv 4) (pa_cons (pv 5) (pa_cons (pe_ix (kx_tup K) (pv 3) pe_int (fun _ _ => rfl)) pa_nil)))))))))))))))), ?_⟩
  obtain ⟨B, p, ps, S, ys, A', pp, hB, hp, ok, hl, hps, hA, okA, hpp, pok, q⟩ := h
  obtain ⟨d, rfl⟩ : ∃ d, v1 = .ref d := by obtain ⟨d, _, rfl, _⟩ := id hl; exact ⟨d, rfl⟩
  obtain ⟨ga, rfl⟩ : ∃ d, v2 = .ref d := by obtain ⟨d, _, rfl, _⟩ := id hA; exact ⟨d, rfl⟩
  cases pp with
  | dim x =>
    obtain ⟨t, rfl, ht⟩ := hpp
    obtain ⟨hx, hlt⟩ := pok
    have st := SqT.of (K := K) (hB.tup ht)
    have hxn : x ∈ p.net.names := okA.sub x hx
    have hxp : x ∈ ps := (hps x).mpr hxn
    have dA := dgl2 hA hB hx
    have dS := dgl2 hl hB hxp
    obtain ⟨d', o, e, hd, ho⟩ := dinB (k := x) hA hB
    cases e
    rw [look_glow, if_pos hx] at ho
    refine ⟨_, rfl, t, _, rfl, .inr st, _, _, rfl, rfl, _, rfl, iteF' rfl ⟨_, rfl, t, _, _, _, rfl, rfl, st, atI_nat (j := 1) rfl, _, rfl, ga, o, rfl, hd, _, rfl, ?_⟩⟩
    rw [ho]
    refine iteF ⟨_, rfl, t, _, _, _, rfl, rfl, st, atI_nat (j := 1) rfl, _, rfl, _, rfl, ga, _, rfl, dA, ?_⟩
    refine ⟨_, rfl, _, rfl, _, _, rfl, B, p, x, hB, hp, ok, rfl, hxn, ?_⟩
    refine ⟨_, rfl, t, _, _, _, rfl, rfl, st, atI_nat (j := 0) rfl, rfl, _, rfl, ?_⟩
    rw [dec_strD]
    refine iteT' (by decide +kernel) ⟨_, rfl, t, _, rfl, .inr st, rfl, _, rfl, iteT' (by rw [dec_intD]; rfl) ⟨_, rfl, _, rfl, _, rfl, d, _, rfl, dS, _, _, rfl, rfl, ?_⟩⟩
    show Q (.bl (decide (A' x < S x))) H
    rw [decide_eq_true hlt]
    exact q B H (Gr.refl hB)
  | ceil x =>
    obtain ⟨t, rfl, ht⟩ := hpp
    obtain ⟨hx, hlt, hce⟩ := pok
    have st := SqT.of (K := K) (hB.tup ht)
    have hxn : x ∈ p.net.names := okA.sub x hx
    have hxp : x ∈ ps := (hps x).mpr hxn
    have dA := dgl2 hA hB hx
    have dS := dgl2 hl hB hxp
    obtain ⟨d', o, e, hd, ho⟩ := dinB (k := x) hA hB
    cases e
    rw [look_glow, if_pos hx] at ho
    refine ⟨_, rfl, t, _, rfl, .inr st, _, _, rfl, rfl, _, rfl, iteF' rfl ⟨_, rfl, t, _, _, _, rfl, rfl, st, atI_nat (j := 1) rfl, _, rfl, ga, o, rfl, hd, _, rfl, ?_⟩⟩
    rw [ho]
    refine iteF ⟨_, rfl, t, _, _, _, rfl, rfl, st, atI_nat (j := 1) rfl, _, rfl, _, rfl, ga, _, rfl, dA, ?_⟩
    refine ⟨_, rfl, _, rfl, _, _, rfl, B, p, x, hB, hp, ok, rfl, hxn, ?_⟩
    refine ⟨_, rfl, t, _, _, _, rfl, rfl, st, atI_nat (j := 0) rfl, rfl, _, rfl, ?_⟩
    rw [dec_strD]
    refine iteF' (by decide +kernel) ⟨_, rfl, t, _, _, _, rfl, rfl, st, atI_nat (j := 0) rfl, rfl, _, rfl, ?_⟩
    rw [dec_strD]
    refine iteT' (by decide +kernel) ⟨_, rfl, t, _, rfl, .inr st, rfl, _, rfl, iteT' (by rw [dec_intD]; rfl) ⟨_, rfl, _, rfl, _, rfl, d, _, rfl, dS, _, _, rfl, rfl, _, rfl, iteT' (decide_eq_true hlt) ?_⟩⟩
    cases ec : p.net.ceil x with
    | none => rw [ec] at hce; cases hce
    | some c =>
      rw [ec] at hce
      have hce : ¬ A' x ≤ c := of_decide_eq_false hce
      refine ⟨_, rfl, rfl, _, rfl, ite_tt ⟨_, rfl, _, rfl, _, _, rfl, rfl, ?_⟩⟩
      show Q (.bl (decide (c < A' x))) H
      rw [decide_eq_true (by omega)]
      exact q B H (Gr.refl hB)
  | shade x g =>
    obtain ⟨t, gv, rfl, ht, hg⟩ := hpp
    obtain ⟨hx, hlt, hcov, glen⟩ := pok
    have st := SqT.of (K := K) (hB.tup ht)
    have hxn : x ∈ p.net.names := okA.sub x hx
    have hxp : x ∈ ps := (hps x).mpr hxn
    have dA := dgl2 hA hB hx
    have dS := dgl2 hl hB hxp
    obtain ⟨d', o, e, hd, ho⟩ := dinB (k := x) hA hB
    cases e
    rw [look_glow, if_pos hx] at ho
    refine ⟨_, rfl, t, _, rfl, .inr st, _, _, rfl, rfl, _, rfl, iteF' rfl ⟨_, rfl, t, _, _, _, rfl, rfl, st, atI_nat (j := 1) rfl, _, rfl, ga, o, rfl, hd, _, rfl, ?_⟩⟩
    rw [ho]
    refine iteF ⟨_, rfl, t, _, _, _, rfl, rfl, st, atI_nat (j := 1) rfl, _, rfl, _, rfl, ga, _, rfl, dA, ?_⟩
    refine ⟨_, rfl, _, rfl, _, _, rfl, B, p, x, hB, hp, ok, rfl, hxn, ?_⟩
    refine ⟨_, rfl, t, _, _, _, rfl, rfl, st, atI_nat (j := 0) rfl, rfl, _, rfl, ?_⟩
    rw [dec_strD]
    refine iteF' (by decide +kernel) ⟨_, rfl, t, _, _, _, rfl, rfl, st, atI_nat (j := 0) rfl, rfl, _, rfl, ?_⟩
    rw [dec_strD]
    refine iteF' (by decide +kernel) ⟨_, rfl, t, _, _, _, rfl, rfl, st, atI_nat (j := 0) rfl, rfl, _, rfl, ?_⟩
    rw [dec_strD]
    refine iteF' (by decide +kernel) ⟨_, rfl, t, _, rfl, .inr st, rfl, _, rfl, iteF' (by rw [dec_intD]; rfl) ⟨_, rfl, _, rfl, _, rfl, d, _, rfl, dS, _, _, rfl, rfl, _, rfl, iteF' (decide_eq_false (by omega)) ?_⟩⟩
    refine ⟨_, rfl, _, rfl, _, rfl, _, rfl, _, rfl, _, _, _, rfl, B, p, ps, S, ys, A', hB, hp, ok, hl, hps, hA, okA, fun B1 H1 cv g1 hc => ?_⟩
    refine ⟨_, rfl, _, rfl, _, rfl, t, _, _, _, rfl, rfl, SqT.of (K := K) (g1.sub.tup (g1.up.tup ht)), atI_nat (j := 2) rfl, ?_⟩
    exact ⟨_, _, _, _, _, _, rfl, B1, p, ps, S, _, x, A' x, g, g1.sub, Rp.mono _ g1.up hp, ok, Rp.mono _ g1.up hl, hps, hc, rfl, rfl, Rp.mono _ g1.up hg, glen, hcov, fun B2 H2 g2 => q B2 H2 (g1.trans g2)⟩
end
end OB

/-! ## MA -/
set_option maxHeartbeats 4000000
namespace OB
open PySem
/-! ### groups: joined lamps -/
theorem joinStep_eq (L : Str → Str) (b : Bond) : ∃ lo hi, (lo = L b.a ∧ hi = L b.b ∨ lo = L b.b ∧ hi = L b.a) ∧ joinStep L b = fun x => if L x = hi then lo else L x := by
  unfold joinStep
  by_cases e : sLt (L b.b) (L b.a)
  · exact ⟨L b.b, L b.a, .inr ⟨rfl, rfl⟩, by simp only [if_pos e]⟩
  · exact ⟨L b.a, L b.b, .inl ⟨rfl, rfl⟩, by simp only [if_neg e]⟩
theorem fold_inv (Pr : Str → Prop) : ∀ (rows : List Bond) (L : Str → Str), (∀ b ∈ rows, Pr b.a ↔ Pr b.b) → (∀ x, Pr (L x) ↔ Pr x) → ∀ x, Pr (rows.foldl joinStep L x) ↔ Pr x
  | [], L, _, h, x => h x
  | b :: r, L, hb, h, x => by
    rw [List.foldl_cons]
    refine fold_inv Pr r _ (fun c hc => hb c (List.mem_cons_of_mem _ hc)) (fun y => ?_) x
    obtain ⟨lo, hi, e, ej⟩ := joinStep_eq L b
    have hbb := hb b List.mem_cons_self
    rw [ej]
    show Pr (if L y = hi then lo else L y) ↔ Pr y
    split
    · rename_i z
      rw [← h y, z]
      rcases e with ⟨rfl, rfl⟩ | ⟨rfl, rfl⟩
      · rw [h, h]; exact hbb
      · rw [h, h]; exact hbb.symm
    · exact h y
theorem leads_inv (Pr : Str → Prop) {rows : List Bond} (hb : ∀ b ∈ rows, Pr b.a ↔ Pr b.b) (x : Str) : Pr (leads rows x) ↔ Pr x := fold_inv Pr rows id hb (fun _ => Iff.rfl) x
theorem fold_keep {x y : Str} : ∀ (rows : List Bond) (L : Str → Str), L x = L y → rows.foldl joinStep L x = rows.foldl joinStep L y
  | [], L, h => h
  | b :: r, L, h => by
    rw [List.foldl_cons]
    refine fold_keep r _ ?_
    obtain ⟨lo, hi, e, ej⟩ := joinStep_eq L b
    rw [ej]
    show (if L x = hi then lo else L x) = if L y = hi then lo else L y
    rw [h]
theorem fold_bond {b : Bond} : ∀ (rows : List Bond) (L : Str → Str), b ∈ rows → rows.foldl joinStep L b.a = rows.foldl joinStep L b.b
  | c :: r, L, h => by
    rw [List.foldl_cons]
    rcases List.mem_cons.mp h with rfl | h
    · refine fold_keep r _ ?_
      obtain ⟨lo, hi, e, ej⟩ := joinStep_eq L b
      rw [ej]
      show (if L b.a = hi then lo else L b.a) = if L b.b = hi then lo else L b.b
      rcases e with ⟨rfl, rfl⟩ | ⟨rfl, rfl⟩
      · rw [if_pos rfl]; split <;> rfl
      · rw [if_pos rfl]; split <;> rfl
    · exact fold_bond r _ h
theorem leads_bond {rows : List Bond} {b : Bond} (h : b ∈ rows) : leads rows b.a = leads rows b.b := fold_bond rows id h
theorem fold_idem : ∀ (rows : List Bond) (L : Str → Str), (∀ x, L (L x) = L x) → ∀ x, rows.foldl joinStep L (rows.foldl joinStep L x) = rows.foldl joinStep L x
  | [], L, h, x => h x
  | b :: r, L, h, x => by
    rw [List.foldl_cons]
    refine fold_idem r _ (fun y => ?_) x
    obtain ⟨lo, hi, e, ej⟩ := joinStep_eq L b
    have elo : L lo = lo := by rcases e with ⟨rfl, _⟩ | ⟨rfl, _⟩ <;> exact h _
    rw [ej]
    show (if L (if L y = hi then lo else L y) = hi then lo else L (if L y = hi then lo else L y)) = if L y = hi then lo else L y
    by_cases z : L y = hi
    · rw [if_pos z, elo, ite_self]
    · rw [if_neg z, h, if_neg z]
theorem leads_idem (rows : List Bond) (x : Str) : leads rows (leads rows x) = leads rows x := fold_idem rows id (fun _ => rfl) x
theorem group_of {lamps : List Str} {rows : List Bond} (hr : ∀ b ∈ rows, b.a ∈ lamps ∧ b.b ∈ lamps) {x : Str} (hx : x ∈ lamps) : (lamps.filter fun y => decide (leads rows y = leads rows x)) ∈ groupsOf lamps rows := by
  unfold groupsOf
  refine List.mem_map.mpr ⟨leads rows x, List.mem_filter.mpr ⟨?_, decide_eq_true (leads_idem rows x)⟩, rfl⟩
  exact (leads_inv (fun y => y ∈ lamps) (fun b hb => ⟨fun _ => (hr b hb).2, fun _ => (hr b hb).1⟩) x).mpr hx
theorem group_is {lamps : List Str} {rows : List Bond} {g : List Str} (hg : g ∈ groupsOf lamps rows) {x : Str} (hx : x ∈ g) : x ∈ lamps ∧ g = lamps.filter fun y => decide (leads rows y = leads rows x) := by
  obtain ⟨f, _, rfl⟩ := List.mem_map.mp hg
  obtain ⟨h1, h2⟩ := List.mem_filter.mp hx
  have h2 := of_decide_eq_true h2
  exact ⟨h1, by rw [h2]⟩
/-! ### what hangs -/
inductive Hang (n : Net) (S : Str → Int) (C : Str → Option Int) (v : Int) : Str → Prop
  | spring {x : Str} : x ∈ n.names → S x = v → leE v (C x) = true → Hang n S C v x
  | over {x y : Str} {b : Bond} : Hang n S C v x → b ∈ n.bonds → letB b.lo b.hi v = true → (b.a = x ∧ b.b = y ∨ b.b = x ∧ b.a = y) → inF S C v y = true → Hang n S C v y
section
variable {n : Net} {S : Str → Int} {C : Str → Option Int} {v : Int}
theorem Hang.name (ok : n.Ok) {x : Str} (h : Hang n S C v x) : x ∈ n.names := by
  cases h with
  | spring a _ _ => exact a
  | over _ hb _ e _ =>
    rcases e with ⟨_, rfl⟩ | ⟨_, rfl⟩
    · exact (ok.ends _ hb).2.1
    · exact (ok.ends _ hb).1
theorem Hang.inF {x : Str} (h : Hang n S C v x) : inF S C v x = true := by
  cases h with
  | spring _ e c =>
    unfold OB.inF
    rw [c, Bool.and_true, decide_eq_true_eq]
    omega
  | over _ _ _ _ h => exact h
theorem Hang.field (ok : n.Ok) {x : Str} (h : Hang n S C v x) : x ∈ field n S C v := List.mem_filter.mpr ⟨h.name ok, h.inF⟩
theorem opn_iff {L : List Str} {b : Bond} : opn L v b = true ↔ b.a ∈ L ∧ b.b ∈ L ∧ letB b.lo b.hi v = true := by
  unfold opn
  simp [Bool.and_eq_true, and_assoc]
theorem rows_ends {b : Bond} (h : b ∈ n.bonds.filter (opn (field n S C v) v)) : b.a ∈ field n S C v ∧ b.b ∈ field n S C v :=
  have := opn_iff.mp (List.mem_filter.mp h).2
  ⟨this.1, this.2.1⟩
abbrev ldr (n : Net) (S : Str → Int) (C : Str → Option Int) (v : Int) : Str → Str := leads (n.bonds.filter (opn (field n S C v) v))
abbrev grp (n : Net) (S : Str → Int) (C : Str → Option Int) (v : Int) (x : Str) : List Str := (field n S C v).filter fun y => decide (ldr n S C v y = ldr n S C v x)
theorem grp_of {x : Str} (hx : x ∈ field n S C v) : grp n S C v x ∈ groups n S C v := group_of (fun _ hb => rows_ends hb) hx
theorem grp_is {g : List Str} (hg : g ∈ groups n S C v) {x : Str} (hx : x ∈ g) : x ∈ field n S C v ∧ g = grp n S C v x := group_is hg hx
theorem ldr_bond {b : Bond} (hb : b ∈ n.bonds) (hl : letB b.lo b.hi v = true) (ha : b.a ∈ field n S C v) (hb2 : b.b ∈ field n S C v) : ldr n S C v b.a = ldr n S C v b.b :=
  leads_bond (List.mem_filter.mpr ⟨hb, opn_iff.mpr ⟨ha, hb2, hl⟩⟩)
theorem grp_self {x : Str} (hx : x ∈ field n S C v) : x ∈ grp n S C v x := List.mem_filter.mpr ⟨hx, decide_eq_true rfl⟩
theorem hung_iff {x : Str} : x ∈ hung n S C v ↔ x ∈ field n S C v ∧ ∃ y ∈ field n S C v, S y = v ∧ ldr n S C v y = ldr n S C v x := by
  unfold hung
  constructor
  · intro h
    obtain ⟨g, hg, hx⟩ := List.mem_flatten.mp h
    obtain ⟨hg, hl⟩ := List.mem_filter.mp hg
    obtain ⟨h1, rfl⟩ := grp_is hg hx
    obtain ⟨y, hy, e⟩ := List.any_eq_true.mp hl
    obtain ⟨y1, y2⟩ := List.mem_filter.mp hy
    exact ⟨h1, y, y1, of_decide_eq_true e, of_decide_eq_true y2⟩
  · rintro ⟨h1, y, y1, y2, y3⟩
    refine List.mem_flatten.mpr ⟨grp n S C v x, List.mem_filter.mpr ⟨grp_of h1, ?_⟩, grp_self h1⟩
    exact List.any_eq_true.mpr ⟨y, List.mem_filter.mpr ⟨y1, decide_eq_true y3⟩, decide_eq_true y2⟩
theorem Hang.hung (ok : n.Ok) {x : Str} (h : Hang n S C v x) : x ∈ hung n S C v := by
  induction h with
  | spring a e c => exact hung_iff.mpr ⟨(Hang.spring a e c).field ok, _, (Hang.spring a e c).field ok, e, rfl⟩
  | @over x y b hx hb hl e hy ih =>
    obtain ⟨_, z, z1, z2, z3⟩ := hung_iff.mp ih
    have fy := (Hang.over hx hb hl e hy).field ok
    refine hung_iff.mpr ⟨fy, z, z1, z2, z3.trans ?_⟩
    rcases e with ⟨rfl, rfl⟩ | ⟨rfl, rfl⟩
    · exact ldr_bond hb hl (hx.field ok) fy
    · exact (ldr_bond hb hl fy (hx.field ok)).symm
theorem hang_of_hung {x : Str} (h : x ∈ OB.hung n S C v) : Hang n S C v x := by
  obtain ⟨h1, y, y1, y2, y3⟩ := hung_iff.mp h
  have key : ∀ z, Hang n S C v (ldr n S C v z) ↔ Hang n S C v z := leads_inv (fun z => Hang n S C v z) fun b hb => by
    obtain ⟨hb1, hb2⟩ := List.mem_filter.mp hb
    obtain ⟨e1, e2, e3⟩ := opn_iff.mp hb2
    exact ⟨fun h => .over h hb1 e3 (.inl ⟨rfl, rfl⟩) (List.mem_filter.mp e2).2, fun h => .over h hb1 e3 (.inr ⟨rfl, rfl⟩) (List.mem_filter.mp e1).2⟩
  have hy : Hang n S C v y := by
    obtain ⟨a, b⟩ := List.mem_filter.mp y1
    unfold OB.inF at b
    rw [Bool.and_eq_true] at b
    exact .spring a y2 b.2
  rw [← key x, ← y3, key y]
  exact hy
theorem hung_hang (ok : n.Ok) {x : Str} : x ∈ OB.hung n S C v ↔ Hang n S C v x := ⟨hang_of_hung, Hang.hung ok⟩
/-- the shade of a lamp -/
theorem shade_none {x : Str} (hx : x ∈ field n S C v) : shadeOf n S C x v = none ↔ x ∈ OB.hung n S C v := by
  unfold shadeOf shadeIn
  cases e : (groups n S C v).find? (fun g => decide (x ∈ g)) with
  | none =>
    have := List.find?_eq_none.mp e _ (grp_of hx)
    exact absurd (decide_eq_true (grp_self hx)) this
  | some g =>
    have hg := List.mem_of_find?_eq_some e
    have hxg : x ∈ g := by have := List.find?_some e; simpa using this
    have eg := (grp_is hg hxg).2
    show (if lit S v g = true then none else some g) = none ↔ _
    cases el : lit S v g with
    | true =>
      refine ⟨fun _ => ?_, fun _ => if_pos rfl⟩
      exact List.mem_flatten.mpr ⟨g, List.mem_filter.mpr ⟨hg, el⟩, hxg⟩
    | false =>
      refine ⟨fun h => ?_, fun h => ?_⟩
      · rw [if_neg Bool.false_ne_true] at h
        cases h
      · obtain ⟨g', hg', hx'⟩ := List.mem_flatten.mp h
        obtain ⟨hg', hl'⟩ := List.mem_filter.mp hg'
        have eg' := (grp_is hg' hx').2
        rw [eg', ← eg, el] at hl'
        cases hl'
theorem shade_some {x : Str} {g : List Str} (h : shadeOf n S C x v = some g) : x ∈ field n S C v ∧ g = grp n S C v x ∧ lit S v g = false := by
  unfold shadeOf shadeIn at h
  cases e : (groups n S C v).find? (fun g => decide (x ∈ g)) with
  | none => rw [e] at h; cases h
  | some g' =>
    rw [e] at h
    have hg := List.mem_of_find?_eq_some e
    have hxg : x ∈ g' := by have := List.find?_some e; simpa using this
    obtain ⟨h1, eg⟩ := grp_is hg hxg
    have h : (if lit S v g' = true then none else some g') = some g := h
    cases el : lit S v g' with
    | true => rw [el, if_pos rfl] at h; cases h
    | false =>
      rw [el, if_neg Bool.false_ne_true] at h
      cases h
      exact ⟨h1, eg, el⟩
end
end OB

/-! ## MB -/
set_option maxHeartbeats 4000000
namespace OB
open PySem
/-! ### worlds that come of a world -/
inductive Rch (n : Net) (S : Str → Int) : (Str → Int) → Prop
  | refl : Rch n S S
  | step {T : Str → Int} {b : Bond} : Rch n S T → b ∈ n.bonds → can n T b = true → Rch n S (stp T b)
theorem leE_trans {i j : Int} {c : Option Int} (h : i ≤ j) (k : leE j c = true) : leE i c = true := by
  cases c with
  | none => rfl
  | some c => exact decide_eq_true (Int.le_trans h (of_decide_eq_true k))
theorem can_iff {n : Net} {T : Str → Int} {b : Bond} : can n T b = true ↔ T b.a ≠ T b.b ∧ letB b.lo b.hi (T (giv T b)) = true ∧ leE (T (giv T b)) (n.ceil (tak T b)) = true := by
  unfold can
  simp only [Bool.and_eq_true, decide_eq_true_eq, and_assoc]
theorem gt_lt {T : Str → Int} {b : Bond} (h : T b.a ≠ T b.b) : T (tak T b) < T (giv T b) := by
  unfold tak giv gt
  split
  · rename_i h; exact h
  · rename_i k; show T b.b < T b.a; omega
theorem gt_ends (T : Str → Int) (b : Bond) : (giv T b = b.a ∧ tak T b = b.b) ∨ (giv T b = b.b ∧ tak T b = b.a) := by
  unfold tak giv gt
  split
  · exact .inr ⟨rfl, rfl⟩
  · exact .inl ⟨rfl, rfl⟩
theorem stp_at {T : Str → Int} {b : Bond} {x : Str} : stp T b x = if x = tak T b then T (giv T b) else T x := rfl
theorem stp_le {n : Net} {T : Str → Int} {b : Bond} (hc : can n T b = true) (x : Str) : T x ≤ stp T b x := by
  rw [stp_at]
  split
  · rename_i e
    have := gt_lt (can_iff.mp hc).1
    rw [e]; omega
  · exact Int.le_refl _
section
variable {n : Net} {S T : Str → Int}
theorem Rch.mono (h : Rch n S T) : ∀ x, S x ≤ T x := by
  induction h with
  | refl => exact fun x => Int.le_refl _
  | step h hb hc ih => exact fun x => Int.le_trans (ih x) (stp_le hc x)
theorem Rch.trans {U : Str → Int} (h : Rch n S T) (k : Rch n T U) : Rch n S U := by
  induction k with
  | refl => exact h
  | step k hb hc ih => exact .step ih hb hc
theorem Rch.ceil (h : Rch n S T) : ∀ x, T x = S x ∨ leE (T x) (n.ceil x) = true := by
  induction h with
  | refl => exact fun x => .inl rfl
  | @step T b h hb hc ih =>
    intro x
    rw [stp_at]
    split
    · rename_i e
      rw [e]; exact .inr (can_iff.mp hc).2.2
    · exact ih x
theorem Rch.born (ok : n.Ok) (h : Rch n S T) : ∀ x ∈ n.names, ∃ y ∈ n.names, S y = T x := by
  induction h with
  | refl => exact fun x hx => ⟨x, hx, rfl⟩
  | @step T b h hb hc ih =>
    intro x hx
    rw [stp_at]
    split
    · obtain ⟨e1, e2, _⟩ := ok.ends b hb
      rcases gt_ends T b with ⟨e, _⟩ | ⟨e, _⟩ <;> rw [e]
      · exact ih _ e1
      · exact ih _ e2
    · exact ih x hx
theorem Rch.num (ok : n.Ok) (h : Rch n S T) (hS : ∀ x ∈ n.names, isN (S x) = true) : ∀ x ∈ n.names, isN (T x) = true := fun x hx => by
  obtain ⟨y, hy, e⟩ := h.born ok x hx
  rw [← e]; exact hS y hy
theorem freeC_self (x : Str) : leE (S x) (freeC n S x) = true := by
  unfold freeC
  split
  · assumption
  · exact decide_eq_true (Int.le_refl _)
/-- a light that a lamp takes is below its free cap -/
theorem Rch.free (h : Rch n S T) (x : Str) : leE (T x) (freeC n S x) = true := by
  rcases h.ceil x with e | e
  · rw [e]; exact freeC_self x
  · unfold freeC
    rw [if_pos (leE_trans (h.mono x) e)]
    exact e
theorem Rch.caps {ys : List Str} {A : Str → Int} (h : Rch n S T) (told : ∀ x ∈ ys, T x = A x) (x : Str) : leE (T x) (capsOf n S ys A x) = true := by
  unfold capsOf
  split
  · rename_i hx
    rw [told x hx]; exact decide_eq_true (Int.le_refl _)
  · exact h.free x
/-- each lamp's light is its own, or it hangs on it -/
theorem Rch.hang {C : Str → Option Int} (ok : n.Ok) (h : Rch n S T) : (∀ x, leE (T x) (C x) = true) → ∀ x ∈ n.names, T x = S x ∨ Hang n S C (T x) x := by
  induction h with
  | refl => exact fun _ x _ => .inl rfl
  | @step T b h hb hc ih =>
    intro hC x hx
    have hC' : ∀ x, leE (T x) (C x) = true := fun x => leE_trans (stp_le hc x) (hC x)
    have ih := ih hC'
    by_cases e : x = tak T b
    case neg =>
      rw [stp_at, if_neg e]
      exact ih x hx
    refine .inr ?_
    have ev : stp T b x = T (giv T b) := by rw [stp_at, if_pos e]
    obtain ⟨c1, c2, c3⟩ := can_iff.mp hc
    have lt := gt_lt c1
    have hx' := hC x
    rw [ev] at hx' ⊢
    obtain ⟨e1, e2, _⟩ := ok.ends b hb
    have hg : giv T b ∈ n.names := by rcases gt_ends T b with ⟨z, _⟩ | ⟨z, _⟩ <;> rw [z] <;> assumption
    have hgH : Hang n S C (T (giv T b)) (giv T b) := by
      rcases ih _ hg with z | z
      · exact .spring hg z.symm (hC' _)
      · exact z
    refine .over hgH hb c2 ?_ ?_
    · rcases gt_ends T b with ⟨z1, z2⟩ | ⟨z1, z2⟩
      · exact .inl ⟨z1.symm, by rw [e]; exact z2.symm⟩
      · exact .inr ⟨z1.symm, by rw [e]; exact z2.symm⟩
    · have := h.mono x
      unfold inF
      rw [hx', Bool.and_true, decide_eq_true_eq]
      rw [e] at this ⊢
      omega
theorem faults_nil {ys : List Str} {A : Str → Int} {C : Str → Option Int} : faults n S ys A C = [] ↔ ∀ x ∈ ys, ¬ A x < S x ∧ (S x < A x → leE (A x) (n.ceil x) = true ∧ shadeOf n S C x (A x) = none) := by
  unfold faults
  rw [List.append_eq_nil_iff, List.append_eq_nil_iff, List.flatMap_eq_nil_iff, List.flatMap_eq_nil_iff, List.flatMap_eq_nil_iff]
  constructor
  · rintro ⟨⟨h1, h2⟩, h3⟩ x hx
    have h1 := h1 x hx
    have h2 := h2 x hx
    have h3 := h3 x hx
    unfold dimP at h1
    unfold ceilP at h2
    unfold shadeP at h3
    refine ⟨fun z => (by rw [if_pos z] at h1; cases h1), fun z => ?_⟩
    by_cases e : leE (A x) (n.ceil x) = true
    · refine ⟨e, ?_⟩
      rw [if_pos (And.intro z e)] at h3
      cases e2 : shadeOf n S C x (A x) with
      | none => rfl
      | some g => rw [e2] at h3; cases h3
    · rw [if_pos (And.intro z (Bool.eq_false_iff.mpr e))] at h2
      cases h2
  · intro h
    refine ⟨⟨fun x hx => ?_, fun x hx => ?_⟩, fun x hx => ?_⟩
    · exact if_neg (h x hx).1
    · unfold ceilP
      refine if_neg fun z => ?_
      have := ((h x hx).2 z.1).1
      rw [this] at z; cases z.2
    · unfold shadeP
      split
      · rename_i z
        rw [((h x hx).2 z.1).2]
      · rfl
/-- a world with the told lights: there is no fault -/
theorem Rch.no_fault {ys : List Str} {A : Str → Int} (ok : n.Ok) (w : WishOk n ys A) (h : Rch n S T) (told : ∀ x ∈ ys, T x = A x) : faults n S ys A (capsOf n S ys A) = [] := by
  refine faults_nil.mpr fun x hx => ?_
  have hC := h.caps told
  have e := told x hx
  have m := h.mono x
  refine ⟨by omega, fun lt => ?_⟩
  rcases h.hang ok hC x (w.sub x hx) with z | z
  · omega
  · rcases h.ceil x with y | y
    · omega
    · rw [e] at y z
      exact ⟨y, (shade_none (z.field ok)).mpr (z.hung ok)⟩
/-! ### the brightest -/
theorem snocInd {α : Type} {motive : List α → Prop} (nil : motive []) (snoc : ∀ l x, motive l → motive (l ++ [x])) (l : List α) : motive l := by
  have : ∀ r : List α, motive r.reverse := fun r => by
    induction r with
    | nil => exact nil
    | cons x r ih => rw [List.reverse_cons]; exact snoc _ _ ih
  have := this l.reverse
  rwa [List.reverse_reverse] at this
theorem best_snoc {C : Str → Option Int} {vs : List Int} {v : Int} {x : Str} : bestL n S C (vs ++ [v]) x = if x ∈ hung n S C v then v else bestL n S C vs x := by
  unfold bestL
  rw [List.foldl_append]
  rfl
theorem best_is {C : Str → Option Int} {x : Str} : ∀ {vs : List Int}, vs.Pairwise (· < ·) → (bestL n S C vs x = S x ∧ ∀ v ∈ vs, x ∉ hung n S C v) ∨ (bestL n S C vs x ∈ vs ∧ x ∈ hung n S C (bestL n S C vs x) ∧ ∀ u ∈ vs, x ∈ hung n S C u → u ≤ bestL n S C vs x) := by
  intro vs
  induction vs using snocInd with
  | nil => exact fun _ => .inl ⟨rfl, fun v hv => nomatch hv⟩
  | snoc vs v ih =>
    intro pw
    obtain ⟨p1, _, p2⟩ := List.pairwise_append.mp pw
    have p2 : ∀ u ∈ vs, u < v := fun u hu => p2 u hu v (List.mem_singleton.mpr rfl)
    rw [best_snoc]
    by_cases e : x ∈ hung n S C v
    · rw [if_pos e]
      refine .inr ⟨by simp, e, fun u hu _ => ?_⟩
      rcases List.mem_append.mp hu with hu | hu
      · exact Int.le_of_lt (p2 u hu)
      · rw [List.mem_singleton.mp hu]; exact Int.le_refl _
    · rw [if_neg e]
      rcases ih p1 with ⟨h1, h2⟩ | ⟨h1, h2, h3⟩
      · refine .inl ⟨h1, fun u hu => ?_⟩
        rcases List.mem_append.mp hu with hu | hu
        · exact h2 u hu
        · rw [List.mem_singleton.mp hu]; exact e
      · refine .inr ⟨List.mem_append_left _ h1, h2, fun u hu k => ?_⟩
        rcases List.mem_append.mp hu with hu | hu
        · exact h3 u hu k
        · rw [List.mem_singleton.mp hu] at k; exact absurd k e
theorem Hang.le {C : Str → Option Int} {v : Int} {x : Str} (h : Hang n S C v x) : S x ≤ v ∧ leE v (C x) = true := by
  have := h.inF
  unfold OB.inF at this
  rw [Bool.and_eq_true, decide_eq_true_eq] at this
  exact this
theorem hung_le {C : Str → Option Int} {v : Int} {x : Str} (h : x ∈ hung n S C v) : S x ≤ v ∧ leE v (C x) = true := (hang_of_hung h).le
theorem best_ge {C : Str → Option Int} {vs : List Int} (pw : vs.Pairwise (· < ·)) (x : Str) : S x ≤ bestL n S C vs x := by
  rcases best_is (n := n) (S := S) (C := C) (x := x) pw with ⟨h, _⟩ | ⟨_, h, _⟩
  · rw [h]; exact Int.le_refl _
  · exact (hung_le h).1
/-- what comes of S below the caps is below the brightest -/
theorem Rch.lower {C : Str → Option Int} {vs : List Int} (ok : n.Ok) (pw : vs.Pairwise (· < ·)) (mem : ∀ v, v ∈ vs ↔ ∃ x ∈ n.names, S x = v) (h : Rch n S T) (hC : ∀ x, leE (T x) (C x) = true) : ∀ x ∈ n.names, T x ≤ bestL n S C vs x := fun x hx => by
  rcases h.hang ok hC x hx with e | e
  · rw [e]; exact best_ge pw x
  · have hv : T x ∈ vs := (mem _).mpr (h.born ok x hx)
    rcases best_is (n := n) (S := S) (C := C) (x := x) pw with ⟨_, h2⟩ | ⟨_, _, h3⟩
    · exact absurd (e.hung ok) (h2 _ hv)
    · exact h3 _ hv (e.hung ok)
/-- one light after another: each hung lamp may take it -/
theorem lift_one {C : Str → Option Int} {v : Int} (ok : n.Ok) (hC : ∀ x ∈ n.names, ∀ u, S x < u → leE u (C x) = true → leE u (n.ceil x) = true) {L : Str → Int} (hS : ∀ x ∈ n.names, S x ≤ L x) (hlow : ∀ x, Hang n S C v x → L x ≤ v) (hsp : ∀ x, Hang n S C v x → S x = v → L x = v)
    (hlow2 : ∀ x, Hang n S C v x → L x ≠ v → S x < v) : ∀ xs : List Str, (∀ x ∈ xs, Hang n S C v x) → ∃ M, Rch n L M ∧ (∀ x, M x = L x ∨ (M x = v ∧ Hang n S C v x)) ∧ ∀ x ∈ xs, M x = v
  | [], _ => ⟨L, .refl, fun x => .inl rfl, fun x hx => nomatch hx⟩
  | x :: r, h => by
    obtain ⟨M, m1, m2, m3⟩ := lift_one ok hC hS hlow hsp hlow2 r fun y hy => h y (List.mem_cons_of_mem _ hy)
    have hx := h x List.mem_cons_self
    suffices key : ∀ y, Hang n S C v y → ∃ M', Rch n M M' ∧ (∀ x, M' x = M x ∨ (M' x = v ∧ Hang n S C v x)) ∧ M' y = v by
      obtain ⟨M', k1, k2, k3⟩ := key x hx
      refine ⟨M', m1.trans k1, fun z => ?_, fun z hz => ?_⟩
      · rcases k2 z with e | e
        · rw [e]; exact m2 z
        · exact .inr e
      · rcases List.mem_cons.mp hz with rfl | hz
        · exact k3
        · rcases k2 z with e | e
          · rw [e]; exact m3 z hz
          · exact e.1
    intro y hy
    induction hy with
    | @spring y a e c =>
      refine ⟨M, .refl, fun _ => .inl rfl, ?_⟩
      rcases m2 y with z | z
      · rw [z]; exact hsp y (.spring a e c) e
      · exact z.1
    | @over z y b hz hb hl e hy ih =>
      obtain ⟨M', k1, k2, k3⟩ := ih
      have hyH := Hang.over hz hb hl e hy
      by_cases ey : M' y = v
      · exact ⟨M', k1, k2, ey⟩
      have eyM : M' y = L y := by
        rcases k2 y with q | q
        · rw [q]
          rcases m2 y with q2 | q2
          · exact q2
          · rw [q] at ey; exact absurd q2.1 ey
        · exact absurd q.1 ey
      have ly : L y ≤ v := hlow y hyH
      have ltv : M' y < v := by omega
      have hyn := hyH.name ok
      have eg : giv M' b = z ∧ tak M' b = y := by
        rcases e with ⟨rfl, rfl⟩ | ⟨rfl, rfl⟩
        · unfold giv tak gt
          rw [if_neg (by omega)]
          exact ⟨rfl, rfl⟩
        · unfold giv tak gt
          rw [if_pos (by omega)]
          exact ⟨rfl, rfl⟩
      have hcan : can n M' b = true := by
        refine can_iff.mpr ⟨?_, ?_, ?_⟩
        · rcases e with ⟨rfl, rfl⟩ | ⟨rfl, rfl⟩ <;> omega
        · rw [eg.1, k3]; exact hl
        · rw [eg.1, eg.2, k3]
          have := hlow2 y hyH (by omega)
          exact hC y hyn v this hyH.le.2
      refine ⟨stp M' b, .step k1 hb hcan, fun x => ?_, ?_⟩
      · rw [stp_at, eg.1, eg.2, k3]
        split
        · rename_i ex
          exact .inr ⟨rfl, ex ▸ hyH⟩
        · exact k2 x
      · rw [stp_at, eg.2, if_pos rfl, eg.1, k3]
/-- equal at a web's lamps -/
def EqOn (n : Net) (T U : Str → Int) : Prop := ∀ x ∈ n.names, T x = U x
theorem EqOn.gt {T U : Str → Int} (h : EqOn n T U) (ok : n.Ok) {b : Bond} (hb : b ∈ n.bonds) : giv T b = giv U b ∧ tak T b = tak U b := by
  obtain ⟨e1, e2, _⟩ := ok.ends b hb
  unfold giv tak OB.gt
  rw [h _ e1, h _ e2]
  exact ⟨rfl, rfl⟩
theorem EqOn.giv_in {T : Str → Int} (ok : n.Ok) {b : Bond} (hb : b ∈ n.bonds) : giv T b ∈ n.names ∧ tak T b ∈ n.names := by
  obtain ⟨e1, e2, _⟩ := ok.ends b hb
  rcases gt_ends T b with ⟨a, c⟩ | ⟨a, c⟩ <;> rw [a, c]
  · exact ⟨e1, e2⟩
  · exact ⟨e2, e1⟩
theorem EqOn.can {T U : Str → Int} (h : EqOn n T U) (ok : n.Ok) {b : Bond} (hb : b ∈ n.bonds) : can n T b = can n U b := by
  obtain ⟨e1, e2, _⟩ := ok.ends b hb
  obtain ⟨g1, g2⟩ := h.gt ok hb
  unfold OB.can
  rw [g1, g2, h _ e1, h _ e2, h _ (EqOn.giv_in ok hb).1]
theorem EqOn.stp {T U : Str → Int} (h : EqOn n T U) (ok : n.Ok) {b : Bond} (hb : b ∈ n.bonds) : EqOn n (stp T b) (stp U b) := fun x hx => by
  obtain ⟨g1, g2⟩ := h.gt ok hb
  rw [stp_at, stp_at, g1, g2, h _ hx, h _ (EqOn.giv_in ok hb).1]
theorem Rch.eqOn {T U V : Str → Int} (h : Rch n T U) (ok : n.Ok) (e : EqOn n T V) : ∃ W, Rch n V W ∧ EqOn n U W := by
  induction h with
  | refl => exact ⟨V, .refl, e⟩
  | @step U b h hb hc ih =>
    obtain ⟨W, h1, h2⟩ := ih
    exact ⟨OB.stp W b, .step h1 hb (by rw [← h2.can ok hb]; exact hc), h2.stp ok hb⟩
/-- the brightest comes of S -/
theorem best_rch {C : Str → Option Int} (ok : n.Ok) (hC : ∀ x ∈ n.names, ∀ u, S x < u → leE u (C x) = true → leE u (n.ceil x) = true) : ∀ {vs : List Int}, vs.Pairwise (· < ·) → (∀ x ∈ n.names, ∀ v, S x < v → v ∈ vs → True) → ∃ M, Rch n S M ∧ EqOn n (bestL n S C vs) M := by
  intro vs
  induction vs using snocInd with
  | nil => exact fun _ _ => ⟨S, .refl, fun x _ => rfl⟩
  | snoc vs v ih =>
    intro pw _
    obtain ⟨p1, _, p2⟩ := List.pairwise_append.mp pw
    have p2 : ∀ u ∈ vs, u < v := fun u hu => p2 u hu v (List.mem_singleton.mpr rfl)
    obtain ⟨M, m1, m2⟩ := ih p1 (fun _ _ _ _ _ => trivial)
    have bi := fun x => best_is (n := n) (S := S) (C := C) (x := x) p1
    have blt : ∀ x, Hang n S C v x → bestL n S C vs x ≤ v ∧ (S x = v → bestL n S C vs x = v) ∧ (bestL n S C vs x ≠ v → S x < v) := fun x hx => by
      have := hx.le.1
      rcases bi x with ⟨h1, _⟩ | ⟨h1, h2, _⟩
      · rw [h1]; exact ⟨this, fun z => z, fun z => by omega⟩
      · have q := p2 _ h1
        have r := (hung_le h2).1
        exact ⟨by omega, fun z => by omega, fun _ => by omega⟩
    obtain ⟨N, n1, n2, n3⟩ := lift_one (v := v) ok hC (L := M) (fun x _ => m1.mono x) (fun x hx => by rw [← m2 x (hx.name ok)]; exact (blt x hx).1) (fun x hx e => by rw [← m2 x (hx.name ok)]; exact (blt x hx).2.1 e)
      (fun x hx e => by rw [← m2 x (hx.name ok)] at e; exact (blt x hx).2.2 e) (hung n S C v) (fun x hx => hang_of_hung hx)
    refine ⟨N, m1.trans n1, fun x hx => ?_⟩
    rw [best_snoc]
    split
    · rename_i e; exact (n3 x e).symm
    · rename_i e
      rcases n2 x with q | q
      · rw [q]; exact m2 x hx
      · exact absurd (q.2.hung ok) e
/-- caps of a wish without faults -/
theorem caps_ceil {ys : List Str} {A : Str → Int} (nf : faults n S ys A (capsOf n S ys A) = []) : ∀ x ∈ n.names, ∀ u, S x < u → leE u (capsOf n S ys A x) = true → leE u (n.ceil x) = true := fun x hx u hu hc => by
  unfold capsOf at hc
  split at hc
  · rename_i hy
    have hc : u ≤ A x := of_decide_eq_true hc
    exact leE_trans hc ((faults_nil.mp nf x hy).2 (by omega)).1
  · unfold freeC at hc
    split at hc
    · exact hc
    · have hc : u ≤ S x := of_decide_eq_true hc
      omega
/-- a wish without faults: the brightest has the told lights -/
theorem best_told {ys : List Str} {A : Str → Int} {vs : List Int} (ok : n.Ok) (w : WishOk n ys A) (pw : vs.Pairwise (· < ·)) (mem : ∀ v, v ∈ vs ↔ ∃ x ∈ n.names, S x = v) (nf : faults n S ys A (capsOf n S ys A) = []) : ∀ x ∈ ys, bestL n S (capsOf n S ys A) vs x = A x := fun x hx => by
  obtain ⟨h1, h2⟩ := faults_nil.mp nf x hx
  have ec : capsOf n S ys A x = some (A x) := if_pos hx
  have le : ∀ v, x ∈ hung n S (capsOf n S ys A) v → S x ≤ v ∧ v ≤ A x := fun v hv => by
    obtain ⟨a, b⟩ := hung_le hv
    rw [ec] at b
    exact ⟨a, of_decide_eq_true b⟩
  by_cases lt : S x < A x
  · have hf : x ∈ field n S (capsOf n S ys A) (A x) := by
      refine List.mem_filter.mpr ⟨w.sub x hx, ?_⟩
      unfold inF
      rw [ec]
      show (decide (S x ≤ A x) && decide (A x ≤ A x)) = true
      simp; omega
    have hh := (shade_none hf).mp (h2 lt).2
    have hb : A x ∈ vs := by
      have := hang_of_hung hh
      obtain ⟨_, y, y1, y2, _⟩ := hung_iff.mp hh
      exact (mem _).mpr ⟨y, (List.mem_filter.mp y1).1, y2⟩
    rcases best_is (n := n) (S := S) (C := capsOf n S ys A) (x := x) pw with ⟨_, q⟩ | ⟨_, q2, q3⟩
    · exact absurd hh (q _ hb)
    · have := q3 _ hb hh
      have := (le _ q2).2
      omega
  · rcases best_is (n := n) (S := S) (C := capsOf n S ys A) (x := x) pw with ⟨q, _⟩ | ⟨_, q2, _⟩
    · omega
    · have := le _ q2
      omega
/-- granted: some world that comes of S has the told lights -/
theorem granted_iff {ys : List Str} {A : Str → Int} {vs : List Int} (ok : n.Ok) (w : WishOk n ys A) (pw : vs.Pairwise (· < ·)) (mem : ∀ v, v ∈ vs ↔ ∃ x ∈ n.names, S x = v) :
    faults n S ys A (capsOf n S ys A) = [] → ∃ M, Rch n S M ∧ EqOn n (bestL n S (capsOf n S ys A) vs) M ∧ ∀ x ∈ ys, M x = A x := fun nf => by
  obtain ⟨M, m1, m2⟩ := best_rch (C := capsOf n S ys A) ok (caps_ceil nf) pw (fun _ _ _ _ _ => trivial)
  exact ⟨M, m1, m2, fun x hx => by rw [← m2 x (w.sub x hx)]; exact best_told ok w pw mem nf x hx⟩
theorem no_wish {A : Str → Int} : faults n S [] A (capsOf n S [] A) = [] := rfl
/-- without a wish the brightest is at rest -/
theorem best_rest {A : Str → Int} {vs : List Int} (ok : n.Ok) (pw : vs.Pairwise (· < ·)) (mem : ∀ v, v ∈ vs ↔ ∃ x ∈ n.names, S x = v) {b : Bond} (hb : b ∈ n.bonds) : can n (bestL n S (capsOf n S [] A) vs) b = false := by
  have w : WishOk n [] A := ⟨List.nodup_nil, fun x h => (nomatch h), fun x h => (nomatch h)⟩
  obtain ⟨M, m1, m2, _⟩ := granted_iff (A := A) ok w pw mem no_wish
  cases e : can n (bestL n S (capsOf n S [] A) vs) b with
  | false => rfl
  | true =>
    rw [m2.can ok hb] at e
    have r := Rch.step m1 hb e
    have hn := (EqOn.giv_in (T := M) ok hb).2
    have := r.lower (C := capsOf n S [] A) ok pw mem (fun x => r.caps (fun x h => absurd h List.not_mem_nil) x) _ hn
    rw [m2 _ hn, stp_at, if_pos rfl] at this
    have := gt_lt (can_iff.mp e).1
    omega
end
end OB

/-! ## MC -/
set_option maxHeartbeats 4000000
namespace OB
open PySem
section
variable {p : Plan} {S : Str → Int}
theorem kept_in {b : Bond} (h : b ∈ p.bs) : kept b ∈ p.net.bonds := netOf_bonds.mem_iff.mpr (List.mem_map.mpr ⟨b, h, rfl⟩)
theorem of_kept {b : Bond} (h : b ∈ p.net.bonds) : ∃ c ∈ p.bs, kept c = b := List.mem_map.mp (netOf_bonds.mem_iff.mp h)
theorem kept_ends (b : Bond) : (kept b).lo = b.lo ∧ (kept b).hi = b.hi ∧ ((kept b).a = b.a ∧ (kept b).b = b.b ∨ (kept b).a = b.b ∧ (kept b).b = b.a) := by
  unfold kept
  split
  · exact ⟨rfl, rfl, .inr ⟨rfl, rfl⟩⟩
  · exact ⟨rfl, rfl, .inl ⟨rfl, rfl⟩⟩
theorem stp_kept {T : Str → Int} {b : Bond} (h : T b.a ≠ T b.b) : stp T (kept b) = stp T b := by
  unfold stp tak giv
  rcases (kept_ends b).2.2 with ⟨e1, e2⟩ | ⟨e1, e2⟩
  · rw [e1, e2]
  · rw [e1, e2, gt_swap h]
theorem can_ne {n : Net} {T : Str → Int} {b : Bond} (h : can n T b = true) : T b.a ≠ T b.b := (can_iff.mp h).1
/-- a deed by the plan's own bonds -/
theorem Rch.by {T : Str → Int} {b : Bond} (h : Rch p.net S T) (hb : b ∈ p.bs) (hc : can p.net T b = true) : Rch p.net S (stp T b) := by
  have := Rch.step h (kept_in hb) (by rw [can_kept]; exact hc)
  rwa [stp_kept (can_ne hc)] at this
theorem names_lt (ok : RowsOk p.ls p.bs) : p.net.names.Pairwise fun a b => sLt a b := by
  have h1 : p.net.names.Pairwise fun a b => leN a b = true := net_names_pw
  have h2 : p.net.names.Pairwise fun a b => a ≠ b := (netOf_ok ok).nd
  refine (h1.and h2).imp fun {a b} h => ?_
  obtain ⟨h, ne⟩ := h
  unfold leN at h
  have h : ¬ b.cps.toList < a.cps.toList := by simpa using h
  have h := List.not_lt.mp h
  rcases List.le_iff_lt_or_eq.mp h with h | h
  · exact h
  · refine absurd ?_ ne
    cases a; cases b
    exact congrArg Str.mk (Array.toList_inj.mp h)
theorem shade_cover {C : Str → Option Int} {x : Str} {v : Int} {g : List Str} (ok : RowsOk p.ls p.bs) (h : shadeOf p.net S C x v = some g) : CoverOk p S C x v g := by
  obtain ⟨h1, rfl, h3⟩ := shade_some h
  have mem : ∀ y, y ∈ grp p.net S C v x ↔ y ∈ field p.net S C v ∧ ldr p.net S C v y = ldr p.net S C v x := fun y => by
    rw [List.mem_filter, decide_eq_true_eq]
  have inf : ∀ {y}, y ∈ field p.net S C v → y ∈ p.net.names ∧ inF S C v y = true := fun hy => List.mem_filter.mp hy
  refine ⟨fun y hy => ?_, ?_, grp_self h1, fun e he hl => ?_⟩
  · refine ⟨(inf ((mem y).mp hy).1).1, fun z => ?_⟩
    have := List.any_eq_false.mp h3 y hy
    exact this (decide_eq_true z)
  · exact ((names_lt ok).filter _).filter _
  · obtain ⟨k1, k2, k3⟩ := kept_ends e
    have okn := netOf_ok ok
    have key : ∀ u w, ((kept e).a = u ∧ (kept e).b = w ∨ (kept e).b = u ∧ (kept e).a = w) → u ∈ grp p.net S C v x → w ∉ grp p.net S C v x → inF S C v w = false := fun u w hh hu hw => by
      cases q : inF S C v w with
      | false => rfl
      | true =>
        obtain ⟨ea, eb, _⟩ := okn.ends (kept e) (kept_in he)
        obtain ⟨u1, u2⟩ := (mem u).mp hu
        have hl' : letB (kept e).lo (kept e).hi v = true := by rw [k1, k2]; exact hl
        have wn : w ∈ p.net.names := by
          rcases hh with ⟨_, rfl⟩ | ⟨_, rfl⟩
          · exact eb
          · exact ea
        have wf : w ∈ field p.net S C v := List.mem_filter.mpr ⟨wn, q⟩
        refine absurd ((mem w).mpr ⟨wf, ?_⟩) hw
        rw [← u2]
        rcases hh with ⟨rfl, rfl⟩ | ⟨rfl, rfl⟩
        · exact (ldr_bond (kept_in he) hl' u1 wf).symm
        · exact ldr_bond (kept_in he) hl' wf u1
    rcases k3 with ⟨e1, e2⟩ | ⟨e1, e2⟩
    · exact ⟨fun h1 h2 => key e.a e.b (.inl ⟨e1, e2⟩) h1 h2, fun h1 h2 => key e.b e.a (.inr ⟨e2, e1⟩) h1 h2⟩
    · exact ⟨fun h1 h2 => key e.a e.b (.inr ⟨e2, e1⟩) h1 h2, fun h1 h2 => key e.b e.a (.inl ⟨e1, e2⟩) h1 h2⟩
/-- the papers hold -/
theorem faults_ok {ys : List Str} {A : Str → Int} (ok : RowsOk p.ls p.bs) {pp : Paper} (h : pp ∈ faults p.net S ys A (capsOf p.net S ys A)) : PaperOk p S ys A pp := by
  unfold faults at h
  rcases List.mem_append.mp h with h | h
  · rcases List.mem_append.mp h with h | h
    · obtain ⟨x, hx, h⟩ := List.mem_flatMap.mp h
      unfold dimP at h
      split at h
      · rw [List.mem_singleton.mp h]
        exact ⟨hx, by assumption⟩
      · cases h
    · obtain ⟨x, hx, h⟩ := List.mem_flatMap.mp h
      unfold ceilP at h
      split at h
      · rename_i z
        rw [List.mem_singleton.mp h]
        exact ⟨hx, z⟩
      · cases h
  · obtain ⟨x, hx, h⟩ := List.mem_flatMap.mp h
    unfold shadeP at h
    split at h
    · rename_i z
      split at h
      · rename_i g e
        rw [List.mem_singleton.mp h]
        refine ⟨hx, z.1, shade_cover ok e, ?_⟩
        obtain ⟨_, rfl, _⟩ := shade_some e
        have := (netOf_ok ok).len
        refine Nat.le_trans (List.length_filter_le _ _) (Nat.le_trans (List.length_filter_le _ _) ?_)
        show p.net.names.length ≤ 1000
        unfold Net.names
        rw [List.length_map]
        exact Nat.le_trans this (by decide)
      · cases h
    · cases h
/-! ### the search finds all -/
/-- how much a world may still grow -/
def room (n : Net) (S T : Str → Int) : Nat := (n.names.map fun x => (n.names.filter fun y => decide (T x < S y)).length).sum
theorem sum_le {α : Type} {f g : α → Nat} : ∀ {l : List α}, (∀ x ∈ l, f x ≤ g x) → (l.map f).sum ≤ (l.map g).sum
  | [], _ => Nat.le_refl _
  | x :: r, h => by
    have h1 := h x List.mem_cons_self
    have h2 := sum_le (f := f) (g := g) (l := r) fun y hy => h y (List.mem_cons_of_mem _ hy)
    simp only [List.map_cons, List.sum_cons]
    omega
theorem sum_lt {α : Type} {f g : α → Nat} : ∀ {l : List α}, (∀ x ∈ l, f x ≤ g x) → ∀ z ∈ l, f z < g z → (l.map f).sum < (l.map g).sum
  | [], _, z, hz, _ => nomatch hz
  | x :: r, h, z, hz, lt => by
    have h1 := h x List.mem_cons_self
    have h2 := sum_le (f := f) (g := g) (l := r) fun y hy => h y (List.mem_cons_of_mem _ hy)
    simp only [List.map_cons, List.sum_cons]
    rcases List.mem_cons.mp hz with rfl | hz
    · omega
    · have := sum_lt (f := f) (g := g) (l := r) (fun y hy => h y (List.mem_cons_of_mem _ hy)) z hz lt
      omega
theorem filter_le {α : Type} {c d : α → Bool} : ∀ {l : List α}, (∀ x ∈ l, c x = true → d x = true) → (l.filter c).length ≤ (l.filter d).length
  | [], _ => Nat.le_refl _
  | x :: r, h => by
    have ih := filter_le (c := c) (d := d) (l := r) fun y hy => h y (List.mem_cons_of_mem _ hy)
    have h1 := h x List.mem_cons_self
    rw [List.filter_cons, List.filter_cons]
    cases ec : c x
    · cases d x <;> simp <;> omega
    · rw [h1 ec]; simp; exact ih
theorem filter_lt {α : Type} {c d : α → Bool} : ∀ {l : List α}, (∀ x ∈ l, c x = true → d x = true) → ∀ z ∈ l, c z = false → d z = true → (l.filter c).length < (l.filter d).length
  | [], _, z, hz, _, _ => nomatch hz
  | x :: r, h, z, hz, e1, e2 => by
    have ih := filter_le (c := c) (d := d) (l := r) fun y hy => h y (List.mem_cons_of_mem _ hy)
    have h1 := h x List.mem_cons_self
    rw [List.filter_cons, List.filter_cons]
    rcases List.mem_cons.mp hz with rfl | hz
    · rw [e1, e2]; simp; omega
    · have := filter_lt (c := c) (d := d) (l := r) (fun y hy => h y (List.mem_cons_of_mem _ hy)) z hz e1 e2
      cases ec : c x
      · cases d x <;> simp <;> omega
      · rw [h1 ec]; simp; omega
theorem room_step {n : Net} {T : Str → Int} {b : Bond} (ok : n.Ok) (h : Rch n S T) (hb : b ∈ n.bonds) (hc : can n T b = true) : room n S (stp T b) < room n S T := by
  obtain ⟨g1, g2⟩ := EqOn.giv_in (T := T) ok hb
  have lt := gt_lt (can_iff.mp hc).1
  refine sum_lt (fun x _ => filter_le fun y _ e => ?_) (tak T b) g2 ?_
  · have := stp_le hc x
    have e := of_decide_eq_true e
    exact decide_eq_true (by omega)
  · obtain ⟨y, y1, y2⟩ := h.born ok _ g1
    refine filter_lt (fun z _ e => ?_) y y1 ?_ ?_
    · have := stp_le hc (tak T b)
      have e := of_decide_eq_true e
      exact decide_eq_true (by omega)
    · rw [stp_at, if_pos rfl]; exact decide_eq_false (by omega)
    · exact decide_eq_true (by omega)
theorem room_le {n : Net} {T : Str → Int} : room n S T ≤ n.names.length * n.names.length := by
  unfold room
  have : ∀ l : List Str, (l.map fun x => (n.names.filter fun y => decide (T x < S y)).length).sum ≤ l.length * n.names.length := fun l => by
    induction l with
    | nil => simp
    | cons x r ih =>
      have := List.length_filter_le (fun y => decide (T x < S y)) n.names
      simp only [List.map_cons, List.sum_cons, List.length_cons, Nat.add_mul, Nat.one_mul]
      omega
  exact this _
theorem room_eq {n : Net} {T U : Str → Int} (h : EqOn n T U) : room n S T = room n S U := by
  unfold room
  congr 1
  refine List.map_congr_left fun x hx => ?_
  rw [h x hx]
theorem row_eq {n : Net} {T U : Str → Int} : n.names.map T = n.names.map U ↔ EqOn n T U := List.map_inj_left
/-- the search on its way: what is found comes of S; what is found and lies neither ahead nor in the layer that is made has its next ones found -/
structure Sea (p : Plan) (S : Str → Int) (bound k : Nat) (ahead : (Str → Int) → Prop) (st : RS) : Prop where
  rch : ∀ r ∈ st.found, ∃ T, Rch p.net S T ∧ r = p.net.names.map T
  len : st.found.length ≤ bound
  fr : ∀ T ∈ st.fresh, Rch p.net S T ∧ p.net.names.map T ∈ st.found ∧ room p.net S T + (k + 1) ≤ room p.net S S
  cl : ∀ T, Rch p.net S T → p.net.names.map T ∈ st.found → ahead T ∨ (∃ U ∈ st.fresh, EqOn p.net T U) ∨ ∀ b ∈ p.bs, can p.net T b = true → p.net.names.map (stp T b) ∈ st.found
theorem visit_ok {bound k : Nat} {ahead : (Str → Int) → Prop} {now : Str → Int} {e : Bond} {st st' : RS} (okn : p.net.Ok) (he : e ∈ p.bs) (hn : Rch p.net S now) (hr : room p.net S now + k ≤ room p.net S S) (h : visit p.net bound now e st = some st') (sea : Sea p S bound k ahead st) :
    Sea p S bound k ahead st' ∧ (∀ r ∈ st.found, r ∈ st'.found) ∧ (can p.net now e = true → p.net.names.map (stp now e) ∈ st'.found) := by
  unfold visit at h
  by_cases hc : can p.net now e = true
  case neg =>
    rw [if_neg hc] at h
    cases h
    exact ⟨sea, fun r hr => hr, fun z => absurd z hc⟩
  rw [if_pos hc] at h
  by_cases hm : p.net.names.map (stp now e) ∈ st.found
  case pos =>
    rw [if_pos hm] at h
    cases h
    exact ⟨sea, fun r hr => hr, fun _ => hm⟩
  rw [if_neg hm] at h
  by_cases hl : (st.found ++ [p.net.names.map (stp now e)]).length > bound
  case pos => rw [if_pos hl] at h; cases h
  rw [if_neg hl] at h
  cases h
  have hnew := hn.by he hc
  refine ⟨⟨fun r hr => ?_, Nat.not_lt.mp hl, fun T hT => ?_, fun T hT hf => ?_⟩, fun r hr => List.mem_append_left _ hr, fun _ => List.mem_append_right _ (List.mem_singleton.mpr rfl)⟩
  · rcases List.mem_append.mp hr with hr | hr
    · exact sea.rch r hr
    · exact ⟨_, hnew, List.mem_singleton.mp hr⟩
  · rcases List.mem_append.mp hT with hT | hT
    · obtain ⟨a, b, c⟩ := sea.fr T hT
      exact ⟨a, List.mem_append_left _ b, c⟩
    · rw [List.mem_singleton.mp hT]
      refine ⟨hnew, List.mem_append_right _ (List.mem_singleton.mpr rfl), ?_⟩
      have := room_step okn hn (kept_in he) (by rw [can_kept]; exact hc)
      rw [stp_kept (can_ne hc)] at this
      omega
  · rcases List.mem_append.mp hf with hf | hf
    · rcases sea.cl T hT hf with q | ⟨U, q1, q2⟩ | q
      · exact .inl q
      · exact .inr (.inl ⟨U, List.mem_append_left _ q1, q2⟩)
      · exact .inr (.inr fun b hb hcb => List.mem_append_left _ (q b hb hcb))
    · exact .inr (.inl ⟨stp now e, List.mem_append_right _ (List.mem_singleton.mpr rfl), row_eq.mp (List.mem_singleton.mp hf)⟩)
theorem edges_ok {bound k : Nat} {ahead : (Str → Int) → Prop} {now : Str → Int} (okn : p.net.Ok) (hn : Rch p.net S now) (hr : room p.net S now + k ≤ room p.net S S) : ∀ {es : List Bond} {st st' : RS}, (∀ e ∈ es, e ∈ p.bs) → edgesGo p.net bound now es st = some st' → Sea p S bound k ahead st →
    Sea p S bound k ahead st' ∧ (∀ r ∈ st.found, r ∈ st'.found) ∧ ∀ e ∈ es, can p.net now e = true → p.net.names.map (stp now e) ∈ st'.found
  | [], st, st', _, h, sea => by
    cases h
    exact ⟨sea, fun r hr => hr, fun e he => nomatch he⟩
  | e :: r, st, st', hes, h, sea => by
    have h : (visit p.net bound now e st).bind (edgesGo p.net bound now r) = some st' := h
    cases ev : visit p.net bound now e st with
    | none => rw [ev] at h; cases h
    | some st1 =>
      rw [ev] at h
      obtain ⟨a1, a2, a3⟩ := visit_ok okn (hes e List.mem_cons_self) hn hr ev sea
      obtain ⟨b1, b2, b3⟩ := edges_ok okn hn hr (fun x hx => hes x (List.mem_cons_of_mem _ hx)) h a1
      refine ⟨b1, fun r hr => b2 r (a2 r hr), fun x hx hc => ?_⟩
      rcases List.mem_cons.mp hx with rfl | hx
      · exact b2 _ (a3 hc)
      · exact b3 x hx hc
theorem layer_ok {bound k : Nat} (okn : p.net.Ok) : ∀ {layer : List (Str → Int)} {st st' : RS}, (∀ T ∈ layer, Rch p.net S T ∧ room p.net S T + k ≤ room p.net S S) → layerGo p.net bound p.bs layer st = some st' → Sea p S bound k (fun T => ∃ U ∈ layer, EqOn p.net T U) st → Sea p S bound k (fun _ => False) st'
  | [], st, st', _, h, sea => by
    cases h
    refine ⟨sea.rch, sea.len, sea.fr, fun T hT hf => ?_⟩
    rcases sea.cl T hT hf with ⟨U, hU, _⟩ | q
    · cases hU
    · exact .inr q
  | g :: r, st, st', hl, h, sea => by
    have h : (edgesGo p.net bound g p.bs st).bind (layerGo p.net bound p.bs r) = some st' := h
    cases ev : edgesGo p.net bound g p.bs st with
    | none => rw [ev] at h; cases h
    | some st1 =>
      rw [ev] at h
      obtain ⟨hg, hr⟩ := hl g List.mem_cons_self
      obtain ⟨a1, a2, a3⟩ := edges_ok okn hg hr (fun _ h => h) ev sea
      refine layer_ok okn (fun T hT => hl T (List.mem_cons_of_mem _ hT)) h ⟨a1.rch, a1.len, a1.fr, fun T hT hf => ?_⟩
      rcases a1.cl T hT hf with ⟨U, hU, e⟩ | q
      · rcases List.mem_cons.mp hU with rfl | hU
        · refine .inr (.inr fun b hb hcb => ?_)
          have e1 := e.can okn (kept_in hb)
          rw [can_kept, can_kept] at e1
          have hcU : can p.net U b = true := by rw [← e1]; exact hcb
          have e2 := e.stp okn (kept_in hb)
          rw [stp_kept (can_ne hcb), stp_kept (can_ne hcU)] at e2
          rw [row_eq.mpr e2]
          exact a3 b hb hcU
        · exact .inl ⟨U, hU, e⟩
      · exact .inr q
theorem visit_grow {n : Net} {bound : Nat} {now : Str → Int} {e : Bond} {st st' : RS} (h : visit n bound now e st = some st') : ∀ r ∈ st.found, r ∈ st'.found := by
  unfold visit at h
  split at h
  · split at h
    · cases h; exact fun r hr => hr
    · split at h
      · cases h
      · cases h; exact fun r hr => List.mem_append_left _ hr
  · cases h; exact fun r hr => hr
theorem edges_grow {n : Net} {bound : Nat} {now : Str → Int} : ∀ {es : List Bond} {st st' : RS}, edgesGo n bound now es st = some st' → ∀ r ∈ st.found, r ∈ st'.found
  | [], st, st', h => by cases h; exact fun r hr => hr
  | e :: es, st, st', h => by
    have h : (visit n bound now e st).bind (edgesGo n bound now es) = some st' := h
    cases ev : visit n bound now e st with
    | none => rw [ev] at h; cases h
    | some st1 =>
      rw [ev] at h
      exact fun r hr => edges_grow h r (visit_grow ev r hr)
theorem layer_grow {n : Net} {bound : Nat} {es : List Bond} : ∀ {l : List (Str → Int)} {st st' : RS}, layerGo n bound es l st = some st' → ∀ r ∈ st.found, r ∈ st'.found
  | [], st, st', h => by cases h; exact fun r hr => hr
  | g :: l, st, st', h => by
    have h : (edgesGo n bound g es st).bind (layerGo n bound es l) = some st' := h
    cases ev : edgesGo n bound g es st with
    | none => rw [ev] at h; cases h
    | some st1 =>
      rw [ev] at h
      exact fun r hr => layer_grow h r (edges_grow ev r hr)
theorem reach_go {bound : Nat} (okn : p.net.Ok) {f : List (List Int)} : ∀ {j k : Nat} {found : List (List Int)} {layer : List (Str → Int)}, reachGo p.net bound p.bs j found layer = some f → room p.net S S < k + j →
    (∀ r ∈ found, ∃ T, Rch p.net S T ∧ r = p.net.names.map T) → found.length ≤ bound → (∀ T ∈ layer, Rch p.net S T ∧ p.net.names.map T ∈ found ∧ room p.net S T + k ≤ room p.net S S) → p.net.names.map S ∈ found →
    (∀ T, Rch p.net S T → p.net.names.map T ∈ found → (∃ U ∈ layer, EqOn p.net T U) ∨ ∀ b ∈ p.bs, can p.net T b = true → p.net.names.map (stp T b) ∈ found) →
    f.length ≤ bound ∧ ∀ r, r ∈ f ↔ ∃ T, Rch p.net S T ∧ r = p.net.names.map T
  | 0, k, found, layer, h, hk, hr, hl, hla, hS, cl => by
    cases h
    have nolay : ∀ T ∈ layer, False := fun T hT => by
      have := (hla T hT).2.2
      omega
    refine ⟨hl, fun r => ⟨hr r, ?_⟩⟩
    rintro ⟨T, hT, rfl⟩
    induction hT with
    | refl => exact hS
    | @step T b hT hb hc ih =>
      obtain ⟨c, hc1, rfl⟩ := of_kept hb
      rw [can_kept] at hc
      rw [stp_kept (can_ne hc)]
      rcases cl T hT ih with ⟨U, hU, _⟩ | q
      · exact absurd hU (fun z => nolay U z)
      · exact q c hc1 hc
  | j + 1, k, found, layer, h, hk, hr, hl, hla, hS, cl => by
    have h : ((layerGo p.net bound p.bs layer ⟨found, []⟩).bind fun st => reachGo p.net bound p.bs j st.found st.fresh) = some f := h
    cases ev : layerGo p.net bound p.bs layer ⟨found, []⟩ with
    | none => rw [ev] at h; cases h
    | some st =>
      rw [ev] at h
      have sea0 : Sea p S bound k (fun T => ∃ U ∈ layer, EqOn p.net T U) ⟨found, []⟩ := ⟨hr, hl, fun T hT => (nomatch hT), fun T hT hf => by
        rcases cl T hT hf with q | q
        · exact .inl q
        · exact .inr (.inr q)⟩
      have sea := layer_ok okn (fun T hT => ⟨(hla T hT).1, (hla T hT).2.2⟩) ev sea0
      refine reach_go okn (k := k + 1) h (by omega) sea.rch sea.len sea.fr ?_ fun T hT hf => ?_
      · exact layer_grow ev _ hS
      · rcases sea.cl T hT hf with q | q
        · exact q.elim
        · exact q
/-- the rows that the search finds are those of the worlds that come of S -/
theorem reach_iff {f : List (List Int)} (ok : RowsOk p.ls p.bs) (h7 : p.net.names.length ≤ 7) (h : reachOf p S 60 = some f) : f.length ≤ 60 ∧ ∀ r, r ∈ f ↔ ∃ T, Rch p.net S T ∧ r = p.net.names.map T := by
  have okn : p.net.Ok := netOf_ok ok
  refine reach_go (k := 0) okn h ?_ (fun r hr => ?_) (by show 1 ≤ 60; decide) (fun T hT => ?_) (List.mem_singleton.mpr rfl) (fun T hT hf => ?_)
  · have h1 := room_le (n := p.net) (S := S) (T := S)
    have h2 : p.net.names.length * p.net.names.length ≤ 7 * 7 := Nat.mul_le_mul h7 h7
    omega
  · exact ⟨S, .refl, List.mem_singleton.mp hr⟩
  · rw [List.mem_singleton.mp hT]
    exact ⟨.refl, List.mem_singleton.mpr rfl, Nat.le_refl _⟩
  · exact .inl ⟨S, List.mem_singleton.mpr rfl, row_eq.mp (List.mem_singleton.mp hf)⟩
end
end OB

/-! ## Q9 -/
set_option maxHeartbeats 4000000
namespace OB
open PySem PySem.Spec PyProof.Rows L2
/-! ### tags -/
theorem letters_list : letters.cps.toList = (List.range 26).map (97 + ·) := by decide +kernel
theorem signs_list : signs.cps.toList = (List.range 26).map (97 + ·) ++ (List.range 10).map (48 + ·) := by decide +kernel
theorem mem_letters {c : Nat} (h1 : 97 ≤ c) (h2 : c ≤ 122) : c ∈ letters.cps.toList := by
  rw [letters_list, List.mem_map]
  exact ⟨c - 97, List.mem_range.mpr (by omega), by omega⟩
def isSign (c : Nat) : Bool := (decide (97 ≤ c) && decide (c ≤ 122)) || (decide (48 ≤ c) && decide (c ≤ 57))
theorem mem_signs {c : Nat} (h : isSign c = true) : c ∈ signs.cps.toList := by
  unfold isSign at h
  simp only [Bool.or_eq_true, Bool.and_eq_true, decide_eq_true_eq] at h
  rw [signs_list, List.mem_append, List.mem_map, List.mem_map]
  rcases h with h | h
  · exact .inl ⟨c - 97, List.mem_range.mpr (by omega), by omega⟩
  · exact .inr ⟨c - 48, List.mem_range.mpr (by omega), by omega⟩
/-- a name from its signs -/
theorem okName_list {c : Nat} {l : List Nat} (h1 : 97 ≤ c) (h2 : c ≤ 122) (hl : l.length ≤ 7) (h : ∀ x ∈ l, isSign x = true) : OkName ⟨(c :: l).toArray⟩ where
  lo := by simp
  hi := by simp; omega
  hd := ⟨c, by simp, mem_letters h1 h2⟩
  tl := fun x hx => by
    have hx : x ∈ c :: l := by simpa using hx
    rcases List.mem_cons.mp hx with rfl | hx
    · exact mem_signs (by unfold isSign; simp [h1, h2])
    · exact mem_signs (h x hx)
theorem nodup_range {α : Type} {f : Nat → α} : ∀ {n : Nat}, (∀ i j, i < n → j < n → f i = f j → i = j) → ((List.range n).map f).Nodup
  | 0, _ => List.nodup_nil
  | n + 1, h => by
    rw [List.range_succ, List.map_append, List.nodup_append]
    refine ⟨nodup_range fun i j hi hj e => h i j (by omega) (by omega) e, by simp, fun a ha b hb => ?_⟩
    obtain ⟨i, hi, rfl⟩ := List.mem_map.mp ha
    have hi := List.mem_range.mp hi
    have hb : b = f n := by simpa using hb
    rw [hb]
    intro e
    have := h i n (by omega) (by omega) e
    omega
def decL (n : Nat) : List Nat := ((toString ((n : Nat) : Int) : Str)).cps.toList
theorem dec_nodup : ((List.range 26).map decL).Nodup := by decide +kernel
theorem dec_ok : ((List.range 26).all fun n => decide ((decL n).length ≤ 2) && (decL n).all isSign) = true := by decide +kernel
/-- the k-th tag, as its signs -/
def tagL (fam start at_ k : Nat) : List Nat :=
  if fam = 1 then (97 + start) :: decL (at_ + 3 + k)
  else if fam = 2 then List.replicate (1 + k % 8) (97 + (start + k / 8) % 26)
  else if fam = 3 then (List.replicate 7 (97 + (25 - start))).take at_ ++ (97 + (start + k) % 26) :: (List.replicate 7 (97 + (25 - start))).drop at_
  else [97 + (start + k) % 26]
def tagOf (fam start at_ k : Nat) : Str := ⟨(tagL fam start at_ k).toArray⟩
theorem tag_ok {fam start at_ k : Nat} (hs : start < 26) (ha : at_ < 8) (hk : k < 16) : OkName (tagOf fam start at_ k) := by
  unfold tagOf tagL
  split
  · have := List.all_eq_true.mp dec_ok (at_ + 3 + k) (List.mem_range.mpr (by omega))
    simp only [Bool.and_eq_true, decide_eq_true_eq] at this
    exact okName_list (by omega) (by omega) (by omega) (fun x hx => List.all_eq_true.mp this.2 x hx)
  · split
    · rw [Nat.add_comm 1, List.replicate_succ]
      refine okName_list (by omega) (by omega) (by rw [List.length_replicate]; omega) (fun x hx => ?_)
      obtain ⟨_, rfl⟩ := List.mem_replicate.mp hx
      unfold isSign
      have h1 : 97 ≤ 97 + (start + k / 8) % 26 := by omega
      have h2 : 97 + (start + k / 8) % 26 ≤ 122 := by omega
      simp [h2]
    · split
      · have sg : ∀ y, y ≤ 25 → isSign (97 + y) = true := fun y hy => by
          unfold isSign
          have h2 : 97 + y ≤ 122 := by omega
          simp [h2]
        cases at_ with
        | zero =>
          rw [List.take_zero, List.drop_zero, List.nil_append]
          refine okName_list (by omega) (by omega) (by simp) (fun x hx => ?_)
          obtain ⟨_, rfl⟩ := List.mem_replicate.mp hx
          exact sg _ (by omega)
        | succ a =>
          rw [show List.replicate 7 (97 + (25 - start)) = (97 + (25 - start)) :: List.replicate 6 (97 + (25 - start)) from rfl, List.take_succ_cons, List.drop_succ_cons, List.cons_append]
          refine okName_list (by omega) (by omega) ?_ (fun x hx => ?_)
          · rw [List.length_append, List.length_cons, List.length_take, List.length_drop, List.length_replicate]
            omega
          · rcases List.mem_append.mp hx with hx | hx
            · obtain ⟨_, rfl⟩ := List.mem_replicate.mp (List.mem_of_mem_take hx)
              exact sg _ (by omega)
            · rcases List.mem_cons.mp hx with rfl | hx
              · exact sg _ (by omega)
              · obtain ⟨_, rfl⟩ := List.mem_replicate.mp (List.mem_of_mem_drop hx)
                exact sg _ (by omega)
      · exact okName_list (by omega) (by omega) (by simp) (fun x hx => nomatch hx)
theorem tag_nodup {fam start at_ n : Nat} (hs : start < 26) (ha : at_ < 8) (hn : n ≤ 16) : ((List.range n).map (tagOf fam start at_)).Nodup := by
  refine nodup_range fun i j hi hj e => ?_
  have e : tagL fam start at_ i = tagL fam start at_ j := by
    have := congrArg (fun t : Str => t.cps.toList) e
    simpa [tagOf] using this
  unfold tagL at e
  split at e
  · have e := (List.cons.inj e).2
    have q1 : ((List.range 26).map decL)[at_ + 3 + i]? = some (decL (at_ + 3 + i)) := by rw [List.getElem?_map, List.getElem?_range (by omega)]; rfl
    have q2 : ((List.range 26).map decL)[at_ + 3 + j]? = some (decL (at_ + 3 + i)) := by rw [List.getElem?_map, List.getElem?_range (by omega), e]; rfl
    have := nd_ix dec_nodup q1 q2
    omega
  · split at e
    · have l := congrArg List.length e
      rw [List.length_replicate, List.length_replicate] at l
      have h := congrArg (fun l => l.head?) e
      rw [Nat.add_comm 1 (i % 8), Nat.add_comm 1 (j % 8), List.replicate_succ, List.replicate_succ] at h
      have h : 97 + (start + i / 8) % 26 = 97 + (start + j / 8) % 26 := by simpa using h
      omega
    · split at e
      · have l : ((List.replicate 7 (97 + (25 - start))).take at_).length = at_ := by rw [List.length_take, List.length_replicate]; omega
        have h : (((List.replicate 7 (97 + (25 - start))).take at_ ++ (97 + (start + i) % 26) :: (List.replicate 7 (97 + (25 - start))).drop at_)[at_]? : Option Nat) = (((List.replicate 7 (97 + (25 - start))).take at_ ++ (97 + (start + j) % 26) :: (List.replicate 7 (97 + (25 - start))).drop at_)[at_]? : Option Nat) := congrArg (fun (l : List Nat) => l[at_]?) e
        rw [List.getElem?_append_right (by omega), List.getElem?_append_right (by omega), l, Nat.sub_self] at h
        have h : 97 + (start + i) % 26 = 97 + (start + j) % 26 := by simpa using h
        omega
      · have h := (List.cons.inj e).1
        omega
end OB

/-! ## QA -/
set_option maxHeartbeats 4000000
namespace OB
open PySem PySem.Spec PyProof.Rows L2
theorem Store.aside {B H : Hp} {st a : Addr} {o : HO} (s : Store B H st) (ne : st ≠ a) : Store B (upd H a o) st := by
  obtain ⟨b, c, i1, i2, i3, i4, i5, i6, h1, ok⟩ := s
  exact ⟨b, c, i1, i2, i3, i4, i5, i6, by rw [upd_ne ne]; exact h1, ok⟩
theorem Store.ne {B H : Hp} {st a : Addr} (s : Store B H st) (h : H a = none) : st ≠ a := by
  obtain ⟨_, c, i1, i2, i3, i4, i5, i6, h1, _⟩ := s
  exact ne_of_none h1 h
theorem Store.pub {B H : Hp} {st a : Addr} {o : HO} (s : Store B H st) (ne : st ≠ a) (hb : B a = none) : Store (upd B a o) H st := by
  obtain ⟨b, c, i1, i2, i3, i4, i5, i6, h1, ok⟩ := s
  exact ⟨by rw [upd_ne ne]; exact b, c, i1, i2, i3, i4, i5, i6, h1, ok.mono (ExW.new hb)⟩
theorem letter_at {i : Nat} (h : i < 26) : atI letters.cps.toList ((i : Nat) : Int) = some (97 + i) := by
  refine atI_nat ?_
  rw [letters_list, List.getElem?_map, List.getElem?_range h]
  rfl
theorem str_ext {a b : Str} (h : a.cps.toList = b.cps.toList) : a = b := by
  cases a; cases b
  congr
  exact Array.toList_inj.mp h
theorem str_app (a b : Str) : (a ++ b).cps.toList = a.cps.toList ++ b.cps.toList := by
  show (a.cps ++ b.cps).toList = _
  rw [Array.toList_append]
theorem cut_take {l : List Nat} {k : Nat} : cutS ⟨l.toArray⟩ none (some (k : Int)) = ⟨(l.take k).toArray⟩ := by
  have e : (⟨l.toArray⟩ : Str).length = l.length := by show l.toArray.size = _; simp
  unfold cutS
  rw [HT.sIx_nat, HT.sIx_none, e]
  simp [← List.take_take]
theorem cut_drop {l : List Nat} {k : Nat} : cutS ⟨l.toArray⟩ (some (k : Int)) none = ⟨(l.drop k).toArray⟩ := by
  have e : (⟨l.toArray⟩ : Str).length = l.length := by show l.toArray.size = _; simp
  unfold cutS
  rw [HT.sIx_nat, HT.sIx_none, e]
  by_cases h : k ≤ l.length
  · rw [Nat.min_eq_left h]
    congr 2
    show ((l.drop k).take _) = _
    exact List.take_of_length_le (by rw [List.length_drop]; omega)
  · have h1 : l.drop k = [] := List.drop_eq_nil_of_le (by omega)
    rw [Nat.min_eq_right (by omega), Nat.sub_self, List.take_zero, h1]
theorem tag1 {start at_ y : Nat} : (⟨#[97 + start]⟩ : Str) ++ Str.ofString (toString ((at_ : Int) + 3 + (y : Int))) = tagOf 1 start at_ y := by
  apply str_ext
  rw [str_app, show ((at_ : Int) + 3 + (y : Int)) = ((at_ + 3 + y : Nat) : Int) by omega]
  rfl
theorem tag1_len {at_ y : Nat} (h : at_ + 3 + y < 26) : (Str.ofString (toString ((at_ : Int) + 3 + (y : Int)))).length ≤ 2 := by
  have := List.all_eq_true.mp dec_ok (at_ + 3 + y) (List.mem_range.mpr h)
  simp only [Bool.and_eq_true, decide_eq_true_eq] at this
  rw [show ((at_ : Int) + 3 + (y : Int)) = ((at_ + 3 + y : Nat) : Int) by omega]
  exact Nat.le_trans (Nat.le_of_eq (by show Array.size _ = _; exact Array.length_toList.symm)) this.1
theorem tag2 {start at_ y : Nat} : (⟨(List.replicate (1 + y % 8) (97 + (start + y / 8) % 26)).toArray⟩ : Str) = tagOf 2 start at_ y := rfl
theorem tag3 {start at_ y : Nat} : ((⟨((List.replicate 7 (97 + (25 - start))).take at_).toArray⟩ : Str) ++ ⟨#[97 + (start + y) % 26]⟩) ++ ⟨((List.replicate 7 (97 + (25 - start))).drop at_).toArray⟩ = tagOf 3 start at_ y := by
  apply str_ext
  rw [str_app, str_app]
  show _ = (List.replicate 7 (97 + (25 - start))).take at_ ++ (97 + (start + y) % 26) :: (List.replicate 7 (97 + (25 - start))).drop at_
  simp
section
variable {P : Program} {w : World} {K : PySem.W.Frag} {mg : Str → Option Value} {base : Heap}
def spLTags : Sp := sp2 fun a b H Q => ∃ (B : Hp) (st : Addr) (n : Nat), ExW B H ∧ Store B H st ∧ a = .ref st ∧ b = .int n ∧ n ≤ 16 ∧ ∀ xs, xs.length = n → xs.Nodup → (∀ x ∈ xs, OkName x) → RetD (rL rStr) xs B H st Q
/-! ### _law_tags -/
abbrev F__law_tags (P : Program) (w : World) (K : PySem.W.Frag) (mg : Str → Option Value) (base : Heap) : Prop := Fn P w K mg base CX0 4 "_law_tags" ["_law_store_here", "_law_many"] [] spLTags
abbrev N__law_tags : List Str := ["_law_store_here", "_law_many", "_law_letters", "_law_family", "_law_start", "_law_at", "_law_stem", "_law_tags_here", "_law_k", "_law_tag"]
theorem sc__law_tags : FnScope N__law_tags ["_law_store_here", "_law_many"] (defScope (top 98)) := ⟨rfl, rfl, rfl, by decide +kernel, rfl, by decide +kernel, by decide +kernel⟩
theorem ok__law_tags (T : TX K mg) (D : DefAt K mg "_law_tags" (top 98) []) (c__law_take : F__law_take P w K mg base) (c__law_shuffled : F__law_shuffled P w K mg base)  : F__law_tags P w K mg base := by
  refine fn_ok D sc__law_tags (by decide +kernel) (fun _ _ _ _ _ _ us hl => match us, hl with | [_, _], _ => rfl) (fun vs H Q E h => len2 h) (fun f cdv A outer s H vs Q E hr h => ?_)
  have nd := sc__law_tags.nd
  obtain ⟨v0, v1, rfl, h⟩ := h
  refine ⟨_, (pss_cons (ps_set (i := 2) nd rfl (Or.inl rfl) pe_str)
      (pss_cons (ps_set (i := 3) nd rfl (Or.inl rfl) (pe_fn c__law_take hr (by rfl) (pa_cons (pv 0) (pa_cons pe_int pa_nil))))
      (pss_cons (ps_set (i := 4) nd rfl (Or.inl rfl) (pe_fn c__law_take hr (by rfl) (pa_cons (pv 0) (pa_cons pe_int pa_nil))))
      (pss_cons (ps_set (i := 5) nd rfl (Or.inl rfl) (pe_fn c__law_take hr (by rfl) (pa_cons (pv 0) (pa_cons pe_int pa_nil))))
      (pss_cons (ps_set (i := 6) nd rfl (Or.inl rfl) (pe_op op_mul_str (pe_ix ix_str (pv 2) (pe_op op_sub pe_int (pv 4)) (fun _ _ => rfl)) pe_int))
      (pss_cons (ps_set (i := 7) nd rfl (Or.inl rfl) (pe_lst pa_nil))
      (pss_cons (ps_for PassesOwn.never rfl (pi_range1 (by rfl) T.range (pa_cons (pv 1) pa_nil)) (pg_name (i := 8) nd rfl (Or.inl rfl))
      (pss_cons (ps_set (i := 9) nd rfl (Or.inl rfl) (pe_ix ix_str (pv 2) (pe_op op_mod (pe_callTy call_int1 (by rfl) T.int bt_int (pa_cons (pe_op op_add (pv 4) (pv 8)) pa_nil)) pe_int) (fun _ _ => rfl)))
      (pss_cons (ps_if (pt_cmpR op_eq (pv 3) pe_int (nomark _)) (pss_one (ps_set (i := 9) nd rfl (Or.inl rfl) (pe_op op_add_str (pe_ix ix_str (pv 2) (pv 4) (fun _ _ => rfl)) (pe_callTy call_str_int (by rfl) T.str bt_str (pa_cons (pe_op op_add (pe_op op_add (pv 5) pe_int) (pv 8)) pa_nil))))) pss_nil)
      (pss_cons (ps_if (pt_cmpR op_eq (pv 3) pe_int (nomark _)) (pss_one (ps_set (i := 9) nd rfl (Or.inl rfl) (pe_op op_mul_str (pe_ix ix_str (pv 2) (pe_op op_mod (pe_callTy call_int1 (by rfl) T.int bt_int (pa_cons (pe_op op_add (pv 4) (pe_op op_fdivW (pv 8) pe_int)) pa_nil)) pe_int) (fun _ _ => rfl)) (pe_op op_add pe_int (pe_op op_mod (pe_callTy call_int1 (by rfl) T.int bt_int (pa_cons (pv 8) pa_nil)) pe_int))))) pss_nil)
      (pss_cons (ps_if (pt_cmpR op_eq (pv 3) pe_int (nomark _)) (pss_one (ps_set (i := 9) nd rfl (Or.inl rfl) (pe_op op_add_str (pe_op op_add_str (pe_slice sl_str (pv 6) po_none (po_some (pv 5))) (pv 9)) (pe_slice sl_str (pv 6) (po_some (pv 5)) po_none)))) pss_nil)
      (pss_one (ps_expr (pe_bm PySem.F.plainAttrs_list PySem.F.slot_list_append PySem.F.type_list_append mt_append (pv 7) (pa_cons (pv 9) pa_nil)))))))))
      (pss_one (ps_ret (pe_fn c__law_shuffled hr (by rfl) (pa_cons (pv 0) (pa_cons (pv 7) pa_nil)))))))))))), ?_⟩
  obtain ⟨B, st, n, hB, sto, rfl, rfl, hn, q⟩ := h
  refine ⟨_, rfl, _, _, rfl, B, st, 4, hB, sto, rfl, rfl, by decide, fun H1 fam g1 sto1 f0 f1 => ?_⟩
  refine ⟨_, rfl, _, _, rfl, B, st, 26, g1.sub, sto1, rfl, rfl, by decide, fun H2 start g2 sto2 s0 s1 => ?_⟩
  refine ⟨_, rfl, _, _, rfl, B, st, 8, g2.sub, sto2, rfl, rfl, by decide, fun H3 at_ g3 sto3 a0 a1 => ?_⟩
  have G3 := (g1.trans g2).trans g3
  have m4 : max1 4 = 4 := by decide
  have m26 : max1 26 = 26 := by decide
  have m8 : max1 8 = 8 := by decide
  rw [m4] at f1
  rw [m26] at s1
  rw [m8] at a1
  obtain ⟨fam, rfl⟩ := Int.eq_ofNat_of_zero_le f0
  obtain ⟨start, rfl⟩ := Int.eq_ofNat_of_zero_le s0
  obtain ⟨at_, rfl⟩ := Int.eq_ofNat_of_zero_le a0
  have hs : start < 26 := by omega
  have ha : at_ < 8 := by omega
  have e25 : ((25 : Int) - start) = ((25 - start : Nat) : Int) := by omega
  have ll : letters.length ≤ sizeLine := by decide +kernel
  refine ⟨_, rfl, _, rfl, _, _, rfl, rfl, letters, _, _, rfl, rfl, ll, (by rw [e25]; exact letter_at (by omega)), _, 7, rfl, rfl, by decide, by decide, ?_⟩
  rw [show (7 : Int).toNat = 7 from rfl]
  refine ⟨(by show 0 ≤ sizeLine; decide), fun p hp => ?_⟩
  have gp : Gr [st] B H B (upd H3 p (.lst [])) := G3.trans (Gr.new_ G3.sub hp)
  have o0 : Own rStr B (upd H3 p (.lst [])) p [] := Own.mk0 (G3.sub.none hp)
  have hsp : st ≠ p := sto3.ne hp
  have sto4 : Store B (upd H3 p (.lst [])) st := sto3.aside hsp
  have el : letters = Str.ofString "abcdefghijklmnopqrstuvwxyz" := by decide +kernel
  rw [← el]
  refine ⟨_, rfl, _, rfl, by omega, by omega, ?_⟩
  rw [Int.toNat_natCast]
  refine for_go (Rs := rNat) (fun i σ1 B4 H4 => (∃ z8 z9, σ1 = [some (.ref st), some (.int n), some (.str letters), some (.int fam), some (.int start), some (.int at_), some (.str ⟨(List.replicate 7 (97 + (25 - start))).toArray⟩), some (.ref p), z8, z9]) ∧ Gr [p] B (upd H3 p (.lst [])) B4 H4 ∧ Own rStr B4 H4 p ((List.range i).map (tagOf fam start at_)))
    src_rng (nats2 _) ⟨⟨_, _, rfl⟩, Gr.refl gp.sub, o0⟩ (fun i σ1 B1 H1 h => ⟨h.2.1.up, h.2.1.sub⟩) (fun i y x σ1 B4 H4 hy hx h => ?_) (fun σ1 B4 H4 h => ?_)
  · obtain ⟨⟨z8, z9, rfl⟩, g4, o4⟩ := h
    obtain rfl : x = .int y := hx
    have ei : y = i := by
      have := hy
      rw [List.getElem?_range (by
        have := List.getElem?_eq_some_iff.mp hy
        obtain ⟨h1, _⟩ := this
        simpa using h1)] at this
      simpa using this.symm
    subst ei
    have hyn : y < n := List.mem_range.mp (List.mem_of_getElem? hy)
    have e1 : ∀ a : Nat, ((start : Int) + (a : Int)) % 26 = (((start + a) % 26 : Nat) : Int) := fun a => by omega
    have app : ∀ (D : Ends) (tag : Str), tag = tagOf fam start at_ y → (∀ σ' H', (∃ B', (∃ z8 z9, σ' = [some (.ref st), some (.int n), some (.str letters), some (.int fam), some (.int start), some (.int at_), some (.str ⟨(List.replicate 7 (97 + (25 - start))).toArray⟩), some (.ref p), z8, z9]) ∧ Gr [p] B (upd H3 p (.lst [])) B' H' ∧ Own rStr B' H' p ((List.range (y + 1)).map (tagOf fam start at_))) → D.nx σ' H') →
        tDrop (tBM K "list" rAppend (tVar 7) (tCons (tVar 9) tNil)) D [some (.ref st), some (.int n), some (.str letters), some (.int fam), some (.int start), some (.int at_), some (.str ⟨(List.replicate 7 (97 + (25 - start))).toArray⟩), some (.ref p), some (.int y), some (.str tag)] H4 := fun D tag et k => by
      obtain ⟨zs, hz, lz, o5⟩ := o4.app (x := tag) (v := .str tag) rfl (by rw [List.length_map, List.length_range]; omega)
      refine ⟨_, rfl, o4.ty, _, rfl, p, zs, _, rfl, rfl, hz, lz, k _ _ ⟨B4, ⟨_, _, rfl⟩, g4.mut (.inr (by simp)) o4.1, ?_⟩⟩
      rw [List.range_succ, List.map_append, List.map_singleton, ← et]
      exact o5
    refine ⟨_, rfl, _, rfl, _, rfl, _, _, rfl, rfl, .inl ⟨_, rfl, _, _, rfl, rfl, (by show (0 : Int) < 26; decide), letters, _, _, rfl, rfl, ll, (by rw [e1]; exact letter_at (Nat.mod_lt _ (by decide))), ?_⟩⟩
    have dv : ((y : Int) / 8) = ((y / 8 : Nat) : Int) := by omega
    have dm : ((y : Int) % 8) = ((y % 8 : Nat) : Int) := by omega
    by_cases f1' : fam = 1
    case pos =>
      subst f1'
      refine ⟨_, rfl, rfl, _, rfl, ite_tt ?_⟩
      refine ⟨_, rfl, _, rfl, letters, _, _, rfl, rfl, ll, letter_at hs, _, rfl, _, _, rfl, rfl, _, rfl, _, _, rfl, rfl, _, rfl, ?_⟩
      refine ⟨Nat.lt_of_le_of_lt (Nat.log2_le_self _) (by omega), ?_⟩
      refine ⟨_, _, rfl, rfl, Nat.le_trans (Nat.add_le_add_left (tag1_len (by omega)) _) (by show 1 + 2 ≤ sizeLine; decide), ?_⟩
      refine ⟨_, rfl, rfl, _, rfl, iteF' rfl ?_⟩
      refine ⟨_, rfl, rfl, _, rfl, iteF' rfl ?_⟩
      exact app _ _ tag1 fun σ' H' h => h
    case neg =>
    have nd : ∀ k : Nat, fam ≠ k → decide (V.int (fam : Int) = V.int (k : Int)) = false := fun k hk => by
      rw [dec_int]
      simp; omega
    refine ⟨_, rfl, rfl, _, rfl, iteF' (nd 1 f1') ?_⟩
    by_cases f2' : fam = 2
    case pos =>
      subst f2'
      refine ⟨_, rfl, rfl, _, rfl, ite_tt ?_⟩
      have e2 : ((start : Int) + (y : Int) / 8) % 26 = (((start + y / 8) % 26 : Nat) : Int) := by omega
      have e3 : ((1 : Int) + (y : Int) % 8).toNat = 1 + y % 8 := by omega
      refine ⟨_, rfl, _, rfl, _, rfl, _, _, rfl, rfl, (by show (0 : Int) < 8 ∧ (8 : Int).natAbs.log2 < 9000; exact ⟨by decide, by decide +kernel⟩), _, _, rfl, rfl, .inl ⟨_, rfl, _, _, rfl, rfl, (by show (0 : Int) < 26; decide), letters, _, _, rfl, rfl, ll, (by rw [e2]; exact letter_at (Nat.mod_lt _ (by decide))), ?_⟩⟩
      refine ⟨_, rfl, .inl ⟨_, rfl, _, _, rfl, rfl, (by show (0 : Int) < 8; decide), _, _, rfl, rfl, _, _, rfl, rfl, (by show (1 : Int) ≤ 1 + (y : Int) % 8; omega), (by show 1 + (y : Int) % 8 ≤ 1000; omega), ?_⟩⟩
      rw [e3]
      refine ⟨_, rfl, rfl, _, rfl, iteF' rfl ?_⟩
      exact app _ _ tag2 fun σ' H' h => h
    case neg =>
    refine ⟨_, rfl, rfl, _, rfl, iteF' (nd 2 f2') ?_⟩
    by_cases f3' : fam = 3
    case pos =>
      subst f3'
      refine ⟨_, rfl, rfl, _, rfl, ite_tt ?_⟩
      have l7 : (⟨(List.replicate 7 (97 + (25 - start))).toArray⟩ : Str).length ≤ sizeLine := by show 7 ≤ sizeLine; decide
      refine ⟨_, rfl, _, rfl, _, rfl, _, rfl, l7, ?_⟩
      rw [cut_take]
      have l1 : (⟨((List.replicate 7 (97 + (25 - start))).take at_).toArray⟩ : Str).length = at_ := by
        show ((List.replicate 7 (97 + (25 - start))).take at_).toArray.size = _
        simp; omega
      have l2 : (⟨((List.replicate 7 (97 + (25 - start))).drop at_).toArray⟩ : Str).length ≤ 7 := by
        show ((List.replicate 7 (97 + (25 - start))).drop at_).toArray.size ≤ _
        simp
      have l3 : ∀ c : Nat, (⟨#[c]⟩ : Str).length = 1 := fun _ => rfl
      have l4 : ∀ a b : Str, (a ++ b).length = a.length + b.length := fun a b => by
        show (a.cps ++ b.cps).size = _
        rw [Array.size_append]
        rfl
      have sz : 100 ≤ sizeLine := by decide
      refine ⟨_, rfl, _, _, rfl, rfl, (by rw [l1, l3]; omega), _, rfl, _, rfl, _, rfl, _, rfl, l7, ?_⟩
      rw [cut_drop]
      refine ⟨_, _, rfl, rfl, (by rw [l4, l1, l3]; omega), ?_⟩
      exact app _ _ tag3 fun σ' H' h => h
    case neg =>
    refine ⟨_, rfl, rfl, _, rfl, iteF' (nd 3 f3') ?_⟩
    refine app _ _ ?_ fun σ' H' h => h
    unfold tagOf tagL
    rw [if_neg f1', if_neg f2', if_neg f3']
  · obtain ⟨⟨z8, z9, rfl⟩, g4, o4⟩ := h
    have hpn := hp
    rw [List.length_range] at o4
    obtain ⟨b4, zs, h4, a4⟩ := o4
    have GA : Gr [st] B H B4 H4 := gp.fresh (G3.was hp) (g4.mono (by simp))
    have sto5 : Store B4 H4 st := sto4.keep g4 (by simp [hsp])
    refine ⟨_, rfl, _, rfl, _, _, rfl, upd B4 p (.lst zs), st, _, (GA.pub (G3.was hp) b4 h4).sub, sto5.pub hsp b4, rfl, ⟨p, zs, rfl, upd_same, All2.mono (ExW.new b4) a4⟩, by rw [List.length_map, List.length_range]; omega, fun ys hp => ?_⟩
    refine (q ys ?_ ?_ ?_).go (GA.pub (G3.was hpn) b4 h4)
    · rw [hp.length_eq, List.length_map, List.length_range]
    · exact hp.nodup_iff.mpr (tag_nodup hs ha hn)
    · intro x hx
      obtain ⟨k, hk, rfl⟩ := List.mem_map.mp (hp.mem_iff.mp hx)
      exact tag_ok hs ha (Nat.lt_of_lt_of_le (List.mem_range.mp hk) hn)
end
end OB

/-! ## QB -/
set_option maxHeartbeats 4000000
namespace OB
open PySem PySem.Spec PyProof.Rows L2
theorem inV_ints {x : Int} : ∀ {L : List Int}, inV (.int x) (L.map V.int) = decide (x ∈ L)
  | [] => rfl
  | y :: r => by
    have h : inV (.int x) ((y :: r).map V.int) = (eqV (.int y) (.int x) || inV (.int x) (r.map V.int)) := rfl
    rw [h, inV_ints (L := r)]
    by_cases e : x = y
    · subst e
      simp [eqV]
    · have : ¬ y = x := fun z => e z.symm
      simp [eqV, e, this]
theorem flat_ints : ∀ L : List Int, (L.map V.int).all flatV = true
  | [] => rfl
  | _ :: r => flat_ints r
/-- each once, as first met -/
def onceS (kept : List Int) (x : Int) : List Int := if x ∈ kept then kept else kept ++ [x]
def once (xs : List Int) : List Int := xs.foldl onceS []
theorem once_snoc {xs : List Int} {x : Int} : once (xs ++ [x]) = onceS (once xs) x := by
  unfold once
  rw [List.foldl_append]; rfl
theorem once_len (xs : List Int) : (once xs).length ≤ xs.length := by
  suffices h : ∀ (xs k : List Int), (xs.foldl onceS k).length ≤ k.length + xs.length by
    have := h xs []
    simpa [once] using this
  intro xs
  induction xs with
  | nil => intro k; simp
  | cons x r ih =>
    intro k
    have := ih (onceS k x)
    have l : (onceS k x).length ≤ k.length + 1 := by
      unfold onceS
      split
      · omega
      · simp
    simp only [List.foldl_cons, List.length_cons]
    omega
theorem mem_once {xs : List Int} {x : Int} : x ∈ once xs ↔ x ∈ xs := by
  suffices h : ∀ (xs k : List Int), x ∈ xs.foldl onceS k ↔ x ∈ k ∨ x ∈ xs by
    have := h xs []
    simpa [once] using this
  intro xs
  induction xs with
  | nil => intro k; simp
  | cons y r ih =>
    intro k
    rw [List.foldl_cons, ih, List.mem_cons]
    unfold onceS
    split
    · rename_i hy
      constructor
      · rintro (h | h)
        · exact .inl h
        · exact .inr (.inr h)
      · rintro (h | rfl | h)
        · exact .inl h
        · exact .inl hy
        · exact .inr h
    · rw [List.mem_append, List.mem_singleton, or_assoc]
theorem once_nodup (xs : List Int) : (once xs).Nodup := by
  suffices h : ∀ (xs k : List Int), k.Nodup → (xs.foldl onceS k).Nodup from h xs [] List.nodup_nil
  intro xs
  induction xs with
  | nil => intro k hk; exact hk
  | cons y r ih =>
    intro k hk
    rw [List.foldl_cons]
    refine ih _ ?_
    unfold onceS
    split
    · exact hk
    · rename_i hy
      rw [List.nodup_append]
      exact ⟨hk, by simp, fun a ha b hb => by
        have : b = y := by simpa using hb
        rw [this]
        exact fun z => hy (z ▸ ha)⟩
section
variable {P : Program} {w : World} {K : PySem.W.Frag} {mg : Str → Option Value} {base : Heap}
def spUnlike : Sp := sp1 fun a H Q => ∃ (B : Hp) (xs : List Int), ExW B H ∧ (rL rInt).rel B xs a ∧ xs.length ≤ 1000 ∧ Ret (rL rInt) (once xs) B H Q
/-! ### _law_unlike -/
abbrev F__law_unlike (P : Program) (w : World) (K : PySem.W.Frag) (mg : Str → Option Value) (base : Heap) : Prop := Fn P w K mg base CX0 1 "_law_unlike" ["_law_items"] [] spUnlike
abbrev N__law_unlike : List Str := ["_law_items", "_law_kept", "_law_item"]
theorem sc__law_unlike : FnScope N__law_unlike ["_law_items"] (defScope (top 79)) := ⟨rfl, rfl, rfl, by decide +kernel, rfl, by decide +kernel, by decide +kernel⟩
theorem ok__law_unlike (T : TX K mg) (D : DefAt K mg "_law_unlike" (top 79) [])   : F__law_unlike P w K mg base := by
  refine fn_ok D sc__law_unlike (by decide +kernel) (fun _ _ _ _ _ _ us hl => match us, hl with | [_], _ => rfl) (fun vs H Q E h => len1 h) (fun f cdv A outer s H vs Q E hr h => ?_)
  have nd := sc__law_unlike.nd
  obtain ⟨v0, rfl, h⟩ := h
  refine ⟨_, (pss_cons (ps_set (i := 1) nd rfl (Or.inl rfl) (pe_lst pa_nil))
      (pss_cons (ps_for PassesOwn.never rfl (kp_list K (pv 0)) (pg_name (i := 2) nd rfl (Or.inl rfl))
      (pss_one (ps_if (pt_cmpR (k_notInSeq K) (pv 2) (pv 1) (by rfl)) (pss_one (ps_expr (pe_bm PySem.F.plainAttrs_list PySem.F.slot_list_append PySem.F.type_list_append mt_append (pv 1) (pa_cons (pv 2) pa_nil)))) pss_nil)))
      (pss_one (ps_ret (pv 1))))), ?_⟩
  obtain ⟨B, xs, hB, hx, h1000, q⟩ := h
  obtain ⟨l, vs, rfl, hl, hvs⟩ := id hx
  refine ⟨(by show 0 ≤ sizeLine; decide), fun p hp => ?_⟩
  have gp : Gr [] B H B (upd H p (.lst [])) := Gr.new_ hB hp
  have o0 : Own rInt B (upd H p (.lst [])) p [] := Own.mk0 (hB.none hp)
  have bp : B p = none := hB.none hp
  refine ⟨_, rfl, l, rfl, ⟨_, SqL.of (gp.sub.lst hl)⟩, ?_⟩
  refine for_go (Rs := rInt) (fun i σ1 B1 H1 => (∃ z2, σ1 = [some (.ref l), some (.ref p), z2]) ∧ Gr [p] B (upd H p (.lst [])) B1 H1 ∧ Own rInt B1 H1 p (once (xs.take i)))
    (src_list hl) hvs ⟨⟨_, rfl⟩, Gr.refl gp.sub, o0⟩ (fun i σ1 B1 H1 h => ⟨h.2.1.up, h.2.1.sub⟩) (fun i y x σ1 B1 H1 hy hx h => ?_) (fun σ1 B1 H1 h => ?_)
  · obtain ⟨⟨z2, rfl⟩, g1, o1⟩ := h
    obtain rfl : x = .int y := hx
    have et := take_snoc hy
    obtain ⟨b1, zs, h1, a1⟩ := id o1
    have ez := ints_eq a1
    refine ⟨_, rfl, _, rfl, p, zs, rfl, .inl (SqL.of h1), rfl, (by rw [ez]; exact flat_ints _), _, rfl, ?_⟩
    rw [ez, inV_ints]
    by_cases hm : y ∈ once (xs.take i)
    case pos =>
      refine iteF' (by simp [hm]) ?_
      refine ⟨B1, ⟨_, rfl⟩, g1, ?_⟩
      rw [et, once_snoc, onceS, if_pos hm]
      exact o1
    case neg =>
    refine iteT' (by simp [hm]) ?_
    have ll := once_len (xs.take i)
    obtain ⟨zs, hz, lz, o5⟩ := o1.app (x := y) (v := .int y) rfl (by rw [List.length_take] at ll; omega)
    refine ⟨_, rfl, o1.ty, _, rfl, p, zs, _, rfl, rfl, hz, lz, B1, ⟨_, rfl⟩, g1.mut (.inr (by simp)) o1.1, ?_⟩
    rw [et, once_snoc, onceS, if_neg hm]
    exact o5
  · obtain ⟨⟨z2, rfl⟩, g1, b1, zs, h1, a1⟩ := h
    rw [List.take_length] at a1
    have GA : Gr [] B H B1 H1 := gp.fresh hp g1
    exact ⟨_, rfl, q _ H1 _ (GA.pub hp b1 h1) ⟨p, zs, rfl, upd_same, All2.mono (ExW.new b1) a1⟩⟩
end
end OB

/-! ## QC -/
set_option maxHeartbeats 4000000
namespace OB
open PySem PySem.Spec PyProof.Rows L2
def LadOk (xs : List Int) : Prop := xs ≠ [] ∧ xs.length ≤ 8 ∧ ∀ x ∈ xs, isN x = true
def lad6 : List Int := [-1000000000000, -1, 0, 1, 999999999999, 1000000000000]
theorem lad6_cut {r m : Nat} (hr : r < 2) (hm : m < 5) : ∃ xs, LadOk xs ∧ cutV (lad6.map V.int) (some (r : Int)) (some ((2 : Int) + (1 + (m : Int)))) = xs.map V.int := by
  have e : ((2 : Int) + (1 + (m : Int))) = ((3 + m : Nat) : Int) := by omega
  have l6 : lad6.length = 6 := rfl
  refine ⟨(lad6.drop r).take (min (3 + m) 6 - min r 6), ⟨?_, ?_, ?_⟩, ?_⟩
  · intro z
    have := congrArg List.length z
    rw [List.length_take, List.length_drop, l6, List.length_nil] at this
    omega
  · rw [List.length_take, List.length_drop, l6]; omega
  · intro x hx
    have hx := List.mem_of_mem_drop (List.mem_of_mem_take hx)
    exact List.all_eq_true.mp (show lad6.all isN = true by decide) x hx
  · rw [e]
    unfold cutV
    rw [HT.sIx_nat, HT.sIx_nat, List.length_map, l6, List.map_take, List.map_drop, Nat.min_eq_left (show r ≤ 6 by omega)]
def lad3 : List Int := [2, 40, 300000000000]
def ladB : List Int := [-2, -50, -1000000000000]
theorem lad3_at {k : Nat} (h : k < 3) : ∃ r : Int, (lad3.map V.int)[k]? = some (.int r) ∧ 2 ≤ r ∧ r ≤ 300000000000 := by
  rcases k with _ | _ | _ | k
  · exact ⟨2, rfl, by decide, by decide⟩
  · exact ⟨40, rfl, by decide, by decide⟩
  · exact ⟨300000000000, rfl, by decide, by decide⟩
  · omega
theorem ladB_at {k : Nat} (h : k < 3) {r : Int} (hr : (lad3.map V.int)[k]? = some (.int r)) : ∃ b : Int, (ladB.map V.int)[k]? = some (.int b) ∧ -1000000000000 ≤ b ∧ b + 6 * r ≤ 1000000000000 := by
  rcases k with _ | _ | _ | k
  · cases hr
    exact ⟨-2, rfl, by decide, by decide⟩
  · cases hr
    exact ⟨-50, rfl, by decide, by decide⟩
  · cases hr
    exact ⟨-1000000000000, rfl, by decide, by decide⟩
  · omega
section
variable {P : Program} {w : World} {K : PySem.W.Frag} {mg : Str → Option Value} {base : Heap}
def spLadder : Sp := sp1 fun a H Q => ∃ (B : Hp) (st : Addr), ExW B H ∧ Store B H st ∧ a = .ref st ∧ ∀ xs, LadOk xs → RetD (rL rInt) xs B H st Q
/-! ### _law_ladder -/
abbrev F__law_ladder (P : Program) (w : World) (K : PySem.W.Frag) (mg : Str → Option Value) (base : Heap) : Prop := Fn P w K mg base CX0 3 "_law_ladder" ["_law_store_here"] [] spLadder
abbrev N__law_ladder : List Str := ["_law_store_here", "_law_kind", "_law_many", "_law_reach_here", "_law_ladder_here", "_law_k"]
theorem sc__law_ladder : FnScope N__law_ladder ["_law_store_here"] (defScope (top 97)) := ⟨rfl, rfl, rfl, by decide +kernel, rfl, by decide +kernel, by decide +kernel⟩
theorem ok__law_ladder (T : TX K mg) (D : DefAt K mg "_law_ladder" (top 97) []) (c__law_take : F__law_take P w K mg base)  : F__law_ladder P w K mg base := by
  refine fn_ok D sc__law_ladder (by decide +kernel) (fun _ _ _ _ _ _ us hl => match us, hl with | [_], _ => rfl) (fun vs H Q E h => len1 h) (fun f cdv A outer s H vs Q E hr h => ?_)
  have nd := sc__law_ladder.nd
  obtain ⟨v0, rfl, h⟩ := h
  refine ⟨_, (pss_cons (ps_set (i := 1) nd rfl (Or.inl rfl) (pe_fn c__law_take hr (by rfl) (pa_cons (pv 0) (pa_cons pe_int pa_nil))))
      (pss_cons (ps_set (i := 2) nd rfl (Or.inl rfl) (pe_op op_add pe_int (pe_fn c__law_take hr (by rfl) (pa_cons (pv 0) (pa_cons pe_int pa_nil)))))
      (pss_cons (ps_if (pt_cmpR op_eq (pv 1) pe_int (nomark _)) (pss_one (ps_ret (pe_slice (kx_sl K) (pe_lst (pa_cons (pe_un un_neg (pe_op op_pow pe_int pe_int)) (pa_cons (pe_un un_neg pe_int) (pa_cons pe_int (pa_cons pe_int (pa_cons (pe_op op_sub (pe_op op_pow pe_int pe_int) pe_int) (pa_cons (pe_op op_pow pe_int pe_int) pa_nil))))))) (po_some (pe_fn c__law_take hr (by rfl) (pa_cons (pv 0) (pa_cons pe_int pa_nil)))) (po_some (pe_op op_add pe_int (pv 2)))))) pss_nil)
      (pss_cons (ps_set (i := 3) nd rfl (Or.inl rfl) (pe_ix (kx_list K) (pe_lst (pa_cons pe_int (pa_cons pe_int (pa_cons (pe_op op_mul pe_int (pe_op op_pow pe_int pe_int)) pa_nil)))) (pv 1) (fun _ _ => rfl)))
      (pss_cons (ps_set (i := 4) nd rfl (Or.inl rfl) (pe_lst (pa_cons (pe_op op_add (pe_ix (kx_list K) (pe_lst (pa_cons (pe_un un_neg pe_int) (pa_cons (pe_un un_neg pe_int) (pa_cons (pe_un un_neg (pe_op op_pow pe_int pe_int)) pa_nil)))) (pv 1) (fun _ _ => rfl)) (pe_fn c__law_take hr (by rfl) (pa_cons (pv 0) (pa_cons (pv 3) pa_nil)))) pa_nil)))
      (pss_cons (ps_for PassesOwn.never rfl (pi_range1 (by rfl) T.range (pa_cons (pv 2) pa_nil)) (pg_name (i := 5) nd rfl (Or.inl rfl))
      (pss_one (ps_expr (pe_bm PySem.F.plainAttrs_list PySem.F.slot_list_append PySem.F.type_list_append mt_append (pv 4) (pa_cons (pe_op op_add (pe_op op_add (pe_ix (kx_list K) (pv 4) (pv 5) (fun _ _ => rfl)) pe_int) (pe_fn c__law_take hr (by rfl) (pa_cons (pv 0) (pa_cons (pv 3) pa_nil)))) pa_nil)))))
      (pss_one (ps_ret (pv 4))))))))), ?_⟩
  obtain ⟨B, st, hB, sto, rfl, q⟩ := h
  refine ⟨_, rfl, _, _, rfl, B, st, 4, hB, sto, rfl, rfl, by decide, fun H1 kind g1 sto1 k0 k1 => ?_⟩
  refine ⟨_, rfl, _, _, rfl, B, st, 5, g1.sub, sto1, rfl, rfl, by decide, fun H2 many g2 sto2 m0 m1 => ?_⟩
  have m4 : max1 4 = 4 := by decide
  have m5 : max1 5 = 5 := by decide
  have m2 : max1 2 = 2 := by decide
  rw [m4] at k1
  rw [m5] at m1
  obtain ⟨kind, rfl⟩ := Int.eq_ofNat_of_zero_le k0
  obtain ⟨many, rfl⟩ := Int.eq_ofNat_of_zero_le m0
  have hk : kind < 4 := by omega
  have hm : many < 5 := by omega
  have G2 := g1.trans g2
  have p12 : (10 : Int) ^ (12 : Int).toNat = 1000000000000 := by decide
  have p11 : (10 : Int) ^ (11 : Int).toNat = 100000000000 := by decide
  have cp : CPow 10 12 := ⟨by decide, by decide, by decide⟩
  have cp1 : CPow 10 11 := ⟨by decide, by decide, by decide⟩
  refine ⟨_, _, rfl, rfl, ?_⟩
  by_cases h3 : kind = 3
  case pos =>
    subst h3
    refine ⟨_, rfl, rfl, _, rfl, ite_tt ?_⟩
    refine ⟨_, _, rfl, rfl, cp, _, rfl, _, rfl, _, _, rfl, rfl, cp, _, _, rfl, rfl, _, _, rfl, rfl, cp, (by show 6 ≤ sizeLine; decide), fun l hl => ?_⟩
    rw [p12]
    have hst := sto2.ne hl
    refine ⟨_, rfl, _, _, rfl, upd B l (.lst (lad6.map V.int)), st, 2, (Gr.newP (S := [st]) G2.sub hl).sub, (sto2.aside hst).pub hst (G2.sub.none hl), rfl, rfl, by decide, fun H3 r g3 sto3 r0 r1 => ?_⟩
    rw [m2] at r1
    obtain ⟨r, rfl⟩ := Int.eq_ofNat_of_zero_le r0
    refine ⟨_, rfl, _, rfl, _, _, rfl, rfl, _, rfl, l, _, rfl, SqL.of (g3.sub.lst upd_same), fun p hp => ?_⟩
    obtain ⟨xs, ok, ec⟩ := lad6_cut (r := r) (m := many) (by omega) hm
    rw [ec]
    have G3 : Gr [st] B H (upd B l (.lst (lad6.map V.int))) H3 := (G2.trans (Gr.newP (S := [st]) G2.sub hl)).trans g3
    have G4 := G3.trans (Gr.newP (S := [st]) (o := .lst (xs.map V.int)) G3.sub hp)
    have hsp := sto3.ne hp
    exact q xs ok _ _ _ G4 ((sto3.aside hsp).pub hsp (G3.sub.none hp)) ⟨p, _, rfl, upd_same, ints2 xs⟩
  case neg =>
  refine ⟨_, rfl, rfl, _, rfl, iteF' (by rw [dec_int]; simp; omega) ?_⟩
  have cm : CMul 3 100000000000 := .inl ⟨by decide, by decide⟩
  refine ⟨_, _, rfl, rfl, cp1, _, _, rfl, rfl, (by show CMul 3 ((10 : Int) ^ (11 : Int).toNat); rw [p11]; exact cm), (by show 3 ≤ sizeLine; decide), fun l hl => ?_⟩
  rw [p11]
  have GL : Gr [st] B H B (upd H2 l (.lst (lad3.map V.int))) := G2.trans (Gr.new_ G2.sub hl)
  have hst := sto2.ne hl
  have stoL := sto2.aside (o := .lst (lad3.map V.int)) hst
  obtain ⟨reach, e3, hr1, hr2⟩ := lad3_at (k := kind) (by omega)
  refine ⟨_, rfl, l, _, _, _, rfl, rfl, SqL.of upd_same, atI_nat (j := kind) e3, ?_⟩
  refine ⟨_, rfl, _, rfl, _, _, rfl, rfl, cp, _, rfl, (by show 3 ≤ sizeLine; decide), fun l2 hl2 => ?_⟩
  obtain ⟨b0, eb, hb1, hb2⟩ := ladB_at (by omega) e3
  rw [p12]
  have GL2 : Gr [st] B H B (upd (upd H2 l (.lst (lad3.map V.int))) l2 (.lst (ladB.map V.int))) := GL.trans (Gr.new_ GL.sub hl2)
  have hst2 := stoL.ne hl2
  have stoL2 := stoL.aside (o := .lst (ladB.map V.int)) hst2
  have mr : max1 reach = reach := by unfold max1; omega
  refine ⟨_, rfl, l2, _, _, _, rfl, rfl, SqL.of upd_same, atI_nat (j := kind) eb, _, rfl, _, rfl, _, _, rfl, B, st, reach, GL2.sub, stoL2, rfl, rfl, by omega, fun H3 r g3 sto3 r0 r1 => ?_⟩
  rw [mr] at r1
  refine ⟨_, _, rfl, rfl, (by show 1 ≤ sizeLine; decide), fun p hp => ?_⟩
  have G3 := GL2.trans g3
  have hsp := sto3.ne hp
  have hp0 := G3.was hp
  have bp := G3.sub.none hp
  have GP : Gr [st] B H B (upd H3 p (.lst [.int (b0 + r)])) := G3.trans (Gr.new_ G3.sub hp)
  have oP : Own rInt B (upd H3 p (.lst [.int (b0 + r)])) p [b0 + r] := ⟨bp, _, upd_same, ints2 _⟩
  refine ⟨_, rfl, _, rfl, by omega, by omega, ?_⟩
  have en : ((1 : Int) + (many : Int)).toNat = 1 + many := by omega
  rw [en]
  refine for_go (Rs := rNat) (fun i σ1 B4 H4 => (∃ z5, σ1 = [some (.ref st), some (.int kind), some (.int (1 + many)), some (.int reach), some (.ref p), z5]) ∧ Gr [p, st] B (upd H3 p (.lst [.int (b0 + r)])) B4 H4 ∧ Store B4 H4 st ∧ ∃ xs : List Int, xs.length = i + 1 ∧ (∀ x ∈ xs, b0 ≤ x ∧ x ≤ b0 + (i + 1) * reach - 1) ∧ Own rInt B4 H4 p xs)
    src_rng (nats2 _) ⟨⟨_, rfl⟩, Gr.refl GP.sub, sto3.aside hsp, [b0 + r], rfl, (fun x hx => by
      have : x = b0 + r := by simpa using hx
      omega), oP⟩ (fun i σ1 B1 H1 h => ⟨h.2.1.up, h.2.1.sub⟩) (fun i y x σ1 B4 H4 hy hx h => ?_) (fun σ1 B4 H4 h => ?_)
  · obtain ⟨⟨z5, rfl⟩, g4, sto4, xs, lx, hxs, o4⟩ := h
    obtain rfl : x = .int y := hx
    have ei : y = i := by
      have := hy
      rw [List.getElem?_range (by
        have := List.getElem?_eq_some_iff.mp hy
        obtain ⟨h1, _⟩ := this
        simpa using h1)] at this
      simpa using this.symm
    subst ei
    have hyn : y < 1 + many := List.mem_range.mp (List.mem_of_getElem? hy)
    obtain ⟨b4, zs, h4, a4⟩ := id o4
    have ez := ints_eq a4
    have ey : xs[y]? = some xs[y] := List.getElem?_eq_getElem (by omega)
    have eg : zs[y]? = some (.int xs[y]) := by rw [ez, List.getElem?_map, ey]; rfl
    obtain ⟨u1, u2⟩ := hxs xs[y] (List.getElem_mem _)
    refine ⟨_, rfl, o4.ty, _, rfl, _, rfl, p, _, _, _, rfl, rfl, SqL.of h4, atI_nat (j := y) eg, _, _, rfl, rfl, _, rfl, _, rfl, _, _, rfl, B4, st, reach, g4.sub, sto4, rfl, rfl, by omega, fun H5 r5 g5 sto5 c0 c1 => ?_⟩
    rw [mr] at c1
    have hpn : p ∉ [st] := by simp [hsp.symm]
    have o5 := o4.keep g5 hpn
    obtain ⟨zs', hz, lz, o6⟩ := o5.app (x := xs[y] + 1 + r5) (v := .int (xs[y] + 1 + r5)) rfl (by omega)
    refine ⟨_, _, rfl, rfl, p, zs', _, rfl, rfl, hz, lz, B4, ⟨_, rfl⟩, (g4.trans (g5.mono (by simp))).mut (.inr (by simp)) b4, sto5.aside hsp, xs ++ [xs[y] + 1 + r5], by rw [List.length_append, List.length_singleton]; omega, fun x hx => ?_, o6⟩
    have e1 : ((y + 1 : Nat) + 1 : Int) * reach = ((y : Int) + 1) * reach + reach := by
      rw [show ((y + 1 : Nat) + 1 : Int) = ((y : Int) + 1) + 1 by omega, Int.add_mul ((y : Int) + 1), Int.one_mul]
    rw [e1]
    rcases List.mem_append.mp hx with hx | hx
    · obtain ⟨v1, v2⟩ := hxs x hx
      exact ⟨v1, by omega⟩
    · have : x = xs[y] + 1 + r5 := by simpa using hx
      exact ⟨by omega, by omega⟩
  · obtain ⟨⟨z5, rfl⟩, g4, sto4, xs, lx, hx, b4, zs, h4, a4⟩ := h
    rw [List.length_range] at lx hx
    have GA : Gr [st] B H B4 H4 := GP.fresh hp0 g4
    refine ⟨_, rfl, q xs ⟨?_, by omega, fun x h => ?_⟩ _ H4 _ (GA.pub hp0 b4 h4) (sto4.pub hsp b4) ⟨p, zs, rfl, upd_same, All2.mono (ExW.new b4) a4⟩⟩
    · intro z
      rw [z] at lx
      cases lx
    · obtain ⟨h1, h2⟩ := hx x h
      have : ((1 + many : Nat) + 1 : Int) * reach ≤ 6 * reach := Int.mul_le_mul_of_nonneg_right (by omega) (by omega)
      unfold isN
      simp only [Bool.and_eq_true, decide_eq_true_eq]
      omega
end
end OB

/-! ## QD -/
set_option maxHeartbeats 4000000
namespace OB
open PySem PySem.Spec PyProof.Rows L2
theorem Store.nxt {B0 H0 B H : Hp} {st t : Addr} {o : HO} (g : Gr [st] B0 H0 B H) (s : Store B H st) (ht : H t = none) : ∃ B', Gr [st] B0 H0 B' (upd H t o) ∧ Store B' (upd H t o) st ∧ ExW B B' ∧ B' t = some o :=
  ⟨upd B t o, g.trans (Gr.newP (S := [st]) g.sub ht), (s.aside (s.ne ht)).pub (s.ne ht) (g.sub.none ht), ExW.new (g.sub.none ht), upd_same⟩
section
variable {P : Program} {w : World} {K : PySem.W.Frag} {mg : Str → Option Value} {base : Heap}
def spGates : Sp := sp2 fun a b H Q => ∃ (B : Hp) (st : Addr) (xs : List Int), ExW B H ∧ Store B H st ∧ a = .ref st ∧ (rL rInt).rel B xs b ∧ LadOk xs ∧ ∀ lo hi, isE lo = true → isE hi = true → okE lo hi = true → RetD (rFix fun (p : Option Int × Option Int) => [vo p.1, vo p.2]) (lo, hi) B H st Q
/-! ### _law_gates -/
abbrev F__law_gates (P : Program) (w : World) (K : PySem.W.Frag) (mg : Str → Option Value) (base : Heap) : Prop := Fn P w K mg base CX0 4 "_law_gates" ["_law_store_here", "_law_pool"] [] spGates
abbrev N__law_gates : List Str := ["_law_store_here", "_law_pool", "_law_one", "_law_other", "_law_menu"]
theorem sc__law_gates : FnScope N__law_gates ["_law_store_here", "_law_pool"] (defScope (top 99)) := ⟨rfl, rfl, rfl, by decide +kernel, rfl, by decide +kernel, by decide +kernel⟩
theorem ok__law_gates (T : TX K mg) (D : DefAt K mg "_law_gates" (top 99) []) (c__law_pick : F__law_pick P w K mg base)  : F__law_gates P w K mg base := by
  refine fn_ok D sc__law_gates (by decide +kernel) (fun _ _ _ _ _ _ us hl => match us, hl with | [_, _], _ => rfl) (fun vs H Q E h => len2 h) (fun f cdv A outer s H vs Q E hr h => ?_)
  have nd := sc__law_gates.nd
  obtain ⟨v0, v1, rfl, h⟩ := h
  refine ⟨_, (pss_cons (ps_set (i := 2) nd rfl (Or.inl rfl) (pe_fn c__law_pick hr (by rfl) (pa_cons (pv 0) (pa_cons (pv 1) pa_nil))))
      (pss_cons (ps_set (i := 3) nd rfl (Or.inl rfl) (pe_fn c__law_pick hr (by rfl) (pa_cons (pv 0) (pa_cons (pv 1) pa_nil))))
      (pss_cons (ps_set (i := 4) nd rfl (Or.inl rfl) (pe_lst (pa_cons (pe_tup (pa_cons pe_non (pa_cons pe_non pa_nil))) (pa_cons (pe_tup (pa_cons pe_non (pa_cons pe_non pa_nil))) (pa_cons (pe_tup (pa_cons pe_non (pa_cons (pv 2) pa_nil))) (pa_cons (pe_tup (pa_cons (pv 2) (pa_cons pe_non pa_nil))) (pa_cons (pe_tup (pa_cons (pe_callB (call_min2 rfl) (by rfl) T.min bt_min (pa_cons (pv 2) (pa_cons (pv 3) pa_nil))) (pa_cons (pe_callB (call_max2 rfl) (by rfl) T.max bt_max (pa_cons (pv 2) (pa_cons (pv 3) pa_nil))) pa_nil))) pa_nil)))))))
      (pss_one (ps_ret (pe_fn c__law_pick hr (by rfl) (pa_cons (pv 0) (pa_cons (pv 4) pa_nil)))))))), ?_⟩
  obtain ⟨B, st, xs, hB, sto, rfl, hx, ok, q⟩ := h
  obtain ⟨l, vs, rfl, hl, hvs⟩ := id hx
  have ev := ints_eq hvs
  have len : vs.length < 2 ^ 63 := by rw [ev, List.length_map]; have := ok.2.1; omega
  have ne : vs ≠ [] := fun z => by
    rw [ev] at z
    exact ok.1 (List.map_eq_nil_iff.mp z)
  refine ⟨_, rfl, _, rfl, _, _, rfl, B, st, l, vs, hB, sto, rfl, rfl, hl, ne, len, fun H1 v1 m1 g1 s1 => ?_⟩
  rw [ev] at m1
  obtain ⟨a, ha, rfl⟩ := List.mem_map.mp m1
  refine ⟨_, rfl, _, rfl, _, _, rfl, B, st, l, vs, g1.sub, s1, rfl, rfl, hl, ne, len, fun H2 v2 m2 g2 s2 => ?_⟩
  rw [ev] at m2
  obtain ⟨b, hb, rfl⟩ := List.mem_map.mp m2
  have na := ok.2.2 a ha
  have nb := ok.2.2 b hb
  have G2 := g1.trans g2
  refine ⟨(by show 2 ≤ sizeLine; decide), fun t1 ht1 => ?_⟩
  obtain ⟨B3, G3, s3, e3, k3⟩ := s2.nxt (o := .tup [.non, .non]) G2 ht1
  refine ⟨(by show 2 ≤ sizeLine; decide), fun t2 ht2 => ?_⟩
  obtain ⟨B4, G4, s4, e4, k4⟩ := s3.nxt (o := .tup [.non, .non]) G3 ht2
  refine ⟨_, rfl, (by show 2 ≤ sizeLine; decide), fun t3 ht3 => ?_⟩
  obtain ⟨B5, G5, s5, e5, k5⟩ := s4.nxt (o := .tup [.non, .int a]) G4 ht3
  refine ⟨_, rfl, (by show 2 ≤ sizeLine; decide), fun t4 ht4 => ?_⟩
  obtain ⟨B6, G6, s6, e6, k6⟩ := s5.nxt (o := .tup [.int a, .non]) G5 ht4
  refine ⟨_, rfl, _, rfl, _, _, rfl, _, rfl, _, rfl, _, _, rfl, (by show 2 ≤ sizeLine; decide), fun t5 ht5 => ?_⟩
  obtain ⟨B7, G7, s7, e7, k7⟩ := s6.nxt (o := .tup [.int (if b < a then b else a), .int (if b > a then b else a)]) G6 ht5
  refine ⟨(by show 5 ≤ sizeLine; decide), fun m hm => ?_⟩
  obtain ⟨B8, G8, s8, e8, k8⟩ := s7.nxt (o := .lst [.ref t1, .ref t2, .ref t3, .ref t4, .ref t5]) G7 hm
  refine ⟨_, rfl, _, rfl, _, _, rfl, _, st, m, _, G8.sub, s8, rfl, rfl, k8, (fun z => nomatch z), (by show 5 < 2 ^ 63; decide), fun H9 v mv g9 s9 => ?_⟩
  have G9 := G8.trans g9
  have fin : ∀ lo hi t, isE lo = true → isE hi = true → okE lo hi = true → B8 t = some (.tup [vo lo, vo hi]) → v = .ref t → Q v H9 := fun lo hi t h1 h2 h3 h4 h5 =>
    q lo hi h1 h2 h3 B8 H9 v G9 s9 ⟨t, h5, h4⟩
  have w7 := e8.tup k7
  have w6 := (e7.trans e8).tup k6
  have w5 := ((e6.trans e7).trans e8).tup k5
  have w4 := (((e5.trans e6).trans e7).trans e8).tup k4
  have w3 := ((((e4.trans e5).trans e6).trans e7).trans e8).tup k3
  simp only [List.mem_cons, List.not_mem_nil, or_false] at mv
  rcases mv with h | h | h | h | h
  · exact fin none none t1 rfl rfl rfl w3 h
  · exact fin none none t2 rfl rfl rfl w4 h
  · exact fin none (some a) t3 rfl na rfl w5 h
  · exact fin (some a) none t4 na rfl rfl w6 h
  · refine fin (some (if b < a then b else a)) (some (if b > a then b else a)) t5 ?_ ?_ ?_ w7 h
    · show isN _ = true
      split
      · exact nb
      · exact na
    · show isN _ = true
      split
      · exact nb
      · exact na
    · show decide _ = true
      rw [decide_eq_true_eq]
      split <;> split <;> omega
end
end OB

/-! ## QE -/
set_option maxHeartbeats 4000000
namespace OB
open PySem PySem.Spec PyProof.Rows L2
def LitInv (names : List Str) (a0 a1 a2 a3 a4 : V) (D : Addr) (B3 H3 : Hp) (σ : L2.St) (B H : Hp) : Prop :=
  (∃ z6 z7 z8 z9 z10, σ = [some a0, some a1, some a2, some a3, some a4, some (.ref D), z6, z7, z8, z9, z10]) ∧ Gr [D] B3 H3 B H ∧ ∃ xs, Own rStr B H D xs ∧ xs.Nodup ∧ ∀ x ∈ xs, x ∈ names
section
variable {P : Program} {w : World} {K : PySem.W.Frag} {mg : Str → Option Value} {base : Heap}
def spSpread : Sp := sp5 fun a b c d e H Q => ∃ (B : Hp) (p : Plan) (ps cs : List Str) (S : Str → Int) (C : Str → Option Int) (i : Int) (ins : List Str), ExW B H ∧ rPlan.rel B p a ∧ RowsOk p.ls p.bs ∧ (rD rInt).rel B (glow ps S) b ∧ (∀ x, x ∈ ps ↔ x ∈ p.net.names) ∧ (rD rEnd).rel B (caps cs C) c ∧ (∀ x ∈ p.net.names, x ∈ cs) ∧ d = .int i ∧ (rL rStr).rel B ins e ∧ (∀ x ∈ ins, x ∈ p.net.names) ∧ ins.length ≤ 1000 ∧
  ∀ xs : List Str, xs.Nodup → (∀ x ∈ xs, x ∈ p.net.names) → Ret (rL rStr) xs B H Q
/-! ### _law_spread -/
abbrev F__law_spread (P : Program) (w : World) (K : PySem.W.Frag) (mg : Str → Option Value) (base : Heap) : Prop := Fn P w K mg base CX0 2 "_law_spread" ["_law_plan", "_law_glow", "_law_limits", "_law_level", "_law_inside"] [] spSpread
abbrev N__law_spread : List Str := ["_law_plan", "_law_glow", "_law_limits", "_law_level", "_law_inside", "_law_lit", "_law_turn", "_law_edge", "_law_side", "_law_out", "_law_post"]
theorem sc__law_spread : FnScope N__law_spread ["_law_plan", "_law_glow", "_law_limits", "_law_level", "_law_inside"] (defScope (top 102)) := ⟨rfl, rfl, rfl, by decide +kernel, rfl, by decide +kernel, by decide +kernel⟩
theorem ok__law_spread (T : TX K mg) (D : DefAt K mg "_law_spread" (top 102) []) (c__law_posts : F__law_posts P w K mg base) (c__law_lets : F__law_lets P w K mg base)  : F__law_spread P w K mg base := by
  refine fn_ok D sc__law_spread (by decide +kernel) (fun _ _ _ _ _ _ us hl => match us, hl with | [_, _, _, _, _], _ => rfl) (fun vs H Q E h => len5 h) (fun f cdv A outer s H vs Q E hr h => ?_)
  have nd := sc__law_spread.nd
  obtain ⟨v0, v1, v2, v3, v4, rfl, h⟩ := h
  refine ⟨_, (pss_cons (ps_setLc (i := 5) (own := [("_law_post", 10)]) rfl nd rfl rfl (sw_true rfl rfl rfl (by decide +kernel)) (kp_list K (pe_fn c__law_posts hr (by rfl) (pa_cons (pv 0) pa_nil))) (blkOk_by (own := [("_law_post", 10)]) (N := N__law_spread) (sc := defScope (top 102)) (by decide +kernel)) (fun _ _ _ _ _ => (pg_name (i := 10) nd rfl (Or.inl rfl))) (fun _ _ _ _ _ => (pts_one (PW.pt (pw_and (pt_cmpR op_eq (pe_dget (hu_of hr) (pv 1) (pv 10) (fun _ _ => rfl)) (pv 3) (nomark _)) (pw_and1 (PW.pt (pw_or (pt_cmpR op_isN (pe_dget (hu_of hr) (pv 2) (pv 10) (fun _ _ => rfl)) pe_non (nomark _)) (pw_or1 (pt_cmpR op_le (pv 3) (pe_dget (hu_of hr) (pv 2) (pv 10) (fun _ _ => rfl)) (nomark _)))))))))) (fun _ _ _ _ _ => (pv 10)))
      (pss_cons (ps_for PassesOwn.never rfl (pi_range1 (by rfl) T.range (pa_cons (pe_callB (k_len K) (by rfl) T.len bt_len (pa_cons (pv 4) pa_nil)) pa_nil)) (pg_name (i := 6) nd rfl (Or.inl rfl))
      (pss_one (ps_for PassesOwn.never rfl (kp_list K (pe_ix (kx_list K) (pv 0) pe_int (fun _ _ => rfl))) (pg_name (i := 7) nd rfl (Or.inl rfl))
      (pss_one (ps_for PassesOwn.never rfl (kp_list K (pe_lst (pa_cons pe_int (pa_cons pe_int pa_nil)))) (pg_name (i := 8) nd rfl (Or.inl rfl))
      (pss_cons (ps_set (i := 9) nd rfl (Or.inl rfl) (pe_ix (kx_tup K) (pv 7) (pe_op op_sub pe_int (pv 8)) (fun _ _ => rfl)))
      (pss_one (ps_if (PW.pt (pw_and (pt_val (pe_fn c__law_lets hr (by rfl) (pa_cons (pv 7) (pa_cons (pv 3) pa_nil)))) (pw_and (pt_cmpR (k_inSeq K) (pe_ix (kx_tup K) (pv 7) (pv 8) (fun _ _ => rfl)) (pv 5) (by rfl)) (pw_and (pt_cmpR (k_inSeq K) (pv 9) (pv 4) (by rfl)) (pw_and1 (pt_cmpR (k_notInSeq K) (pv 9) (pv 5) (by rfl))))))) (pss_one (ps_expr (pe_bm PySem.F.plainAttrs_list PySem.F.slot_list_append PySem.F.type_list_append mt_append (pv 5) (pa_cons (pv 9) pa_nil)))) pss_nil))))))))
      (pss_one (ps_ret (pv 5))))), ?_⟩
  obtain ⟨B, p, ps, cs, S, C, i, ins, hB, hp, ok, hl, hps, hc, hcs, rfl, hi, his, hlen, q⟩ := h
  have okn : p.net.Ok := netOf_ok ok
  refine ⟨_, rfl, _, rfl, B, p, hB, hp, ok, fun B1 H1 pv g1 hpv => ?_⟩
  obtain ⟨l, lvs, rfl, hlv, hlvs⟩ := id hpv
  have l10 := okn.lt10
  refine ⟨l, rfl, ⟨_, SqL.of (g1.sub.lst hlv)⟩, fun D hD => lc_flt (ys := p.net.names) (Rs := rStr) (R := rStr) (fun y => if (decide (S y = i) && leE i (C y)) = true then some y else none) (src_list hlv) g1.sub hD hlvs (by rw [← hlvs.len]; omega) (fun y x B3 H3 K1 K0 hy hx g3 k1 k0 => ?_) (fun B3 H3 g3 h3 => ?_)⟩
  · obtain rfl : x = .str y := hx
    have up := g1.up.trans g3.up
    obtain ⟨d, rfl, h1⟩ := dgl (Rp.mono _ up hl) g3.sub ((hps y).mpr hy)
    obtain ⟨cd, rfl, h2⟩ := dgc (Rp.mono _ up hc) g3.sub (hcs y hy)
    refine ⟨_, rfl, _, rfl, d, _, rfl, h1, _, rfl, rfl, _, rfl, ?_⟩
    by_cases e1 : S y = i
    case neg => exact iteF' (by rw [dec_intD]; simp [e1]) (iteF (k0 _ _ (if_neg (by simp [e1])) (Gr.refl g3.sub)))
    refine iteT' (by rw [dec_intD]; simp [e1]) ?_
    cases ec : C y with
    | none =>
      rw [ec] at h2
      exact ⟨_, rfl, _, rfl, cd, _, rfl, h2, rfl, _, rfl, ite_tt (ite_tt ⟨_, rfl, k1 y _ _ _ (if_pos (by simp [e1, ec, leE])) (Gr.refl g3.sub) rfl⟩)⟩
    | some c =>
      rw [ec] at h2
      refine ⟨_, rfl, _, rfl, cd, _, rfl, h2, rfl, _, rfl, iteF ⟨_, rfl, _, rfl, _, rfl, cd, _, rfl, h2, _, _, rfl, rfl, _, rfl, ?_⟩⟩
      refine ite2 (fun e => ?_) (fun e => ?_)
      · exact ⟨_, rfl, k1 y _ _ _ (if_pos (by simp only [e1, ec, leE, decide_true, Bool.true_and]; exact e)) (Gr.refl g3.sub) rfl⟩
      · exact k0 _ _ (if_neg (by simp only [e1, ec, leE, decide_true, Bool.true_and]; exact e)) (Gr.refl g3.sub)
  · obtain ⟨vs, h0, hb, hh, ha⟩ := h3.at_
    obtain ⟨l4, vs4, rfl, hl4, h4s⟩ := id hi
    obtain ⟨pa, u1, u2, u3, rfl, hpa, hp1, hp2, hp3⟩ := id hp
    obtain ⟨el, evs, rfl, hel, hes⟩ := id hp2
    have G3 := g1.trans g3
    have lv4 : vs4.length = ins.length := h4s.len.symm
    have oD : Own rStr B3 H3 D (p.net.names.filterMap fun y => if (decide (S y = i) && leE i (C y)) = true then some y else none) := ⟨hb, vs, hh, ha⟩
    refine ⟨_, rfl, l4, _, rfl, .inl (SqL.of (G3.sub.lst (G3.up.lst hl4))), vs4.length, rfl, by omega, by omega, ?_⟩
    rw [Int.toNat_natCast]
    refine for_go (Rs := rNat) (fun k σ1 B4 H4 => LitInv p.net.names (.ref pa) v1 v2 (.int i) (.ref l4) D B3 H3 σ1 B4 H4)
      src_rng (nats2 _) ⟨⟨_, _, _, _, _, rfl⟩, Gr.refl G3.sub, _, oD, ?_, ?_⟩ (fun i σ1 B1 H1 h => ⟨h.2.1.up, h.2.1.sub⟩) (fun k y x σ1 B4 H4 hy hx h => ?_) (fun σ1 B4 H4 h => ?_)
    · rw [fm_filter (p := fun y => decide (S y = i) && leE i (C y))]
      exact okn.nd.filter _
    · intro x hx
      obtain ⟨z, hz, ez⟩ := List.mem_filterMap.mp hx
      split at ez
      · cases ez; exact hz
      · cases ez
    · obtain ⟨⟨z6, z7, z8, z9, z10, rfl⟩, g4, xs, o4, nd4, sub4⟩ := h
      have up4 : ExW B B4 := G3.up.trans g4.up
      refine ⟨_, rfl, pa, _, _, _, rfl, rfl, SqL.of (g4.sub.lst (up4.lst hpa)), atI_nat (j := 1) rfl, el, rfl, ⟨_, SqL.of (g4.sub.lst (up4.lst hel))⟩, ?_⟩
      refine for_go (Rs := rBRow) (fun k σ1 B5 H5 => ExW B4 B5 ∧ LitInv p.net.names (.ref pa) v1 v2 (.int i) (.ref l4) D B3 H3 σ1 B5 H5)
        (src_list (up4.lst hel)) (All2.mono up4 hes) ⟨ExW.refl _, ⟨_, _, _, _, _, rfl⟩, g4, xs, o4, nd4, sub4⟩ (fun i σ1 B1 H1 h => ⟨h.1, h.2.2.1.sub⟩) (fun k2 r xr σ5 B5 H5 hr hxr h => ?_) (fun σ1 B4 H4 h => ⟨B4, h.2⟩)
      obtain ⟨up5, ⟨z6, z7, z8, z9, z10, rfl⟩, g5, xs, o5, nd5, sub5⟩ := h
      refine ⟨(by show 2 ≤ sizeLine; decide), fun t ht => ⟨t, rfl, ⟨_, SqL.of upd_same⟩, ?_⟩⟩
      have gt := Gr.newP (S := []) (o := .lst [.int 1, .int 2]) g5.sub ht
      refine for_go (Rs := rInt) (ys := [1, 2]) (fun k σ1 B6 H6 => ExW (upd B5 t (.lst [.int 1, .int 2])) B6 ∧ LitInv p.net.names (.ref pa) v1 v2 (.int i) (.ref l4) D B3 H3 σ1 B6 H6 ∧ ∃ w6 w8 w9 w10, σ1 = [some (.ref pa), some v1, some v2, some (.int i), some (.ref l4), some (.ref D), w6, some xr, w8, w9, w10])
        (src_list (a := t) upd_same) (ints2 [1, 2]) ⟨ExW.refl _, ⟨⟨_, _, _, _, _, rfl⟩, g5.trans (gt.mono (fun _ z => nomatch z)), xs, o5.keep gt (fun z => nomatch z), nd5, sub5⟩, _, _, _, _, rfl⟩ (fun i σ1 B1 H1 h => ⟨h.1, h.2.1.2.1.sub⟩) (fun k3 sd sv σ6 B6 H6 hsd hsv h => ?_) (fun σ1 B6 H6 h => ⟨B6, (up5.trans (ExW.new (g5.sub.none ht))).trans h.1, h.2.1⟩)
      obtain ⟨up6, ⟨_, g6, xs, o6, nd6, sub6⟩, z6, z8, z9, z10, rfl⟩ := h
      obtain rfl : sv = .int sd := hsv
      have up0 : ExW B B6 := ((up4.trans up5).trans (ExW.new (g5.sub.none ht))).trans up6
      obtain ⟨ra, rfl, hra⟩ := id hxr
      have hra6 : B6 ra = some (.tup [.str r.nm, .str r.a, .str r.b, vo r.lo, vo r.hi]) := up6.tup ((ExW.new (g5.sub.none ht)).tup hra)
      have sx := SqT.of (K := K) (g6.sub.tup hra6)
      obtain ⟨j1, j2, out, here, e1, e2, q1, q2⟩ : ∃ (j1 j2 : Nat) (out here : Str), (3 - sd) = (j1 : Int) ∧ sd = (j2 : Int) ∧ [V.str r.nm, V.str r.a, V.str r.b, vo r.lo, vo r.hi][j1]? = some (.str out) ∧ [V.str r.nm, V.str r.a, V.str r.b, vo r.lo, vo r.hi][j2]? = some (.str here) := by
        have := List.mem_of_getElem? hsd
        simp only [List.mem_cons, List.not_mem_nil, or_false] at this
        rcases this with rfl | rfl
        · exact ⟨2, 1, r.b, r.a, rfl, rfl, rfl, rfl⟩
        · exact ⟨1, 2, r.a, r.b, rfl, rfl, rfl, rfl⟩
      obtain ⟨b6, zs, h6, a6⟩ := id o6
      have ez := strs_eq a6
      have sD := SqL.of (K := K) h6
      have fl : zs.all flatV = true := by rw [ez]; exact flat_strs _
      have hi6 : (rL rStr).rel B6 ins (.ref l4) := Rp.mono _ up0 hi
      refine ⟨_, rfl, _, rfl, _, _, rfl, rfl, ra, _, _, _, rfl, rfl, sx, (by rw [e1]; exact atI_nat q1), ?_⟩
      refine ⟨_, rfl, _, rfl, _, _, rfl, B6, r, i, g6.sub, ⟨ra, rfl, hra6⟩, rfl, _, rfl, ?_⟩
      have skip : ∀ w8 w9, ∃ B', ExW (upd B5 t (.lst [.int 1, .int 2])) B' ∧ LitInv p.net.names (.ref pa) v1 v2 (.int i) (.ref l4) D B3 H3 [some (.ref pa), some v1, some v2, some (.int i), some (.ref l4), some (.ref D), z6, some (.ref ra), w8, w9, z10] B' H6 ∧ ∃ w6 w8' w9' w10, [some (.ref pa), some v1, some v2, some (.int i), some (.ref l4), some (.ref D), z6, some (.ref ra), w8, w9, z10] = [some (.ref pa), some v1, some v2, some (.int i), some (.ref l4), some (.ref D), w6, some (.ref ra), w8', w9', w10] := fun w8 w9 =>
        ⟨B6, up6, ⟨⟨_, _, _, _, _, rfl⟩, g6, xs, o6, nd6, sub6⟩, _, _, _, _, rfl⟩
      refine ite2 (fun _ => ?_) (fun _ => iteF (skip _ _))
      refine ⟨_, rfl, _, rfl, ra, _, _, _, rfl, rfl, sx, (by rw [e2]; exact atI_nat q2), _, rfl, D, zs, rfl, .inl sD, rfl, fl, _, rfl, ?_⟩
      refine ite2 (fun _ => ?_) (fun _ => iteF (skip _ _))
      refine ⟨_, rfl, _, rfl, inL_go g6.sub hi6 ⟨_, rfl, ?_⟩⟩
      by_cases ho : out ∈ ins
      case neg => exact iteF' (by simp [ho]) (iteF (skip _ _))
      refine iteT' (by simp [ho]) ?_
      refine ⟨_, rfl, _, rfl, D, zs, rfl, .inl sD, rfl, fl, _, rfl, ?_⟩
      rw [ez, inV_strs]
      by_cases hx : out ∈ xs
      case pos => exact iteF' (by simp [hx]) (skip _ _)
      refine iteT' (by simp [hx]) ?_
      have lx := nodup_len nd6 sub6
      obtain ⟨zs', hz, lz, o7⟩ := o6.app (x := out) (v := .str out) rfl (by omega)
      refine ⟨_, rfl, o6.ty, _, rfl, D, zs', _, rfl, rfl, hz, lz, B6, up6, ⟨⟨_, _, _, _, _, rfl⟩, g6.mut (.inr (by simp)) b6, _, o7, ?_, ?_⟩, _, _, _, _, rfl⟩
      · rw [List.nodup_append]
        exact ⟨nd6, by simp, fun a ha b hb => by
          have : b = out := by simpa using hb
          rw [this]
          exact fun z => hx (z ▸ ha)⟩
      · intro x hx
        rcases List.mem_append.mp hx with hx | hx
        · exact sub6 x hx
        · have : x = out := by simpa using hx
          rw [this]
          exact his out ho
    · obtain ⟨⟨z6, z7, z8, z9, z10, rfl⟩, g4, xs, ⟨b4, zs, h4, a4⟩, nd4, sub4⟩ := h
      have GA : Gr [] B H B4 H4 := G3.fresh (g1.was h0) g4
      exact ⟨_, rfl, q xs nd4 sub4 _ H4 _ (GA.pub (g1.was h0) b4 h4) ⟨D, zs, rfl, upd_same, All2.mono (ExW.new b4) a4⟩⟩
end
end OB

/-! ## QF -/
set_option maxHeartbeats 4000000
namespace OB
open PySem PySem.Spec PyProof.Rows L2
theorem fm_sub {p : Str → Bool} {l : List Str} {x : Str} (h : x ∈ l.filterMap fun y => if p y = true then some y else none) : x ∈ l := by
  obtain ⟨z, hz, ez⟩ := List.mem_filterMap.mp h
  split at ez
  · cases ez; exact hz
  · cases ez
theorem fm_nd {p : Str → Bool} {l : List Str} (h : l.Nodup) : (l.filterMap fun y => if p y = true then some y else none).Nodup := by
  rw [fm_filter (p := p)]
  exact h.filter _
section
variable {P : Program} {w : World} {K : PySem.W.Frag} {mg : Str → Option Value} {base : Heap}
def spTakers : Sp := sp4 fun a b c d H Q => ∃ (B : Hp) (p : Plan) (ps cs : List Str) (S : Str → Int) (C : Str → Option Int) (i : Int), ExW B H ∧ rPlan.rel B p a ∧ RowsOk p.ls p.bs ∧ (rD rInt).rel B (glow ps S) b ∧ (∀ x, x ∈ ps ↔ x ∈ p.net.names) ∧ (rD rEnd).rel B (caps cs C) c ∧ (∀ x ∈ p.net.names, x ∈ cs) ∧ d = .int i ∧
  ∀ xs : List Str, xs.Nodup → (∀ x ∈ xs, x ∈ p.net.names) → Ret (rL rStr) xs B H Q
/-! ### _law_takers -/
abbrev F__law_takers (P : Program) (w : World) (K : PySem.W.Frag) (mg : Str → Option Value) (base : Heap) : Prop := Fn P w K mg base CX0 3 "_law_takers" ["_law_plan", "_law_glow", "_law_limits", "_law_level"] [] spTakers
abbrev N__law_takers : List Str := ["_law_plan", "_law_glow", "_law_limits", "_law_level", "_law_inside", "_law_post"]
theorem sc__law_takers : FnScope N__law_takers ["_law_plan", "_law_glow", "_law_limits", "_law_level"] (defScope (top 103)) := ⟨rfl, rfl, rfl, by decide +kernel, rfl, by decide +kernel, by decide +kernel⟩
theorem ok__law_takers (T : TX K mg) (D : DefAt K mg "_law_takers" (top 103) []) (c__law_posts : F__law_posts P w K mg base) (c__law_spread : F__law_spread P w K mg base)  : F__law_takers P w K mg base := by
  refine fn_ok D sc__law_takers (by decide +kernel) (fun _ _ _ _ _ _ us hl => match us, hl with | [_, _, _, _], _ => rfl) (fun vs H Q E h => len4 h) (fun f cdv A outer s H vs Q E hr h => ?_)
  have nd := sc__law_takers.nd
  obtain ⟨v0, v1, v2, v3, rfl, h⟩ := h
  refine ⟨_, (pss_cons (ps_setLc (i := 4) (own := [("_law_post", 5)]) rfl nd rfl rfl (sw_true rfl rfl rfl (by decide +kernel)) (kp_list K (pe_fn c__law_posts hr (by rfl) (pa_cons (pv 0) pa_nil))) (blkOk_by (own := [("_law_post", 5)]) (N := N__law_takers) (sc := defScope (top 103)) (by decide +kernel)) (fun _ _ _ _ _ => (pg_name (i := 5) nd rfl (Or.inl rfl))) (fun _ _ _ _ _ => (pts_one (pt_cmpR op_lt (pe_dget (hu_of hr) (pv 1) (pv 5) (fun _ _ => rfl)) (pv 3) (nomark _)))) (fun _ _ _ _ _ => (pv 5)))
      (pss_cons (ps_setLc (i := 4) (own := [("_law_post", 5)]) rfl nd rfl rfl (sw_true rfl rfl rfl (by decide +kernel)) (kp_list K (pv 4)) (blkOk_by (own := [("_law_post", 5)]) (N := N__law_takers) (sc := defScope (top 103)) (by decide +kernel)) (fun _ _ _ _ _ => (pg_name (i := 5) nd rfl (Or.inl rfl))) (fun _ _ _ _ _ => (pts_one (PW.pt (pw_or (pt_cmpR op_isN (pe_dget (hu_of hr) (pv 2) (pv 5) (fun _ _ => rfl)) pe_non (nomark _)) (pw_or1 (pt_cmpR op_le (pv 3) (pe_dget (hu_of hr) (pv 2) (pv 5) (fun _ _ => rfl)) (nomark _))))))) (fun _ _ _ _ _ => (pv 5)))
      (pss_one (ps_ret (pe_callB (k_sortedS K) (by rfl) T.sorted bt_sorted (pa_cons (pe_lc (own := [("_law_post", 5)]) rfl nd (kp_list K (pe_fn c__law_spread hr (by rfl) (pa_cons (pv 0) (pa_cons (pv 1) (pa_cons (pv 2) (pa_cons (pv 3) (pa_cons (pv 4) pa_nil))))))) (blkOk_by (own := [("_law_post", 5)]) (N := N__law_takers) (sc := defScope (top 103)) (by decide +kernel)) (fun _ _ _ _ _ => (pg_name (i := 5) nd rfl (Or.inl rfl))) (fun _ _ _ _ _ => (pts_one (pt_cmpR op_lt (pe_dget (hu_of hr) (pv 1) (pv 5) (fun _ _ => rfl)) (pv 3) (nomark _)))) (fun _ _ _ _ _ => (pv 5))) pa_nil)))))), ?_⟩
  obtain ⟨B, p, ps, cs, S, C, i, hB, hp, ok, hl, hps, hc, hcs, rfl, q⟩ := h
  have okn : p.net.Ok := netOf_ok ok
  have l10 := okn.lt10
  refine ⟨_, rfl, _, rfl, B, p, hB, hp, ok, fun B1 H1 pv g1 hpv => ?_⟩
  obtain ⟨l, lvs, rfl, hlv, hlvs⟩ := id hpv
  refine ⟨l, rfl, ⟨_, SqL.of (g1.sub.lst hlv)⟩, fun D hD => lc_flt (ys := p.net.names) (Rs := rStr) (R := rStr) (fun y => if decide (S y < i) = true then some y else none) (src_list hlv) g1.sub hD hlvs (by rw [← hlvs.len]; omega) (fun y x B3 H3 K1 K0 hy hx g3 k1 k0 => ?_) (fun B3 H3 g3 h3 => ?_)⟩
  · obtain rfl : x = .str y := hx
    obtain ⟨d, rfl, h1⟩ := dgl (Rp.mono _ (g1.up.trans g3.up) hl) g3.sub ((hps y).mpr hy)
    refine ⟨_, rfl, _, rfl, d, _, rfl, h1, _, rfl, _, _, rfl, rfl, _, rfl, ?_⟩
    exact ite2 (fun e => ⟨_, rfl, k1 y _ _ _ (if_pos e) (Gr.refl g3.sub) rfl⟩) (fun e => k0 _ _ (if_neg e) (Gr.refl g3.sub))
  obtain ⟨vs3, h30, h3b, h3h, h3a⟩ := h3.at_
  have G3 := (g1.trans g3).pub (g1.was h30) h3b h3h
  have a3 := All2.mono (ExW.new (o := .lst vs3) h3b) h3a
  have nd1 := fm_nd (p := fun y => decide (S y < i)) okn.nd
  have sub1 : ∀ x ∈ (p.net.names.filterMap fun y => if decide (S y < i) = true then some y else none), x ∈ p.net.names := fun x hx => fm_sub hx
  generalize (p.net.names.filterMap fun y => if decide (S y < i) = true then some y else none) = ins1 at a3 nd1 sub1
  have len1 := nodup_len nd1 sub1
  refine ⟨_, rfl, D, rfl, ⟨_, SqL.of h3h⟩, fun D2 hD2 => lc_flt (ys := ins1) (Rs := rStr) (R := rStr) (fun y => if leE i (C y) = true then some y else none) (src_list (a := D) upd_same) G3.sub hD2 a3 (by rw [← a3.len]; omega) (fun y x B4 H4 K1 K0 hy hx g4 k1 k0 => ?_) (fun B4 H4 g4 h4 => ?_)⟩
  · obtain rfl : x = .str y := hx
    obtain ⟨cd, rfl, h2⟩ := dgc (Rp.mono _ (G3.up.trans g4.up) hc) g4.sub (hcs y (sub1 y hy))
    cases ec : C y with
    | none =>
      rw [ec] at h2
      exact ⟨_, rfl, _, rfl, cd, _, rfl, h2, rfl, _, rfl, ite_tt (ite_tt ⟨_, rfl, k1 y _ _ _ (if_pos (by rw [ec]; rfl)) (Gr.refl g4.sub) rfl⟩)⟩
    | some c =>
      rw [ec] at h2
      refine ⟨_, rfl, _, rfl, cd, _, rfl, h2, rfl, _, rfl, iteF ⟨_, rfl, _, rfl, _, rfl, cd, _, rfl, h2, _, _, rfl, rfl, _, rfl, ?_⟩⟩
      refine ite2 (fun e => ?_) (fun e => ?_)
      · exact ⟨_, rfl, k1 y _ _ _ (if_pos (by rw [ec]; exact e)) (Gr.refl g4.sub) rfl⟩
      · exact k0 _ _ (if_neg (by rw [ec]; exact e)) (Gr.refl g4.sub)
  obtain ⟨vs4, h40, h4b, h4h, h4a⟩ := h4.at_
  have G4 := (G3.trans g4).pub (G3.was h40) h4b h4h
  have a4 := All2.mono (ExW.new (o := .lst vs4) h4b) h4a
  have nd2 := fm_nd (p := fun y => leE i (C y)) nd1
  have sub2 : ∀ x ∈ (ins1.filterMap fun y => if leE i (C y) = true then some y else none), x ∈ p.net.names := fun x hx => sub1 x (fm_sub hx)
  generalize (ins1.filterMap fun y => if leE i (C y) = true then some y else none) = ins2 at a4 nd2 sub2
  have len2 := nodup_len nd2 sub2
  refine ⟨_, rfl, _, rfl, _, rfl, _, rfl, _, rfl, _, _, _, _, _, rfl, _, p, ps, cs, S, C, i, ins2, G4.sub, Rp.mono _ G4.up hp, ok, Rp.mono _ G4.up hl, hps, Rp.mono _ G4.up hc, hcs, rfl, ⟨D2, vs4, rfl, upd_same, a4⟩, sub2, by omega, fun xs ndx subx B5 H5 v g5 hv => ?_⟩
  obtain ⟨l5, vs5, rfl, hl5, h5a⟩ := id hv
  have lenx := nodup_len ndx subx
  have G5 := G4.trans g5
  refine ⟨l5, rfl, ⟨_, SqL.of (g5.sub.lst hl5)⟩, fun D3 hD3 => lc_flt (ys := xs) (Rs := rStr) (R := rStr) (fun y => if decide (S y < i) = true then some y else none) (src_list hl5) g5.sub hD3 h5a (by rw [← h5a.len]; omega) (fun y x B6 H6 K1 K0 hy hx g6 k1 k0 => ?_) (fun B6 H6 g6 h6 => ?_)⟩
  · obtain rfl : x = .str y := hx
    obtain ⟨d, rfl, h1⟩ := dgl (Rp.mono _ (G5.up.trans g6.up) hl) g6.sub ((hps y).mpr (subx y hy))
    refine ⟨_, rfl, _, rfl, d, _, rfl, h1, _, rfl, _, _, rfl, rfl, _, rfl, ?_⟩
    exact ite2 (fun e => ⟨_, rfl, k1 y _ _ _ (if_pos e) (Gr.refl g6.sub) rfl⟩) (fun e => k0 _ _ (if_neg e) (Gr.refl g6.sub))
  · obtain ⟨vs6, h60, h6b, h6h, h6a⟩ := h6.at_
    have nd3 := fm_nd (p := fun y => decide (S y < i)) ndx
    have sub3 : ∀ x ∈ (xs.filterMap fun y => if decide (S y < i) = true then some y else none), x ∈ p.net.names := fun x hx => subx x (fm_sub hx)
    have len3 := nodup_len nd3 sub3
    rw [strs_eq h6a] at h6h
    refine ⟨D3, _, rfl, SqL.of h6h, by omega, fun ys t perm srt ht => ?_⟩
    have G6 := G5.trans g6
    exact ((q ys (perm.nodup_iff.mpr nd3) (fun x hx => sub3 x (perm.mem_iff.mp hx))).go G6).newL (Gr.new_ g6.sub ht) ⟨t, _, rfl, ht, g6.sub.none ht, upd_same, strs2 ys⟩
end
end OB

/-! ## QG -/
set_option maxHeartbeats 4000000
namespace OB
open PySem PySem.Spec PyProof.Rows L2
/-- a table is known by its keys -/
theorem caps_of : ∀ {L : List (Str × Option Int)}, (L.map (·.1)).Nodup → ∃ C : Str → Option Int, L = caps (L.map (·.1)) C
  | [], _ => ⟨fun _ => none, rfl⟩
  | (k, c) :: r, nd => by
    obtain ⟨n1, n2⟩ := List.nodup_cons.mp nd
    obtain ⟨C, e⟩ := caps_of n2
    refine ⟨fun x => if x = k then c else C x, ?_⟩
    show (k, c) :: r = (k, if k = k then c else C k) :: (r.map (·.1)).map fun x => (x, if x = k then c else C x)
    rw [if_pos rfl]
    have h : (r.map (·.1)).map (fun x => (x, if x = k then c else C x)) = (r.map (·.1)).map fun x => (x, C x) := by
      refine List.map_congr_left fun x hx => ?_
      have : ¬ x = k := fun z => n1 (z ▸ hx)
      rw [if_neg this]
    rw [h]
    exact congrArg _ e
section
variable {P : Program} {w : World} {K : PySem.W.Frag} {mg : Str → Option Value} {base : Heap}
/-- a new dict, not yet made known, and the store -/
def RetSD {α : Type} (R : Rp α) (l : List (Str × α)) (B H : Hp) (st : Addr) (Q : VK) : Prop := ∀ B' H' d, Gr [st] B H B' H' → Store B' H' st → NewD R l H B' H' (.ref d) → Q (.ref d) H'
def spRaised : Sp := sp3 fun a b c H Q => ∃ (B : Hp) (st : Addr) (p : Plan) (ps : List Str) (S : Str → Int), ExW B H ∧ Store B H st ∧ a = .ref st ∧ rPlan.rel B p b ∧ RowsOk p.ls p.bs ∧ LadOk p.pool ∧ (rD rInt).rel B (glow ps S) c ∧ ps.Perm p.net.names ∧ (∀ x, isN (S x) = true) ∧
  ∀ T : Str → Int, (∀ x, isN (T x) = true) → RetSD rInt (glow ps T) B H st Q
/-! ### _law_raised -/
abbrev F__law_raised (P : Program) (w : World) (K : PySem.W.Frag) (mg : Str → Option Value) (base : Heap) : Prop := Fn P w K mg base CX0 4 "_law_raised" ["_law_store_here", "_law_plan", "_law_glow"] [] spRaised
abbrev N__law_raised : List Str := ["_law_store_here", "_law_plan", "_law_glow", "_law_limits", "_law_node", "_law_bar", "_law_goal", "_law_level", "_law_post"]
theorem sc__law_raised : FnScope N__law_raised ["_law_store_here", "_law_plan", "_law_glow"] (defScope (top 104)) := ⟨rfl, rfl, rfl, by decide +kernel, rfl, by decide +kernel, by decide +kernel⟩
theorem ok__law_raised (T : TX K mg) (D : DefAt K mg "_law_raised" (top 104) []) (c__law_take : F__law_take P w K mg base) (c__law_pick : F__law_pick P w K mg base) (c__law_unlike : F__law_unlike P w K mg base) (c__law_posts : F__law_posts P w K mg base) (c__law_takers : F__law_takers P w K mg base)  : F__law_raised P w K mg base := by
  refine fn_ok D sc__law_raised (by decide +kernel) (fun _ _ _ _ _ _ us hl => match us, hl with | [_, _, _], _ => rfl) (fun vs H Q E h => len3 h) (fun f cdv A outer s H vs Q E hr h => ?_)
  have nd := sc__law_raised.nd
  obtain ⟨v0, v1, v2, rfl, h⟩ := h
  refine ⟨_, (pss_cons (ps_set (i := 3) nd rfl (Or.inl rfl) pe_dnewK)
      (pss_cons (ps_for PassesOwn.never rfl (kp_list K (pe_ix (kx_list K) (pv 1) pe_int (fun _ _ => rfl))) (pg_name (i := 4) nd rfl (Or.inl rfl))
      (pss_cons (ps_set (i := 5) nd rfl (Or.inl rfl) (pe_ix (kx_tup K) (pv 4) pe_int (fun _ _ => rfl)))
      (pss_cons (ps_if (pt_cmpR op_eq (pe_fn c__law_take hr (by rfl) (pa_cons (pv 0) (pa_cons pe_int pa_nil))) pe_int (nomark _)) (pss_one (ps_set (i := 5) nd rfl (Or.inl rfl) (pe_callB (k_min K rfl) (by rfl) T.min bt_min (pa_cons (pe_lc (own := [("_law_level", 7)]) rfl nd (kp_list K (pe_lst (pa_cons (pv 5) (pa_cons (pe_fn c__law_pick hr (by rfl) (pa_cons (pv 0) (pa_cons (pe_ix (kx_list K) (pv 1) pe_int (fun _ _ => rfl)) pa_nil))) pa_nil)))) (blkOk_by (own := [("_law_level", 7)]) (N := N__law_raised) (sc := defScope (top 104)) (by decide +kernel)) (fun _ _ _ _ _ => (pg_name (i := 7) nd rfl (Or.inl rfl))) (fun _ _ _ _ _ => (pts_one (pt_cmpR op_notN (pv 7) pe_non (nomark _)))) (fun _ _ _ _ _ => (pv 7))) pa_nil)))) pss_nil)
      (pss_cons (ps_if (pt_cmpR op_notN (pv 5) pe_non (nomark _)) (pss_one (ps_set (i := 5) nd rfl (Or.inl rfl) (pe_callB (call_max2 rfl) (by rfl) T.max bt_max (pa_cons (pv 5) (pa_cons (pe_dget (hu_of hr) (pv 2) (pe_ix (kx_tup K) (pv 4) pe_int (fun _ _ => rfl)) (fun _ _ => rfl)) pa_nil))))) pss_nil)
      (pss_one (ps_dput (hu_of hr) (pv 3) (pe_ix (kx_tup K) (pv 4) pe_int (fun _ _ => rfl)) (pv 5) rfl))))))
      (pss_cons (ps_set (i := 6) nd rfl (Or.inl rfl) (pe_callTy call_dictD (by rfl) T.dict bt_dict (pa_cons (pv 2) pa_nil)))
      (pss_cons (ps_for PassesOwn.never rfl (kp_list K (pe_callB (k_sorted K) (by rfl) T.sorted bt_sorted (pa_cons (pe_fn c__law_unlike hr (by rfl) (pa_cons (pe_lc (own := [("_law_post", 8)]) rfl nd (kp_list K (pe_fn c__law_posts hr (by rfl) (pa_cons (pv 1) pa_nil))) (blkOk_by (own := [("_law_post", 8)]) (N := N__law_raised) (sc := defScope (top 104)) (by decide +kernel)) (fun _ _ _ _ _ => (pg_name (i := 8) nd rfl (Or.inl rfl))) (fun _ _ _ _ _ => pts_nil) (fun _ _ _ _ _ => (pe_dget (hu_of hr) (pv 2) (pv 8) (fun _ _ => rfl)))) pa_nil)) pa_nil))) (pg_name (i := 7) nd rfl (Or.inl rfl))
      (pss_one (ps_for PassesOwn.never rfl (kp_list K (pe_fn c__law_takers hr (by rfl) (pa_cons (pv 1) (pa_cons (pv 2) (pa_cons (pv 3) (pa_cons (pv 7) pa_nil)))))) (pg_name (i := 8) nd rfl (Or.inl rfl))
      (pss_one (ps_dput (hu_of hr) (pv 6) (pv 8) (pv 7) rfl)))))
      (pss_one (ps_ret (pv 6))))))), ?_⟩
  obtain ⟨B, st, p, ps, S, hB, sto, rfl, hp, ok, lad, hl, perm, hS, q⟩ := h
  have okn : p.net.Ok := netOf_ok ok
  obtain ⟨pa, u1, u2, u3, rfl, hpa, hp1, hp2, hp3⟩ := id hp
  obtain ⟨nl, nvs, rfl, hnl, hnvs⟩ := id hp1
  intro d hd
  have gd : Gr [st] B H B (upd H d (.dK [])) := Gr.new_ hB hd
  have bd := hB.none hd
  have sd := sto.aside (o := .dK []) (sto.ne hd)
  have hsd := sto.ne hd
  refine ⟨_, rfl, pa, _, _, _, rfl, rfl, SqL.of (gd.sub.lst hpa), atI_nat (j := 0) rfl, nl, rfl, ⟨_, SqL.of (gd.sub.lst hnl)⟩, ?_⟩
  refine for_go (Rs := rLRow) (fun k σ1 B1 H1 => (∃ z4 z5 z6 z7 z8, σ1 = [some (.ref st), some (.ref pa), some v2, some (.ref d), z4, z5, z6, z7, z8]) ∧ Gr [d, st] B (upd H d (.dK [])) B1 H1 ∧ Store B1 H1 st ∧ B1 d = none ∧ ∃ (L : List (Str × Option Int)) (kvs : List (Key × V)), L.map (·.1) = (p.ls.take k).map (·.1) ∧ H1 d = some (.dK kvs) ∧ DAll rEnd B1 L kvs)
    (src_list hnl) hnvs ⟨⟨_, _, _, _, _, rfl⟩, Gr.refl gd.sub, sd, bd, [], [], rfl, upd_same, .nil⟩ (fun i σ1 B1 H1 h => ⟨h.2.1.up, h.2.1.sub⟩) (fun k r xr σ1 B1 H1 hr hxr h => ?_) (fun σ1 B1 H1 h => ?_)
  · obtain ⟨⟨z4, z5, z6, z7, z8, rfl⟩, g1, s1, b1, L, kvs, eL, h1, a1⟩ := h
    obtain ⟨ra, rfl, hra⟩ := id hxr
    have sx := SqT.of (K := K) (g1.sub.tup hra)
    have rin : r ∈ p.ls := List.mem_of_getElem? hr
    have rnm : r.1 ∈ ps := perm.mem_iff.mpr (netOf_names.mem_iff.mpr (List.mem_map.mpr ⟨r, rin, rfl⟩))
    have tail : ∀ (D : Ends) (Bn Hn : Hp) (o : Option Int) (z6 z7 z8 : Option V), Gr [d, st] B1 H1 Bn Hn → Store Bn Hn st → Bn d = none → Hn d = some (.dK kvs) →
        (∀ σ' H', (∃ B', (∃ z4 z5 z6 z7 z8, σ' = [some (.ref st), some (.ref pa), some v2, some (.ref d), z4, z5, z6, z7, z8]) ∧ Gr [d, st] B (upd H d (.dK [])) B' H' ∧ Store B' H' st ∧ B' d = none ∧ ∃ (L : List (Str × Option Int)) (kvs : List (Key × V)), L.map (·.1) = (p.ls.take (k + 1)).map (·.1) ∧ H' d = some (.dK kvs) ∧ DAll rEnd B' L kvs) → D.nx σ' H') →
        tSeq (tIfS (tTest (tOp (fun x y H Q => y = V.non ∧ Q (V.bl !decide (x = V.non)) H) (tVar 5) (tC V.non)))
          (tAsg (tCB (fun xs H Q => ∃ i j, xs = [V.int i, V.int j] ∧ Q (V.int (if j > i then j else i)) H) (tCons (tVar 5) (tCons (tDGet (tVar 2) (tOp (rIxT K) (tVar 4) (tC (V.int 0)))) tNil))) (gName 5)) tNext)
          (sDPut (tVar 3) (tOp (rIxT K) (tVar 4) (tC (V.int 0))) (tVar 5)) D [some (.ref st), some (.ref pa), some v2, some (.ref d), some (.ref ra), some (vo o), z6, z7, z8] Hn := fun D Bn Hn o z6 z7 z8 gn sn bn hn kk => by
      have sxn := SqT.of (K := K) (gn.sub.tup (gn.up.tup hra))
      have an := DAll.mono gn.up a1
      have len1 := a1.len
      have leL : L.length ≤ 10 := by
        have := congrArg List.length eL
        rw [List.length_map, List.length_map, List.length_take] at this
        have := ok.len
        omega
      have nk : ¬ r.1 ∈ L.map (·.1) := by
        rw [eL, List.map_take]
        exact nd_take ok.nd (by rw [List.getElem?_map, hr]; rfl)
      have put : ∀ o' : Option Int, sDPut (tVar 3) (tOp (rIxT K) (tVar 4) (tC (V.int 0))) (tVar 5) D [some (.ref st), some (.ref pa), some v2, some (.ref d), some (.ref ra), some (vo o'), z6, z7, z8] Hn := fun o' => by
        refine ⟨_, rfl, _, rfl, _, rfl, ra, _, _, _, rfl, rfl, sxn, atI_nat (j := 0) rfl, d, _, rfl, DPut.k (k := Sum.inr r.1) hn (Nat.lt_trans (m := 64) (by omega) (by decide)), kk _ _ ⟨Bn, ⟨_, _, _, _, _, rfl⟩, (g1.trans gn).mut (.inr (by simp)) bn, sn.aside hsd, bn, L ++ [(r.1, o')], _, ?_, upd_same, an.new nk rfl⟩⟩
        rw [take_snoc hr, List.map_append, List.map_append, eL]; rfl
      refine ⟨_, rfl, rfl, _, rfl, ?_⟩
      cases o with
      | none => exact iteF' rfl (put none)
      | some c =>
        have hx := dgl (Rp.mono _ ((g1.up.trans gn.up)) hl) gn.sub rnm
        obtain ⟨gl, rfl, hx⟩ := hx
        exact iteT' rfl ⟨_, rfl, _, rfl, _, rfl, ra, _, _, _, rfl, rfl, sxn, atI_nat (j := 0) rfl, gl, _, rfl, hx, _, _, rfl, put (some _)⟩
    refine ⟨_, rfl, ra, _, _, _, rfl, rfl, sx, atI_nat (j := 1) rfl, ?_⟩
    refine ⟨_, rfl, _, _, rfl, B1, st, 4, g1.sub, s1, rfl, rfl, by decide, fun H2 c g2 s2 c0 c1 => ⟨rfl, _, rfl, ?_⟩⟩
    refine ite2 (fun _ => ?_) (fun _ => tail _ B1 H2 r.2 _ _ _ (g2.mono (by simp)) s2 b1 (g2.keep d _ (by simp [hsd.symm]) b1 h1) fun σ' H' h => h)
    obtain ⟨pl, pvs, rfl, hpl, hpvs⟩ := id hp3
    have ep := ints_eq hpvs
    have G2 := g1.trans (g2.mono (by simp))
    have up2 : ExW B B1 := G2.up
    refine ⟨_, rfl, _, rfl, _, rfl, pa, _, _, _, rfl, rfl, SqL.of (g2.sub.lst (up2.lst hpa)), atI_nat (j := 2) rfl, _, _, rfl, B1, st, pl, pvs, g2.sub, s2, rfl, rfl, up2.lst hpl, ?_, ?_, fun H3 v mv g3 s3 => ?_⟩
    · intro z
      rw [ep] at z
      exact lad.1 (List.map_eq_nil_iff.mp z)
    · rw [ep, List.length_map]
      have := lad.2.1
      omega
    rw [ep] at mv
    obtain ⟨q0, hq0, rfl⟩ := List.mem_map.mp mv
    refine ⟨(by show 2 ≤ sizeLine; decide), fun t ht => ?_⟩
    have G3 := G2.trans (g3.mono (S' := [d, st]) (by simp))
    have gt := Gr.newP (S := [d, st]) (o := .lst [vo r.2, vo (some q0)]) G3.sub ht
    refine ⟨t, rfl, ⟨_, SqL.of upd_same⟩, fun D hD => lc_flt (ys := [r.2, some q0]) (Rs := rEnd) (R := rInt) (fun y => y) (src_list (a := t) upd_same) gt.sub hD (.cons rfl (.cons rfl .nil)) (by show 2 ≤ 100000; decide) (fun y x B6 H6 K1 K0 hy hx g6 k1 k0 => ?_) (fun B6 H6 g6 h6 => ?_)⟩
    · obtain rfl : x = vo y := hx
      refine ⟨_, rfl, rfl, _, rfl, ?_⟩
      cases y with
      | none => exact iteF' rfl (k0 _ _ rfl (Gr.refl g6.sub))
      | some c => exact iteT' rfl ⟨_, rfl, k1 c _ _ _ rfl (Gr.refl g6.sub) rfl⟩
    · obtain ⟨vs6, h60, h6b, h6h, h6a⟩ := h6.at_
      rw [ints_eq h6a] at h6h
      refine ⟨D, _, rfl, SqL.of h6h, ?_, fun m hm hmin => ?_⟩
      · cases r.2 <;> simp
      · have gA : Gr [st] B1 H1 B6 H6 := ((g2.trans g3).trans (Gr.newP (S := [st]) (o := .lst [vo r.2, vo (some q0)]) G3.sub ht)).trans (g6.mono (fun _ z => nomatch z))
        exact tail _ B6 H6 (some m) _ _ _ (gA.mono (by simp)) (((s3.aside (s3.ne ht)).pub (s3.ne ht) (G3.sub.none ht)).keep0 g6) (gA.new d b1 (by rw [h1]; exact fun z => nomatch z)) (gA.keep d _ (by simp [hsd.symm]) b1 h1) fun σ' H' h => h
  · obtain ⟨⟨z4, z5, z6, z7, z8, rfl⟩, g1, s1, b1, L, kvs, eL, h1, a1⟩ := h
    rw [List.take_length] at eL
    have GA : Gr [st] B H B1 H1 := gd.fresh hd g1
    have GP := GA.pub hd b1 h1
    have s2 : Store (upd B1 d (.dK kvs)) H1 st := s1.pub hsd b1
    have hC : (rD rEnd).rel (upd B1 d (.dK kvs)) L (.ref d) := ⟨d, kvs, rfl, .inl upd_same, DAll.mono (ExW.new b1) a1⟩
    obtain ⟨C, eC⟩ := caps_of (L := L) (by rw [eL]; exact ok.nd)
    rw [eC, eL] at hC
    have cin : ∀ x ∈ p.net.names, x ∈ p.ls.map (·.1) := fun x hx => netOf_names.mem_iff.mp hx
    generalize upd B1 d (.dK kvs) = B2 at *
    obtain ⟨gl, gkvs, rfl, hgl, hgk⟩ := id hl
    refine ⟨_, rfl, gl, gkvs, rfl, GP.sub.rd (GP.up.rd hgl), fun c hc => ?_⟩
    have gc : Gr [st] B H B2 (upd H1 c (.dK gkvs)) := GP.trans (Gr.new_ GP.sub hc)
    have s3 := s2.aside (o := .dK gkvs) (s2.ne hc)
    have hsc := s2.ne hc
    have bc := GP.sub.none hc
    refine ⟨_, rfl, _, rfl, B2, p, gc.sub, Rp.mono _ GP.up hp, ok, fun B3 H3 pv g3 hpv => ?_⟩
    obtain ⟨l, lvs, rfl, hlv, hlvs⟩ := id hpv
    have up3 : ExW B B3 := GP.up.trans g3.up
    have hps : ∀ x, x ∈ ps ↔ x ∈ p.net.names := fun x => perm.mem_iff
    have ndp : ps.Nodup := perm.symm.nodup okn.nd
    have l64 : ps.length < 64 := by rw [perm.length_eq]; exact okn.lt
    have l10 := okn.lt10
    refine ⟨l, rfl, ⟨_, SqL.of (g3.sub.lst hlv)⟩, fun D1 hD1 => lc_map (Rs := rStr) (R := rInt) (fun y => S y) (src_list hlv) g3.sub hD1 hlvs (by rw [← hlvs.len]; omega) (fun y x B4 H4 K1 hy hx g4 k1 => ?_) (fun B4 H4 g4 h4 => ?_)⟩
    · obtain rfl : x = .str y := hx
      have hdg := dgl2 (Rp.mono _ (up3.trans g4.up) hl) g4.sub (perm.mem_iff.mpr hy)
      exact ⟨_, rfl, _, rfl, gl, _, rfl, hdg, k1 _ _ _ (Gr.refl g4.sub) rfl⟩
    obtain ⟨vs4, h40, h4b, h4h, h4a⟩ := h4.at_
    have G4 := (g3.trans g4).pub (g3.was h40) h4b h4h
    have hL4 : (rL rInt).rel (upd B4 D1 (.lst vs4)) (p.net.names.map S) (.ref D1) := ⟨D1, vs4, rfl, upd_same, All2.mono (ExW.new h4b) h4a⟩
    generalize upd B4 D1 (.lst vs4) = B5 at *
    refine ⟨_, rfl, B5, _, G4.sub, hL4, by rw [List.length_map]; omega, fun B6 H6 v g6 hv => ?_⟩
    obtain ⟨l6, vs6, rfl, hl6, h6a⟩ := id hv
    have e6 := ints_eq h6a
    subst e6
    have lo := once_len (p.net.names.map S)
    rw [List.length_map] at lo
    refine ⟨l6, _, rfl, SqL.of (g6.sub.lst hl6), by omega, fun ns t nperm srt ht => ?_⟩
    have G7 := (G4.trans g6).trans (Gr.newP (o := .lst (ns.map V.int)) g6.sub ht)
    have ht7 : (upd B6 t (.lst (ns.map V.int))) t = some (.lst (ns.map V.int)) := upd_same
    generalize upd B6 t (.lst (ns.map V.int)) = B7 at *
    generalize upd H6 t (.lst (ns.map V.int)) = H7 at *
    have c7 : H7 c = some (.dK gkvs) := G7.keep c _ (fun z => nomatch z) bc upd_same
    have bc7 : B7 c = none := G7.new c bc (by rw [upd_same]; exact fun z => nomatch z)
    have up7 : ExW B B7 := GP.up.trans G7.up
    have nsN : ∀ v ∈ ns, isN v = true := fun v hv => by
      obtain ⟨x, _, rfl⟩ := List.mem_map.mp (mem_once.mp (nperm.mem_iff.mp hv))
      exact hS x
    refine ⟨t, rfl, ⟨_, SqL.of (G7.sub.lst ht7)⟩, for_go (Rs := rInt) (fun i σ1 B8 H8 => (∃ z7 z8, σ1 = [some (.ref st), some (.ref pa), some (.ref gl), some (.ref d), z4, z5, some (.ref c), z7, z8]) ∧ Gr [c] B7 H7 B8 H8 ∧ B8 c = none ∧ ∃ (U : Str → Int) (kvs : List (Key × V)), (∀ x, isN (U x) = true) ∧ H8 c = some (.dK kvs) ∧ DAll rInt B8 (glow ps U) kvs)
      (src_list ht7) (ints2 ns) ⟨⟨_, _, rfl⟩, Gr.refl G7.sub, bc7, S, gkvs, hS, c7, DAll.mono up7 hgk⟩ (fun i σ1 B8 H8 h => ⟨h.2.1.up, h.2.1.sub⟩) (fun i v vx σ1 B8 H8 hvi hvx h => ?_) (fun σ1 B8 H8 h => ?_)⟩
    · obtain ⟨⟨z7, z8, rfl⟩, g8, b8, U, kvs8, hU, h8, a8⟩ := h
      obtain rfl : vx = .int v := hvx
      have vN := nsN v (List.mem_of_getElem? hvi)
      have up8 : ExW B B8 := up7.trans g8.up
      refine ⟨_, rfl, _, rfl, _, rfl, _, rfl, _, _, _, _, rfl, B8, p, ps, _, S, C, v, g8.sub, Rp.mono _ up8 hp, ok, Rp.mono _ up8 hl, hps, Rp.mono _ (G7.up.trans g8.up) hC, cin, rfl, fun xs ndx subx B9 H9 tv g9 htv => ?_⟩
      obtain ⟨tl, tvs, rfl, htl, hts⟩ := id htv
      have c9 : H9 c = some (.dK kvs8) := g9.keep c _ (fun z => nomatch z) b8 h8
      have b9 : B9 c = none := g9.new c b8 (by rw [h8]; exact fun z => nomatch z)
      refine ⟨tl, rfl, ⟨_, SqL.of (g9.sub.lst htl)⟩, for_go (Rs := rStr) (fun j σ2 B10 H10 => (∃ z8, σ2 = [some (.ref st), some (.ref pa), some (.ref gl), some (.ref d), z4, z5, some (.ref c), some (.int v), z8]) ∧ Gr [c] B9 H9 B10 H10 ∧ B10 c = none ∧ ∃ (U : Str → Int) (kvs : List (Key × V)), (∀ x, isN (U x) = true) ∧ H10 c = some (.dK kvs) ∧ DAll rInt B10 (glow ps U) kvs)
        (src_list htl) hts ⟨⟨_, rfl⟩, Gr.refl g9.sub, b9, U, kvs8, hU, c9, DAll.mono g9.up a8⟩ (fun i σ1 B8 H8 h => ⟨h.2.1.up, h.2.1.sub⟩) (fun j y x σ2 B10 H10 hy hx h => ?_) (fun σ2 B10 H10 h => ?_)⟩
      · obtain ⟨⟨z8, rfl⟩, g10, b10, U, kvs10, hU, h10, a10⟩ := h
        obtain rfl : x = .str y := hx
        have yps := (hps y).mpr (subx y (List.mem_of_getElem? hy))
        refine ⟨_, rfl, _, rfl, _, rfl, c, _, rfl, DPut.k (k := Sum.inr y) h10 (own_lt a10 l64), B10, ⟨_, rfl⟩, g10.mut (.inr (by simp)) b10, b10, fun x => if x = y then v else U x, _, fun x => ?_, upd_same, ?_⟩
        · show isN (if x = y then v else U x) = true
          split
          · exact vN
          · exact hU x
        · exact DAll.set (S := U) (S' := fun x => if x = y then v else U x) (show V.int v = V.int (if y = y then v else U y) by rw [if_pos rfl]) (fun z hz => if_neg hz) ndp yps a10
      · obtain ⟨⟨z8, rfl⟩, g10, b10, U, kvs10, hU, h10, a10⟩ := h
        exact ⟨B10, ⟨_, _, rfl⟩, g8.trans (g9.any.trans g10), b10, U, kvs10, hU, h10, a10⟩
    · obtain ⟨⟨z7, z8, rfl⟩, g8, b8, U, kvs8, hU, h8, a8⟩ := h
      have hc0 : H c = none := GP.was hc
      have GA' : Gr [st] B H B8 H8 := (gc.trans G7.any).fresh hc0 (g8.mono (by simp))
      exact ⟨_, rfl, q U hU B8 H8 c GA' ((s3.keep0 G7).keep g8 (by simp [hsc])) ⟨c, kvs8, rfl, hc0, b8, h8, a8⟩⟩
end
end OB

/-! ## QH -/
set_option maxHeartbeats 4000000
namespace OB
open PySem PySem.Spec PyProof.Rows L2
/-- texts, numbers, truths -/
inductive FlatE : V → String → Prop
  | str (z : Str) : FlatE (.str z) "str"
  | int (i : Int) : FlatE (.int i) "int"
  | bl (b : Bool) : FlatE (.bl b) "bool"
section
variable {P : Program} {w : World} {K : PySem.W.Frag} {mg : Str → Option Value} {base : Heap}
theorem FlatE.ty {H : Hp} {v : V} {t : String} (h : FlatE v t) : TyX K H v (.type t) := by
  cases h
  · exact .base (.str _)
  · exact .base (.int _)
  · exact .base (.bl _)
theorem FlatE.no {v : V} {t : String} (h : FlatE v t) : decide (v = .non) = false := by
  cases h <;> rfl
theorem FlatE.kit {v : V} {t : String} (h : FlatE v t) : ∃ b1 b2 b3, PySem.W.kitOne K (.type t) (.type "bool") = some b1 ∧ PySem.W.kitOne K (.type t) (.type "int") = some b2 ∧ PySem.W.kitOne K (.type t) (.type "str") = some b3 ∧ PySem.W.kitAny K (.type t) [.type "list", .type "tuple"] = some false := by
  cases h
  · exact ⟨false, false, true, kit_ty (by decide +kernel), kit_ty (by decide +kernel), kit_ty (by decide +kernel), kitAny_cons (b := false) (kit_ty (by decide +kernel)) (fun _ => kitAny_cons (b := false) (kit_ty (by decide +kernel)) (fun _ => kitAny_nil) (fun z => nomatch z)) (fun z => nomatch z)⟩
  · exact ⟨false, true, false, kit_ty (by decide +kernel), kit_ty (by decide +kernel), kit_ty (by decide +kernel), kitAny_cons (b := false) (kit_ty (by decide +kernel)) (fun _ => kitAny_cons (b := false) (kit_ty (by decide +kernel)) (fun _ => kitAny_nil) (fun z => nomatch z)) (fun z => nomatch z)⟩
  · exact ⟨true, true, false, kit_ty (by decide +kernel), kit_ty (by decide +kernel), kit_ty (by decide +kernel), kitAny_cons (b := false) (kit_ty (by decide +kernel)) (fun _ => kitAny_cons (b := false) (kit_ty (by decide +kernel)) (fun _ => kitAny_nil) (fun z => nomatch z)) (fun z => nomatch z)⟩
theorem FlatE.scal {v : V} {t : String} (h : FlatE v t) : scal v v = true := by
  cases h <;> rfl
def spAlike0 : Sp := sp2 fun a b H Q => ∃ (B : Hp) (t : String), ExW B H ∧ a = b ∧ FlatE b t ∧ ∀ B' H', Gr [] B H B' H' → Q (.bl true) H'
/-! ### _law_alike -/
abbrev F__law_alike0 (P : Program) (w : World) (K : PySem.W.Frag) (mg : Str → Option Value) (base : Heap) : Prop := Fn P w K mg base CX0 1 "_law_alike" ["_law_left", "_law_right"] [] spAlike0
abbrev N__law_alike0 : List Str := ["_law_left", "_law_right", "_law_k"]
theorem sc__law_alike0 : FnScope N__law_alike0 ["_law_left", "_law_right"] (defScope (top 101)) := ⟨rfl, rfl, rfl, by decide +kernel, rfl, by decide +kernel, by decide +kernel⟩
theorem ok__law_alike0 (T : TX K mg) (D : DefAt K mg "_law_alike" (top 101) [])   : F__law_alike0 P w K mg base := by
  refine fn_ok D sc__law_alike0 (by decide +kernel) (fun _ _ _ _ _ _ us hl => match us, hl with | [_, _], _ => rfl) (fun vs H Q E h => len2 h) (fun f cdv A outer s H vs Q E hr h => ?_)
  have nd := sc__law_alike0.nd
  obtain ⟨v0, v1, rfl, h⟩ := h
  refine ⟨_, (pss_cons (ps_if (pt_val (pe_callB (k_isiT K) (by rfl) T.isinstance bt_isinstance (pa_cons (pv 1) (pa_cons (pe_tup (pa_cons (pe_bty (by rfl) T.list bt_list) (pa_cons (pe_bty (by rfl) T.tuple bt_tuple) pa_nil))) pa_nil)))) pss_never pss_nil)
      (pss_cons (ps_if (PW.pt (pw_or (pt_cmpR op_isN (pv 0) pe_non (nomark _)) (pw_or1 (pt_cmpR op_isN (pv 1) pe_non (nomark _))))) (pss_one (ps_ret (pe_and (pe_cmpR op_isN (pv 0) pe_non (nomark _)) (pe_one (pe_cmpR op_isN (pv 1) pe_non (nomark _)))))) pss_nil)
      (pss_cons (ps_if (PW.pt (pw_or (pt_cmpR op_ne (pe_callB (k_isi K) (by rfl) T.isinstance bt_isinstance (pa_cons (pv 0) (pa_cons (pe_bty (by rfl) T.bool bt_bool) pa_nil))) (pe_callB (k_isi K) (by rfl) T.isinstance bt_isinstance (pa_cons (pv 1) (pa_cons (pe_bty (by rfl) T.bool bt_bool) pa_nil))) (nomark _)) (pw_or1 (pt_cmpR op_ne (pe_callB (k_isi K) (by rfl) T.isinstance bt_isinstance (pa_cons (pv 0) (pa_cons (pe_bty (by rfl) T.int bt_int) pa_nil))) (pe_callB (k_isi K) (by rfl) T.isinstance bt_isinstance (pa_cons (pv 1) (pa_cons (pe_bty (by rfl) T.int bt_int) pa_nil))) (nomark _))))) (pss_one (ps_ret pe_bl)) pss_nil)
      (pss_one (ps_ret (pe_and (pe_cmpR op_eq (pe_callB (k_isi K) (by rfl) T.isinstance bt_isinstance (pa_cons (pv 0) (pa_cons (pe_bty (by rfl) T.str bt_str) pa_nil))) (pe_callB (k_isi K) (by rfl) T.isinstance bt_isinstance (pa_cons (pv 1) (pa_cons (pe_bty (by rfl) T.str bt_str) pa_nil))) (nomark _)) (pe_one (pe_cmpR op_eq (pv 0) (pv 1) (nomark _))))))))), ?_⟩
  obtain ⟨B, t, hB, rfl, fl, q⟩ := h
  obtain ⟨b1, b2, b3, k1, k2, k3, k4⟩ := fl.kit (K := K)
  refine ⟨_, rfl, (by show 2 ≤ sizeLine; decide), fun tp htp => ⟨_, tp, _, _, _, false, rfl, upd_same, .cons (.ty _) (.cons (.ty _) .nil), fl.ty, k4, _, rfl, iteF ?_⟩⟩
  refine ⟨_, rfl, rfl, _, rfl, iteF' fl.no ⟨_, rfl, rfl, _, rfl, iteF' fl.no ?_⟩⟩
  refine ⟨_, rfl, _, _, _, _, b1, rfl, .ty _, fl.ty, k1, _, rfl, _, _, _, _, b1, rfl, .ty _, fl.ty, k1, rfl, _, rfl, iteF' (by simp) ?_⟩
  refine ⟨_, rfl, _, _, _, _, b2, rfl, .ty _, fl.ty, k2, _, rfl, _, _, _, _, b2, rfl, .ty _, fl.ty, k2, rfl, _, rfl, iteF' (by simp) ?_⟩
  refine ⟨_, rfl, _, _, _, _, b3, rfl, .ty _, fl.ty, k3, _, rfl, _, _, _, _, b3, rfl, .ty _, fl.ty, k3, rfl, _, rfl, iteT' (by simp) ?_⟩
  refine ⟨_, rfl, _, rfl, fl.scal, ?_⟩
  rw [decide_eq_true rfl]
  exact q B _ (Gr.new_ hB htp)
def spAlikeL : Sp := sp2 fun a b H Q => ∃ (B : Hp) (xs : List Str), ExW B H ∧ (rL rStr).rel B xs a ∧ (rL rStr).rel B xs b ∧ xs.length ≤ 1000 ∧ ∀ B' H', Gr [] B H B' H' → Q (.bl true) H'
/-! ### _law_alike -/
abbrev F__law_alikeL (P : Program) (w : World) (K : PySem.W.Frag) (mg : Str → Option Value) (base : Heap) : Prop := Fn P w K mg base CX0 2 "_law_alike" ["_law_left", "_law_right"] [] spAlikeL
abbrev N__law_alikeL : List Str := ["_law_left", "_law_right", "_law_k"]
theorem sc__law_alikeL : FnScope N__law_alikeL ["_law_left", "_law_right"] (defScope (top 101)) := ⟨rfl, rfl, rfl, by decide +kernel, rfl, by decide +kernel, by decide +kernel⟩
theorem ok__law_alikeL (T : TX K mg) (D : DefAt K mg "_law_alike" (top 101) [])  (c__law_alike0 : F__law_alike0 P w K mg base) : F__law_alikeL P w K mg base := by
  refine fn_ok D sc__law_alikeL (by decide +kernel) (fun _ _ _ _ _ _ us hl => match us, hl with | [_, _], _ => rfl) (fun vs H Q E h => len2 h) (fun f cdv A outer s H vs Q E hr h => ?_)
  have nd := sc__law_alikeL.nd
  obtain ⟨v0, v1, rfl, h⟩ := h
  refine ⟨_, (pss_cons (ps_if (pt_val (pe_callB (k_isiT K) (by rfl) T.isinstance bt_isinstance (pa_cons (pv 1) (pa_cons (pe_tup (pa_cons (pe_bty (by rfl) T.list bt_list) (pa_cons (pe_bty (by rfl) T.tuple bt_tuple) pa_nil))) pa_nil)))) (pss_cons (ps_if (PW.pt (pw_or (pt_not (pt_val (pe_callB (k_isiT K) (by rfl) T.isinstance bt_isinstance (pa_cons (pv 0) (pa_cons (pe_tup (pa_cons (pe_bty (by rfl) T.list bt_list) (pa_cons (pe_bty (by rfl) T.tuple bt_tuple) pa_nil))) pa_nil))))) (pw_or1 (pt_cmpR op_ne (pe_callB (k_isi K) (by rfl) T.isinstance bt_isinstance (pa_cons (pv 0) (pa_cons (pe_bty (by rfl) T.list bt_list) pa_nil))) (pe_callB (k_isi K) (by rfl) T.isinstance bt_isinstance (pa_cons (pv 1) (pa_cons (pe_bty (by rfl) T.list bt_list) pa_nil))) (nomark _))))) (pss_one (ps_ret pe_bl)) pss_nil)
      (pss_cons (ps_if (pt_cmpR op_ne (pe_callB (k_len K) (by rfl) T.len bt_len (pa_cons (pv 0) pa_nil)) (pe_callB (k_len K) (by rfl) T.len bt_len (pa_cons (pv 1) pa_nil)) (nomark _)) (pss_one (ps_ret pe_bl)) pss_nil)
      (pss_one (ps_ret (pe_cmpR op_eq (pe_callB (k_len K) (by rfl) T.len bt_len (pa_cons (pe_lc (own := [("_law_k", 2)]) rfl nd (pi_range1 (by rfl) T.range (pa_cons (pe_callB (k_len K) (by rfl) T.len bt_len (pa_cons (pv 1) pa_nil)) pa_nil)) (blkOk_by (own := [("_law_k", 2)]) (N := N__law_alikeL) (sc := defScope (top 101)) (by decide +kernel)) (fun _ _ _ _ _ => (pg_name (i := 2) nd rfl (Or.inl rfl))) (fun _ _ _ _ _ => (pts_one (pt_not (pt_val (pe_fn c__law_alike0 hr (by rfl) (pa_cons (pe_ix (kx_list K) (pv 0) (pv 2) (fun _ _ => rfl)) (pa_cons (pe_ix (kx_list K) (pv 1) (pv 2) (fun _ _ => rfl)) pa_nil))))))) (fun _ _ _ _ _ => (pv 2))) pa_nil)) pe_int (nomark _)))))) pss_nil)
      (pss_cons (ps_if (PW.pt (pw_or (pt_cmpR op_isN (pv 0) pe_non (nomark _)) (pw_or1 (pt_cmpR op_isN (pv 1) pe_non (nomark _))))) (pss_one (ps_ret (pe_and (pe_cmpR op_isN (pv 0) pe_non (nomark _)) (pe_one (pe_cmpR op_isN (pv 1) pe_non (nomark _)))))) pss_nil)
      (pss_cons (ps_if (PW.pt (pw_or (pt_cmpR op_ne (pe_callB (k_isi K) (by rfl) T.isinstance bt_isinstance (pa_cons (pv 0) (pa_cons (pe_bty (by rfl) T.bool bt_bool) pa_nil))) (pe_callB (k_isi K) (by rfl) T.isinstance bt_isinstance (pa_cons (pv 1) (pa_cons (pe_bty (by rfl) T.bool bt_bool) pa_nil))) (nomark _)) (pw_or1 (pt_cmpR op_ne (pe_callB (k_isi K) (by rfl) T.isinstance bt_isinstance (pa_cons (pv 0) (pa_cons (pe_bty (by rfl) T.int bt_int) pa_nil))) (pe_callB (k_isi K) (by rfl) T.isinstance bt_isinstance (pa_cons (pv 1) (pa_cons (pe_bty (by rfl) T.int bt_int) pa_nil))) (nomark _))))) (pss_one (ps_ret pe_bl)) pss_nil)
      (pss_one (ps_ret (pe_and (pe_cmpR op_eq (pe_callB (k_isi K) (by rfl) T.isinstance bt_isinstance (pa_cons (pv 0) (pa_cons (pe_bty (by rfl) T.str bt_str) pa_nil))) (pe_callB (k_isi K) (by rfl) T.isinstance bt_isinstance (pa_cons (pv 1) (pa_cons (pe_bty (by rfl) T.str bt_str) pa_nil))) (nomark _)) (pe_one (pe_cmpR op_eq (pv 0) (pv 1) (nomark _))))))))), ?_⟩
  obtain ⟨B, xs, hB, ha, hb, l1000, q⟩ := h
  obtain ⟨la, avs, rfl, hla, has⟩ := id ha
  obtain ⟨lb, bvs, rfl, hlb, hbs⟩ := id hb
  have e1 := strs_eq has
  have e2 := strs_eq hbs
  subst e1 e2
  have kL : PySem.W.kitAny K (.type "list") [.type "list", .type "tuple"] = some true := kitAny_cons (b := true) (kit_ty (by decide +kernel)) (fun z => nomatch z) (fun _ => rfl)
  have kl : PySem.W.kitOne K (.type "list") (.type "list") = some true := kit_ty (by decide +kernel)
  have ln : (xs.map V.str).length = xs.length := List.length_map _
  refine ⟨_, rfl, (by show 2 ≤ sizeLine; decide), fun tp htp => ?_⟩
  have g1 : Gr [] B H B (upd H tp (.tup [.ty "list", .ty "tuple"])) := Gr.new_ hB htp
  refine ⟨_, tp, _, _, _, true, rfl, upd_same, .cons (.ty _) (.cons (.ty _) .nil), .base (.lst (g1.sub.lst hlb)), kL, _, rfl, ite_tt ?_⟩
  refine ⟨_, rfl, (by show 2 ≤ sizeLine; decide), fun tq htq => ?_⟩
  have g2 := g1.trans (Gr.new_ (o := .tup [.ty "list", .ty "tuple"]) g1.sub htq)
  have sa := SqL.of (K := K) (g2.sub.lst hla)
  have sb := SqL.of (K := K) (g2.sub.lst hlb)
  refine ⟨_, tq, _, _, _, true, rfl, upd_same, .cons (.ty _) (.cons (.ty _) .nil), .base (.lst (g2.sub.lst hla)), kL, _, rfl, iteF' rfl ?_⟩
  refine ⟨_, rfl, _, _, _, _, true, rfl, .ty _, .base (.lst (g2.sub.lst hla)), kl, _, rfl, _, _, _, _, true, rfl, .ty _, .base (.lst (g2.sub.lst hlb)), kl, rfl, _, rfl, iteF' rfl ?_⟩
  refine ⟨_, rfl, la, _, rfl, .inl sa, _, rfl, lb, _, rfl, .inl sb, rfl, _, rfl, iteF' (by simp) ?_⟩
  refine ⟨_, rfl, lb, _, rfl, .inl sb, _, rfl, by omega, by omega, ?_⟩
  rw [Int.toNat_natCast, ln]
  refine fun D hD => lc_flt (ys := List.range xs.length) (Rs := rNat) (R := rNat) (fun _ => none) src_rng g2.sub hD (nats2 _) (by rw [List.length_map, List.length_range]; omega) (fun y x B3 H3 K1 K0 hy hx g3 k1 k0 => ?_) (fun B3 H3 g3 h3 => ?_)
  · obtain rfl : x = .int y := hx
    have hyn : y < xs.length := List.mem_range.mp hy
    have ey : (xs.map V.str)[y]? = some (V.str xs[y]) := by rw [List.getElem?_map, List.getElem?_eq_getElem hyn]; rfl
    refine ⟨_, rfl, _, rfl, la, _, _, _, rfl, rfl, SqL.of (g3.sub.lst (g3.up.lst hla)), atI_nat ey, _, rfl, _, rfl, lb, _, _, _, rfl, rfl, SqL.of (g3.sub.lst (g3.up.lst hlb)), atI_nat ey, _, _, rfl, B3, _, g3.sub, rfl, FlatE.str _, fun B4 H4 g4 => ⟨_, rfl, iteF' rfl (k0 _ _ rfl g4)⟩⟩
  · obtain ⟨vs, h0, hb, hh, hv⟩ := h3.at_
    have e : (List.range xs.length).filterMap (fun _ => (none : Option Nat)) = [] := by rw [List.filterMap_eq_nil_iff]; exact fun _ _ => rfl
    rw [e] at hv
    have e0 : vs = [] := by cases hv; rfl
    subst e0
    exact ⟨D, [], rfl, .inl (SqL.of hh), rfl, q _ _ (g2.trans g3)⟩
def spAlikeT : Sp := sp2 fun a b H Q => ∃ (B : Hp) (xs : List Int), ExW B H ∧ (rTU rInt).rel B xs a ∧ (rTU rInt).rel B xs b ∧ xs.length ≤ 1000 ∧ ∀ B' H', Gr [] B H B' H' → Q (.bl true) H'
/-! ### _law_alike -/
abbrev F__law_alikeT (P : Program) (w : World) (K : PySem.W.Frag) (mg : Str → Option Value) (base : Heap) : Prop := Fn P w K mg base CX0 2 "_law_alike" ["_law_left", "_law_right"] [] spAlikeT
abbrev N__law_alikeT : List Str := ["_law_left", "_law_right", "_law_k"]
theorem sc__law_alikeT : FnScope N__law_alikeT ["_law_left", "_law_right"] (defScope (top 101)) := ⟨rfl, rfl, rfl, by decide +kernel, rfl, by decide +kernel, by decide +kernel⟩
theorem ok__law_alikeT (T : TX K mg) (D : DefAt K mg "_law_alike" (top 101) [])  (c__law_alike0 : F__law_alike0 P w K mg base) : F__law_alikeT P w K mg base := by
  refine fn_ok D sc__law_alikeT (by decide +kernel) (fun _ _ _ _ _ _ us hl => match us, hl with | [_, _], _ => rfl) (fun vs H Q E h => len2 h) (fun f cdv A outer s H vs Q E hr h => ?_)
  have nd := sc__law_alikeT.nd
  obtain ⟨v0, v1, rfl, h⟩ := h
  refine ⟨_, (pss_cons (ps_if (pt_val (pe_callB (k_isiT K) (by rfl) T.isinstance bt_isinstance (pa_cons (pv 1) (pa_cons (pe_tup (pa_cons (pe_bty (by rfl) T.list bt_list) (pa_cons (pe_bty (by rfl) T.tuple bt_tuple) pa_nil))) pa_nil)))) (pss_cons (ps_if (PW.pt (pw_or (pt_not (pt_val (pe_callB (k_isiT K) (by rfl) T.isinstance bt_isinstance (pa_cons (pv 0) (pa_cons (pe_tup (pa_cons (pe_bty (by rfl) T.list bt_list) (pa_cons (pe_bty (by rfl) T.tuple bt_tuple) pa_nil))) pa_nil))))) (pw_or1 (pt_cmpR op_ne (pe_callB (k_isi K) (by rfl) T.isinstance bt_isinstance (pa_cons (pv 0) (pa_cons (pe_bty (by rfl) T.list bt_list) pa_nil))) (pe_callB (k_isi K) (by rfl) T.isinstance bt_isinstance (pa_cons (pv 1) (pa_cons (pe_bty (by rfl) T.list bt_list) pa_nil))) (nomark _))))) (pss_one (ps_ret pe_bl)) pss_nil)
      (pss_cons (ps_if (pt_cmpR op_ne (pe_callB (k_len K) (by rfl) T.len bt_len (pa_cons (pv 0) pa_nil)) (pe_callB (k_len K) (by rfl) T.len bt_len (pa_cons (pv 1) pa_nil)) (nomark _)) (pss_one (ps_ret pe_bl)) pss_nil)
      (pss_one (ps_ret (pe_cmpR op_eq (pe_callB (k_len K) (by rfl) T.len bt_len (pa_cons (pe_lc (own := [("_law_k", 2)]) rfl nd (pi_range1 (by rfl) T.range (pa_cons (pe_callB (k_len K) (by rfl) T.len bt_len (pa_cons (pv 1) pa_nil)) pa_nil)) (blkOk_by (own := [("_law_k", 2)]) (N := N__law_alikeT) (sc := defScope (top 101)) (by decide +kernel)) (fun _ _ _ _ _ => (pg_name (i := 2) nd rfl (Or.inl rfl))) (fun _ _ _ _ _ => (pts_one (pt_not (pt_val (pe_fn c__law_alike0 hr (by rfl) (pa_cons (pe_ix (kx_tup K) (pv 0) (pv 2) (fun _ _ => rfl)) (pa_cons (pe_ix (kx_tup K) (pv 1) (pv 2) (fun _ _ => rfl)) pa_nil))))))) (fun _ _ _ _ _ => (pv 2))) pa_nil)) pe_int (nomark _)))))) pss_nil)
      (pss_cons (ps_if (PW.pt (pw_or (pt_cmpR op_isN (pv 0) pe_non (nomark _)) (pw_or1 (pt_cmpR op_isN (pv 1) pe_non (nomark _))))) (pss_one (ps_ret (pe_and (pe_cmpR op_isN (pv 0) pe_non (nomark _)) (pe_one (pe_cmpR op_isN (pv 1) pe_non (nomark _)))))) pss_nil)
      (pss_cons (ps_if (PW.pt (pw_or (pt_cmpR op_ne (pe_callB (k_isi K) (by rfl) T.isinstance bt_isinstance (pa_cons (pv 0) (pa_cons (pe_bty (by rfl) T.bool bt_bool) pa_nil))) (pe_callB (k_isi K) (by rfl) T.isinstance bt_isinstance (pa_cons (pv 1) (pa_cons (pe_bty (by rfl) T.bool bt_bool) pa_nil))) (nomark _)) (pw_or1 (pt_cmpR op_ne (pe_callB (k_isi K) (by rfl) T.isinstance bt_isinstance (pa_cons (pv 0) (pa_cons (pe_bty (by rfl) T.int bt_int) pa_nil))) (pe_callB (k_isi K) (by rfl) T.isinstance bt_isinstance (pa_cons (pv 1) (pa_cons (pe_bty (by rfl) T.int bt_int) pa_nil))) (nomark _))))) (pss_one (ps_ret pe_bl)) pss_nil)
      (pss_one (ps_ret (pe_and (pe_cmpR op_eq (pe_callB (k_isi K) (by rfl) T.isinstance bt_isinstance (pa_cons (pv 0) (pa_cons (pe_bty (by rfl) T.str bt_str) pa_nil))) (pe_callB (k_isi K) (by rfl) T.isinstance bt_isinstance (pa_cons (pv 1) (pa_cons (pe_bty (by rfl) T.str bt_str) pa_nil))) (nomark _)) (pe_one (pe_cmpR op_eq (pv 0) (pv 1) (nomark _))))))))), ?_⟩
  obtain ⟨B, xs, hB, ha, hb, l1000, q⟩ := h
  obtain ⟨la, avs, rfl, hla, has⟩ := id ha
  obtain ⟨lb, bvs, rfl, hlb, hbs⟩ := id hb
  have e1 := ints_eq has
  have e2 := ints_eq hbs
  subst e1 e2
  have kL : PySem.W.kitAny K (.type "tuple") [.type "list", .type "tuple"] = some true := kitAny_cons (b := false) (kit_ty (by decide +kernel)) (fun _ => kitAny_cons (b := true) (kit_ty (by decide +kernel)) (fun z => nomatch z) (fun _ => rfl)) (fun z => nomatch z)
  have kl : PySem.W.kitOne K (.type "tuple") (.type "list") = some false := kit_ty (by decide +kernel)
  have ln : (xs.map V.int).length = xs.length := List.length_map _
  refine ⟨_, rfl, (by show 2 ≤ sizeLine; decide), fun tp htp => ?_⟩
  have g1 : Gr [] B H B (upd H tp (.tup [.ty "list", .ty "tuple"])) := Gr.new_ hB htp
  refine ⟨_, tp, _, _, _, true, rfl, upd_same, .cons (.ty _) (.cons (.ty _) .nil), .base (.tup (g1.sub.tup hlb)), kL, _, rfl, ite_tt ?_⟩
  refine ⟨_, rfl, (by show 2 ≤ sizeLine; decide), fun tq htq => ?_⟩
  have g2 := g1.trans (Gr.new_ (o := .tup [.ty "list", .ty "tuple"]) g1.sub htq)
  have sa := SqT.of (K := K) (g2.sub.tup hla)
  have sb := SqT.of (K := K) (g2.sub.tup hlb)
  refine ⟨_, tq, _, _, _, true, rfl, upd_same, .cons (.ty _) (.cons (.ty _) .nil), .base (.tup (g2.sub.tup hla)), kL, _, rfl, iteF' rfl ?_⟩
  refine ⟨_, rfl, _, _, _, _, false, rfl, .ty _, .base (.tup (g2.sub.tup hla)), kl, _, rfl, _, _, _, _, false, rfl, .ty _, .base (.tup (g2.sub.tup hlb)), kl, rfl, _, rfl, iteF' rfl ?_⟩
  refine ⟨_, rfl, la, _, rfl, .inr sa, _, rfl, lb, _, rfl, .inr sb, rfl, _, rfl, iteF' (by simp) ?_⟩
  refine ⟨_, rfl, lb, _, rfl, .inr sb, _, rfl, by omega, by omega, ?_⟩
  rw [Int.toNat_natCast, ln]
  refine fun D hD => lc_flt (ys := List.range xs.length) (Rs := rNat) (R := rNat) (fun _ => none) src_rng g2.sub hD (nats2 _) (by rw [List.length_map, List.length_range]; omega) (fun y x B3 H3 K1 K0 hy hx g3 k1 k0 => ?_) (fun B3 H3 g3 h3 => ?_)
  · obtain rfl : x = .int y := hx
    have hyn : y < xs.length := List.mem_range.mp hy
    have ey : (xs.map V.int)[y]? = some (V.int xs[y]) := by rw [List.getElem?_map, List.getElem?_eq_getElem hyn]; rfl
    refine ⟨_, rfl, _, rfl, la, _, _, _, rfl, rfl, SqT.of (g3.sub.tup (g3.up.tup hla)), atI_nat ey, _, rfl, _, rfl, lb, _, _, _, rfl, rfl, SqT.of (g3.sub.tup (g3.up.tup hlb)), atI_nat ey, _, _, rfl, B3, _, g3.sub, rfl, FlatE.int _, fun B4 H4 g4 => ⟨_, rfl, iteF' rfl (k0 _ _ rfl g4)⟩⟩
  · obtain ⟨vs, h0, hb, hh, hv⟩ := h3.at_
    have e : (List.range xs.length).filterMap (fun _ => (none : Option Nat)) = [] := by rw [List.filterMap_eq_nil_iff]; exact fun _ _ => rfl
    rw [e] at hv
    have e0 : vs = [] := by cases hv; rfl
    subst e0
    exact ⟨D, [], rfl, .inl (SqL.of hh), rfl, q _ _ (g2.trans g3)⟩
end
end OB

/-! ## QI -/
set_option maxHeartbeats 4000000
namespace OB
open PySem PySem.Spec PyProof.Rows L2
section
variable {P : Program} {w : World} {K : PySem.W.Frag} {mg : Str → Option Value} {base : Heap}
def spLWish : Sp := sp3 fun a b c H Q => ∃ (B : Hp) (st : Addr) (p : Plan) (ps : List Str) (S : Str → Int), ExW B H ∧ Store B H st ∧ a = .ref st ∧ rPlan.rel B p b ∧ RowsOk p.ls p.bs ∧ LadOk p.pool ∧ (rD rInt).rel B (glow ps S) c ∧ ps.Perm p.net.names ∧ (∀ x, isN (S x) = true) ∧
  ∀ (ys : List Str) (A : Str → Int), WishOk p.net ys A → RetD (rD rInt) (glow ys A) B H st Q
/-! ### _law_wish -/
abbrev F__law_wish (P : Program) (w : World) (K : PySem.W.Frag) (mg : Str → Option Value) (base : Heap) : Prop := Fn P w K mg base CX0 5 "_law_wish" ["_law_store_here", "_law_plan", "_law_glow"] [] spLWish
abbrev N__law_wish : List Str := ["_law_store_here", "_law_plan", "_law_glow", "_law_posts_here", "_law_goal", "_law_turn", "_law_post", "_law_near", "_law_aims"]
theorem sc__law_wish : FnScope N__law_wish ["_law_store_here", "_law_plan", "_law_glow"] (defScope (top 105)) := ⟨rfl, rfl, rfl, by decide +kernel, rfl, by decide +kernel, by decide +kernel⟩
theorem ok__law_wish (T : TX K mg) (D : DefAt K mg "_law_wish" (top 105) []) (c__law_posts : F__law_posts P w K mg base) (c__law_raised : F__law_raised P w K mg base) (c__law_take : F__law_take P w K mg base) (c__law_pick : F__law_pick P w K mg base) (c__law_shuffled : F__law_shuffled P w K mg base) (c__law_some : F__law_some P w K mg base)  : F__law_wish P w K mg base := by
  refine fn_ok D sc__law_wish (by decide +kernel) (fun _ _ _ _ _ _ us hl => match us, hl with | [_, _, _], _ => rfl) (fun vs H Q E h => len3 h) (fun f cdv A outer s H vs Q E hr h => ?_)
  have nd := sc__law_wish.nd
  obtain ⟨v0, v1, v2, rfl, h⟩ := h
  refine ⟨_, (pss_cons (ps_set (i := 3) nd rfl (Or.inl rfl) (pe_fn c__law_posts hr (by rfl) (pa_cons (pv 1) pa_nil)))
      (pss_cons (ps_set (i := 4) nd rfl (Or.inl rfl) (pe_fn c__law_raised hr (by rfl) (pa_cons (pv 0) (pa_cons (pv 1) (pa_cons (pv 2) pa_nil)))))
      (pss_cons (ps_for PassesOwn.never rfl (pi_range1 (by rfl) T.range (pa_cons (pe_ix (kx_list K) (pe_lst (pa_cons pe_int (pa_cons pe_int (pa_cons pe_int (pa_cons pe_int pa_nil))))) (pe_fn c__law_take hr (by rfl) (pa_cons (pv 0) (pa_cons pe_int pa_nil))) (fun _ _ => rfl)) pa_nil)) (pg_name (i := 5) nd rfl (Or.inl rfl))
      (pss_cons (ps_set (i := 6) nd rfl (Or.inl rfl) (pe_fn c__law_pick hr (by rfl) (pa_cons (pv 0) (pa_cons (pv 3) pa_nil))))
      (pss_cons (ps_set (i := 7) nd rfl (Or.inl rfl) (pe_fn c__law_pick hr (by rfl) (pa_cons (pv 0) (pa_cons (pe_lst (pa_cons (pe_op op_sub (pe_dget (hu_of hr) (pv 4) (pv 6) (fun _ _ => rfl)) pe_int) (pa_cons (pe_op op_add (pe_dget (hu_of hr) (pv 4) (pv 6) (fun _ _ => rfl)) pe_int) (pa_cons (pe_fn c__law_pick hr (by rfl) (pa_cons (pv 0) (pa_cons (pe_ix (kx_list K) (pv 1) pe_int (fun _ _ => rfl)) pa_nil))) pa_nil)))) pa_nil))))
      (pss_one (ps_dput (hu_of hr) (pv 4) (pv 6) (pe_callB (call_max2 rfl) (by rfl) T.max bt_max (pa_cons (pe_un un_neg (pe_op op_pow pe_int pe_int)) (pa_cons (pe_callB (call_min2 rfl) (by rfl) T.min bt_min (pa_cons (pe_op op_pow pe_int pe_int) (pa_cons (pv 7) pa_nil))) pa_nil))) rfl)))))
      (pss_cons (ps_set (i := 8) nd rfl (Or.inl rfl) pe_dnewK)
      (pss_cons (ps_for PassesOwn.never rfl (kp_list K (pe_fn c__law_shuffled hr (by rfl) (pa_cons (pv 0) (pa_cons (pe_fn c__law_some hr (by rfl) (pa_cons (pv 0) (pa_cons (pv 3) pa_nil))) pa_nil)))) (pg_name (i := 6) nd rfl (Or.inl rfl))
      (pss_one (ps_dput (hu_of hr) (pv 8) (pv 6) (pe_dget (hu_of hr) (pv 4) (pv 6) (fun _ _ => rfl)) rfl)))
      (pss_one (ps_ret (pv 8)))))))), ?_⟩
  obtain ⟨B, st, p, ps, S, hB, sto, rfl, hp, ok, lad, hl, perm, hS, q⟩ := h
  have okn : p.net.Ok := netOf_ok ok
  have l10 := okn.lt10
  have ndp : ps.Nodup := perm.symm.nodup okn.nd
  have l64 : ps.length < 64 := by rw [perm.length_eq]; exact okn.lt
  obtain ⟨pa, u1, u2, u3, rfl, hpa, hp1, hp2, hp3⟩ := id hp
  obtain ⟨pl, pvs, rfl, hpl, hpvs⟩ := id hp3
  have epv := ints_eq hpvs
  subst epv
  refine ⟨_, rfl, _, rfl, B, p, hB, hp, ok, fun B1 H1 pv g1 hpv => ?_⟩
  obtain ⟨l, lvs, rfl, hlv, hlvs⟩ := id hpv
  have elv := strs_eq hlvs
  subst elv
  refine ⟨_, rfl, _, rfl, _, rfl, _, _, _, rfl, B1, st, p, ps, S, g1.sub, sto.keep0 g1, rfl, Rp.mono _ g1.up hp, ok, lad, Rp.mono _ g1.up hl, perm, hS, fun U hU B2 H2 d g2 s2 hd => ?_⟩
  obtain ⟨gkvs, hd0, bd2, hd2, hdk⟩ := hd.at_
  refine ⟨(by show 4 ≤ sizeLine; decide), fun t ht => ?_⟩
  have dst : d ≠ st := fun z => (sto.keep0 g1).ne hd0 z.symm
  have gt := Gr.newP (S := [st]) (o := .lst [.int 0, .int 1, .int 0, .int 2]) g2.sub ht
  have bd3 := gt.new d bd2 (by rw [hd2]; exact fun z => nomatch z)
  have d3 := gt.keep d _ (by simp [dst]) bd2 hd2
  have s3 : Store (upd B2 t (.lst [.int 0, .int 1, .int 0, .int 2])) (upd H2 t (.lst [.int 0, .int 1, .int 0, .int 2])) st := (s2.aside (s2.ne ht)).pub (s2.ne ht) (g2.sub.none ht)
  have k3 : (upd B2 t (.lst [.int 0, .int 1, .int 0, .int 2])) t = some (.lst [.int 0, .int 1, .int 0, .int 2]) := upd_same
  have hdk3 := DAll.mono gt.up hdk
  have G3 := (g1.any.trans g2).trans gt
  generalize upd B2 t (.lst [.int 0, .int 1, .int 0, .int 2]) = B3 at *
  generalize upd H2 t (.lst [.int 0, .int 1, .int 0, .int 2]) = H3 at *
  refine ⟨_, rfl, _, _, rfl, B3, st, 4, G3.sub, s3, rfl, rfl, by decide, fun H4 r g4 s4 r0 r1 => ?_⟩
  have m4 : max1 4 = 4 := by decide
  rw [m4] at r1
  obtain ⟨r, rfl⟩ := Int.eq_ofNat_of_zero_le r0
  obtain ⟨n, hn, hn2⟩ : ∃ n : Nat, [V.int 0, V.int 1, V.int 0, V.int 2][r]? = some (.int n) ∧ n ≤ 2 := by
    rcases r with _ | _ | _ | _ | r
    · exact ⟨0, rfl, by omega⟩
    · exact ⟨1, rfl, by omega⟩
    · exact ⟨0, rfl, by omega⟩
    · exact ⟨2, rfl, by omega⟩
    · omega
  have G4 := G3.trans g4
  refine ⟨t, _, _, _, rfl, rfl, SqL.of (g4.sub.lst k3), atI_nat hn, n, rfl, by omega, by omega, ?_⟩
  rw [Int.toNat_natCast]
  have d4 : H4 d = some (.dK gkvs) := g4.keep d _ (by simp [dst]) bd3 d3
  have pne : p.net.names ≠ [] := fun z => by
    have h2 : (netOf p.ls p.bs).lamps.length = p.ls.length := netOf_lamps.length_eq
    have h3 : p.net.names.length = (netOf p.ls p.bs).lamps.length := List.length_map _
    rw [z] at h3
    have h4 : (0 : Nat) = (netOf p.ls p.bs).lamps.length := h3
    have := ok.len
    omega
  have p12 : (10 : Int) ^ (12 : Int).toNat = 1000000000000 := by decide
  have cp : CPow 10 12 := ⟨by decide, by decide, by decide⟩
  have up03 : ExW B B3 := G3.up
  have up13 : ExW B1 B3 := g2.up.trans gt.up
  refine for_go (Rs := rNat) (fun i σ1 B5 H5 => (∃ z5 z6 z7 z8, σ1 = [some (.ref st), some (.ref pa), some v2, some (.ref l), some (.ref d), z5, z6, z7, z8]) ∧ Gr [d, st] B3 H4 B5 H5 ∧ Store B5 H5 st ∧ B5 d = none ∧ ∃ (U : Str → Int) (kvs : List (Key × V)), (∀ x, isN (U x) = true) ∧ H5 d = some (.dK kvs) ∧ DAll rInt B5 (glow ps U) kvs)
    src_rng (nats2 _) ⟨⟨_, _, _, _, rfl⟩, Gr.refl g4.sub, s4, bd3, U, gkvs, hU, d4, hdk3⟩ (fun i σ1 B1 H1 h => ⟨h.2.1.up, h.2.1.sub⟩) (fun i y x σ1 B5 H5 hy hx h => ?_) (fun σ1 B5 H5 h => ?_)
  · obtain ⟨⟨z5, z6, z7, z8, rfl⟩, g5, s5, b5, U, kvs5, hU, h5, a5⟩ := h
    have up5 : ExW B B5 := up03.trans g5.up
    have hl5 : B5 l = some (.lst (p.net.names.map V.str)) := (up13.trans g5.up).lst hlv
    refine ⟨_, rfl, _, rfl, _, _, rfl, B5, st, l, _, g5.sub, s5, rfl, rfl, hl5, fun z => pne (List.map_eq_nil_iff.mp z), by rw [List.length_map]; omega, fun H6 v mv g6 s6 => ?_⟩
    obtain ⟨u, hu, rfl⟩ := List.mem_map.mp mv
    have up : u ∈ ps := perm.mem_iff.mpr hu
    have h6 : H6 d = some (.dK kvs5) := g6.keep d _ (by simp [dst]) b5 h5
    obtain ⟨gu, hgu, eu⟩ := ownGet h6 a5 up
    obtain rfl : gu = .int (U u) := eu
    refine ⟨_, rfl, _, rfl, _, rfl, d, _, rfl, hgu, _, _, rfl, rfl, _, rfl, _, rfl, d, _, rfl, hgu, _, _, rfl, rfl, ?_⟩
    refine ⟨_, rfl, _, rfl, pa, _, _, _, rfl, rfl, SqL.of (g6.sub.lst (up5.lst hpa)), atI_nat (j := 2) rfl, _, _, rfl, B5, st, pl, _, g6.sub, s6, rfl, rfl, up5.lst hpl, fun z => lad.1 (List.map_eq_nil_iff.mp z), by rw [List.length_map]; have := lad.2.1; omega, fun H7 v mv g7 s7 => ?_⟩
    obtain ⟨q0, hq0, rfl⟩ := List.mem_map.mp mv
    refine ⟨(by show 3 ≤ sizeLine; decide), fun t2 ht2 => ?_⟩
    have gt2 := Gr.newP (S := [st]) (o := .lst [.int (U u - 1), .int (U u + 1), .int q0]) g7.sub ht2
    refine ⟨_, _, rfl, _, st, t2, _, gt2.sub, (s7.aside (s7.ne ht2)).pub (s7.ne ht2) (g7.sub.none ht2), rfl, rfl, upd_same, (fun z => nomatch z), (by show 3 < 2 ^ 63; decide), fun H8 v mv g8 s8 => ?_⟩
    obtain ⟨m, rfl⟩ : ∃ m : Int, v = .int m := by
      simp only [List.mem_cons, List.not_mem_nil, or_false] at mv
      rcases mv with h | h | h <;> exact ⟨_, h⟩
    have h8g := ((g6.trans g7).trans gt2).trans g8
    have h8 : H8 d = some (.dK kvs5) := h8g.keep d _ (by simp [dst]) b5 h5
    have b8 := h8g.new d b5 (by rw [h5]; exact fun z => nomatch z)
    have a8 := DAll.mono h8g.up a5
    refine ⟨_, _, rfl, rfl, cp, _, rfl, _, _, rfl, rfl, cp, _, rfl, _, _, rfl, _, _, rfl, _, rfl, _, rfl, d, _, rfl, DPut.k (k := Sum.inr u) h8 (own_lt a8 l64), ?_⟩
    rw [p12]
    generalize ec : (if (if m < 1000000000000 then m else 1000000000000) > -1000000000000 then (if m < 1000000000000 then m else 1000000000000) else (-1000000000000 : Int)) = c
    have hcN : isN c = true := by
      unfold isN
      simp only [Bool.and_eq_true, decide_eq_true_eq]
      rw [← ec]
      split <;> split <;> omega
    refine ⟨_, ⟨_, _, _, _, rfl⟩, g5.trans ((h8g.mono (by simp)).mut (.inr (by simp)) b8), s8.aside dst.symm, b8, fun x => if x = u then c else U x, _, fun x => ?_, upd_same, ?_⟩
    · show isN (if x = u then c else U x) = true
      split
      · exact hcN
      · exact hU x
    · exact DAll.set (S := U) (S' := fun x => if x = u then c else U x) (show V.int c = V.int (if u = u then c else U u) by rw [if_pos rfl]) (fun z hz => if_neg hz) ndp up a8
  · obtain ⟨⟨z5, z6, z7, z8, rfl⟩, g5, s5, b5, U, kvs5, hU, h5, a5⟩ := h
    have hd00 : H d = none := g1.was hd0
    have GA := G4.fresh hd00 g5
    have GP := GA.pub hd00 b5 h5
    have hG : (rD rInt).rel (upd B5 d (.dK kvs5)) (glow ps U) (.ref d) := ⟨d, kvs5, rfl, .inl upd_same, DAll.mono (ExW.new b5) a5⟩
    have s6 : Store (upd B5 d (.dK kvs5)) H5 st := s5.pub dst.symm b5
    have hN : (rL rStr).rel (upd B5 d (.dK kvs5)) p.net.names (.ref l) := Rp.mono _ ((up13.trans g5.up).trans (ExW.new b5)) hpv
    generalize upd B5 d (.dK kvs5) = B6 at *
    intro a ha
    have ga := Gr.new_ (S := [st]) (o := .dK []) GP.sub ha
    have sa := s6.aside (o := .dK []) (s6.ne ha)
    have hsa := s6.ne ha
    have ba := GP.sub.none ha
    refine ⟨_, rfl, _, rfl, _, rfl, _, _, rfl, B6, st, _, ga.sub, sa, rfl, hN, by omega, fun ys ysub B7 H7 v g7 s7 hv => ?_⟩
    refine ⟨_, _, rfl, B7, st, ys, g7.sub, s7, rfl, hv, by have := ysub.length_le; omega, fun zs zperm B8 H8 v g8 s8 hz => ?_⟩
    obtain ⟨zl, zvs, rfl, hzl, hzs⟩ := id hz
    have g68 := g7.trans g8
    have a8 : H8 a = some (.dK []) := g68.keep a _ (by simp [hsa.symm]) ba upd_same
    have ba8 := g68.new a ba (by rw [upd_same]; exact fun z => nomatch z)
    have zin : ∀ x ∈ zs, x ∈ p.net.names := fun x hx => ysub.subset (zperm.mem_iff.mp hx)
    have znd : zs.Nodup := zperm.symm.nodup (ysub.nodup okn.nd)
    refine ⟨zl, rfl, ⟨_, SqL.of (g8.sub.lst hzl)⟩, for_go (Rs := rStr) (fun i σ1 B9 H9 => (∃ z6, σ1 = [some (.ref st), some (.ref pa), some v2, some (.ref l), some (.ref d), z5, z6, z7, some (.ref a)]) ∧ Gr [a, st] B8 H8 B9 H9 ∧ Store B9 H9 st ∧ B9 a = none ∧ ∃ (kvs : List (Key × V)), H9 a = some (.dK kvs) ∧ DAll rInt B9 (glow (zs.take i) U) kvs)
      (src_list hzl) hzs ⟨⟨_, rfl⟩, Gr.refl g8.sub, s8, ba8, [], a8, .nil⟩ (fun i σ1 B1 H1 h => ⟨h.2.1.up, h.2.1.sub⟩) (fun i y x σ1 B9 H9 hy hx h => ?_) (fun σ1 B9 H9 h => ?_)⟩
    · obtain ⟨⟨z6, rfl⟩, g9, s9, ba9, kvs9, h9, a9⟩ := h
      obtain rfl : x = .str y := hx
      have yp : y ∈ ps := perm.mem_iff.mpr (zin y (List.mem_of_getElem? hy))
      have hdg := dgl2 (Rp.mono _ (g68.up.trans g9.up) hG) g9.sub yp
      have lk : kvs9.length < sizeLine := by
        have e := a9.len
        rw [List.length_map, List.length_take] at e
        have := zperm.length_eq
        have := ysub.length_le
        exact Nat.lt_trans (m := 64) (by omega) (by decide)
      refine ⟨_, rfl, _, rfl, d, _, rfl, hdg, _, rfl, _, rfl, a, _, rfl, DPut.k (k := Sum.inr y) h9 lk, B9, ⟨_, rfl⟩, g9.mut (.inr (by simp)) ba9, s9.aside hsa, ba9, _, upd_same, ?_⟩
      rw [take_snoc hy, show glow (zs.take i ++ [y]) U = glow (zs.take i) U ++ [(y, U y)] from List.map_append]
      refine a9.new ?_ rfl
      rw [List.map_map]
      show ¬ y ∈ (zs.take i).map id
      rw [List.map_id]
      exact nd_take znd hy
    · obtain ⟨⟨z6, rfl⟩, g9, s9, ba9, kvs9, h9, a9⟩ := h
      rw [List.take_length] at a9
      have ha0 : H a = none := GP.was ha
      have GB : Gr [st] B H B9 H9 := ((GP.trans ga).trans g68).fresh ha0 g9
      exact ⟨_, rfl, q zs U ⟨znd, zin, fun x _ => hU x⟩ _ H9 _ (GB.pub ha0 ba9 h9) (s9.pub hsa ba9) ⟨a, kvs9, rfl, .inl upd_same, DAll.mono (ExW.new ba9) a9⟩⟩
end
end OB

/-! ## QJ -/
set_option maxHeartbeats 4000000
namespace OB
open PySem PySem.Spec PyProof.Rows L2
/-- a list comprehension that draws -/
theorem lc_st {α β : Type} {st : Addr} {J : It} {B H : Hp} {xs : List V} {D : Addr} {ys : List β} {Rs : Rp β} {R : Rp α} (Pk : β → α → Prop) {Qd : Hp → Prop} {te : TE} {j : Nat} {σ : L2.St} {vs : List Nat}
    (hs : Src J B xs) (hB : ExW B H) (sto : Store B H st) (hD : H D = none) (hys : All2 (Rs.rel B) ys xs) (hz : xs.length ≤ 100000)
    (turn : ∀ (y : β) (x : V) (B1 H1 : Hp) (K1 : VK), y ∈ ys → Rs.rel B1 y x → Gr [st] B H B1 H1 → Store B1 H1 st →
      (∀ r z B2 H2, Pk y r → Gr [st] B1 H1 B2 H2 → Store B2 H2 st → R.rel B2 r z → K1 z H2) → te ((wipe σ vs).set j (some x)) H1 K1)
    (fin : ∀ rs B' H', Gr [st] B H B' H' → Store B' H' st → Paired Pk ys rs → NewL R rs H B' H' (.ref D) → Qd H') (hv : vs = [j] := by rfl) :
    ∃ W : Nat → Nat → Hp → Prop, (∃ m, W 0 m (upd H D (.lst []))) ∧ ∀ i m H, W i m H →
      (J.stop i H ∧ Qd H) ∨ (J.go i H ∧ ∃ Nx : Hp → Prop, (∀ H', Nx H' → ∃ m', m' < m ∧ W (i + 1) m' H') ∧ ∀ x H', J.yld i H x H' → gName j x (wipe σ vs) H' fun σ2 H2 => wipe σ2 vs = wipe σ vs ∧ tYes σ2 H2 fun b H3 =>
        if b = true then te σ2 H3 fun y H4 => ∃ acc, H4 D = some (.lst acc) ∧ acc.length < sizeLine ∧ Nx (upd H4 D (.lst (acc ++ [y]))) else Nx H3) := by
  subst hv
  have hDS : D ∉ [st] := by simp [(sto.ne hD).symm]
  have nsD := sto.ne hD
  refine ⟨fun i m H1 => m = xs.length - i ∧ i ≤ xs.length ∧ ∃ B1 zs rs, Gr [st] B H B1 H1 ∧ Store B1 H1 st ∧ B1 D = none ∧ H1 D = some (.lst zs) ∧ Paired Pk (ys.take i) rs ∧ All2 (R.rel B1) rs zs, ⟨xs.length, by simp, Nat.zero_le _, B, [], [], Gr.new_ hB hD, sto.aside nsD, hB.none hD, upd_same, .nil, .nil⟩, ?_⟩
  rintro i m H1 ⟨rfl, hi, B1, zs, rs, g1, s1, b1, d1, p1, a1⟩
  obtain ⟨sg, sy, ss⟩ := hs B1 H1 g1.up g1.sub i
  by_cases hlt : i < xs.length
  · refine .inr ⟨sg hlt, fun H' => ∃ B2 zs2 rs2, Gr [st] B H B2 H' ∧ Store B2 H' st ∧ B2 D = none ∧ H' D = some (.lst zs2) ∧ Paired Pk (ys.take (i + 1)) rs2 ∧ All2 (R.rel B2) rs2 zs2, fun H' p => ⟨xs.length - (i + 1), by omega, rfl, hlt, p⟩, fun x H' hy => ?_⟩
    obtain ⟨rfl, hx⟩ := sy x H' hy
    obtain ⟨y, e1, r1⟩ := hys.at_ (hx hlt)
    have hym : y ∈ ys := List.mem_of_getElem? e1
    have et : ys.take (i + 1) = ys.take i ++ [y] := by rw [List.take_succ, e1]; rfl
    have zl : zs.length ≤ i := by
      rw [← a1.len, ← p1.length, List.length_take]
      exact Nat.min_le_left _ _
    refine ⟨wipe1, ite_tt (B := ∃ B2 zs2 rs2, Gr [st] B H B2 H' ∧ Store B2 H' st ∧ B2 D = none ∧ H' D = some (.lst zs2) ∧ Paired Pk (ys.take (i + 1)) rs2 ∧ All2 (R.rel B2) rs2 zs2) (turn y x B1 H' _ hym (Rs.mono g1.up r1) g1 s1 (fun r z B2 H2 hp g2 s2 rz => ?_))⟩
    have d2 : H2 D = some (.lst zs) := g2.keep D _ hDS b1 d1
    have b2 : B2 D = none := g2.new D b1 (by rw [d1]; exact fun z => nomatch z)
    refine ⟨zs, d2, Nat.lt_of_le_of_lt (Nat.le_trans zl (by omega : i ≤ 100000)) (by decide), B2, zs ++ [z], rs ++ [r], (g1.trans g2).mut (.inl hD) b2, s2.aside nsD, b2, upd_same, ?_, (All2.mono g2.up a1).snoc rz⟩
    rw [et]
    exact All2.snoc (R := Pk) p1 hp
  · have e : i = xs.length := by omega
    subst e
    rw [← hys.len, List.take_length] at p1
    exact .inl ⟨ss (Nat.le_refl _), fin rs B1 H1 g1 s1 p1 ⟨D, zs, rfl, hD, b1, d1, a1⟩⟩
theorem nodes_rows {xs : List Str} {rs : List (Str × Option Int)} (pk : Paired (fun (y : Str) (r : Str × Option Int) => r.1 = y ∧ isE r.2 = true) xs rs) : rs.map (·.1) = xs ∧ ∀ r ∈ rs, isE r.2 = true := by
  induction pk with
  | nil => exact ⟨rfl, fun r h => nomatch h⟩
  | cons h _ ih =>
    refine ⟨by rw [List.map_cons, ih.1, h.1], fun r hr => ?_⟩
    rcases List.mem_cons.mp hr with rfl | hr
    · exact h.2
    · exact ih.2 r hr
theorem max1_of {m : Int} (h : 1 ≤ m) : max1 m = m := by unfold max1; split <;> omega
theorem other_of {a b many : Nat} (h1 : 1 ≤ many) (ha : a < many) (hb : (b : Int) < max1 ((many : Int) - 1)) : ∃ o : Nat, ((a : Int) + 1 + (b : Int)) % (many : Int) = (o : Int) ∧ o < many ∧ (1 < many → a ≠ o) := by
  refine ⟨(a + 1 + b) % many, ?_, Nat.mod_lt _ h1, fun h => ?_⟩
  · rfl
  · rw [max1_of (by omega)] at hb
    have hb : b < many - 1 := by omega
    by_cases l : a + 1 + b < many
    · rw [Nat.mod_eq_of_lt l]; omega
    · rw [Nat.mod_eq_sub_mod (by omega), Nat.mod_eq_of_lt (by omega)]; omega
section
variable {P : Program} {w : World} {K : PySem.W.Frag} {mg : Str → Option Value} {base : Heap}
def spLDrawn : Sp := sp2 fun a b H Q => ∃ (B : Hp) (st : Addr), ExW B H ∧ Store B H st ∧ a = .ref st ∧ b = .int 7 ∧
  ∀ (p : Plan) (ps : List Str) (S : Str → Int), RowsOk p.ls p.bs → LadOk p.pool → p.ls.length ≤ 7 → ps.Perm p.net.names → (∀ x, isN (S x) = true) →
    ∀ B' H' m pv gv, Gr [st] B H B' H' → Store B' H' st → B' m = some (.lst [pv, gv]) → rPlan.rel B' p pv → (rD rInt).rel B' (glow ps S) gv → Q (.ref m) H'
/-! ### _law_drawn -/
abbrev F__law_drawn (P : Program) (w : World) (K : PySem.W.Frag) (mg : Str → Option Value) (base : Heap) : Prop := Fn P w K mg base CX0 5 "_law_drawn" ["_law_store_here", "_law_most"] [] spLDrawn
abbrev N__law_drawn : List Str := ["_law_store_here", "_law_most", "_law_pool", "_law_many", "_law_posts_here", "_law_labels", "_law_nodes", "_law_glow", "_law_post", "_law_edges", "_law_chain", "_law_k", "_law_one", "_law_other", "_law_ends"]
theorem sc__law_drawn : FnScope N__law_drawn ["_law_store_here", "_law_most"] (defScope (top 100)) := ⟨rfl, rfl, rfl, by decide +kernel, rfl, by decide +kernel, by decide +kernel⟩
theorem ok__law_drawn (T : TX K mg) (D : DefAt K mg "_law_drawn" (top 100) []) (c__law_ladder : F__law_ladder P w K mg base) (c__law_take : F__law_take P w K mg base) (c__law_tags : F__law_tags P w K mg base) (c__law_pick : F__law_pick P w K mg base) (c__law_gates : F__law_gates P w K mg base)  : F__law_drawn P w K mg base := by
  refine fn_ok D sc__law_drawn (by decide +kernel) (fun _ _ _ _ _ _ us hl => match us, hl with | [_, _], _ => rfl) (fun vs H Q E h => len2 h) (fun f cdv A outer s H vs Q E hr h => ?_)
  have nd := sc__law_drawn.nd
  obtain ⟨v0, v1, rfl, h⟩ := h
  refine ⟨_, (pss_cons (ps_set (i := 2) nd rfl (Or.inr rfl) (pe_fn c__law_ladder hr (by rfl) (pa_cons (pv 0) pa_nil)))
      (pss_cons (ps_set (i := 3) nd rfl (Or.inl rfl) (pe_callB (call_min2 rfl) (by rfl) T.min bt_min (pa_cons (pv 1) (pa_cons (pe_ix (kx_list K) (pe_lst (pa_cons pe_int (pa_cons pe_int (pa_cons pe_int (pa_cons pe_int (pa_cons pe_int (pa_cons pe_int (pa_cons pe_int (pa_cons pe_int (pa_cons pe_int (pa_cons pe_int pa_nil))))))))))) (pe_fn c__law_take hr (by rfl) (pa_cons (pv 0) (pa_cons pe_int pa_nil))) (fun _ _ => rfl)) pa_nil))))
      (pss_cons (ps_set (i := 4) nd rfl (Or.inl rfl) (pe_fn c__law_tags hr (by rfl) (pa_cons (pv 0) (pa_cons (pv 3) pa_nil))))
      (pss_cons (ps_set (i := 5) nd rfl (Or.inl rfl) (pe_fn c__law_tags hr (by rfl) (pa_cons (pv 0) (pa_cons (pe_ix (kx_list K) (pe_lst (pa_cons (pv 3) (pa_cons (pe_op op_add (pv 3) pe_int) (pa_cons (pe_op op_add (pv 3) pe_int) (pa_cons (pe_op op_sub (pv 3) pe_int) (pa_cons (pv 3) (pa_cons (pe_op op_add (pv 3) pe_int) (pa_cons pe_int (pa_cons pe_int pa_nil))))))))) (pe_fn c__law_take hr (by rfl) (pa_cons (pv 0) (pa_cons pe_int pa_nil))) (fun _ _ => rfl)) pa_nil))))
      (pss_cons (ps_setLc (i := 6) (own := [("_law_post", 8)]) rfl nd rfl rfl (sw_true rfl rfl rfl (by decide +kernel)) (kp_list K (pv 4)) (blkOk_by (own := [("_law_post", 8)]) (N := N__law_drawn) (sc := defScope (top 100)) (by decide +kernel)) (fun _ _ _ _ _ => (pg_name (i := 8) nd rfl (Or.inl rfl))) (fun _ _ _ _ _ => pts_nil) (fun _ _ _ _ _ => (pe_tup (pa_cons (pv 8) (pa_cons (pe_fn c__law_pick hr (by rfl) (pa_cons (pv 0) (pa_cons (pe_lst (pa_cons pe_non (pa_cons pe_non (pa_cons (pe_fn c__law_pick hr (by rfl) (pa_cons (pv 0) (pa_cons (pv 2) pa_nil))) pa_nil)))) pa_nil))) pa_nil)))))
      (pss_cons (ps_set (i := 7) nd rfl (Or.inl rfl) pe_dnewK)
      (pss_cons (ps_for PassesOwn.never rfl (kp_list K (pv 4)) (pg_name (i := 8) nd rfl (Or.inl rfl))
      (pss_one (ps_dput (hu_of hr) (pv 7) (pv 8) (pe_fn c__law_pick hr (by rfl) (pa_cons (pv 0) (pa_cons (pv 2) pa_nil))) rfl)))
      (pss_cons (ps_set (i := 9) nd rfl (Or.inl rfl) (pe_lst pa_nil))
      (pss_cons (ps_set (i := 10) nd rfl (Or.inl rfl) (pe_cmpR op_eq (pe_fn c__law_take hr (by rfl) (pa_cons (pv 0) (pa_cons pe_int pa_nil))) pe_int (nomark _)))
      (pss_cons (ps_for PassesOwn.never rfl (pi_range1 (by rfl) T.range (pa_cons (pe_callB (k_len K) (by rfl) T.len bt_len (pa_cons (pv 5) pa_nil)) pa_nil)) (pg_name (i := 11) nd rfl (Or.inl rfl))
      (pss_cons (ps_set (i := 12) nd rfl (Or.inl rfl) (pe_fn c__law_take hr (by rfl) (pa_cons (pv 0) (pa_cons (pv 3) pa_nil))))
      (pss_cons (ps_set (i := 13) nd rfl (Or.inl rfl) (pe_op op_mod (pe_callTy call_int1 (by rfl) T.int bt_int (pa_cons (pe_op op_add (pe_op op_add (pv 12) pe_int) (pe_fn c__law_take hr (by rfl) (pa_cons (pv 0) (pa_cons (pe_op op_sub (pv 3) pe_int) pa_nil)))) pa_nil)) (pv 3)))
      (pss_cons (ps_if (PW.pt (pw_and (pt_val (pv 10)) (pw_and1 (pt_cmpR op_lt (pe_op op_add (pv 11) pe_int) (pv 3) (nomark _))))) (pss_cons (ps_set (i := 12) nd rfl (Or.inl rfl) (pe_op op_add (pv 11) pe_int))
      (pss_one (ps_set (i := 13) nd rfl (Or.inl rfl) (pe_fn c__law_take hr (by rfl) (pa_cons (pv 0) (pa_cons (pe_op op_add (pv 11) pe_int) pa_nil)))))) pss_nil)
      (pss_cons (ps_set (i := 14) nd rfl (Or.inl rfl) (pe_fn c__law_gates hr (by rfl) (pa_cons (pv 0) (pa_cons (pv 2) pa_nil))))
      (pss_one (ps_if (pt_cmpR op_gt (pv 3) pe_int (nomark _)) (pss_one (ps_expr (pe_bm PySem.F.plainAttrs_list PySem.F.slot_list_append PySem.F.type_list_append mt_append (pv 9) (pa_cons (pe_tup (pa_cons (pe_ix (kx_list K) (pv 5) (pv 11) (fun _ _ => rfl)) (pa_cons (pe_ix (kx_list K) (pv 4) (pv 12) (fun _ _ => rfl)) (pa_cons (pe_ix (kx_list K) (pv 4) (pv 13) (fun _ _ => rfl)) (pa_cons (pe_ix (kx_tup K) (pv 14) pe_int (fun _ _ => rfl)) (pa_cons (pe_ix (kx_tup K) (pv 14) pe_int (fun _ _ => rfl)) pa_nil)))))) pa_nil)))) pss_nil)))))))
      (pss_one (ps_ret (pe_lst (pa_cons (pe_lst (pa_cons (pv 6) (pa_cons (pv 9) (pa_cons (pv 2) pa_nil)))) (pa_cons (pv 7) pa_nil))))))))))))))), ?_⟩
  obtain ⟨B, st, hB, sto, rfl, rfl, q⟩ := h
  have ndx {t : Addr} {B1 H1 : Hp} (s : Store B1 H1 st) (ht : H1 t = none) : t ∉ [st] := by simp [(s.ne ht).symm]
  refine ⟨_, rfl, _, rfl, B, st, hB, sto, rfl, fun pool lad B1 H1 pv g1 s1 hpool => ?_⟩
  obtain ⟨pl, pvs, rfl, hpl, hpvs⟩ := id hpool
  have epv := ints_eq hpvs
  subst epv
  refine ⟨_, rfl, (by show 10 ≤ sizeLine; decide), fun t ht => ?_⟩
  obtain ⟨B2, g2, s2, e2, k2⟩ := s1.nxt (o := .lst [.int 2, .int 3, .int 4, .int 5, .int 6, .int 3, .int 4, .int 5, .int 1, .int 10]) g1 ht
  refine ⟨_, rfl, _, _, rfl, B2, st, 10, g2.sub, s2, rfl, rfl, by decide, fun H3 r g3 s3 r0 r1 => ?_⟩
  have m10 : max1 10 = 10 := by decide
  have m8 : max1 8 = 8 := by decide
  have m2 : max1 2 = 2 := by decide
  rw [m10] at r1
  obtain ⟨r, rfl⟩ := Int.eq_ofNat_of_zero_le r0
  obtain ⟨c, hc, c1⟩ : ∃ c : Nat, [V.int 2, V.int 3, V.int 4, V.int 5, V.int 6, V.int 3, V.int 4, V.int 5, V.int 1, V.int 10][r]? = some (.int c) ∧ 1 ≤ c := by
    rcases r with _ | _ | _ | _ | _ | _ | _ | _ | _ | _ | r
    · exact ⟨2, rfl, by omega⟩
    · exact ⟨3, rfl, by omega⟩
    · exact ⟨4, rfl, by omega⟩
    · exact ⟨5, rfl, by omega⟩
    · exact ⟨6, rfl, by omega⟩
    · exact ⟨3, rfl, by omega⟩
    · exact ⟨4, rfl, by omega⟩
    · exact ⟨5, rfl, by omega⟩
    · exact ⟨1, rfl, by omega⟩
    · exact ⟨10, rfl, by omega⟩
    · omega
  refine ⟨t, _, _, _, rfl, rfl, SqL.of (g3.sub.lst k2), atI_nat hc, _, _, rfl, ?_⟩
  obtain ⟨many, em, h1m, h7m⟩ : ∃ many : Nat, (if (c : Int) < 7 then (c : Int) else 7) = (many : Int) ∧ 1 ≤ many ∧ many ≤ 7 := ⟨min 7 c, by split <;> omega, by omega, by omega⟩
  rw [em]
  have G3 := g2.trans g3
  refine ⟨_, rfl, _, rfl, _, _, rfl, B2, st, many, G3.sub, s3, rfl, rfl, by omega, fun xs xlen xnd xok B4 H4 xv g4 s4 hxv => ?_⟩
  obtain ⟨xl, xvs, rfl, hxl, hxs⟩ := id hxv
  have exv := strs_eq hxs
  subst exv
  have G4 := G3.trans g4
  refine ⟨_, rfl, _, rfl, _, rfl, _, _, rfl, rfl, _, rfl, _, _, rfl, rfl, _, rfl, _, _, rfl, rfl, _, rfl, _, rfl, _, _, rfl, rfl, (by show 8 ≤ sizeLine; decide), fun t2 ht2 => ?_⟩
  obtain ⟨B5, G5, s5, e5, k5⟩ := s4.nxt (o := .lst [.int many, .int ((many : Int) + 1), .int ((many : Int) + 2), .int ((many : Int) - 1), .int many, .int ((many : Int) + 1), .int 16, .int 0]) G4 ht2
  refine ⟨_, rfl, _, _, rfl, B5, st, 8, G5.sub, s5, rfl, rfl, by decide, fun H6 r2 g6 s6 r20 r21 => ?_⟩
  rw [m8] at r21
  obtain ⟨r2, rfl⟩ := Int.eq_ofNat_of_zero_le r20
  obtain ⟨lc, hlc, lc16⟩ : ∃ lc : Nat, [V.int many, .int ((many : Int) + 1), .int ((many : Int) + 2), .int ((many : Int) - 1), .int many, .int ((many : Int) + 1), .int 16, .int 0][r2]? = some (.int lc) ∧ lc ≤ 16 := by
    rcases r2 with _ | _ | _ | _ | _ | _ | _ | _ | r2
    · exact ⟨many, rfl, by omega⟩
    · exact ⟨many + 1, rfl, by omega⟩
    · exact ⟨many + 2, rfl, by omega⟩
    · refine ⟨many - 1, ?_, by omega⟩
      show some (V.int ((many : Int) - 1)) = some (V.int ((many - 1 : Nat) : Int))
      rw [show (many : Int) - 1 = ((many - 1 : Nat) : Int) by omega]
    · exact ⟨many, rfl, by omega⟩
    · exact ⟨many + 1, rfl, by omega⟩
    · exact ⟨16, rfl, by omega⟩
    · exact ⟨0, rfl, by omega⟩
    · omega
  have G6 := G5.trans g6
  refine ⟨t2, _, _, _, rfl, rfl, SqL.of (g6.sub.lst k5), atI_nat hlc, _, _, rfl, B5, st, lc, G6.sub, s6, rfl, rfl, lc16, fun ls lslen lsnd lsok B7 H7 lv g7 s7 hlv => ?_⟩
  obtain ⟨ll, lvs, rfl, hll, hls⟩ := id hlv
  have elv := strs_eq hls
  subst elv
  have G7 := G6.trans g7
  have hxl7 : B7 xl = some (.lst (xs.map V.str)) := (e5.trans g7.up).lst hxl
  have hpl7 : B7 pl = some (.lst (pool.map V.int)) := (((e2.trans g4.up).trans e5).trans g7.up).lst hpl
  have hxs7 : All2 (rStr.rel B7) xs (xs.map V.str) := strs2 xs
  have pne : pool.map V.int ≠ [] := fun z => lad.1 (List.map_eq_nil_iff.mp z)
  have plen : (pool.map V.int).length < 2 ^ 63 := by rw [List.length_map]; have := lad.2.1; omega
  refine ⟨_, rfl, xl, rfl, ⟨_, SqL.of (G7.sub.lst hxl7)⟩, fun D hD => lc_st (Rs := rStr) (R := rLRow) (fun y r => r.1 = y ∧ isE r.2 = true) (src_list hxl7) G7.sub s7 hD hxs7 (by rw [List.length_map]; omega) (fun y x B8 H8 K1 hy hx g8 s8 k1 => ?_) (fun rs B8 H8 g8 s8 pk h8 => ?_)⟩
  · obtain rfl : x = .str y := hx
    refine ⟨_, rfl, _, rfl, _, rfl, _, rfl, _, _, rfl, B8, st, pl, _, g8.sub, s8, rfl, rfl, g8.up.lst hpl7, pne, plen, fun H9 v mv g9 s9 => ?_⟩
    obtain ⟨q0, hq0, rfl⟩ := List.mem_map.mp mv
    refine ⟨(by show 3 ≤ sizeLine; decide), fun t3 ht3 => ?_⟩
    have gt3 := Gr.newP (S := [st]) (o := .lst [.non, .non, .int q0]) g9.sub ht3
    refine ⟨_, _, rfl, _, st, t3, _, gt3.sub, (s9.aside (s9.ne ht3)).pub (s9.ne ht3) (g9.sub.none ht3), rfl, rfl, upd_same, (fun z => nomatch z), (by show 3 < 2 ^ 63; decide), fun H10 v mv g10 s10 => ?_⟩
    obtain ⟨o, rfl, ho⟩ : ∃ o, v = vo o ∧ isE o = true := by
      simp only [List.mem_cons, List.not_mem_nil, or_false] at mv
      rcases mv with h | h | h
      · exact ⟨none, h, rfl⟩
      · exact ⟨none, h, rfl⟩
      · exact ⟨some q0, h, lad.2.2 q0 hq0⟩
    refine ⟨(by show 2 ≤ sizeLine; decide), fun t4 ht4 => ?_⟩
    exact k1 (y, o) _ _ _ ⟨rfl, ho⟩ (g9.trans (gt3.trans (g10.trans (Gr.newP g10.sub ht4)))) ((s10.aside (s10.ne ht4)).pub (s10.ne ht4) (g10.sub.none ht4)) ⟨t4, rfl, upd_same⟩
  obtain ⟨vs8, h80, h8b, h8h, h8a⟩ := h8.at_
  have G8 := (G7.trans g8).pub (G7.was h80) h8b h8h
  have s8 : Store (upd B8 D (.lst vs8)) H8 st := s8.pub (s7.ne h80) h8b
  have hnodes : (rL rLRow).rel (upd B8 D (.lst vs8)) rs (.ref D) := ⟨D, vs8, rfl, upd_same, All2.mono (ExW.new h8b) h8a⟩
  have up78 : ExW B7 (upd B8 D (.lst vs8)) := g8.up.trans (ExW.new h8b)
  generalize upd B8 D (.lst vs8) = B9 at *
  obtain ⟨ers, rsE⟩ := nodes_rows pk
  -- glow
  intro gd hgd
  have gg := Gr.new_ (S := [st]) (o := .dK []) G8.sub hgd
  have sg := s8.aside (o := .dK []) (s8.ne hgd)
  have hsg := s8.ne hgd
  have bg := G8.sub.none hgd
  have hxl9 := up78.lst hxl7
  have hpl9 := up78.lst hpl7
  refine ⟨_, rfl, xl, rfl, ⟨_, SqL.of (gg.sub.lst hxl9)⟩, for_go (Rs := rStr) (fun i σ1 B10 H10 => (∃ z8 z9 z10 z11 z12 z13 z14, σ1 = [some (.ref st), some (.int 7), some (.ref pl), some (.int many), some (.ref xl), some (.ref ll), some (.ref D), some (.ref gd), z8, z9, z10, z11, z12, z13, z14]) ∧ Gr [gd, st] B9 (upd H8 gd (.dK [])) B10 H10 ∧ Store B10 H10 st ∧ B10 gd = none ∧ ∃ (U : Str → Int) (kvs : List (Key × V)), (∀ x, isN (U x) = true) ∧ H10 gd = some (.dK kvs) ∧ DAll rInt B10 (glow (xs.take i) U) kvs)
    (src_list hxl9) (strs2 xs) ⟨⟨_, _, _, _, _, _, _, rfl⟩, Gr.refl gg.sub, sg, bg, fun _ => 0, [], fun _ => (by show isN 0 = true; decide), upd_same, .nil⟩ (fun i σ1 B1 H1 h => ⟨h.2.1.up, h.2.1.sub⟩) (fun i y x σ1 B10 H10 hy hx h => ?_) (fun σ1 B10 H10 h => ?_)⟩
  · obtain ⟨⟨z8, z9, z10, z11, z12, z13, z14, rfl⟩, g10, s10, b10, U, kvs, hU, h10, a10⟩ := h
    obtain rfl : x = .str y := hx
    refine ⟨_, rfl, _, rfl, _, _, rfl, B10, st, pl, _, g10.sub, s10, rfl, rfl, g10.up.lst hpl9, pne, plen, fun H11 v mv g11 s11 => ?_⟩
    obtain ⟨q0, hq0, rfl⟩ := List.mem_map.mp mv
    have h11 : H11 gd = some (.dK kvs) := g11.keep gd _ (by simp [hsg.symm]) b10 h10
    have lk : kvs.length < sizeLine := by
      have e := a10.len
      rw [List.length_map, List.length_take] at e
      exact Nat.lt_trans (m := 64) (by omega) (by decide)
    have ny := nd_take xnd hy
    refine ⟨_, rfl, _, rfl, gd, _, rfl, DPut.k (k := Sum.inr y) h11 lk, B10, ⟨_, _, _, _, _, _, _, rfl⟩, (g10.trans (g11.mono (by simp))).mut (.inr (by simp)) b10, s11.aside hsg, b10, fun x => if x = y then q0 else U x, _, fun x => ?_, upd_same, ?_⟩
    · show isN (if x = y then q0 else U x) = true
      split
      · exact lad.2.2 q0 hq0
      · exact hU x
    · rw [take_snoc hy]
      have e : glow (xs.take i ++ [y]) (fun x => if x = y then q0 else U x) = glow (xs.take i) U ++ [(y, q0)] := by
        unfold glow
        rw [List.map_append]
        congr 1
        · refine List.map_congr_left fun x hx => ?_
          have ne : ¬ x = y := fun z => ny (z ▸ hx)
          show (x, if x = y then q0 else U x) = (x, U x)
          rw [if_neg ne]
        · simp
      rw [e]
      refine a10.new ?_ rfl
      rw [List.map_map]
      show ¬ y ∈ (xs.take i).map id
      rw [List.map_id]
      exact ny
  obtain ⟨⟨z8, z9, z10, z11, z12, z13, z14, rfl⟩, g10, s10, b10, U, kvs, hU, h10, a10⟩ := h
  rw [List.take_length] at a10
  have hgd0 := G8.was hgd
  have G10 := ((G8.trans gg).fresh hgd0 g10).pub hgd0 b10 h10
  have s11 : Store (upd B10 gd (.dK kvs)) H10 st := s10.pub hsg b10
  have hglow : (rD rInt).rel (upd B10 gd (.dK kvs)) (glow xs U) (.ref gd) := ⟨gd, kvs, rfl, .inl upd_same, DAll.mono (ExW.new b10) a10⟩
  have up9 : ExW B9 (upd B10 gd (.dK kvs)) := g10.up.trans (ExW.new b10)
  generalize upd B10 gd (.dK kvs) = B11 at *
  have hnodes := Rp.mono _ up9 hnodes
  have hxl11 := up9.lst hxl9
  have hpl11 := up9.lst hpl9
  have hll11 := (up78.trans up9).lst hll
  -- edges
  refine ⟨(by show 0 ≤ sizeLine; decide), fun e he => ?_⟩
  have ge := Gr.new_ (S := [st]) (o := .lst []) G10.sub he
  have se := s11.aside (o := .lst []) (s11.ne he)
  have hse := s11.ne he
  have o0 : Own rBRow B11 (upd H10 e (.lst [])) e [] := Own.mk0 (G10.sub.none he)
  refine ⟨_, rfl, _, _, rfl, B11, st, 2, ge.sub, se, rfl, rfl, by decide, fun H12 r3 g12 s12 _ _ => ⟨rfl, ?_⟩⟩
  generalize decide (V.int r3 = V.int 0) = ch
  have o12 := o0.keep g12 (by simp [hse.symm])
  have lnl : (ls.map V.str).length = lc := by rw [List.length_map, lslen]
  refine ⟨_, rfl, ll, _, rfl, .inl (SqL.of (g12.sub.lst hll11)), _, rfl, by omega, by omega, ?_⟩
  rw [Int.toNat_natCast, lnl]
  refine for_go (Rs := rNat) (fun k σ1 B13 H13 => (∃ z8 z11 z12 z13 z14, σ1 = [some (.ref st), some (.int 7), some (.ref pl), some (.int many), some (.ref xl), some (.ref ll), some (.ref D), some (.ref gd), z8, some (.ref e), some (.bl ch), z11, z12, z13, z14]) ∧ Gr [e, st] B11 H12 B13 H13 ∧ Store B13 H13 st ∧ ∃ es : List Bond, Own rBRow B13 H13 e es ∧ es.map (·.nm) = (if 1 < many then ls.take k else []) ∧ ∀ b ∈ es, isE b.lo = true ∧ isE b.hi = true ∧ okE b.lo b.hi = true ∧ b.a ∈ xs ∧ b.b ∈ xs ∧ b.a ≠ b.b)
    src_rng (nats2 _) ⟨⟨_, _, _, _, _, rfl⟩, Gr.refl g12.sub, s12, [], o12, by split <;> rfl, fun b hb => nomatch hb⟩ (fun i σ1 B1 H1 h => ⟨h.2.1.up, h.2.1.sub⟩) (fun i y x σ1 B13 H13 hy hx h => ?_) (fun σ1 B13 H13 h => ?_)
  · obtain ⟨⟨z8, z11, z12, z13, z14, rfl⟩, g13, s13, es, o13, enm, eok⟩ := h
    obtain rfl : x = .int y := hx
    have hyn : y < lc := List.mem_range.mp (List.mem_of_getElem? hy)
    have ey : y = i := by
      have hi : i < lc := by
        obtain ⟨h1, _⟩ := List.getElem?_eq_some_iff.mp hy
        simpa using h1
      rw [List.getElem?_range hi] at hy
      simpa using hy.symm
    subst ey
    have eslen : es.length ≤ 16 := by
      have := congrArg List.length enm
      rw [List.length_map] at this
      rw [this]
      split
      · rw [List.length_take]; omega
      · exact Nat.zero_le _
    have ely : ls[y]? = some ls[y] := List.getElem?_eq_getElem (by omega)
    have hpool13 : (rL rInt).rel B13 pool (.ref pl) := Rp.mono _ g13.up ⟨pl, _, rfl, hpl11, ints2 pool⟩
    have tail : ∀ (D' : Ends) (one other : Nat) (z14 : Option V) (H16 : Hp), one < many → other < many → (1 < many → one ≠ other) → Gr [st] B13 H13 B13 H16 → Store B13 H16 st →
        (∀ σ' H', (∃ B', (∃ z8 z11 z12 z13 z14, σ' = [some (.ref st), some (.int 7), some (.ref pl), some (.int many), some (.ref xl), some (.ref ll), some (.ref D), some (.ref gd), z8, some (.ref e), some (.bl ch), z11, z12, z13, z14]) ∧ Gr [e, st] B11 H12 B' H' ∧ Store B' H' st ∧ ∃ es : List Bond, Own rBRow B' H' e es ∧ es.map (·.nm) = (if 1 < many then ls.take (y + 1) else []) ∧ ∀ b ∈ es, isE b.lo = true ∧ isE b.hi = true ∧ okE b.lo b.hi = true ∧ b.a ∈ xs ∧ b.b ∈ xs ∧ b.a ≠ b.b) → D'.nx σ' H') →
        (tSeq (tAsg (tCall spGates [] E0 (tCons (tVar 0) (tCons (tVar 2) tNil))) (gName 14))
          (tIfS (tTest (tOp (rI0 fun i j => V.bl (decide (j < i))) (tVar 3) (tC (V.int 1))))
            (tDrop (tBM K "list" rAppend (tVar 9)
              (tCons (tTup (tCons (tOp (rIxL K) (tVar 5) (tVar 11)) (tCons (tOp (rIxL K) (tVar 4) (tVar 12)) (tCons (tOp (rIxL K) (tVar 4) (tVar 13)) (tCons (tOp (rIxT K) (tVar 14) (tC (V.int 0))) (tCons (tOp (rIxT K) (tVar 14) (tC (V.int 1))) tNil)))))) tNil)))
            tNext)) D' [some (.ref st), some (.int 7), some (.ref pl), some (.int many), some (.ref xl), some (.ref ll), some (.ref D), some (.ref gd), z8, some (.ref e), some (.bl ch), some (.int y), some (.int one), some (.int other), z14] H16 := fun D' one other z14 H16 h1 h2 h12 g16 s16 k => by
      refine ⟨_, rfl, _, rfl, _, _, rfl, B13, st, pool, g16.sub, s16, rfl, hpool13, lad, fun lo hi l1 l2 l3 B17 H17 v g17 s17 hv => ?_⟩
      obtain ⟨ta, rfl, hta⟩ := id hv
      have g1317 := g16.trans g17
      have o17 := o13.keep g1317 (by simp [hse.symm])
      have up17 : ExW B11 B17 := g13.up.trans g17.up
      refine ⟨_, rfl, _, _, rfl, rfl, _, rfl, ?_⟩
      refine ite2 (fun e1 => ?_) (fun e1 => ?_)
      · have e1 : (1 : Int) < many := of_decide_eq_true e1
        have e1' : 1 < many := by omega
        have ea : xs[one]? = some xs[one] := List.getElem?_eq_getElem (by omega)
        have eb : xs[other]? = some xs[other] := List.getElem?_eq_getElem (by omega)
        have al : (ls.map V.str)[y]? = some (.str ls[y]) := by rw [List.getElem?_map, ely]; rfl
        have aa : (xs.map V.str)[one]? = some (.str xs[one]) := by rw [List.getElem?_map, ea]; rfl
        have ab : (xs.map V.str)[other]? = some (.str xs[other]) := by rw [List.getElem?_map, eb]; rfl
        have sl := SqL.of (K := K) (g17.sub.lst (up17.lst hll11))
        have sx := SqL.of (K := K) (g17.sub.lst (up17.lst hxl11))
        have sa := SqT.of (K := K) (g17.sub.tup hta)
        refine ⟨_, rfl, o17.ty, _, rfl, _, rfl, ll, _, _, _, rfl, rfl, sl, atI_nat al, _, rfl, _, rfl, xl, _, _, _, rfl, rfl, sx, atI_nat aa, _, rfl, _, rfl, xl, _, _, _, rfl, rfl, sx, atI_nat ab, _, rfl, ta, _, _, _, rfl, rfl, sa, atI_nat (j := 0) rfl, _, rfl, ta, _, _, _, rfl, rfl, sa, atI_nat (j := 1) rfl, (by show 5 ≤ sizeLine; decide), fun t5 ht5 => ?_⟩
        have gT := Gr.newP (S := [st]) (o := .tup [.str ls[y], .str xs[one], .str xs[other], vo lo, vo hi]) g17.sub ht5
        have o18 := o17.keep gT (by simp [hse.symm])
        obtain ⟨zs, hz, lz, o19⟩ := o18.app (x := (⟨ls[y], xs[one], xs[other], lo, hi⟩ : Bond)) (v := .ref t5) ⟨t5, rfl, upd_same⟩ (by omega)
        refine ⟨e, zs, _, rfl, rfl, hz, lz, k _ _ ⟨_, ⟨_, _, _, _, _, rfl⟩, (g13.trans ((g1317.trans gT).mono (by simp))).mut (.inr (by simp)) o18.1, (((s17.aside (s17.ne ht5)).pub (s17.ne ht5) (g17.sub.none ht5))).aside hse, es ++ [⟨ls[y], xs[one], xs[other], lo, hi⟩], o19, ?_, fun b hb => ?_⟩⟩
        · rw [List.map_append, enm, if_pos e1', if_pos e1', take_snoc ely]
          rfl
        · rcases List.mem_append.mp hb with hb | hb
          · exact eok b hb
          · rw [List.mem_singleton.mp hb]
            refine ⟨l1, l2, l3, List.getElem_mem _, List.getElem_mem _, fun z => ?_⟩
            have z : xs[one] = xs[other] := z
            rw [z] at ea
            exact h12 e1' (nd_ix xnd ea eb)
      · have e1 : ¬ (1 : Int) < many := by simpa using e1
        refine k _ _ ⟨B17, ⟨_, _, _, _, _, rfl⟩, g13.trans (g1317.mono (by simp)), s17, es, o17, ?_, eok⟩
        rw [enm, if_neg (by omega), if_neg (by omega)]
    refine ⟨_, rfl, _, rfl, _, _, rfl, B13, st, many, g13.sub, s13, rfl, rfl, by omega, fun H14 r4 g14 s14 a0 a1 => ?_⟩
    rw [max1_of (by omega)] at a1
    obtain ⟨r4, rfl⟩ := Int.eq_ofNat_of_zero_le a0
    refine ⟨_, rfl, _, _, rfl, rfl, _, rfl, _, rfl, _, _, rfl, rfl, _, _, rfl, B13, st, (many : Int) - 1, g14.sub, s14, rfl, rfl, by omega, fun H15 r5 g15 s15 b0 b1 => ?_⟩
    obtain ⟨r5, rfl⟩ := Int.eq_ofNat_of_zero_le b0
    obtain ⟨o2, eo, ho1, ho2⟩ := other_of h1m (by omega : r4 < many) b1
    refine ⟨_, _, rfl, rfl, .inl ⟨_, rfl, _, rfl, _, _, rfl, rfl, (by show (0 : Int) < many; omega), ?_⟩⟩
    show gName 13 (V.int (((r4 : Int) + 1 + (r5 : Int)) % (many : Int))) _ _ _
    rw [eo]
    have g1315 := g14.trans g15
    refine ⟨_, rfl, _, rfl, ?_⟩
    refine ite2 (fun _ => ?_) (fun _ => iteF (tail _ r4 o2 _ H15 (by omega) ho1 ho2 g1315 s15 fun σ' H' h => h))
    refine ⟨_, rfl, _, _, rfl, rfl, _, rfl, _, _, rfl, rfl, _, rfl, ?_⟩
    refine ite2 (fun e1 => ?_) (fun _ => tail _ r4 o2 _ H15 (by omega) ho1 ho2 g1315 s15 fun σ' H' h => h)
    have e1 : (y : Int) + 1 < many := of_decide_eq_true e1
    refine ⟨_, rfl, _, _, rfl, rfl, ?_⟩
    refine ⟨_, rfl, _, rfl, _, _, rfl, rfl, _, _, rfl, B13, st, (y : Int) + 1, g1315.sub, s15, rfl, rfl, by omega, fun H16 r6 g16 s16 c0 c1 => ?_⟩
    rw [max1_of (by omega)] at c1
    obtain ⟨r6, rfl⟩ := Int.eq_ofNat_of_zero_le c0
    exact tail _ (y + 1) r6 _ H16 (by omega) (by omega) (fun _ => by omega) (g1315.trans g16) s16 fun σ' H' h => h
  · obtain ⟨⟨z8, z11, z12, z13, z14, rfl⟩, g13, s13, es, ⟨b13, zs, h13, a13⟩, enm, eok⟩ := h
    rw [List.length_range] at enm
    have he0 := G10.was he
    have GE := ((G10.trans ge).trans g12).fresh he0 g13
    have GP := GE.pub he0 b13 h13
    have s14 : Store (upd B13 e (.lst zs)) H13 st := s13.pub hse b13
    have hedges : (rL rBRow).rel (upd B13 e (.lst zs)) es (.ref e) := ⟨e, zs, rfl, upd_same, All2.mono (ExW.new b13) a13⟩
    have up14 : ExW B11 (upd B13 e (.lst zs)) := g13.up.trans (ExW.new b13)
    generalize upd B13 e (.lst zs) = B14 at *
    have hnodes := Rp.mono _ up14 hnodes
    have hglow := Rp.mono _ up14 hglow
    have hpool14 : (rL rInt).rel B14 pool (.ref pl) := Rp.mono _ up14 ⟨pl, _, rfl, hpl11, ints2 pool⟩
    refine ⟨_, rfl, _, rfl, _, rfl, (by show 3 ≤ sizeLine; decide), fun i1 hi1 => ⟨_, rfl, (by show 2 ≤ sizeLine; decide), fun i2 hi2 => ?_⟩⟩
    have gI1 := Gr.newP (S := [st]) (o := .lst [.ref D, .ref e, .ref pl]) GP.sub hi1
    have gI2 := Gr.newP (S := [st]) (o := .lst [.ref i1, .ref gd]) gI1.sub hi2
    have s15 := (s14.aside (o := .lst [.ref D, .ref e, .ref pl]) (s14.ne hi1)).pub (o := .lst [.ref D, .ref e, .ref pl]) (s14.ne hi1) (GP.sub.none hi1)
    have s16 := (s15.aside (o := .lst [.ref i1, .ref gd]) (s15.ne hi2)).pub (o := .lst [.ref i1, .ref gd]) (s15.ne hi2) (gI1.sub.none hi2)
    have u1 := gI1.up
    have u2 := gI2.up
    have u := u1.trans u2
    have rok : RowsOk rs es := by
      refine ⟨fun r hr => ?_, fun r hr => ?_, by rw [ers]; exact xnd, ?_, rsE, fun r hr => ⟨(eok r hr).1, (eok r hr).2.1, (eok r hr).2.2.1⟩, fun r hr => ?_, ?_, ?_⟩
      · exact xok _ (by rw [← ers]; exact List.mem_map.mpr ⟨r, hr, rfl⟩)
      · have : r.nm ∈ es.map (·.nm) := List.mem_map.mpr ⟨r, hr, rfl⟩
        rw [enm] at this
        split at this
        · exact lsok _ (List.mem_of_mem_take this)
        · cases this
      · rw [enm]
        split
        · exact (List.take_sublist _ _).nodup lsnd
        · exact List.nodup_nil
      · rw [ers]
        exact (eok r hr).2.2.2
      · have := congrArg List.length ers
        rw [List.length_map] at this
        omega
      · have := congrArg List.length enm
        rw [List.length_map] at this
        rw [this]
        split
        · rw [List.length_take]; omega
        · exact Nat.zero_le _
    have perm : xs.Perm (netOf rs es).names := by
      have := netOf_names (ls := rs) (bs := es)
      rw [ers] at this
      exact this.symm
    have l7 : rs.length ≤ 7 := by
      have := congrArg List.length ers
      rw [List.length_map] at this
      omega
    exact q ⟨rs, es, pool⟩ xs U rok lad l7 perm hU _ _ i2 (.ref i1) (.ref gd) ((GP.trans gI1).trans gI2) s16 upd_same ⟨i1, .ref D, .ref e, .ref pl, rfl, u2.lst upd_same, Rp.mono _ u hnodes, Rp.mono _ u hedges, Rp.mono _ u hpool14⟩ (Rp.mono _ u hglow)
end
end OB

/-! ## QK -/
set_option maxHeartbeats 4000000
namespace OB
open PySem PySem.Spec PyProof.Rows L2
theorem takes00 {X : Cx} : Takes X (fun _ _ _ _ => False) := fun _ _ x => by
  obtain ⟨_, _, _, _, _, _, _, _, _, _, _, _, _, _, _, _, z⟩ := x
  exact z.elim
section
variable {P : Program} {w : World} {K : PySem.W.Frag} {mg : Str → Option Value} {base : Heap}
def spPaperOf (K : PySem.W.Frag) : Sp := sp2 fun a b H Q => ∃ B n S ps A, ExW B H ∧ (rWorld K).rel B (n, S) a ∧ rWish.rel B (ps, A) b ∧ WishOk n ps A ∧ (∀ ys, ys.Perm ps → sortedS ys = true → faults n S ys A (capsOf n S ys A) ≠ []) ∧
  ∀ ys p r, ys.Perm ps → sortedS ys = true → faults n S ys A (capsOf n S ys A) = p :: r → ∀ B' H' v, Gr [] B H B' H' → rPaper.rel B' p v → Q v H'
/-! ### _law_paper_of -/
abbrev F__law_paper_of (P : Program) (w : World) (K : PySem.W.Frag) (mg : Str → Option Value) (base : Heap) : Prop := Fn P w K mg base CX0 13 "_law_paper_of" ["_law_begin", "_law_aims"] [] (spPaperOf K)
abbrev N__law_paper_of : List Str := ["_law_begin", "_law_aims", "e"]
theorem sc__law_paper_of : FnScope N__law_paper_of ["_law_begin", "_law_aims"] (defScope (top 107)) := ⟨rfl, rfl, rfl, by decide +kernel, rfl, by decide +kernel, by decide +kernel⟩
theorem ok__law_paper_of (T : TX K mg) (D : DefAt K mg "_law_paper_of" (top 107) [])  (c_brightest : F_brightest P w K mg base) : F__law_paper_of P w K mg base := by
  refine fn_ok D sc__law_paper_of (by decide +kernel) (fun _ _ _ _ _ _ us hl => match us, hl with | [_, _], _ => rfl) (fun vs H Q E h => len2 h) (fun f cdv A outer s H vs Q E hr h => ?_)
  have nd := sc__law_paper_of.nd
  obtain ⟨v0, v1, rfl, h⟩ := h
  refine ⟨_, (pss_cons (ps_try_as (i := 2) (tb := fun W => tDrop (tCallS (spBrightest K) (WE W) (tCons (tVar 0) (tCons (tVar 1) tNil)))) (ts := fun a cls d => tRet (tXf a cls d (cU K) "paper" (tVar 2))) (Wout := fun _ _ _ _ => False) rfl rfl nd rfl rfl ⟨rfl, by decide, Or.inl T.mgUngranted⟩ takes00 (fun W pn xe tk _ => pss_one (ps_expr (pe_fnS c_brightest hr (by rfl) tk (pa_cons (pv 0) (pa_cons (pv 1) pa_nil))))) (fun a oe cls d pn hz hf => pss_one (ps_ret (pe_xf T.xfU T.n_paper hz hf (pv 2)))))
      (pss_one (ps_ret (pe_tup pa_nil)))), ?_⟩
  obtain ⟨B, n, S, ps, A', hB, hW, hA, okA, nf, q⟩ := h
  refine ⟨_, rfl, _, rfl, _, _, rfl, B, n, S, ps, A', hB, hW, hA, okA, fun ys vs perm srt _ _ ef => absurd ef (nf ys perm srt), fun ys p r perm srt ef B' H' d fs v g hd hl hv => ?_⟩
  exact ⟨true, T.exmU, fun _ a ha => ⟨_, rfl, rfl, rfl, d, fs, v, rfl, hd, hl, q ys p r perm srt ef B' H' v g hv⟩, fun z => nomatch z⟩
end
end OB

/-! ## QL -/
set_option maxHeartbeats 4000000
namespace OB
open PySem PySem.Spec PyProof.Rows L2
/-! ### rows compared, rows among rows -/
def dT (r : List Int) : PyData := .tuple (r.map .int)
theorem dp_ints {K : PySem.W.Frag} {H : Hp} : ∀ r : List Int, DpAll K H (r.map V.int) (r.map .int)
  | [] => .nil
  | i :: r => .cons (.int i) (dp_ints r)
theorem dp_row {K : PySem.W.Frag} {H : Hp} {a : Addr} {r : List Int} (h : SqT K H a (r.map V.int)) : Dp K H (.ref a) (dT r) := .tup h (dp_ints r)
theorem dp_rows {K : PySem.W.Frag} {B H : Hp} (hB : ExW B H) : ∀ {rl : List (List Int)} {vs : List V}, All2 ((rTU rInt).rel B) rl vs → DpAll K H vs (rl.map dT)
  | _, _, .nil => .nil
  | _, _, .cons h t => by
    obtain ⟨a, vs, rfl, ha, hv⟩ := h
    have := ints_eq hv
    subst this
    exact .cons (dp_row (SqT.of (hB.tup ha))) (dp_rows hB t)
theorem lay_ints : ∀ r : List Int, PyData.canLayAll0 (r.map .int) = true
  | [] => by simp only [List.map_nil, PyData.canLayAll0]
  | i :: r => by simp only [List.map_cons, PyData.canLayAll0, PyData.canLay0, lay_ints r, Bool.and_self]
theorem dep_ints : ∀ r : List Int, PyData.depthAll (r.map .int) = 0
  | [] => by simp only [List.map_nil, PyData.depthAll]
  | i :: r => by simp only [List.map_cons, PyData.depthAll, PyData.depth, dep_ints r, Nat.max_self]
theorem lay_rows : ∀ rl : List (List Int), PyData.canLayAll0 (rl.map dT) = true
  | [] => by simp only [List.map_nil, PyData.canLayAll0]
  | r :: l => by simp only [List.map_cons, PyData.canLayAll0, dT, PyData.canLay0, lay_ints r, lay_rows l, Bool.and_self]
theorem dep_rows : ∀ rl : List (List Int), PyData.depthAll (rl.map dT) ≤ 1
  | [] => by simp only [List.map_nil, PyData.depthAll]; omega
  | r :: l => by
    have := dep_rows l
    simp only [List.map_cons, PyData.depthAll, dT, PyData.depth, dep_ints r]
    omega
theorem shp_row (r : List Int) : SeqAt.shaped (dT r) = true := by
  unfold SeqAt.shaped dT
  simp only [PyData.canLay0, lay_ints, PyData.depth, dep_ints]
  rfl
theorem shp_rows (rl : List (List Int)) : SeqAt.shaped (.list (rl.map dT)) = true := by
  unfold SeqAt.shaped
  have := dep_rows rl
  have e1 : PyData.canLay0 (.list (rl.map dT)) = true := by simp only [PyData.canLay0, lay_rows]
  have e2 : PyData.depth (.list (rl.map dT)) = PyData.depthAll (rl.map dT) + 1 := by simp only [PyData.depth]
  rw [e1, e2, Bool.true_and, decide_eq_true_eq]
  omega
theorem eqv_ints : ∀ a b : List Int, PyData.eqvAll (a.map .int) (b.map .int) = decide (a = b)
  | [], [] => by simp [PyData.eqvAll]
  | [], _ :: _ => by simp [PyData.eqvAll]
  | _ :: _, [] => by simp [PyData.eqvAll]
  | x :: a, y :: b => by
    simp only [List.map_cons, PyData.eqvAll, PyData.eqv, eqv_ints a b]
    rw [Bool.eq_iff_iff]
    simp
theorem eqv_row (a b : List Int) : PyData.eqv (dT a) (dT b) = decide (a = b) := by
  unfold dT
  simp only [PyData.eqv, eqv_ints]
theorem any_rows (r : List Int) : ∀ rl : List (List Int), ((rl.map dT).any fun z => PyData.eqv z (dT r)) = decide (r ∈ rl)
  | [] => by simp
  | a :: l => by
    rw [List.map_cons, List.any_cons, any_rows r l, eqv_row, Bool.eq_iff_iff]
    simp only [Bool.or_eq_true, decide_eq_true_eq, List.mem_cons]
    exact or_congr_left eq_comm
section
variable {K : PySem.W.Frag} {B H : Hp} {r : List Int} {rl : List (List Int)} {x y : V} {Q : VK}
theorem ninRows_go (hB : ExW B H) (hr : (rTU rInt).rel B r x) (hl : (rL (rTU rInt)).rel B rl y) (q : Q (.bl (!decide (r ∈ rl))) H) : rNotInD K x y H Q := by
  obtain ⟨a, vs, rfl, ha, hv⟩ := hr
  have := ints_eq hv
  subst this
  obtain ⟨b, ws, rfl, hb, hw⟩ := hl
  refine ⟨dT r, rl.map dT, dp_row (SqT.of (hB.tup ha)), .lst (SqL.of (hB.lst hb)) (dp_rows hB hw), shp_row r, shp_rows rl, ?_⟩
  rw [any_rows]
  exact q
theorem eqRows_go {s : List Int} (hB : ExW B H) (hr : (rTU rInt).rel B r x) (hs : (rTU rInt).rel B s y) (q : Q (.bl (decide (r = s))) H) : rEqD K x y H Q := by
  obtain ⟨a, vs, rfl, ha, hv⟩ := hr
  obtain ⟨b, ws, rfl, hb, hw⟩ := hs
  have := ints_eq hv
  have := ints_eq hw
  subst_vars
  refine ⟨dT r, dT s, dp_row (SqT.of (hB.tup ha)), dp_row (SqT.of (hB.tup hb)), shp_row r, shp_row s, ?_⟩
  rw [eqv_row]
  exact q
end
section
variable {P : Program} {w : World} {K : PySem.W.Frag} {mg : Str → Option Value} {base : Heap}
theorem mkWeb_go {B H : Hp} {ls : List (Str × Option Int)} {bs : List Bond} {Q : Addr → Hp → Prop} {lv bv : V} {Pt : Addr} (hB : ExW B H) (hl : (rL rLRow).rel B ls lv) (hb : (rL rBRow).rel B bs bv) (ok : RowsOk ls bs) (bP : B Pt = none) (hT : LamX.TabS H Pt qLam)
    (q : ∀ B' H' x, Gr [Pt] B H B' H' → LamX.TabS H' Pt qLam → B' Pt = none → (rWeb K).rel B' (netOf ls bs) (.ref x) → Q x H') :
    ∀ x dx, H x = none → H dx = none → dx ≠ x → spMkWeb K Pt (.ref x :: ([lv, bv] ++ [])) (upd (upd H dx (.own x)) x (.ins (He.ga K "Web") dx [])) (fun v H2 => v = .non ∧ Q x H2) E0 := by
  intro x dx hx hdx ne
  have g1 : Gr [] B H B (upd H dx (.own x)) := Gr.new_ hB hdx
  have g2 : Gr [] B H B (upd (upd H dx (.own x)) x (.ins (He.ga K "Web") dx [])) := g1.trans (Gr.new_ g1.sub (by rw [upd_ne ne.symm]; exact hx))
  have xP : Pt ≠ x := fun z => by
    obtain ⟨ps, hp, _⟩ := hT
    rw [z, hx] at hp; cases hp
  refine ⟨_, _, _, rfl, B, ls, bs, x, dx, g2.sub, rfl, hB.none hx, upd_same, hl, hb, ok, bP, Tab.gr0 hT hB g2, fun B' H' v1 v2 v3 v4 v5 v6 v7 g t bx bPt hx' r1 r2 r3 r4 r5 r6 => ⟨rfl, ?_⟩⟩
  have e := ExW.new (o := .ins (He.ga K "Web") dx (netF v1 v2 v3 v4 v5 v6 v7)) bx
  exact q _ _ _ (((g2.any (S := [Pt])).fresh hx g).pub hx bx hx') t (by rw [upd_ne xP]; exact bPt) ⟨netOf_ok ok, x, dx, v1, v2, v3, v4, v5, v6, v7, rfl, upd_same, Rp.mono _ e r1, Rp.mono _ e r2, Rp.mono _ e r3, Rp.mono _ e r4, Rp.mono _ e r5, Rp.mono _ e r6⟩
theorem mkWorld_go2 {B H : Hp} {n : Net} {ps : List Str} {S : Str → Int} {Q : Addr → Hp → Prop} {wv lv : V} (hB : ExW B H) (hw : (rWeb K).rel B n wv) (hl : (rD rInt).rel B (glow ps S) lv) (perm : ps.Perm n.names) (hS : ∀ p ∈ n.names, isN (S p) = true) (q : ∀ B' H' x, Gr [] B H B' H' → (rWorld K).rel B' (n, S) (.ref x) → Q x H') :
    ∀ x dx, H x = none → H dx = none → dx ≠ x → spMkWorld K (.ref x :: ([wv, lv] ++ [])) (upd (upd H dx (.own x)) x (.ins (He.ga K "World") dx [])) (fun v H2 => v = .non ∧ Q x H2) E0 := by
  intro x dx hx hdx ne
  have g1 : Gr [] B H B (upd H dx (.own x)) := Gr.new_ hB hdx
  have g2 : Gr [] B H B (upd (upd H dx (.own x)) x (.ins (He.ga K "World") dx [])) := g1.trans (Gr.new_ g1.sub (by rw [upd_ne ne.symm]; exact hx))
  refine ⟨_, _, _, rfl, B, n, ps, S, x, dx, g2.sub, rfl, hB.none hx, upd_same, hw, hl, perm, hS, fun B' H' v1 v2 v3 v4 g bx hx' r1 r2 r3 => ⟨rfl, ?_⟩⟩
  exact q _ _ _ ((g2.fresh hx g).pub hx bx hx') ⟨hS, x, dx, v1, v2, v3, v4, rfl, upd_same, Rp.mono _ (ExW.new bx) r1, Rp.mono _ (ExW.new bx) r2, Rp.mono _ (ExW.new bx) r3⟩
def spLAllUnder (K : PySem.W.Frag) (Pt : Addr) : Sp := sp3 fun a b c H Q => ∃ (B : Hp) (p : Plan) (rl : List (List Int)) (Sb : Str → Int), ExW B H ∧ rPlan.rel B p a ∧ RowsOk p.ls p.bs ∧ (rL (rTU rInt)).rel B rl b ∧ rl.length ≤ 1000 ∧ (rWorld K).rel B (p.net, Sb) c ∧ B Pt = none ∧ LamX.TabS H Pt qLam ∧
  p.net.names.map Sb ∈ rl ∧ (∀ r ∈ rl, ∃ T : Str → Int, r = p.net.names.map T ∧ (∀ x ∈ p.net.names, isN (T x) = true) ∧ ∀ x ∈ p.net.names, T x ≤ Sb x) ∧ ∀ B' H', Gr [Pt] B H B' H' → LamX.TabS H' Pt qLam → Q (.bl true) H'
/-! ### _law_all_under -/
abbrev F__law_all_under (P : Program) (w : World) (K : PySem.W.Frag) (mg : Str → Option Value) (base : Heap) (Pt : Addr) : Prop := Fn P w K mg base CX0 9 "_law_all_under" ["_law_plan", "_law_rows", "_law_best"] [] (spLAllUnder K Pt)
abbrev N__law_all_under : List Str := ["_law_plan", "_law_rows", "_law_best", "_law_net", "_law_one", "_law_other", "_law_k"]
theorem sc__law_all_under : FnScope N__law_all_under ["_law_plan", "_law_rows", "_law_best"] (defScope (top 109)) := ⟨rfl, rfl, rfl, by decide +kernel, rfl, by decide +kernel, by decide +kernel⟩
theorem ok__law_all_under {Pt : Addr} (T : TX K mg) (D : DefAt K mg "_law_all_under" (top 109) []) (c_Web_init : F_Web_init P w K mg base Pt) (c_World_row : F_World_row P w K mg base) (c__law_row_glow : F__law_row_glow P w K mg base) (c_World_init : F_World_init P w K mg base) (c_World_under : F_World_under P w K mg base) (c__law_alike0 : F__law_alike0 P w K mg base)  : F__law_all_under P w K mg base Pt := by
  refine fn_ok D sc__law_all_under (by decide +kernel) (fun _ _ _ _ _ _ us hl => match us, hl with | [_, _, _], _ => rfl) (fun vs H Q E h => len3 h) (fun f cdv A outer s H vs Q E hr h => ?_)
  have nd := sc__law_all_under.nd
  obtain ⟨v0, v1, v2, rfl, h⟩ := h
  refine ⟨_, (pss_cons (ps_set (i := 3) nd rfl (Or.inl rfl) (pe_mk T.clWeb c_Web_init hr (by rfl) (pa_cons (pe_callTy (k_list K) (by rfl) T.list bt_list (pa_cons (pe_ix (kx_list K) (pv 0) pe_int (fun _ _ => rfl)) pa_nil)) (pa_cons (pe_callTy (k_list K) (by rfl) T.list bt_list (pa_cons (pe_ix (kx_list K) (pv 0) pe_int (fun _ _ => rfl)) pa_nil)) pa_nil))))
      (pss_cons (ps_if (pt_cmpR (k_notInD K (hu65 hr)) (pe_pr T.clWorld c_World_row hr (pv 2) rfl) (pv 1) (by rfl)) (pss_one (ps_ret pe_bl)) pss_nil)
      (pss_cons (ps_for PassesOwn.never rfl (kp_list K (pv 1)) (pg_name (i := 4) nd rfl (Or.inr rfl))
      (pss_cons (ps_if (pt_cmpR op_gt (pe_callB (k_len K) (by rfl) T.len bt_len (pa_cons (pe_lc (own := [("_law_k", 6)]) rfl nd (pi_range1 (by rfl) T.range (pa_cons (pe_callB (k_len K) (by rfl) T.len bt_len (pa_cons (pv 4) pa_nil)) pa_nil)) (blkOk_by (own := [("_law_k", 6)]) (N := N__law_all_under) (sc := defScope (top 109)) (by decide +kernel)) (fun _ _ _ _ _ => (pg_name (i := 6) nd rfl (Or.inl rfl))) (fun _ _ _ _ _ => (pts_one (pt_cmpR op_gt (pe_ix (kx_tup K) (pv 4) (pv 6) (fun _ _ => rfl)) (pe_ix (kx_tup K) (pe_pr T.clWorld c_World_row hr (pv 2) rfl) (pv 6) (fun _ _ => rfl)) (nomark _)))) (fun _ _ _ _ _ => (pv 6))) pa_nil)) pe_int (nomark _)) (pss_one (ps_ret pe_bl)) pss_nil)
      (pss_cons (ps_set (i := 5) nd rfl (Or.inl rfl) (pe_mk T.clWorld c_World_init hr (by rfl) (pa_cons (pv 3) (pa_cons (pe_fn c__law_row_glow hr (by rfl) (pa_cons (pv 0) (pa_cons (pv 4) pa_nil))) pa_nil))))
      (pss_one (ps_if (PW.pt (pw_or (pt_cmpR op_notBl (pe_mt T.clWorld c_World_under hr (pv 5) (pa_cons (pv 2) pa_nil)) pe_bl (nomark _)) (pw_or1 (pt_not (pt_val (pe_fn c__law_alike0 hr (by rfl) (pa_cons (pe_mt T.clWorld c_World_under hr (pv 2) (pa_cons (pv 5) pa_nil)) (pa_cons (pe_cmpR (k_eqD K (hu64 hr)) (pv 4) (pe_pr T.clWorld c_World_row hr (pv 2) rfl) (nomark _)) pa_nil)))))))) (pss_one (ps_ret pe_bl)) pss_nil)))))
      (pss_one (ps_ret pe_bl))))), ?_⟩
  obtain ⟨B, p, rl, Sb, hB, hp, ok, hrl, l1000, hW, bP, hT, hin, hall, q⟩ := h
  obtain ⟨pa, u1, u2, u3, rfl, hpa, hp1, hp2, hp3⟩ := id hp
  obtain ⟨l1, lvs, rfl, hl1, hls⟩ := id hp1
  obtain ⟨l2, bvs, rfl, hl2, hbs⟩ := id hp2
  obtain ⟨la, rvs, rfl, hla, hrvs⟩ := id hrl
  obtain ⟨okS, wa, wdx, w1, w2, w3, w4, rfl, hwa, _, _, _⟩ := id hW
  have okn : p.net.Ok := netOf_ok ok
  have l10 := okn.lt10
  have nP : H Pt ≠ none := by
    obtain ⟨ps, hp, _⟩ := hT
    rw [hp]; exact fun z => nomatch z
  refine ⟨_, rfl, pa, _, _, _, rfl, rfl, SqL.of (hB.lst hpa), atI_nat (j := 0) rfl, l1, _, rfl, .inl (SqL.of (hB.lst hl1)), fun c1 hc1 => ?_⟩
  have g1 : Gr [] B H (upd B c1 (.lst lvs)) (upd H c1 (.lst lvs)) := Gr.newP hB hc1
  have k1 : (upd B c1 (.lst lvs)) c1 = some (.lst lvs) := upd_same
  generalize upd B c1 (.lst lvs) = B1 at *
  generalize upd H c1 (.lst lvs) = H1 at *
  refine ⟨_, rfl, pa, _, _, _, rfl, rfl, SqL.of (g1.sub.lst (g1.up.lst hpa)), atI_nat (j := 1) rfl, l2, _, rfl, .inl (SqL.of (g1.sub.lst (g1.up.lst hl2))), fun c2 hc2 => ?_⟩
  have g12 : Gr [] B1 H1 (upd B1 c2 (.lst bvs)) (upd H1 c2 (.lst bvs)) := Gr.newP g1.sub hc2
  have g2 := g1.trans g12
  have hL2 : (rL rLRow).rel (upd B1 c2 (.lst bvs)) p.ls (.ref c1) := ⟨c1, lvs, rfl, g12.up.lst k1, All2.mono g2.up hls⟩
  have hB2 : (rL rBRow).rel (upd B1 c2 (.lst bvs)) p.bs (.ref c2) := ⟨c2, bvs, rfl, upd_same, All2.mono g2.up hbs⟩
  have T2 := Tab.gr0 hT hB g2
  have bP2 := g2.new Pt bP nP
  generalize upd B1 c2 (.lst bvs) = B2 at *
  generalize upd H1 c2 (.lst bvs) = H2 at *
  refine mkWeb_go (ls := p.ls) (bs := p.bs) g2.sub hL2 hB2 ok bP2 T2 fun B3 H3 wv g3 T3 bP3 hw => ?_
  have G3 : Gr [Pt] B H B3 H3 := g2.any.trans g3
  have hW3 := Rp.mono _ G3.up hW
  have hrl3 := Rp.mono _ G3.up hrl
  refine ⟨_, rfl, wa, wdx, _, rfl, G3.sub.ins (G3.up.ins hwa), ⟨_, rfl, B3, p.net, Sb, G3.sub, hW3, fun rv hrv => ?_⟩⟩
  refine ⟨_, rfl, ninRows_go G3.sub hrv hrl3 ⟨_, rfl, ?_⟩⟩
  rw [decide_eq_true hin]
  refine iteF ?_
  refine ⟨_, rfl, la, rfl, ⟨_, SqL.of (G3.sub.lst (G3.up.lst hla))⟩, for_go (Rs := rTU rInt) (fun i σ1 B4 H4 => (∃ z4 z5 z6, σ1 = [some (.ref pa), some (.ref la), some (.ref wa), some (.ref wv), z4, z5, z6]) ∧ Gr [] B3 H3 B4 H4)
    (src_list (G3.up.lst hla)) (All2.mono G3.up hrvs) ⟨⟨_, _, _, rfl⟩, Gr.refl G3.sub⟩ (fun i σ1 B1 H1 h => ⟨h.2.up, h.2.sub⟩) (fun i r x σ1 B4 H4 hr hx h => ?_) (fun σ1 B4 H4 h => ?_)⟩
  · obtain ⟨⟨z4, z5, z6, rfl⟩, g4⟩ := h
    obtain ⟨ra, ris, rfl, hra, hrs⟩ := id hx
    have eri := ints_eq hrs
    subst eri
    obtain ⟨T', eT, hTn, hle⟩ := hall r (List.mem_of_getElem? hr)
    have up4 : ExW B B4 := G3.up.trans g4.up
    have hW4 := Rp.mono _ up4 hW
    have lr : r.length = p.net.names.length := by rw [eT, List.length_map]
    have lri : (r.map V.int).length = p.net.names.length := by rw [List.length_map, lr]
    refine ⟨_, rfl, ra, _, rfl, .inr (SqT.of (g4.sub.tup hra)), _, rfl, by omega, by omega, ?_⟩
    rw [Int.toNat_natCast, lri]
    refine fun D hD => lc_flt (ys := List.range p.net.names.length) (Rs := rNat) (R := rNat) (fun _ => none) src_rng g4.sub hD (nats2 _) (by rw [List.length_map, List.length_range]; omega) (fun k kx B5 H5 K1 K0 hk hkx g5 k1 k0 => ?_) (fun B5 H5 g5 h5 => ?_)
    · obtain rfl : kx = .int k := hkx
      have hkn : k < p.net.names.length := List.mem_range.mp hk
      have en : p.net.names[k]? = some p.net.names[k] := List.getElem?_eq_getElem hkn
      have e1 : (r.map V.int)[k]? = some (.int (T' p.net.names[k])) := by rw [eT, List.map_map, List.getElem?_map, en]; rfl
      have e2 : ((p.net.names.map Sb).map V.int)[k]? = some (.int (Sb p.net.names[k])) := by rw [List.map_map, List.getElem?_map, en]; rfl
      have le := hle _ (List.getElem_mem hkn)
      have up5 := up4.trans g5.up
      refine ⟨_, rfl, _, rfl, ra, _, _, _, rfl, rfl, SqT.of (g5.sub.tup (g5.up.tup hra)), atI_nat e1, _, rfl, wa, wdx, _, rfl, g5.sub.ins (up5.ins hwa), ⟨_, rfl, B5, p.net, Sb, g5.sub, Rp.mono _ up5 hW, fun rv2 hrv2 => ?_⟩⟩
      obtain ⟨rb, rbs, rfl, hrb, hrbs⟩ := id hrv2
      have erb := ints_eq hrbs
      subst erb
      exact ⟨_, rfl, rb, _, _, _, rfl, rfl, SqT.of (g5.sub.tup hrb), atI_nat e2, _, _, rfl, rfl, _, rfl, iteF' (decide_eq_false (by omega)) (k0 _ _ rfl (Gr.refl g5.sub))⟩
    obtain ⟨vs5, h50, h5b, h5h, h5a⟩ := h5.at_
    have e5 : (List.range p.net.names.length).filterMap (fun _ => (none : Option Nat)) = [] := by rw [List.filterMap_eq_nil_iff]; exact fun _ _ => rfl
    rw [e5] at h5a
    have e0 : vs5 = [] := by cases h5a; rfl
    subst e0
    refine ⟨D, [], rfl, .inl (SqL.of h5h), _, _, rfl, rfl, _, rfl, iteF' rfl ?_⟩
    have g35 := g4.trans g5
    have up5 : ExW B B5 := G3.up.trans g35.up
    have hx5 := Rp.mono _ g5.up hx
    have hxT : (rTU rInt).rel B5 (p.net.names.map T') (.ref ra) := by rw [← eT]; exact hx5
    refine ⟨_, rfl, _, rfl, _, rfl, _, _, rfl, B5, p, T', g35.sub, Rp.mono _ up5 hp, ok, hxT, hTn, fun B6 H6 gv g6 hg => ?_⟩
    refine mkWorld_go2 g6.sub (Rp.mono _ (g35.up.trans g6.up) hw) hg (List.Perm.refl _) hTn (fun B7 H7 oa g7 ho => ?_)
    have g57 := g6.trans g7
    have up7 : ExW B B7 := up5.trans g57.up
    obtain ⟨_, _, odx, o1, o2, o3, o4, eoa, hoa, _, _, _⟩ := id ho
    cases eoa
    have all1 : (p.net.names.all fun x => decide (T' x ≤ Sb x)) = true := List.all_eq_true.mpr fun x hx => decide_eq_true (hle x hx)
    have all2 : (p.net.names.all fun x => decide (Sb x ≤ T' x)) = decide (r = p.net.names.map Sb) := by
      rw [Bool.eq_iff_iff, List.all_eq_true, decide_eq_true_eq, eT]
      constructor
      · intro h
        refine List.map_congr_left fun x hx => ?_
        have a := of_decide_eq_true (h x hx)
        have b := hle x hx
        omega
      · intro h x hx
        have := List.map_inj_left.mp h x hx
        exact decide_eq_true (by omega)
    refine ⟨_, rfl, oa, odx, _, rfl, g7.sub.ins hoa, worldF_no (by decide +kernel), _, rfl, _, _, rfl, B7, p.net, T', Sb, g7.sub, ho, Rp.mono _ up7 hW, fun B8 H8 g8 => ?_⟩
    refine ⟨_, true, rfl, rfl, _, rfl, iteF' (by rw [all1]; rfl) ?_⟩
    have up8 := up7.trans g8.up
    refine ⟨_, rfl, wa, wdx, _, rfl, g8.sub.ins (up8.ins hwa), worldF_no (by decide +kernel), _, rfl, _, _, rfl, B8, p.net, Sb, T', g8.sub, Rp.mono _ up8 hW, Rp.mono _ g8.up ho, fun B9 H9 g9 => ?_⟩
    have up9 := up8.trans g9.up
    refine ⟨_, rfl, _, rfl, wa, wdx, _, rfl, g9.sub.ins (up9.ins hwa), ⟨_, rfl, B9, p.net, Sb, g9.sub, Rp.mono _ up9 hW, fun rv3 hrv3 => ?_⟩⟩
    refine eqRows_go (r := r) g9.sub (Rp.mono _ ((g57.up.trans g8.up).trans g9.up) hx5) hrv3 ⟨_, _, rfl, B9, "bool", g9.sub, congrArg V.bl all2, .bl _, fun B10 H10 g10 => ⟨_, rfl, iteF' rfl ?_⟩⟩
    exact ⟨B10, ⟨_, _, _, rfl⟩, (((g35.trans g57).trans g8).trans g9).trans g10⟩
  · obtain ⟨⟨z4, z5, z6, rfl⟩, g4⟩ := h
    exact q B4 H4 (G3.trans g4.any) (Tab.gr0 T3 G3.sub g4)
end
end OB

/-! ## QM -/
set_option maxHeartbeats 4000000
namespace OB
open PySem PySem.Spec PyProof.Rows L2
theorem cans_mem {n : Net} {S : Str → Int} {x : Str} (h : x ∈ cans n S) : ∃ b ∈ n.bonds, can n S b = true ∧ b.nm = x := by
  obtain ⟨b, hb, e⟩ := List.mem_map.mp h
  obtain ⟨h1, h2⟩ := List.mem_filter.mp hb
  exact ⟨b, h1, h2, e⟩
theorem cans_len {n : Net} {S : Str → Int} (ok : n.Ok) : (cans n S).length ≤ 16 := by
  unfold cans
  rw [List.length_map]
  exact Nat.le_trans (List.length_filter_le _ _) ok.blen
section
variable {P : Program} {w : World} {K : PySem.W.Frag} {mg : Str → Option Value} {base : Heap}
def spLWalk (K : PySem.W.Frag) : Sp := sp7 fun a b c d e f g H Q => ∃ (B : Hp) (st : Addr) (p : Plan) (ps : List Str) (S : Str → Int) (ys : List Str) (A : Str → Int) (rl : List (List Int)), ExW B H ∧ Store B H st ∧ a = .ref st ∧ rPlan.rel B p b ∧ RowsOk p.ls p.bs ∧ (rD rInt).rel B (glow ps S) c ∧ ps.Perm p.net.names ∧ (∀ x, isN (S x) = true) ∧ (rD rInt).rel B (glow ys A) d ∧ WishOk p.net ys A ∧
  (rL (rTU rInt)).rel B rl e ∧ (∀ T, Rch p.net S T → p.net.names.map T ∈ rl) ∧ (rWorld K).rel B (p.net, S) f ∧ (g = .non ∨ ∃ Sb, (rWorld K).rel B (p.net, Sb) g ∧ ∀ T, Rch p.net S T → (∀ x ∈ ys, T x = A x) → ∀ x ∈ p.net.names, T x ≤ Sb x) ∧
  ∀ B' H', Gr [st] B H B' H' → Store B' H' st → Q (.bl true) H'
/-! ### _law_walk_right -/
abbrev F__law_walk_right (P : Program) (w : World) (K : PySem.W.Frag) (mg : Str → Option Value) (base : Heap) : Prop := Fn P w K mg base CX0 12 "_law_walk_right" ["_law_store_here", "_law_plan", "_law_glow", "_law_aims", "_law_rows", "_law_begin", "_law_best"] [] (spLWalk K)
abbrev N__law_walk_right : List Str := ["_law_store_here", "_law_plan", "_law_glow", "_law_aims", "_law_rows", "_law_begin", "_law_best", "_law_top", "_law_now", "_law_here", "_law_turn", "_law_menu", "_law_label"]
theorem sc__law_walk_right : FnScope N__law_walk_right ["_law_store_here", "_law_plan", "_law_glow", "_law_aims", "_law_rows", "_law_begin", "_law_best"] (defScope (top 108)) := ⟨rfl, rfl, rfl, by decide +kernel, rfl, by decide +kernel, by decide +kernel⟩
theorem ok__law_walk_right (T : TX K mg) (D : DefAt K mg "_law_walk_right" (top 108) []) (c_brightest1 : F_brightest1 P w K mg base) (c_possible : F_possible P w K mg base) (c__law_can : F__law_can P w K mg base) (c__law_alikeL : F__law_alikeL P w K mg base) (c__law_row : F__law_row P w K mg base) (c__law_alikeT : F__law_alikeT P w K mg base) (c_World_row : F_World_row P w K mg base) (c__law_has_lights : F__law_has_lights P w K mg base) (c_World_under : F_World_under P w K mg base) (c__law_alike0 : F__law_alike0 P w K mg base) (c_at_rest : F_at_rest P w K mg base) (c__law_pick : F__law_pick P w K mg base) (c_take : F_take P w K mg base) (c__law_after : F__law_after P w K mg base) (c__law_edge_of : F__law_edge_of P w K mg base)  : F__law_walk_right P w K mg base := by
  refine fn_ok D sc__law_walk_right (by decide +kernel) (fun _ _ _ _ _ _ us hl => match us, hl with | [_, _, _, _, _, _, _], _ => rfl) (fun vs H Q E h => len7 h) (fun f cdv A outer s H vs Q E hr h => ?_)
  have nd := sc__law_walk_right.nd
  obtain ⟨v0, v1, v2, v3, v4, v5, v6, rfl, h⟩ := h
  refine ⟨_, (pss_cons (ps_set (i := 7) nd rfl (Or.inl rfl) (pe_fnX c_brightest1 hr (by rfl) (pa_cons (pv 5) pa_nil)))
      (pss_cons (ps_set (i := 8) nd rfl (Or.inl rfl) (pe_callTy call_dictD (by rfl) T.dict bt_dict (pa_cons (pv 2) pa_nil)))
      (pss_cons (ps_set (i := 9) nd rfl (Or.inl rfl) (pv 5))
      (pss_cons (ps_for PassesOwn.never rfl (pi_range1 (by rfl) T.range (pa_cons pe_int pa_nil)) (pg_name (i := 10) nd rfl (Or.inl rfl))
      (pss_cons (ps_set (i := 11) nd rfl (Or.inl rfl) (pe_fn c_possible hr (by rfl) (pa_cons (pv 9) pa_nil)))
      (pss_cons (ps_if (PW.pt (pw_or (pt_not (pt_val (pe_fn c__law_alikeL hr (by rfl) (pa_cons (pv 11) (pa_cons (pe_fn c__law_can hr (by rfl) (pa_cons (pv 1) (pa_cons (pv 8) pa_nil))) pa_nil))))) (pw_or (pt_not (pt_val (pe_fn c__law_alikeT hr (by rfl) (pa_cons (pe_pr T.clWorld c_World_row hr (pv 9) rfl) (pa_cons (pe_fn c__law_row hr (by rfl) (pa_cons (pv 8) pa_nil)) pa_nil))))) (pw_or1 (pt_cmpR (k_notInD K (hu65 hr)) (pe_pr T.clWorld c_World_row hr (pv 9) rfl) (pv 4) (by rfl)))))) (pss_one (ps_ret pe_bl)) pss_nil)
      (pss_cons (ps_if (PW.pt (pw_and (pt_cmpR op_notN (pv 6) pe_non (nomark _)) (pw_and (pt_val (pe_fn c__law_has_lights hr (by rfl) (pa_cons (pv 8) (pa_cons (pv 3) pa_nil)))) (pw_and1 (pt_cmpR op_notBl (pe_mt T.clWorld c_World_under hr (pv 9) (pa_cons (pv 6) pa_nil)) pe_bl (nomark _)))))) (pss_one (ps_ret pe_bl)) pss_nil)
      (pss_cons (ps_if (PW.pt (pw_or (pt_cmpR op_notBl (pe_mt T.clWorld c_World_under hr (pv 9) (pa_cons (pv 7) pa_nil)) pe_bl (nomark _)) (pw_or1 (pt_not (pt_val (pe_fn c__law_alike0 hr (by rfl) (pa_cons (pe_fn c_at_rest hr (by rfl) (pa_cons (pv 9) pa_nil)) (pa_cons (pe_cmpR op_eq (pe_callB (k_len K) (by rfl) T.len bt_len (pa_cons (pv 11) pa_nil)) pe_int (nomark _)) pa_nil)))))))) (pss_one (ps_ret pe_bl)) pss_nil)
      (pss_cons (ps_if (pt_cmpR op_eq (pe_callB (k_len K) (by rfl) T.len bt_len (pa_cons (pv 11) pa_nil)) pe_int (nomark _)) (pss_one (ps_ret pe_bl)) pss_nil)
      (pss_cons (ps_set (i := 12) nd rfl (Or.inl rfl) (pe_fn c__law_pick hr (by rfl) (pa_cons (pv 0) (pa_cons (pe_fn c__law_can hr (by rfl) (pa_cons (pv 1) (pa_cons (pv 8) pa_nil))) pa_nil))))
      (pss_cons (ps_set (i := 9) nd rfl (Or.inl rfl) (pe_fn c_take hr (by rfl) (pa_cons (pv 9) (pa_cons (pv 12) pa_nil))))
      (pss_one (ps_set (i := 8) nd rfl (Or.inl rfl) (pe_fn c__law_after hr (by rfl) (pa_cons (pv 8) (pa_cons (pe_fn c__law_edge_of hr (by rfl) (pa_cons (pv 1) (pa_cons (pv 12) pa_nil))) pa_nil)))))))))))))
      (pss_one (ps_ret pe_bl)))))), ?_⟩
  obtain ⟨B, st, p, ps, S, ys, A', rl, hB, sto, rfl, hp, ok, hl, perm, hS, hA, okA, hrl, hin, hW, hbest, q⟩ := h
  have okn : p.net.Ok := netOf_ok ok
  have l10 := okn.lt10
  have hpw : p.net.names.Pairwise (fun a b => leN a b = true) := net_names_pw
  have ndp : ps.Nodup := perm.symm.nodup okn.nd
  have l64 : ps.length < 64 := by rw [perm.length_eq]; exact okn.lt
  have hps : ∀ x, x ∈ ps ↔ x ∈ p.net.names := fun x => perm.mem_iff
  have w0 : WishOk p.net [] (fun _ => 0) := ⟨List.nodup_nil, fun x h => absurd h List.not_mem_nil, fun x h => absurd h List.not_mem_nil⟩
  refine ⟨_, rfl, _, _, rfl, B, p.net, S, [], fun _ => 0, hB, hW, .inl ⟨rfl, rfl⟩, w0, fun ys0 vs perm0 srt0 vsrt vmem ef B1 H1 tv g1 htop => ?_, fun ys0 pp rr perm0 srt0 ef => by
    have e0 := perm0.eq_nil
    subst e0
    cases ef⟩
  have e0 := perm0.eq_nil
  subst e0
  have hbelow : ∀ T, Rch p.net S T → ∀ x ∈ p.net.names, T x ≤ bestL p.net S (capsOf p.net S [] fun _ => 0) vs x := fun T r => r.lower okn vsrt vmem (fun x => r.caps (fun x h => absurd h List.not_mem_nil) x)
  generalize bestL p.net S (capsOf p.net S [] fun _ => 0) vs = Tp at *
  obtain ⟨d, kvs, rfl, hd, hk⟩ := id hl
  refine ⟨_, rfl, d, kvs, rfl, g1.sub.rd (g1.up.rd hd), fun c hc => ?_⟩
  have g2 : Gr [st] B H (upd B1 c (.dK kvs)) (upd H1 c (.dK kvs)) := g1.any.trans (Gr.newP g1.sub hc)
  have s1 := sto.keep0 g1
  have s2 : Store (upd B1 c (.dK kvs)) (upd H1 c (.dK kvs)) st := (s1.aside (s1.ne hc)).pub (s1.ne hc) (g1.sub.none hc)
  have hnow0 : (rD rInt).rel (upd B1 c (.dK kvs)) (glow ps S) (.ref c) := ⟨c, kvs, rfl, .inl upd_same, DAll.mono g2.up hk⟩
  have htop2 := Rp.mono _ (ExW.new (o := .dK kvs) (g1.sub.none hc)) htop
  generalize upd B1 c (.dK kvs) = B2 at *
  generalize upd H1 c (.dK kvs) = H2 at *
  obtain ⟨pa, u1, u2, u3, rfl, hpa, hp1, hp2, hp3⟩ := id hp
  obtain ⟨la, rvs, rfl, hla, hrvs⟩ := id hrl
  obtain ⟨da, dkvs, rfl, _⟩ := id hA
  refine ⟨_, rfl, 12, rfl, by decide, by decide, ?_⟩
  rw [show (12 : Int).toNat = 12 from rfl]
  refine for_go (Rs := rNat) (fun i σ1 B4 H4 => (∃ nowv herev z10 z11 z12, σ1 = [some (.ref st), some (.ref pa), some (.ref d), some (.ref da), some (.ref la), some v5, some v6, some tv, some nowv, some herev, z10, z11, z12] ∧ ∃ T, Rch p.net S T ∧ (rD rInt).rel B4 (glow ps T) nowv ∧ (rWorld K).rel B4 (p.net, T) herev) ∧ Gr [st] B2 H2 B4 H4 ∧ Store B4 H4 st)
    src_rng (nats2 _) ⟨⟨_, _, _, _, _, rfl, S, .refl, hnow0, Rp.mono _ g2.up hW⟩, Gr.refl g2.sub, s2⟩ (fun i σ1 B1 H1 h => ⟨h.2.1.up, h.2.1.sub⟩) (fun i y x σ1 B4 H4 hy hx h => ?_) (fun σ1 B4 H4 h => ?_)
  · obtain ⟨⟨nowv, herev, z10, z11, z12, rfl, T', rT, hnow, hhere⟩, g4, s4⟩ := h
    obtain rfl : x = .int y := hx
    have G4 := g2.trans g4
    obtain ⟨okT, ha, hdx, o1, o2, o3, o4, rfl, hha, _, _, _⟩ := id hhere
    refine ⟨_, rfl, _, rfl, B4, p.net, T', g4.sub, hhere, fun B5 H5 mv g5 hm => ?_⟩
    obtain ⟨ml, mvs, rfl, hml, hms⟩ := id hm
    have emv := strs_eq hms
    subst emv
    have cl := cans_len (S := T') okn
    refine ⟨_, rfl, _, rfl, _, rfl, _, _, rfl, B5, p, ps, T', g5.sub, Rp.mono _ (G4.up.trans g5.up) hp, ok, Rp.mono _ g5.up hnow, hps, fun B6 H6 cv g6 hcv => ?_⟩
    refine ⟨_, _, rfl, B6, cans p.net T', g6.sub, Rp.mono _ g6.up hm, hcv, by omega, fun B7 H7 g7 => ⟨_, rfl, iteF' rfl ?_⟩⟩
    have g47 := (g5.trans g6).trans g7
    refine ⟨_, rfl, ha, hdx, _, rfl, g7.sub.ins (g47.up.ins hha), ⟨_, rfl, B7, p.net, T', g7.sub, Rp.mono _ g47.up hhere, fun rv hrv => ?_⟩⟩
    refine ⟨_, rfl, _, rfl, B7, ps, T', p.net.names, g7.sub, Rp.mono _ g47.up hnow, perm, okn.nd, hpw, okn.lt, fun B8 H8 rv2 g8 hrv2 => ?_⟩
    refine ⟨_, _, rfl, B8, p.net.names.map T', g8.sub, Rp.mono _ g8.up hrv, hrv2, by rw [List.length_map]; omega, fun B9 H9 g9 => ⟨_, rfl, iteF' rfl ?_⟩⟩
    have g49 := (g47.trans g8).trans g9
    refine ⟨_, rfl, ha, hdx, _, rfl, g9.sub.ins (g49.up.ins hha), ⟨_, rfl, B9, p.net, T', g9.sub, Rp.mono _ g49.up hhere, fun rv3 hrv3 => ?_⟩⟩
    refine ⟨_, rfl, ninRows_go g9.sub hrv3 (Rp.mono _ (G4.up.trans g49.up) hrl) ⟨_, rfl, ?_⟩⟩
    rw [decide_eq_true (hin T' rT)]
    refine iteF ?_
    have tail : ∀ (D : Ends) (B10 H10 : Hp), Gr [] B9 H9 B10 H10 → D.rt = Q →
        (∀ σ' H', (∃ B', (∃ nowv herev z10 z11 z12, σ' = [some (.ref st), some (.ref pa), some (.ref d), some (.ref da), some (.ref la), some v5, some v6, some tv, some nowv, some herev, z10, z11, z12] ∧ ∃ T, Rch p.net S T ∧ (rD rInt).rel B' (glow ps T) nowv ∧ (rWorld K).rel B' (p.net, T) herev) ∧ Gr [st] B2 H2 B' H' ∧ Store B' H' st) → D.nx σ' H') →
        (tSeq
          (tIfS
            (tOr
              (tTest (tOp rNotB (tMeth (He.ga K (Str.ofString "World")) (Str.ofString "under") (spUnder K) [] E0 (tVar 9) (tCons (tVar 7) tNil)) (tC (V.bl true))))
              (tNot (tB (tCall spAlike0 [] E0 (tCons (tCall (spAtRest K) [] E0 (tCons (tVar 9) tNil)) (tCons (tOp rEq (tCB (fun xs H Q => ∃ p ys, xs = [V.ref p] ∧ (SqL K H p ys ∨ SqT K H p ys) ∧ Q (V.int ys.length) H) (tCons (tVar 11) tNil)) (tC (V.int 0))) tNil))))))
            (tRet (tC (V.bl false))) tNext)
          (tSeq
            (tIfS (tTest (tOp rEq (tCB (fun xs H Q => ∃ p ys, xs = [V.ref p] ∧ (SqL K H p ys ∨ SqT K H p ys) ∧ Q (V.int ys.length) H) (tCons (tVar 11) tNil)) (tC (V.int 0)))) (tRet (tC (V.bl true))) tNext)
            (tSeq
              (tAsg (tCall spPick [] E0 (tCons (tVar 0) (tCons (tCall spLCan [] E0 (tCons (tVar 1) (tCons (tVar 8) tNil))) tNil))) (gName 12))
              (tSeq (tAsg (tCall (spTake K) [] E0 (tCons (tVar 9) (tCons (tVar 12) tNil))) (gName 9))
                (tAsg (tCall spLAfter [] E0 (tCons (tVar 8) (tCons (tCall spLEdge [] E0 (tCons (tVar 1) (tCons (tVar 12) tNil))) tNil))) (gName 8))))))
          D [some (.ref st), some (.ref pa), some (.ref d), some (.ref da), some (.ref la), some v5, some v6, some tv, some nowv, some (.ref ha), some (.int y), some (.ref ml), z12] H10 := fun D B10 H10 g10 hrt k => by
      have gA := g49.trans g10
      refine ⟨_, rfl, ha, hdx, _, rfl, g10.sub.ins (gA.up.ins hha), worldF_no (by decide +kernel), _, rfl, _, _, rfl, B10, p.net, T', Tp, g10.sub, Rp.mono _ gA.up hhere, Rp.mono _ (g4.up.trans gA.up) htop2, fun B11 H11 g11 => ?_⟩
      have all1 : (p.net.names.all fun x => decide (T' x ≤ Tp x)) = true := List.all_eq_true.mpr fun x hx => decide_eq_true (hbelow T' rT x hx)
      refine ⟨_, true, rfl, rfl, _, rfl, iteF' (by rw [all1]; rfl) ?_⟩
      have gB := gA.trans g11
      refine ⟨_, rfl, _, rfl, B11, p.net, T', g11.sub, Rp.mono _ gB.up hhere, fun B12 H12 g12 => ?_⟩
      have gC := gB.trans g12
      have g5C : Gr [] B5 H5 B12 H12 := ((((g6.trans g7).trans g8).trans g9).trans g10).trans (g11.trans g12)
      have e0 : decide (cans p.net T' = []) = decide (V.int (((cans p.net T').map V.str).length : Nat) = V.int 0) := by
        rw [dec_intD, List.length_map, Bool.eq_iff_iff, decide_eq_true_eq, decide_eq_true_eq]
        constructor
        · intro h; rw [h]; rfl
        · intro h; exact List.eq_nil_of_length_eq_zero (by omega)
      refine ⟨_, rfl, ml, _, rfl, .inl (SqL.of (g12.sub.lst (g5C.up.lst hml))), rfl, _, _, rfl, B12, "bool", g12.sub, congrArg V.bl e0, .bl _, fun B13 H13 g13 => ⟨_, rfl, iteF' rfl ?_⟩⟩
      have gD := gC.trans g13
      refine ⟨_, rfl, ml, _, rfl, .inl (SqL.of (g13.sub.lst ((g5C.up.trans g13.up).lst hml))), rfl, _, rfl, ?_⟩
      have G13 : Gr [st] B H B13 H13 := G4.trans gD.any
      have s13 := s4.keep0 gD
      refine ite2 (fun _ => ?_) (fun e1 => ?_)
      · show D.rt (.bl true) H13
        rw [hrt]
        exact q B13 H13 G13 s13
      refine ⟨_, rfl, _, rfl, _, rfl, _, _, rfl, B13, p, ps, T', g13.sub, Rp.mono _ G13.up hp, ok, Rp.mono _ gD.up hnow, hps, fun B14 H14 cv g14 hcv => ?_⟩
      obtain ⟨cl2, cvs, rfl, hcl2, hcs2⟩ := id hcv
      have ecv := strs_eq hcs2
      subst ecv
      have ne : (cans p.net T').map V.str ≠ [] := fun z => by
        rw [z] at e1
        exact e1 rfl
      refine ⟨_, _, rfl, B14, st, cl2, _, g14.sub, s13.keep0 g14, rfl, rfl, hcl2, ne, by rw [List.length_map]; omega, fun H15 v mv g15 s15 => ?_⟩
      obtain ⟨nm, hnm, rfl⟩ := List.mem_map.mp mv
      obtain ⟨b, hb, hcb, rfl⟩ := cans_mem hnm
      obtain ⟨c0, hc0, rfl⟩ := of_kept hb
      have gE : Gr [st] B4 H4 B14 H15 := (gD.any.trans g14.any).trans g15
      refine ⟨_, rfl, _, rfl, _, _, rfl, B14, p.net, T', kept c0, g15.sub, Rp.mono _ gE.up hhere, hb, rfl, hcb, fun B16 H16 hv g16 hh => ?_⟩
      have gF := gE.trans g16.any
      refine ⟨_, rfl, _, rfl, _, rfl, _, _, rfl, B16, p, c0, g16.sub, Rp.mono _ (G4.up.trans gF.up) hp, ok, hc0, by rw [kept_nm], fun ev hev => ?_⟩
      obtain ⟨me1, me2, _⟩ := ok.ends c0 hc0
      have na : c0.a ∈ ps := (hps _).mpr (netOf_names.mem_iff.mpr me1)
      have nb : c0.b ∈ ps := (hps _).mpr (netOf_names.mem_iff.mpr me2)
      refine ⟨_, _, rfl, B16, ps, T', c0, g16.sub, Rp.mono _ gF.up hnow, ndp, l64, na, nb, hev, fun B17 H17 nv g17 hn => ?_⟩
      rw [can_kept] at hcb
      rw [stp_kept (can_ne hcb)] at hh
      exact k _ _ ⟨B17, ⟨_, _, _, _, _, rfl, stp T' c0, rT.by hc0 hcb, hn, Rp.mono _ g17.up hh⟩, g4.trans (gF.trans g17.any), (s15.keep0 g16).keep0 g17⟩
    rcases hbest with rfl | ⟨Sb, hSb, hbl⟩
    · exact ⟨_, rfl, rfl, _, rfl, iteF (iteF (tail _ B9 H9 (Gr.refl g9.sub) rfl fun σ' H' h => h))⟩
    · obtain ⟨_, ba, bdx, b1, b2, b3, b4, rfl, hba, _, _, _⟩ := id hSb
      refine ⟨_, rfl, rfl, _, rfl, ite_tt ⟨_, rfl, _, rfl, _, _, rfl, B9, ps, T', ys, A', g9.sub, Rp.mono _ g49.up hnow, Rp.mono _ (G4.up.trans g49.up) hA, fun x hx => (hps x).mpr (okA.sub x hx), by have := okA.le okn; omega, fun B10 H10 g10 => ⟨_, rfl, ?_⟩⟩⟩
      refine ite2 (fun e1 => ?_) (fun _ => iteF (tail _ B10 H10 g10 rfl fun σ' H' h => h))
      have told : ∀ x ∈ ys, T' x = A' x := fun x hx => of_decide_eq_true (List.all_eq_true.mp e1 x hx)
      have gA := g49.trans g10
      have all1 : (p.net.names.all fun x => decide (T' x ≤ Sb x)) = true := List.all_eq_true.mpr fun x hx => decide_eq_true (hbl T' rT told x hx)
      refine ⟨_, rfl, ha, hdx, _, rfl, g10.sub.ins (gA.up.ins hha), worldF_no (by decide +kernel), _, rfl, _, _, rfl, B10, p.net, T', Sb, g10.sub, Rp.mono _ gA.up hhere, Rp.mono _ (G4.up.trans gA.up) hSb, fun B11 H11 g11 => ?_⟩
      exact ⟨_, true, rfl, rfl, _, rfl, iteF' (by rw [all1]; rfl) (tail _ B11 H11 (g10.trans g11) rfl fun σ' H' h => h)⟩
  · obtain ⟨⟨nowv, herev, z10, z11, z12, rfl, T', rT, hnow, hhere⟩, g4, s4⟩ := h
    exact q B4 H4 (g2.trans g4) s4
end
end OB

/-! ## QN -/
set_option maxHeartbeats 4000000
namespace OB
open PySem PySem.Spec PyProof.Rows L2
/-! ### the law's own state -/
structure St8 (Pt st : Addr) (B H : Hp) : Prop where
  sub : ExW B H
  sto : Store B H st
  bP : B Pt = none
  tab : LamX.TabS H Pt qLam
section
variable {Pt st : Addr} {B H B' H' : Hp}
theorem tab_ne (t : LamX.TabS H Pt qLam) : H Pt ≠ none := by
  obtain ⟨ps, hp, _⟩ := t
  rw [hp]; exact fun z => nomatch z
theorem St8.ne (s : St8 Pt st B H) : Pt ≠ st := fun z => by
  obtain ⟨ps, hp, _⟩ := s.tab
  obtain ⟨_, c, i1, i2, i3, i4, i5, i6, h1, _⟩ := s.sto
  rw [z, h1] at hp; cases hp
theorem St8.gr (s : St8 Pt st B H) (g : Gr [st] B H B' H') (s' : Store B' H' st) : St8 Pt st B' H' := by
  refine ⟨g.sub, s', g.new Pt s.bP (tab_ne s.tab), Tab.gr s.tab s.sub g (by simp [s.ne]) fun a ha c q z => ?_⟩
  have : a = st := by simpa using ha
  subst this
  obtain ⟨_, c, i1, i2, i3, i4, i5, i6, h1, _⟩ := s.sto
  rw [h1] at z
  have := Option.some.inj z
  unfold LamX.CodeO at this
  cases this
theorem St8.gr0 (s : St8 Pt st B H) (g : Gr [] B H B' H') : St8 Pt st B' H' := s.gr g.any (s.sto.keep0 g)
theorem St8.grP (s : St8 Pt st B H) (g : Gr [Pt] B H B' H') (t : LamX.TabS H' Pt qLam) : St8 Pt st B' H' :=
  ⟨g.sub, s.sto.keep g (by simp [s.ne.symm]), g.new Pt s.bP (tab_ne s.tab), t⟩
/-- all tuples that stand are known -/
def allTup (B H : Hp) : Hp := fun a => match B a with
  | some o => some o
  | none => match H a with
    | some (.tup xs) => some (.tup xs)
    | _ => none
theorem allTup_tup {a : Addr} {xs : List V} (hB : ExW B H) (h : H a = some (.tup xs)) : allTup B H a = some (.tup xs) := by
  unfold allTup
  cases e : B a with
  | none => show (match H a with | some (.tup xs) => some (HO.tup xs) | _ => none) = _; rw [h]
  | some o =>
    rcases hB a o e with q | ⟨_, _, od, q⟩
    · rw [h] at q; exact q.symm
    · rw [h] at q; cases q
theorem allTup_up : ExW B (allTup B H) := fun a o e => .inl (by unfold allTup; rw [e])
theorem allTup_none {a : Addr} (hb : B a = none) (h : ∀ xs, H a ≠ some (.tup xs)) : allTup B H a = none := by
  unfold allTup
  rw [hb]
  show (match H a with | some (.tup xs) => some (HO.tup xs) | _ => none) = none
  split
  · rename_i xs e; exact absurd e (h xs)
  · rfl
theorem allTup_sub (hB : ExW B H) : ExW (allTup B H) H := fun a o e => by
  cases eb : B a with
  | some u =>
    have : allTup B H a = some u := by unfold allTup; rw [eb]
    rw [this] at e; cases e
    exact hB a o eb
  | none =>
    have e : (match H a with | some (.tup xs) => some (HO.tup xs) | _ => none) = some o := by
      have := e; unfold allTup at this; rw [eb] at this; exact this
    split at e
    · rename_i xs h; cases e; exact .inl h
    · cases e
theorem St8.tups (s : St8 Pt st B H) : St8 Pt st (allTup B H) H := by
  obtain ⟨b, c, i1, i2, i3, i4, i5, i6, h1, ok⟩ := s.sto
  refine ⟨allTup_sub s.sub, ⟨allTup_none b (fun xs z => by rw [h1] at z; cases z), c, i1, i2, i3, i4, i5, i6, h1, ok.mono allTup_up⟩, allTup_none s.bP (fun xs z => ?_), s.tab⟩
  obtain ⟨ps, hp, _⟩ := s.tab
  rw [hp] at z; cases z
end
/-- a row that a value stands for -/
def rowOf (B : Hp) (v : V) : List Int := match v with
  | .ref a => (match B a with
    | some (.tup xs) => xs.filterMap fun x => (match x with
      | .int i => some i
      | _ => none)
    | _ => [])
  | _ => []
theorem rowOf_eq {B : Hp} {r : List Int} {v : V} (h : (rTU rInt).rel B r v) : rowOf B v = r ∧ ∃ a, v = .ref a ∧ B a = some (.tup (r.map V.int)) := by
  obtain ⟨a, vs, rfl, ha, hv⟩ := h
  have := ints_eq hv
  subst this
  refine ⟨?_, a, rfl, ha⟩
  unfold rowOf
  show (match B a with | some (.tup xs) => xs.filterMap fun x => (match x with | .int i => some i | _ => none) | _ => []) = r
  rw [ha]
  show (r.map V.int).filterMap _ = r
  rw [List.filterMap_map]
  exact List.filterMap_some
theorem keys_rows {H B : Hp} (hB : ∀ a xs, H a = some (.tup xs) → B a = some (.tup xs)) : ∀ {f : List (List Int)} {kvs : List (List Key × V)} {bs : List Addr}, kvs.map (·.1) = f.map (fun r => r.map Sum.inl) → IsKeys H kvs bs → All2 ((rTU rInt).rel B) f (bs.map V.ref)
  | [], [], _, _, h => by cases h; exact .nil
  | [], _ :: _, _, e, _ => by simp at e
  | _ :: _, [], _, e, _ => by simp at e
  | r :: f, (k, v) :: kvs, _, e, h => by
    rw [List.map_cons, List.map_cons, List.cons.injEq] at e
    obtain ⟨e1, e2⟩ := e
    have e1 : k = r.map Sum.inl := e1
    subst e1
    cases h with
    | cons a t =>
      have a : H _ = some (.tup ((r.map Sum.inl).map kV)) := a
      rw [List.map_map] at a
      exact .cons ⟨_, _, rfl, hB _ _ a, ints2 r⟩ (keys_rows hB e2 t)
/-- the lights that are borne, in order -/
theorem borne_ex (n : Net) (S : Str → Int) : ∃ vs : List Int, vs.Pairwise (· < ·) ∧ ∀ v, v ∈ vs ↔ ∃ x ∈ n.names, S x = v := by
  refine ⟨(once (n.names.map S)).mergeSort (fun a b => decide (a ≤ b)), ?_, fun v => ?_⟩
  · have h1 := List.pairwise_mergeSort (le := fun (a b : Int) => decide (a ≤ b)) (fun a b c h1 h2 => by simp only [decide_eq_true_eq] at *; omega) (fun a b => by simp only [Bool.or_eq_true, decide_eq_true_eq]; omega) (once (n.names.map S))
    have h2 : ((once (n.names.map S)).mergeSort (fun a b => decide (a ≤ b))).Nodup := (List.mergeSort_perm _ _).nodup_iff.mpr (once_nodup _)
    refine (h1.and h2).imp fun {a b} h => ?_
    obtain ⟨h, ne⟩ := h
    have h := of_decide_eq_true h
    have ne : a ≠ b := ne
    omega
  · rw [(List.mergeSort_perm _ _).mem_iff, mem_once, List.mem_map]
theorem caps_perm {n : Net} {S : Str → Int} {ys zs : List Str} {A : Str → Int} (h : ys.Perm zs) : capsOf n S ys A = capsOf n S zs A := by
  funext x
  unfold capsOf
  have : (x ∈ ys) = (x ∈ zs) := by rw [h.mem_iff]
  simp only [this]
theorem paper_perm {p : Plan} {S : Str → Int} {ys zs : List Str} {A : Str → Int} (h : ys.Perm zs) {pp : Paper} (k : PaperOk p S ys A pp) : PaperOk p S zs A pp := by
  cases pp with
  | dim x => exact ⟨h.mem_iff.mp k.1, k.2⟩
  | ceil x => exact ⟨h.mem_iff.mp k.1, k.2⟩
  | shade x g =>
    obtain ⟨k1, k2, k3⟩ := k
    rw [caps_perm h] at k3
    exact ⟨h.mem_iff.mp k1, k2, k3⟩
/-- a wish is granted: some row that is found has the told lights -/
theorem wish_iff {n : Net} {S : Str → Int} {ys zs : List Str} {A : Str → Int} (ok : n.Ok) (w : WishOk n ys A) (h : zs.Perm ys) : faults n S zs A (capsOf n S zs A) = [] ↔ ∃ T, Rch n S T ∧ ∀ x ∈ ys, T x = A x := by
  have wz := w.perm h
  constructor
  · intro nf
    obtain ⟨vs, h1, h2⟩ := borne_ex n S
    obtain ⟨M, m1, _, m3⟩ := granted_iff ok wz h1 h2 nf
    exact ⟨M, m1, fun x hx => m3 x (h.mem_iff.mpr hx)⟩
  · rintro ⟨T, r, told⟩
    exact r.no_fault ok wz fun x hx => told x (h.mem_iff.mp hx)
theorem paper_tup {B : Hp} {pp : Paper} {v : V} (h : rPaper.rel B pp v) : ∃ t xs, v = .ref t ∧ B t = some (.tup xs) := by
  cases pp with
  | dim x => obtain ⟨a, h1, h2⟩ := h; exact ⟨a, _, h1, h2⟩
  | ceil x => obtain ⟨a, h1, h2⟩ := h; exact ⟨a, _, h1, h2⟩
  | shade x g => obtain ⟨a, u, h1, h2, _⟩ := h; exact ⟨a, _, h1, h2⟩
theorem noxed {X : Cx} {b : List Stmt} {R : TS → Prop} (h : ∃ t, PSs X.nox b t ∧ R t) : ∃ t, PSs X b t ∧ R t := by
  obtain ⟨t, h1, h2⟩ := h
  exact ⟨t, h1.nox, h2⟩
section
variable {P : Program} {w : World} {K : PySem.W.Frag} {mg : Str → Option Value} {base : Heap}
def spLaw (K : PySem.W.Frag) (Pt : Addr) : Sp := sp1 fun a H Q => ∃ (s : Addr) (ns : List Int), a = .ref s ∧ SqL K H s (ns.map V.int) ∧ LamX.TabS H Pt qLam ∧ ∀ H', Q (.bl true) H'
/-! ### law -/
abbrev F_law (P : Program) (w : World) (K : PySem.W.Frag) (mg : Str → Option Value) (base : Heap) (Pt : Addr) (f : Addr) (fd : FuncData) : Prop := FnOk P w K mg base CX0 14 f fd ["_law_script"] (spLaw K Pt)
abbrev N_law : List Str := ["_law_script", "_law_store_here", "_law_made", "_law_glow", "_law_plan", "_law_aims", "_law_begin", "_law_rows", "_law_granting", "_law_best", "_law_paper", "_law_one"]
theorem sc_law : FnScope N_law ["_law_script"] (defScope (top 110)) := ⟨rfl, rfl, rfl, by decide +kernel, rfl, by decide +kernel, by decide +kernel⟩
theorem ok_law {Pt : Addr} {f : Addr} {fd : FuncData} (T : TX K mg) (D : FunD K "law" "law" (defArgs (top 110)) (defBody (top 110)) (defScope (top 110)) [] [] f fd) (c__law_store : F__law_store P w K mg base) (c__law_drawn : F__law_drawn P w K mg base) (c__law_tamed : F__law_tamed P w K mg base) (c__law_wish : F__law_wish P w K mg base) (c_Web_init : F_Web_init P w K mg base Pt) (c_World_init : F_World_init P w K mg base) (c__law_has_lights : F__law_has_lights P w K mg base) (c__law_row_glow : F__law_row_glow P w K mg base) (c__law_alike0 : F__law_alike0 P w K mg base) (c_granted : F_granted P w K mg base) (c__law_paper_of : F__law_paper_of P w K mg base) (c__law_paper_holds : F__law_paper_holds P w K mg base) (c_brightest : F_brightest P w K mg base) (c__law_all_under : F__law_all_under P w K mg base Pt) (c_brightest1 : F_brightest1 P w K mg base) (c_possible : F_possible P w K mg base) (c__law_walk_right : F__law_walk_right P w K mg base) (c__law_reach : F__law_reach P w K mg base) : F_law P w K mg base Pt f fd := by
  refine D.ok sc_law (fun vs H Q E h => len1 h) (fun cdv A outer s H vs Q E hr h => ?_)
  refine noxed ?_
  have nd := sc_law.nd
  obtain ⟨v0, rfl, h⟩ := h
  refine ⟨_, (pss_cons (ps_set (i := 1) nd rfl (Or.inl rfl) (pe_fn c__law_store hr (by rfl) (pa_cons (pv 0) pa_nil)))
      (pss_cons (ps_set (i := 2) nd rfl (Or.inl rfl) (pe_fn c__law_drawn hr (by rfl) (pa_cons (pv 1) (pa_cons pe_int pa_nil))))
      (pss_cons (ps_set (i := 3) nd rfl (Or.inl rfl) (pe_ix (kx_list K) (pv 2) pe_int (fun _ _ => rfl)))
      (pss_cons (ps_set (i := 4) nd rfl (Or.inr rfl) (pe_fn c__law_tamed hr (by rfl) (pa_cons (pe_ix (kx_list K) (pv 2) pe_int (fun _ _ => rfl)) (pa_cons (pv 3) (pa_cons pe_int pa_nil)))))
      (pss_cons (ps_set (i := 5) nd rfl (Or.inr rfl) (pe_fn c__law_wish hr (by rfl) (pa_cons (pv 1) (pa_cons (pv 4) (pa_cons (pv 3) pa_nil)))))
      (pss_cons (ps_set (i := 6) nd rfl (Or.inl rfl) (pe_mk T.clWorld c_World_init hr (by rfl) (pa_cons (pe_mk T.clWeb c_Web_init hr (by rfl) (pa_cons (pe_callTy (k_list K) (by rfl) T.list bt_list (pa_cons (pe_ix (kx_list K) (pv 4) pe_int (fun _ _ => rfl)) pa_nil)) (pa_cons (pe_callTy (k_list K) (by rfl) T.list bt_list (pa_cons (pe_ix (kx_list K) (pv 4) pe_int (fun _ _ => rfl)) pa_nil)) pa_nil))) (pa_cons (pe_callTy call_dictD (by rfl) T.dict bt_dict (pa_cons (pv 3) pa_nil)) pa_nil))))
      (pss_cons (ps_set (i := 7) nd rfl (Or.inl rfl) (pe_callB cr_sortedTups (by rfl) T.sorted bt_sorted (pa_cons (pe_callTy (call_list_dT rfl) (by rfl) T.list bt_list (pa_cons (pe_fn c__law_reach hr (by rfl) (pa_cons (pv 4) (pa_cons (pv 3) (pa_cons pe_int pa_nil)))) pa_nil)) pa_nil)))
      (pss_cons (ps_setLc (i := 8) (own := [("_law_one", 11)]) rfl nd rfl rfl (sw_true rfl rfl rfl (by decide +kernel)) (kp_list K (pv 7)) (blkOk_by (own := [("_law_one", 11)]) (N := N_law) (sc := defScope (top 110)) (by decide +kernel)) (fun _ _ _ _ _ => (pg_name (i := 11) nd rfl (Or.inl rfl))) (fun _ _ _ _ _ => (pts_one (pt_val (pe_fn c__law_has_lights hr (by rfl) (pa_cons (pe_fn c__law_row_glow hr (by rfl) (pa_cons (pv 4) (pa_cons (pv 11) pa_nil))) (pa_cons (pv 5) pa_nil)))))) (fun _ _ _ _ _ => (pv 11)))
      (pss_cons (ps_if (pt_not (pt_val (pe_fn c__law_alike0 hr (by rfl) (pa_cons (pe_fn c_granted hr (by rfl) (pa_cons (pv 6) (pa_cons (pe_callTy call_dictD (by rfl) T.dict bt_dict (pa_cons (pv 5) pa_nil)) pa_nil))) (pa_cons (pe_cmpR op_gt (pe_callB (k_len K) (by rfl) T.len bt_len (pa_cons (pv 8) pa_nil)) pe_int (nomark _)) pa_nil))))) (pss_one (ps_ret pe_bl)) pss_nil)
      (pss_cons (ps_set (i := 9) nd rfl (Or.inl rfl) pe_non)
      (pss_cons (ps_if (pt_cmpR op_eq (pe_callB (k_len K) (by rfl) T.len bt_len (pa_cons (pv 8) pa_nil)) pe_int (nomark _)) (pss_cons (ps_set (i := 10) nd rfl (Or.inl rfl) (pe_fn c__law_paper_of hr (by rfl) (pa_cons (pv 6) (pa_cons (pe_callTy call_dictD (by rfl) T.dict bt_dict (pa_cons (pv 5) pa_nil)) pa_nil))))
      (pss_one (ps_if (PW.pt (pw_or (pt_not (pt_val (pe_callB (k_isi K) (by rfl) T.isinstance bt_isinstance (pa_cons (pv 10) (pa_cons (pe_bty (by rfl) T.tuple bt_tuple) pa_nil))))) (pw_or1 (pt_not (pt_val (pe_fn c__law_paper_holds hr (by rfl) (pa_cons (pv 4) (pa_cons (pv 3) (pa_cons (pv 5) (pa_cons (pv 10) pa_nil)))))))))) (pss_one (ps_ret pe_bl)) pss_nil))) (pss_cons (ps_set (i := 9) nd rfl (Or.inl rfl) (pe_fnX c_brightest hr (by rfl) (pa_cons (pv 6) (pa_cons (pe_callTy call_dictD (by rfl) T.dict bt_dict (pa_cons (pv 5) pa_nil)) pa_nil))))
      (pss_one (ps_if (pt_not (pt_val (pe_fn c__law_all_under hr (by rfl) (pa_cons (pv 4) (pa_cons (pv 8) (pa_cons (pv 9) pa_nil)))))) (pss_one (ps_ret pe_bl)) pss_nil))))
      (pss_cons (ps_if (PW.pt (pw_or (pt_not (pt_val (pe_fn c__law_all_under hr (by rfl) (pa_cons (pv 4) (pa_cons (pv 7) (pa_cons (pe_fnX c_brightest1 hr (by rfl) (pa_cons (pv 6) pa_nil)) pa_nil)))))) (pw_or1 (pt_cmpR (k_neD K (hu64 hr)) (pe_fn c_possible hr (by rfl) (pa_cons (pe_fnX c_brightest1 hr (by rfl) (pa_cons (pv 6) pa_nil)) pa_nil)) (pe_lst pa_nil) (nomark _))))) (pss_one (ps_ret pe_bl)) pss_nil)
      (pss_one (ps_ret (pe_fn c__law_walk_right hr (by rfl) (pa_cons (pv 1) (pa_cons (pv 4) (pa_cons (pv 3) (pa_cons (pv 5) (pa_cons (pv 7) (pa_cons (pv 6) (pa_cons (pv 9) pa_nil)))))))))))))))))))))), ?_⟩
  obtain ⟨s0, ns, rfl, hs, hT, q⟩ := h
  -- the store
  refine ⟨_, rfl, _, rfl, (fun _ => none), s0, ns, (fun a o h => by cases h), rfl, hs, fun B1 H1 st g1 s1 hst0 => ?_⟩
  have S1 : St8 Pt st B1 H1 := ⟨g1.sub, s1, g1.new Pt rfl (tab_ne hT), Tab.gr0 hT (fun a o h => by cases h) g1⟩
  clear hs hT g1 s1 hst0
  -- drawn
  refine ⟨_, rfl, _, _, rfl, B1, st, S1.sub, S1.sto, rfl, rfl, fun p0 ps S rok0 lad l7 perm hS B2 H2 m pv gv g2 s2 hm hp0 hg0 => ?_⟩
  have S2 := S1.gr g2 s2
  obtain ⟨gd, gkvs, rfl, hgd, hgk⟩ := id hg0
  refine ⟨_, rfl, m, _, _, _, rfl, rfl, SqL.of (S2.sub.lst hm), atI_nat (j := 1) rfl, ?_⟩
  -- tamed
  refine ⟨_, rfl, m, _, _, _, rfl, rfl, SqL.of (S2.sub.lst hm), atI_nat (j := 0) rfl, _, rfl, _, _, _, rfl, B2, p0, ps, S, 60, S2.sub, hp0, rok0, hg0, perm, rfl, by decide, by decide, fun k hk B3 H3 plv g3 hp3 => ?_⟩
  have S3 := S2.gr0 g3
  have hg3 := Rp.mono _ g3.up hg0
  have rok := rok0.take k
  have perm : ps.Perm (Plan.net ⟨p0.ls, p0.bs.take k, p0.pool⟩).names := perm
  have l7 : (Plan.net ⟨p0.ls, p0.bs.take k, p0.pool⟩).names.length ≤ 7 := by
    have := (netOf_names (ls := p0.ls) (bs := p0.bs.take k)).length_eq
    rw [List.length_map] at this
    exact Nat.le_trans (Nat.le_of_eq this) l7
  have rok : RowsOk (Plan.ls ⟨p0.ls, p0.bs.take k, p0.pool⟩) (Plan.bs ⟨p0.ls, p0.bs.take k, p0.pool⟩) := rok
  have lad : LadOk (Plan.pool ⟨p0.ls, p0.bs.take k, p0.pool⟩) := lad
  have hgd3 := g3.up.rd hgd
  have hgk3 := DAll.mono g3.up hgk
  clear g2 s2 hm hp0 rok0 S1 S2 g3 hg0 hgd hgk
  generalize (⟨p0.ls, p0.bs.take k, p0.pool⟩ : Plan) = p at *
  have okn : p.net.Ok := netOf_ok rok
  have hps : ∀ x, x ∈ ps ↔ x ∈ p.net.names := fun x => perm.mem_iff
  -- aims
  refine ⟨_, rfl, _, rfl, _, rfl, _, _, _, rfl, B3, st, p, ps, S, S3.sub, S3.sto, rfl, hp3, rok, lad, hg3, perm, hS, fun ys A' okA B4 H4 av g4 s4 ha4 => ?_⟩
  have S4 := S3.gr g4 s4
  have hp4 := Rp.mono _ g4.up hp3
  have hg4 := Rp.mono _ g4.up hg3
  have hgd4 := g4.up.rd hgd3
  have hgk4 := DAll.mono g4.up hgk3
  clear g4 s4 S3 hp3 hg3 hgd3 hgk3
  obtain ⟨ad, akvs, rfl, had, hak⟩ := id ha4
  obtain ⟨pa, u1, u2, u3, rfl, hpa, hp1, hp2, _⟩ := id hp4
  obtain ⟨l1, lvs, rfl, hl1, hls⟩ := id hp1
  obtain ⟨l2, bvs, rfl, hl2, hbs⟩ := id hp2
  -- the world
  refine ⟨_, rfl, pa, _, _, _, rfl, rfl, SqL.of (S4.sub.lst hpa), atI_nat (j := 0) rfl, l1, _, rfl, .inl (SqL.of (S4.sub.lst hl1)), fun c1 hc1 => ?_⟩
  have g5 : Gr [] B4 H4 (upd B4 c1 (.lst lvs)) (upd H4 c1 (.lst lvs)) := Gr.newP S4.sub hc1
  have S5 := S4.gr0 g5
  have k1 : (upd B4 c1 (.lst lvs)) c1 = some (.lst lvs) := upd_same
  generalize upd B4 c1 (.lst lvs) = B5 at *
  generalize upd H4 c1 (.lst lvs) = H5 at *
  refine ⟨_, rfl, pa, _, _, _, rfl, rfl, SqL.of (S5.sub.lst (g5.up.lst hpa)), atI_nat (j := 1) rfl, l2, _, rfl, .inl (SqL.of (S5.sub.lst (g5.up.lst hl2))), fun c2 hc2 => ?_⟩
  have g6 : Gr [] B5 H5 (upd B5 c2 (.lst bvs)) (upd H5 c2 (.lst bvs)) := Gr.newP S5.sub hc2
  have S6 := S5.gr0 g6
  have hL6 : (rL rLRow).rel (upd B5 c2 (.lst bvs)) p.ls (.ref c1) := ⟨c1, lvs, rfl, g6.up.lst k1, All2.mono (g5.up.trans g6.up) hls⟩
  have hB6 : (rL rBRow).rel (upd B5 c2 (.lst bvs)) p.bs (.ref c2) := ⟨c2, bvs, rfl, upd_same, All2.mono (g5.up.trans g6.up) hbs⟩
  generalize upd B5 c2 (.lst bvs) = B6 at *
  generalize upd H5 c2 (.lst bvs) = H6 at *
  refine mkWeb_go (ls := p.ls) (bs := p.bs) S6.sub hL6 hB6 rok S6.bP S6.tab fun B7 H7 wx g7 T7 bP7 hw => ?_
  have S7 := S6.grP g7 T7
  have up7 : ExW B4 B7 := (g5.up.trans g6.up).trans g7.up
  refine ⟨_, rfl, gd, gkvs, rfl, S7.sub.rd (up7.rd hgd4), fun c3 hc3 => ?_⟩
  have g8 : Gr [] B7 H7 (upd B7 c3 (.dK gkvs)) (upd H7 c3 (.dK gkvs)) := Gr.newP S7.sub hc3
  have S8 := S7.gr0 g8
  have hg8 : (rD rInt).rel (upd B7 c3 (.dK gkvs)) (glow ps S) (.ref c3) := ⟨c3, gkvs, rfl, .inl upd_same, DAll.mono (up7.trans g8.up) hgk4⟩
  generalize upd B7 c3 (.dK gkvs) = B8 at *
  generalize upd H7 c3 (.dK gkvs) = H8 at *
  refine mkWorld_go2 S8.sub (Rp.mono _ g8.up hw) hg8 perm (fun x _ => hS x) (fun B9 H9 wo g9 hW => ?_)
  have S9 := S8.gr0 g9
  have up9 : ExW B4 B9 := (up7.trans g8.up).trans g9.up
  have hp9 := Rp.mono _ up9 hp4
  have hg9 := Rp.mono _ up9 hg4
  have ha9 := Rp.mono _ up9 ha4
  clear hp1 hp2 hl1 hl2 hls hbs hc1 hc2 hc3 k1 hL6 hB6 g5 S5 g6 S6 g7 T7 bP7 hw S7 up7 g8 S8 hg8 g9 hp4 hg4 ha4 hgd4 hgk4 S4 had hak hpa up9
  -- rows
  refine ⟨_, rfl, _, rfl, _, _, _, rfl, B9, p, ps, S, 60, S9.sub, hp9, rok, hg9, perm, rfl, by decide, by decide, fun B10 H10 fv g10 hf => ?_⟩
  cases er : reachOf p S 60 with
  | none => exact absurd er hk
  | some f =>
  rw [er] at hf
  obtain ⟨fd, fkvs, rfl, hfd, hfk⟩ := id hf
  obtain ⟨f60, fmem⟩ := reach_iff rok l7 er
  have S10 := S9.gr0 g10
  have hfd' : H10 fd = some (.dT fkvs) := by
    rcases S10.sub fd _ hfd with q | ⟨_, q, _⟩
    · exact q
    · cases q
  refine ⟨fd, fkvs, rfl, .inl hfd', fun d1 bs hd1 hkeys => ?_⟩
  have g11 : Gr [] B10 H10 (upd B10 d1 (.lst (bs.map V.ref))) (upd H10 d1 (.lst (bs.map V.ref))) := Gr.newP S10.sub hd1
  have S11 := (S10.gr0 g11).tups
  have hall : All2 ((rTU rInt).rel (allTup (upd B10 d1 (.lst (bs.map V.ref))) (upd H10 d1 (.lst (bs.map V.ref))))) f (bs.map V.ref) := keys_rows (H := H10) (fun a xs e => allTup_tup g11.sub (by rw [upd_ne (ne_of_none e hd1)]; exact e)) hfk hkeys
  have up11 : ExW B10 (allTup (upd B10 d1 (.lst (bs.map V.ref))) (upd H10 d1 (.lst (bs.map V.ref)))) := g11.up.trans allTup_up
  have hd11 : (allTup (upd B10 d1 (.lst (bs.map V.ref))) (upd H10 d1 (.lst (bs.map V.ref)))) d1 = some (.lst (bs.map V.ref)) := by
    rcases allTup_up (B := upd B10 d1 (.lst (bs.map V.ref))) (H := upd H10 d1 (.lst (bs.map V.ref))) d1 _ upd_same with q | ⟨_, q, _⟩
    · exact q
    · cases q
  generalize allTup (upd B10 d1 (.lst (bs.map V.ref))) (upd H10 d1 (.lst (bs.map V.ref))) = B11 at *
  generalize upd H10 d1 (.lst (bs.map V.ref)) = H11 at *
  have npos : 0 < p.net.names.length := by
    have h2 := (netOf_names (ls := p.ls) (bs := p.bs)).length_eq
    rw [List.length_map] at h2
    have := rok.len
    show 0 < (netOf p.ls p.bs).names.length
    omega
  refine ⟨d1, bs.map V.ref, rowOf B11, p.net.names.length - 1, rfl, SqL.of (S11.sub.lst hd11), fun x hx => ?_, fun zs d2 zperm hd2 => ?_⟩
  · obtain ⟨i, hi⟩ := List.getElem?_of_mem hx
    obtain ⟨r, er, rr⟩ := hall.at_ hi
    obtain ⟨e1, a, rfl, ha⟩ := rowOf_eq rr
    refine ⟨a, rfl, ?_, ?_⟩
    · rw [e1]; exact SqT.of (S11.sub.tup ha)
    · rw [e1]
      obtain ⟨T, _, eT⟩ := (fmem r).mp (List.mem_of_getElem? er)
      rw [eT, List.length_map]
      omega
  obtain ⟨rl, rperm, hra⟩ := All2.perm zperm hall
  have g12 : Gr [] B11 H11 (upd B11 d2 (.lst zs)) (upd H11 d2 (.lst zs)) := Gr.newP S11.sub hd2
  have S12 := S11.gr0 g12
  have hrl : (rL (rTU rInt)).rel (upd B11 d2 (.lst zs)) rl (.ref d2) := ⟨d2, zs, rfl, upd_same, All2.mono g12.up hra⟩
  have rmem : ∀ r, r ∈ rl ↔ ∃ T, Rch p.net S T ∧ r = p.net.names.map T := fun r => by rw [rperm.mem_iff]; exact fmem r
  have r60 : rl.length ≤ 60 := by rw [rperm.length_eq]; exact f60
  have up12 : ExW B9 (upd B11 d2 (.lst zs)) := (g10.up.trans up11).trans g12.up
  generalize upd B11 d2 (.lst zs) = B12 at *
  generalize upd H11 d2 (.lst zs) = H12 at *
  have hp12 := Rp.mono _ up12 hp9
  have hg12 := Rp.mono _ up12 hg9
  have ha12 := Rp.mono _ up12 ha9
  have hW12 : (rWorld K).rel B12 (p.net, S) (.ref wo) := Rp.mono _ up12 hW
  clear hf hfd hfk hfd' hd1 hkeys hall up11 hd11 hd2 hra g12 S11 S10 g10 g11 S9 up12 hp9 hg9 ha9 hW fmem f60 rperm zperm er hk
  -- granting
  obtain ⟨_, rvs, e, hrv, hrvs⟩ := id hrl
  cases e
  refine ⟨_, rfl, d2, rfl, ⟨_, SqL.of (S12.sub.lst hrv)⟩, fun D2 hD2 => ?_⟩
  obtain ⟨gr, hgr⟩ : ∃ gr : List Int → Bool, ∀ r, gr r = true ↔ ∀ T : Str → Int, r = p.net.names.map T → ∀ x ∈ ys, T x = A' x := ⟨fun r => @decide (∀ T : Str → Int, r = p.net.names.map T → ∀ x ∈ ys, T x = A' x) (Classical.propDecidable _), fun r => @decide_eq_true_iff _ (Classical.propDecidable _)⟩
  have hgr2 : ∀ T : Str → Int, gr (p.net.names.map T) = true ↔ ∀ x ∈ ys, T x = A' x := fun T => by
    rw [hgr]
    constructor
    · exact fun h => h T rfl
    · intro h U e x hx
      rw [← List.map_inj_left.mp e x (okA.sub x hx)]
      exact h x hx
  refine lc_flt (ys := rl) (Rs := rTU rInt) (R := rTU rInt) (fun r => if gr r = true then some r else none) (src_list hrv) S12.sub hD2 hrvs (by rw [← hrvs.len]; omega) (fun r x B13 H13 K1 K0 hr hx g13 k1 k0 => ?_) (fun B13 H13 g13 h13 => ?_)
  · obtain ⟨T, rT, eT⟩ := (rmem r).mp hr
    have hx' : (rTU rInt).rel B13 (p.net.names.map T) x := by rw [← eT]; exact hx
    refine ⟨_, rfl, _, rfl, _, _, rfl, B13, p, T, g13.sub, Rp.mono _ g13.up hp12, rok, hx', rT.num okn (fun x _ => hS x), fun B14 H14 gv g14 hgv => ?_⟩
    refine ⟨_, rfl, _, _, rfl, B14, p.net.names, T, ys, A', g14.sub, hgv, Rp.mono _ (g13.up.trans g14.up) ha12, okA.sub, by have := okA.le okn; omega, fun B15 H15 g15 => ⟨_, rfl, ?_⟩⟩
    have e : gr r = ys.all fun x => decide (T x = A' x) := by
      rw [Bool.eq_iff_iff, eT, hgr2 T, List.all_eq_true]
      exact ⟨fun h x hx => decide_eq_true (h x hx), fun h x hx => of_decide_eq_true (h x hx)⟩
    rw [← e]
    refine ite2 (fun e1 => ⟨_, rfl, k1 r _ _ _ (if_pos e1) (g14.trans g15) ?_⟩) (fun e1 => k0 _ _ (if_neg e1) (g14.trans g15))
    exact Rp.mono _ (g14.up.trans g15.up) hx
  rw [fm_filter (p := gr)] at h13
  obtain ⟨vs13, h130, h13b, h13h, h13a⟩ := h13.at_
  have S14 : St8 Pt st (upd B13 D2 (.lst vs13)) H13 := S12.gr0 (g13.pub h130 h13b h13h)
  have hG14 : (rL (rTU rInt)).rel (upd B13 D2 (.lst vs13)) (rl.filter gr) (.ref D2) := ⟨D2, vs13, rfl, upd_same, All2.mono (ExW.new h13b) h13a⟩
  have up14 : ExW B12 (upd B13 D2 (.lst vs13)) := g13.up.trans (ExW.new h13b)
  generalize upd B13 D2 (.lst vs13) = B14 at *
  have hp14 := Rp.mono _ up14 hp12
  have hg14 := Rp.mono _ up14 hg12
  have ha14 := Rp.mono _ up14 ha12
  have hW14 := Rp.mono _ up14 hW12
  have hrl14 := Rp.mono _ up14 hrl
  clear hrv hrvs hD2 g13 h13 h130 h13b h13h h13a up14 S12 hp12 hg12 ha12 hW12 hrl
  have gmem : (rl.filter gr ≠ []) ↔ ∃ T, Rch p.net S T ∧ ∀ x ∈ ys, T x = A' x := by
    constructor
    · intro h
      obtain ⟨r, hr⟩ := List.exists_mem_of_ne_nil _ h
      obtain ⟨h1, h2⟩ := List.mem_filter.mp hr
      obtain ⟨T, rT, rfl⟩ := (rmem r).mp h1
      exact ⟨T, rT, (hgr2 T).mp h2⟩
    · rintro ⟨T, rT, told⟩ h
      have : p.net.names.map T ∈ rl.filter gr := List.mem_filter.mpr ⟨(rmem _).mpr ⟨T, rT, rfl⟩, (hgr2 T).mpr told⟩
      rw [h] at this
      cases this
  have hin : ∀ T, Rch p.net S T → p.net.names.map T ∈ rl := fun T rT => (rmem _).mpr ⟨T, rT, rfl⟩
  obtain ⟨_, gvs, e, hgv, hgvs⟩ := id hG14
  cases e
  have lgv : gvs.length = (rl.filter gr).length := hgvs.len.symm
  obtain ⟨_, akvs2, e, had, hak⟩ := id ha14
  cases e
  have w0 : WishOk p.net [] (fun _ => 0) := ⟨List.nodup_nil, fun x h => absurd h List.not_mem_nil, fun x h => absurd h List.not_mem_nil⟩
  -- granted
  refine ⟨_, rfl, _, rfl, ad, akvs2, rfl, S14.sub.rd had, fun c4 hc4 => ?_⟩
  have g15 : Gr [] B14 H13 (upd B14 c4 (.dK akvs2)) (upd H13 c4 (.dK akvs2)) := Gr.newP S14.sub hc4
  have hc15 : (rD rInt).rel (upd B14 c4 (.dK akvs2)) (glow ys A') (.ref c4) := ⟨c4, akvs2, rfl, .inl upd_same, DAll.mono g15.up hak⟩
  generalize upd B14 c4 (.dK akvs2) = B15 at *
  generalize upd H13 c4 (.dK akvs2) = H15 at *
  refine ⟨_, _, rfl, B15, p.net, S, ys, A', g15.sub, Rp.mono _ g15.up hW14, .inr hc15, okA, fun ys2 perm2 srt2 B16 H16 g16 => ?_⟩
  have g1416 := g15.trans g16
  refine ⟨_, rfl, D2, _, rfl, .inl (SqL.of (g16.sub.lst (g1416.up.lst hgv))), _, _, rfl, rfl, _, _, rfl, B16, "bool", g16.sub, ?_, .bl _, fun B17 H17 g17 => ⟨_, rfl, iteF' rfl ?_⟩⟩
  · have wi := wish_iff (S := S) okn okA perm2
    show V.bl (faults p.net S ys2 A' (capsOf p.net S ys2 A')).isEmpty = V.bl (decide ((0 : Int) < (gvs.length : Nat)))
    rw [lgv]
    refine congrArg V.bl ?_
    rw [Bool.eq_iff_iff, List.isEmpty_iff, wi, ← gmem, decide_eq_true_eq]
    constructor
    · intro h
      have := List.length_pos_iff.mpr h
      omega
    · intro h
      exact List.length_pos_iff.mp (by omega)
  have g1417 := g1416.trans g17
  have S17 := S14.gr0 g1417
  have up17 := g1417.up
  have hp17 := Rp.mono _ up17 hp14
  have hg17 := Rp.mono _ up17 hg14
  have ha17 := Rp.mono _ up17 ha14
  have hW17 := Rp.mono _ up17 hW14
  have hrl17 := Rp.mono _ up17 hrl14
  have hG17 := Rp.mono _ up17 hG14
  have hgv17 := up17.lst hgv
  have had17 := up17.rd had
  have hak17 := DAll.mono up17 hak
  clear hc4 g15 hc15 g16 g1416 g17 g1417 up17 S14 hp14 hg14 ha14 hW14 hrl14 hG14 hgv had hak hgvs
  have bt0 : ∀ (D : V → Hp → Prop) (B H : Hp), ExW B H → (rWorld K).rel B (p.net, S) (.ref wo) → (∀ (vs : List Int) (Tp : Str → Int), vs.Pairwise (· < ·) → (∀ v, v ∈ vs ↔ ∃ x ∈ p.net.names, S x = v) → Tp = bestL p.net S (capsOf p.net S [] fun _ => 0) vs → ∀ B' H' v, Gr [] B H B' H' → (rWorld K).rel B' (p.net, Tp) v → D v H') →
      spBrightest K [.ref wo, .non] H D E0 := fun D B H hB hW k =>
    ⟨_, _, rfl, B, p.net, S, [], fun _ => 0, hB, hW, .inl ⟨rfl, rfl⟩, w0, fun ys0 vs perm0 srt0 vsrt vmem ef B1 H1 tv g1 htop => by
      have e0 := perm0.eq_nil
      subst e0
      exact k vs _ vsrt vmem rfl B1 H1 tv g1 htop, fun ys0 pp rr perm0 srt0 ef => by
      have e0 := perm0.eq_nil
      subst e0
      cases ef⟩
  have tail : ∀ (B18 H18 : Hp) (bv : V) (z10 z11 : Option V), St8 Pt st B18 H18 → ExW B17 B18 → (bv = .non ∨ ∃ Sb, (rWorld K).rel B18 (p.net, Sb) bv ∧ ∀ T, Rch p.net S T → (∀ x ∈ ys, T x = A' x) → ∀ x ∈ p.net.names, T x ≤ Sb x) →
      (tSeq
        (tIfS
          (tOr
            (tNot (tB (tCall (spLAllUnder K Pt) [] E0 (tCons (tVar 4) (tCons (tVar 7) (tCons (tCall (spBrightest K) [V.non] E0 (tCons (tVar 6) tNil)) tNil))))))
            (tTest (tOp (rNeD K) (tCall (spPossible K) [] E0 (tCons (tCall (spBrightest K) [V.non] E0 (tCons (tVar 6) tNil)) tNil)) (tLst tNil))))
          (tRet (tC (V.bl false))) tNext)
        (tRet (tCall (spLWalk K) [] E0 (tCons (tVar 1) (tCons (tVar 4) (tCons (tVar 3) (tCons (tVar 5) (tCons (tVar 7) (tCons (tVar 6) (tCons (tVar 9) tNil))))))))))
        { nx := fun _ H' => Q .non H', rt := Q } [some (.ref s0), some (.ref st), some (.ref m), some (.ref gd), some (.ref pa), some (.ref ad), some (.ref wo), some (.ref d2), some (.ref D2), some bv, z10, z11] H18 := fun B18 H18 bv z10 z11 S18 up18 hbv => by
    have hW18 := Rp.mono _ up18 hW17
    refine ⟨_, rfl, _, rfl, _, rfl, bt0 _ B18 H18 S18.sub hW18 fun vs Tp vsrt vmem eT B19 H19 tv g19 htv => ?_⟩
    have S19 := S18.gr0 g19
    have up19 := up18.trans g19.up
    obtain ⟨M, m1, m2, _⟩ := granted_iff (A := fun _ => 0) okn w0 vsrt vmem no_wish
    rw [← eT] at m2
    have eM : p.net.names.map Tp = p.net.names.map M := row_eq.mpr m2
    refine ⟨_, _, _, rfl, B19, p, rl, Tp, S19.sub, Rp.mono _ up19 hp17, rok, Rp.mono _ up19 hrl17, by omega, htv, S19.bP, S19.tab, by rw [eM]; exact hin M m1, fun r hr => ?_, fun B20 H20 g20 T20 => ⟨_, rfl, iteF' rfl ?_⟩⟩
    · obtain ⟨T, rT, eT2⟩ := (rmem r).mp hr
      refine ⟨T, eT2, rT.num okn (fun x _ => hS x), ?_⟩
      rw [eT]
      exact rT.lower okn vsrt vmem (fun x => rT.caps (fun x h => absurd h List.not_mem_nil) x)
    have S20 := S19.grP g20 T20
    have up20 := up19.trans g20.up
    refine ⟨_, rfl, bt0 _ B20 H20 S20.sub (Rp.mono _ up20 hW17) fun vs2 Tp2 vsrt2 vmem2 eT2 B21 H21 tv2 g21 htv2 => ?_⟩
    refine ⟨_, rfl, B21, p.net, Tp2, g21.sub, htv2, fun B22 H22 mv g22 hmv => ?_⟩
    have e0 : cans p.net Tp2 = [] := by
      unfold cans
      rw [List.map_eq_nil_iff, List.filter_eq_nil_iff]
      intro b hb
      rw [eT2, best_rest okn vsrt2 vmem2 hb]
      exact Bool.false_ne_true
    rw [e0] at hmv
    obtain ⟨ml, mvs, rfl, hml, hms⟩ := id hmv
    have e1 : mvs = [] := by cases hms; rfl
    subst e1
    refine ⟨(by show 0 ≤ sizeLine; decide), fun el hel => ?_⟩
    have g22' := (g21.trans g22).trans (Gr.newP (o := .lst []) g22.sub hel)
    have S23 := S20.gr0 g22'
    refine ⟨.list [], .list [], .lst (SqL.of (by rw [upd_ne (ne_of_none (g22.sub.lst hml) hel)]; exact g22.sub.lst hml)) .nil, .lst (SqL.of upd_same) .nil, rfl, rfl, _, rfl, iteF' rfl ?_⟩
    have up23 := up20.trans g22'.up
    refine ⟨_, rfl, _, rfl, _, rfl, _, rfl, _, rfl, _, rfl, _, rfl, _, _, _, _, _, _, _, rfl, _, st, p, ps, S, ys, A', rl, S23.sub, S23.sto, rfl, Rp.mono _ up23 hp17, rok, Rp.mono _ up23 hg17, perm, hS, Rp.mono _ up23 ha17, okA, Rp.mono _ up23 hrl17, hin, Rp.mono _ up23 hW17, ?_, fun B' H' _ _ => q H'⟩
    rcases hbv with rfl | ⟨Sb, h1, h2⟩
    · exact .inl rfl
    · exact .inr ⟨Sb, Rp.mono _ ((g19.up.trans g20.up).trans g22'.up) h1, h2⟩
  refine ⟨_, rfl, D2, _, rfl, .inl (SqL.of (S17.sub.lst hgv17)), rfl, _, rfl, ?_⟩
  by_cases e0 : rl.filter gr = []
  · -- nobody grants the wish
    have lz : gvs = [] := List.eq_nil_of_length_eq_zero (by rw [lgv, e0]; rfl)
    refine iteT' (by rw [lz]; rfl) ?_
    refine ⟨_, rfl, _, rfl, ad, akvs2, rfl, S17.sub.rd had17, fun c5 hc5 => ?_⟩
    have g18 : Gr [] B17 H17 (upd B17 c5 (.dK akvs2)) (upd H17 c5 (.dK akvs2)) := Gr.newP S17.sub hc5
    have hc18 : (rD rInt).rel (upd B17 c5 (.dK akvs2)) (glow ys A') (.ref c5) := ⟨c5, akvs2, rfl, .inl upd_same, DAll.mono g18.up hak17⟩
    generalize upd B17 c5 (.dK akvs2) = B18 at *
    generalize upd H17 c5 (.dK akvs2) = H18 at *
    have nf : ∀ ys2, ys2.Perm ys → sortedS ys2 = true → faults p.net S ys2 A' (capsOf p.net S ys2 A') ≠ [] := fun ys2 perm2 _ z => gmem.mpr ((wish_iff okn okA perm2).mp z) e0
    refine ⟨_, _, rfl, B18, p.net, S, ys, A', g18.sub, Rp.mono _ g18.up hW17, .inr hc18, okA, nf, fun ys2 pp rr perm2 srt2 ef B19 H19 pv g19 hpp => ?_⟩
    obtain ⟨t, xs, rfl, ht⟩ := paper_tup hpp
    have pok : PaperOk p S ys A' pp := paper_perm perm2 (faults_ok rok (by rw [ef]; exact List.mem_cons_self))
    have S19 := (S17.gr0 g18).gr0 g19
    have up19 := g18.up.trans g19.up
    refine ⟨_, rfl, _, _, _, _, true, rfl, .ty _, .base (.tup (g19.sub.tup ht)), kit_ty (by decide +kernel), _, rfl, iteF' rfl ?_⟩
    refine ⟨_, rfl, _, rfl, _, rfl, _, rfl, _, _, _, _, rfl, B19, p, ps, S, ys, A', pp, S19.sub, Rp.mono _ up19 hp17, rok, Rp.mono _ up19 hg17, hps, Rp.mono _ up19 ha17, okA, hpp, pok, fun B20 H20 g20 => ⟨_, rfl, iteF' rfl ?_⟩⟩
    exact tail B20 H20 .non _ _ (S19.gr0 g20) (up19.trans g20.up) (.inl rfl)
  · -- the brightest that grants it
    have lz : gvs ≠ [] := fun z => by
      rw [z] at lgv
      exact e0 (List.eq_nil_of_length_eq_zero lgv.symm)
    have l0 : gvs.length ≠ 0 := fun z => lz (List.eq_nil_of_length_eq_zero z)
    refine iteF' (by rw [dec_intD]; exact decide_eq_false (by omega)) ?_
    refine ⟨_, rfl, _, rfl, ad, akvs2, rfl, S17.sub.rd had17, fun c5 hc5 => ?_⟩
    have g18 : Gr [] B17 H17 (upd B17 c5 (.dK akvs2)) (upd H17 c5 (.dK akvs2)) := Gr.newP S17.sub hc5
    have hc18 : (rD rInt).rel (upd B17 c5 (.dK akvs2)) (glow ys A') (.ref c5) := ⟨c5, akvs2, rfl, .inl upd_same, DAll.mono g18.up hak17⟩
    generalize upd B17 c5 (.dK akvs2) = B18 at *
    generalize upd H17 c5 (.dK akvs2) = H18 at *
    refine ⟨_, _, rfl, B18, p.net, S, ys, A', g18.sub, Rp.mono _ g18.up hW17, .inr hc18, okA, fun ys2 vs perm2 srt2 vsrt vmem ef B19 H19 bv g19 hbv => ?_, fun ys2 pp rr perm2 srt2 ef => absurd ((wish_iff okn okA perm2).mpr (gmem.mp e0)) (by rw [ef]; exact fun z => nomatch z)⟩
    have ok2 := okA.perm perm2
    have told2 : ∀ T : Str → Int, (∀ x ∈ ys, T x = A' x) → ∀ x ∈ ys2, T x = A' x := fun T h x hx => h x (perm2.mem_iff.mp hx)
    obtain ⟨M, m1, m2, m3⟩ := granted_iff okn ok2 vsrt vmem ef
    have hlow : ∀ T, Rch p.net S T → (∀ x ∈ ys, T x = A' x) → ∀ x ∈ p.net.names, T x ≤ bestL p.net S (capsOf p.net S ys2 A') vs x := fun T rT told => rT.lower okn vsrt vmem (fun x => rT.caps (told2 T told) x)
    generalize bestL p.net S (capsOf p.net S ys2 A') vs = Sb at *
    have eM : p.net.names.map Sb = p.net.names.map M := row_eq.mpr m2
    have S19 := (S17.gr0 g18).gr0 g19
    have up19 := g18.up.trans g19.up
    refine ⟨_, rfl, _, rfl, _, rfl, _, _, _, rfl, B19, p, rl.filter gr, Sb, S19.sub, Rp.mono _ up19 hp17, rok, Rp.mono _ up19 hG17, by have := List.length_filter_le gr rl; omega, hbv, S19.bP, S19.tab, ?_, fun r hr => ?_, fun B20 H20 g20 T20 => ⟨_, rfl, iteF' rfl ?_⟩⟩
    · rw [eM]
      exact List.mem_filter.mpr ⟨hin M m1, (hgr2 M).mpr fun x hx => m3 x (perm2.mem_iff.mpr hx)⟩
    · obtain ⟨h1, h2⟩ := List.mem_filter.mp hr
      obtain ⟨T, rT, eT⟩ := (rmem r).mp h1
      subst eT
      exact ⟨T, rfl, rT.num okn (fun x _ => hS x), hlow T rT ((hgr2 T).mp h2)⟩
    · exact tail B20 H20 bv _ _ (S19.grP g20 T20) (up19.trans g20.up) (.inr ⟨Sb, Rp.mono _ g20.up hbv, hlow⟩)
end
end OB

/-! ## HC -/
set_option maxHeartbeats 4000000
namespace OB
open PySem PySem.Spec PyProof.Rows L2
section
variable {P : Program} {w : World} {K : PySem.W.Frag} {mg : Str → Option Value} {h base : Heap}
theorem at_fact (s : SaysL hFs hDs hCode hTab h K) (i : Nat) {f : Fk} (e : hFs[i]? = some f) : f.ok K = true := s.fact f (List.mem_of_getElem? e)
theorem at_def (s : SaysL hFs hDs hCode hTab h K) (i : Nat) {d : DD} (e : hDs[i]? = some d) : ∃ fd oc od sl, FunD K d.nm d.qn (defArgs d.st) (defBody d.st) (defScope d.st) d.df [] d.pl fd ∧ K.lookup d.pl = some ⟨oc, od, .func fd, sl⟩ := DD.made (s.see d (List.mem_of_getElem? e)) (s.fit d (List.mem_of_getElem? e))
theorem tx_of (X : K.In h) (G : h.Ns mainGlobals mg) (s : SaysL hFs hDs hCode hTab h K) : TX K mg where
  isinstance := gone_ok X G (at_fact s 101 rfl)
  len := gone_ok X G (at_fact s 102 rfl)
  max := gone_ok X G (at_fact s 103 rfl)
  min := gone_ok X G (at_fact s 104 rfl)
  any := gone_ok X G (at_fact s 105 rfl)
  all := gone_ok X G (at_fact s 106 rfl)
  sorted := gone_ok X G (at_fact s 107 rfl)
  int := gone_ok X G (at_fact s 108 rfl)
  bool := gone_ok X G (at_fact s 109 rfl)
  str := gone_ok X G (at_fact s 110 rfl)
  list := gone_ok X G (at_fact s 111 rfl)
  tuple := gone_ok X G (at_fact s 112 rfl)
  dict := gone_ok X G (at_fact s 113 rfl)
  set := gone_ok X G (at_fact s 114 rfl)
  range := gone_ok X G (at_fact s 115 rfl)
  zip := gone_ok X G (at_fact s 116 rfl)
  LIMIT := He.int_ok X G (at_fact s 117 rfl)
  LONGEST_NAME := He.int_ok X G (at_fact s 118 rfl)
  MOST_LAMPS := He.int_ok X G (at_fact s 119 rfl)
  MOST_BONDS := He.int_ok X G (at_fact s 120 rfl)
  LETTERS := He.str_ok X G (at_fact s 121 rfl)
  SIGNS := He.str_ok X G (at_fact s 122 rfl)
  clWorld := by rw [(ref_ok X G (at_fact s 97 rfl)).2]; exact kls_ok (at_fact s 123 rfl)
  clWeb := by rw [(ref_ok X G (at_fact s 98 rfl)).2]; exact kls_ok (at_fact s 124 rfl)
  clSpan := by rw [(ref_ok X G (at_fact s 99 rfl)).2]; exact kls_ok (at_fact s 125 rfl)
  mgWorld := by rw [(ref_ok X G (at_fact s 97 rfl)).2]; exact (ref_ok X G (at_fact s 97 rfl)).1
  mgWeb := by rw [(ref_ok X G (at_fact s 98 rfl)).2]; exact (ref_ok X G (at_fact s 98 rfl)).1
  mgSpan := by rw [(ref_ok X G (at_fact s 99 rfl)).2]; exact (ref_ok X G (at_fact s 99 rfl)).1
  n_own_web := by rw [(ref_ok X G (at_fact s 97 rfl)).2]; exact lacks_ok (at_fact s 126 rfl)
  n_own_table := by rw [(ref_ok X G (at_fact s 97 rfl)).2]; exact lacks_ok (at_fact s 127 rfl)
  n_own_row := by rw [(ref_ok X G (at_fact s 97 rfl)).2]; exact lacks_ok (at_fact s 128 rfl)
  n_own_pairs := by rw [(ref_ok X G (at_fact s 97 rfl)).2]; exact lacks_ok (at_fact s 129 rfl)
  n_low := by rw [(ref_ok X G (at_fact s 99 rfl)).2]; exact lacks_ok (at_fact s 130 rfl)
  n_high := by rw [(ref_ok X G (at_fact s 99 rfl)).2]; exact lacks_ok (at_fact s 131 rfl)
  n_own_lamp_rows := by rw [(ref_ok X G (at_fact s 98 rfl)).2]; exact lacks_ok (at_fact s 132 rfl)
  n_own_bond_rows := by rw [(ref_ok X G (at_fact s 98 rfl)).2]; exact lacks_ok (at_fact s 133 rfl)
  n_own_lamps := by rw [(ref_ok X G (at_fact s 98 rfl)).2]; exact lacks_ok (at_fact s 134 rfl)
  n_own_ceilings := by rw [(ref_ok X G (at_fact s 98 rfl)).2]; exact lacks_ok (at_fact s 135 rfl)
  n_own_ends := by rw [(ref_ok X G (at_fact s 98 rfl)).2]; exact lacks_ok (at_fact s 136 rfl)
  n_own_spans := by rw [(ref_ok X G (at_fact s 98 rfl)).2]; exact lacks_ok (at_fact s 137 rfl)
  n_own_arms := by rw [(ref_ok X G (at_fact s 98 rfl)).2]; exact lacks_ok (at_fact s 138 rfl)
  w_cls := by rw [(ref_ok X G (at_fact s 98 rfl)).2]; exact (webc_ok (at_fact s 141 rfl)).1
  w_mro := by rw [(ref_ok X G (at_fact s 98 rfl)).2]; exact (webc_ok (at_fact s 141 rfl)).2.1
  o_get := by exact (webc_ok (at_fact s 141 rfl)).2.2.1
  o_takes := by exact (webc_ok (at_fact s 141 rfl)).2.2.2
  mgUngranted := by rw [(ref_ok X G (at_fact s 100 rfl)).2]; exact (ref_ok X G (at_fact s 100 rfl)).1
  oexU := by rw [(ref_ok X G (at_fact s 100 rfl)).2]; exact (exc_ok' (at_fact s 140 rfl)).1
  n_paper := by rw [(ref_ok X G (at_fact s 100 rfl)).2]; exact lacks_ok (at_fact s 139 rfl)
  xfU := by rw [(ref_ok X G (at_fact s 100 rfl)).2]; exact (exc_ok' (at_fact s 140 rfl)).2.1
  exmU := by rw [(ref_ok X G (at_fact s 100 rfl)).2]; exact (exc_ok' (at_fact s 140 rfl)).2.2
theorem d0 (X : K.In h) (G : h.Ns mainGlobals mg) (s : SaysL hFs hDs hCode hTab h K) : DefAt K mg "is_number" (top 16) [] := by
  obtain ⟨fd, oc, od, sl, F, lk⟩ := at_def s 0 rfl
  exact ⟨_, fd, F, (ref_ok X G (at_fact s 0 rfl)).1⟩
theorem d1 (X : K.In h) (G : h.Ns mainGlobals mg) (s : SaysL hFs hDs hCode hTab h K) : DefAt K mg "check_number" (top 17) [] := by
  obtain ⟨fd, oc, od, sl, F, lk⟩ := at_def s 1 rfl
  exact ⟨_, fd, F, (ref_ok X G (at_fact s 1 rfl)).1⟩
theorem d2 (X : K.In h) (G : h.Ns mainGlobals mg) (s : SaysL hFs hDs hCode hTab h K) : DefAt K mg "check_end" (top 18) [] := by
  obtain ⟨fd, oc, od, sl, F, lk⟩ := at_def s 2 rfl
  exact ⟨_, fd, F, (ref_ok X G (at_fact s 2 rfl)).1⟩
theorem d3 (X : K.In h) (G : h.Ns mainGlobals mg) (s : SaysL hFs hDs hCode hTab h K) : DefAt K mg "may_take" (top 21) [] := by
  obtain ⟨fd, oc, od, sl, F, lk⟩ := at_def s 3 rfl
  exact ⟨_, fd, F, (ref_ok X G (at_fact s 3 rfl)).1⟩
theorem d4 (X : K.In h) (G : h.Ns mainGlobals mg) (s : SaysL hFs hDs hCode hTab h K) : DefAt K mg "lets_pass" (top 36) [] := by
  obtain ⟨fd, oc, od, sl, F, lk⟩ := at_def s 4 rfl
  exact ⟨_, fd, F, (ref_ok X G (at_fact s 4 rfl)).1⟩
theorem d5 (X : K.In h) (G : h.Ns mainGlobals mg) (s : SaysL hFs hDs hCode hTab h K) : FnIAt K mg "Span" "__init__" "Span.__init__" (inClass (top 23) 0) [.non, .non] := by
  obtain ⟨fd, oc, od, sl, F, lk⟩ := at_def s 5 rfl
  exact ⟨_, fd, F, by rw [(ref_ok X G (at_fact s 99 rfl)).2]; exact mkr_ok' (at_fact s 5 rfl), by rw [(ref_ok X G (at_fact s 99 rfl)).2]; exact (ref_ok X G (at_fact s 99 rfl)).1⟩
theorem d6 (X : K.In h) (G : h.Ns mainGlobals mg) (s : SaysL hFs hDs hCode hTab h K) : FnMAt K "Span" "__contains__" "Span.__contains__" (inClass (top 23) 2) [] := by
  obtain ⟨fd, oc, od, sl, F, lk⟩ := at_def s 6 rfl
  exact ⟨_, fd, F, by rw [(ref_ok X G (at_fact s 99 rfl)).2]; exact meth_ok' (at_fact s 6 rfl) F.kp⟩
theorem d7 (X : K.In h) (G : h.Ns mainGlobals mg) (s : SaysL hFs hDs hCode hTab h K) : FnMAt K "Web" "__contains__" "Web.__contains__" (inClass (top 71) 15) [] := by
  obtain ⟨fd, oc, od, sl, F, lk⟩ := at_def s 7 rfl
  exact ⟨_, fd, F, by rw [(ref_ok X G (at_fact s 98 rfl)).2]; exact meth_ok' (at_fact s 7 rfl) F.kp⟩
theorem d8 (X : K.In h) (G : h.Ns mainGlobals mg) (s : SaysL hFs hDs hCode hTab h K) : FnPAt K "Web" "lamps" "Web.lamps" (inClass (top 71) 1) [] := by
  obtain ⟨fd, oc, od, sl, F, lk⟩ := at_def s 8 rfl
  exact ⟨_, _, fd, F, by rw [(ref_ok X G (at_fact s 98 rfl)).2]; exact prop_ok (at_fact s 8 rfl)⟩
theorem d9 (X : K.In h) (G : h.Ns mainGlobals mg) (s : SaysL hFs hDs hCode hTab h K) : FnPAt K "Web" "bond_rows" "Web.bond_rows" (inClass (top 71) 4) [] := by
  obtain ⟨fd, oc, od, sl, F, lk⟩ := at_def s 9 rfl
  exact ⟨_, _, fd, F, by rw [(ref_ok X G (at_fact s 98 rfl)).2]; exact prop_ok (at_fact s 9 rfl)⟩
theorem d10 (X : K.In h) (G : h.Ns mainGlobals mg) (s : SaysL hFs hDs hCode hTab h K) : FnPAt K "Web" "bonds" "Web.bonds" (inClass (top 71) 2) [] := by
  obtain ⟨fd, oc, od, sl, F, lk⟩ := at_def s 10 rfl
  exact ⟨_, _, fd, F, by rw [(ref_ok X G (at_fact s 98 rfl)).2]; exact prop_ok (at_fact s 10 rfl)⟩
theorem d11 (X : K.In h) (G : h.Ns mainGlobals mg) (s : SaysL hFs hDs hCode hTab h K) : DefAt K mg "check_known" (top 66) [] := by
  obtain ⟨fd, oc, od, sl, F, lk⟩ := at_def s 11 rfl
  exact ⟨_, fd, F, (ref_ok X G (at_fact s 11 rfl)).1⟩
theorem d12 (X : K.In h) (G : h.Ns mainGlobals mg) (s : SaysL hFs hDs hCode hTab h K) : FnMAt K "Web" "ceiling" "Web.ceiling" (inClass (top 71) 5) [] := by
  obtain ⟨fd, oc, od, sl, F, lk⟩ := at_def s 12 rfl
  exact ⟨_, fd, F, by rw [(ref_ok X G (at_fact s 98 rfl)).2]; exact meth_ok' (at_fact s 12 rfl) F.kp⟩
theorem d13 (X : K.In h) (G : h.Ns mainGlobals mg) (s : SaysL hFs hDs hCode hTab h K) : FnMAt K "Web" "ends" "Web.ends" (inClass (top 71) 6) [] := by
  obtain ⟨fd, oc, od, sl, F, lk⟩ := at_def s 13 rfl
  exact ⟨_, fd, F, by rw [(ref_ok X G (at_fact s 98 rfl)).2]; exact meth_ok' (at_fact s 13 rfl) F.kp⟩
theorem d14 (X : K.In h) (G : h.Ns mainGlobals mg) (s : SaysL hFs hDs hCode hTab h K) : FnMAt K "Web" "lets" "Web.lets" (inClass (top 71) 8) [] := by
  obtain ⟨fd, oc, od, sl, F, lk⟩ := at_def s 14 rfl
  exact ⟨_, fd, F, by rw [(ref_ok X G (at_fact s 98 rfl)).2]; exact meth_ok' (at_fact s 14 rfl) F.kp⟩
theorem d15 (X : K.In h) (G : h.Ns mainGlobals mg) (s : SaysL hFs hDs hCode hTab h K) : FnPAt K "World" "web" "World.web" (inClass (top 25) 3) [] := by
  obtain ⟨fd, oc, od, sl, F, lk⟩ := at_def s 15 rfl
  exact ⟨_, _, fd, F, by rw [(ref_ok X G (at_fact s 97 rfl)).2]; exact prop_ok (at_fact s 15 rfl)⟩
theorem d16 (X : K.In h) (G : h.Ns mainGlobals mg) (s : SaysL hFs hDs hCode hTab h K) : FnPAt K "World" "lights" "World.lights" (inClass (top 25) 4) [] := by
  obtain ⟨fd, oc, od, sl, F, lk⟩ := at_def s 16 rfl
  exact ⟨_, _, fd, F, by rw [(ref_ok X G (at_fact s 97 rfl)).2]; exact prop_ok (at_fact s 16 rfl)⟩
theorem d17 (X : K.In h) (G : h.Ns mainGlobals mg) (s : SaysL hFs hDs hCode hTab h K) : FnPAt K "World" "row" "World.row" (inClass (top 25) 5) [] := by
  obtain ⟨fd, oc, od, sl, F, lk⟩ := at_def s 17 rfl
  exact ⟨_, _, fd, F, by rw [(ref_ok X G (at_fact s 97 rfl)).2]; exact prop_ok (at_fact s 17 rfl)⟩
theorem d18 (X : K.In h) (G : h.Ns mainGlobals mg) (s : SaysL hFs hDs hCode hTab h K) : FnMAt K "World" "light" "World.light" (inClass (top 25) 7) [] := by
  obtain ⟨fd, oc, od, sl, F, lk⟩ := at_def s 18 rfl
  exact ⟨_, fd, F, by rw [(ref_ok X G (at_fact s 97 rfl)).2]; exact meth_ok' (at_fact s 18 rfl) F.kp⟩
theorem d19 (X : K.In h) (G : h.Ns mainGlobals mg) (s : SaysL hFs hDs hCode hTab h K) : FnIAt K mg "World" "__init__" "World.__init__" (inClass (top 25) 0) [] := by
  obtain ⟨fd, oc, od, sl, F, lk⟩ := at_def s 19 rfl
  exact ⟨_, fd, F, by rw [(ref_ok X G (at_fact s 97 rfl)).2]; exact mkr_ok' (at_fact s 19 rfl), by rw [(ref_ok X G (at_fact s 97 rfl)).2]; exact (ref_ok X G (at_fact s 97 rfl)).1⟩
theorem d20 (X : K.In h) (G : h.Ns mainGlobals mg) (s : SaysL hFs hDs hCode hTab h K) : FnMAt K "World" "with_light" "World.with_light" (inClass (top 25) 9) [] := by
  obtain ⟨fd, oc, od, sl, F, lk⟩ := at_def s 20 rfl
  exact ⟨_, fd, F, by rw [(ref_ok X G (at_fact s 97 rfl)).2]; exact meth_ok' (at_fact s 20 rfl) F.kp⟩
theorem d21 (X : K.In h) (G : h.Ns mainGlobals mg) (s : SaysL hFs hDs hCode hTab h K) : DefAt K mg "check_lamp" (top 27) [] := by
  obtain ⟨fd, oc, od, sl, F, lk⟩ := at_def s 21 rfl
  exact ⟨_, fd, F, (ref_ok X G (at_fact s 21 rfl)).1⟩
theorem d22 (X : K.In h) (G : h.Ns mainGlobals mg) (s : SaysL hFs hDs hCode hTab h K) : DefAt K mg "bright_first" (top 28) [] := by
  obtain ⟨fd, oc, od, sl, F, lk⟩ := at_def s 22 rfl
  exact ⟨_, fd, F, (ref_ok X G (at_fact s 22 rfl)).1⟩
theorem d23 (X : K.In h) (G : h.Ns mainGlobals mg) (s : SaysL hFs hDs hCode hTab h K) : DefAt K mg "refusal_in" (top 29) [] := by
  obtain ⟨fd, oc, od, sl, F, lk⟩ := at_def s 23 rfl
  exact ⟨_, fd, F, (ref_ok X G (at_fact s 23 rfl)).1⟩
theorem d24 (X : K.In h) (G : h.Ns mainGlobals mg) (s : SaysL hFs hDs hCode hTab h K) : DefAt K mg "take" (top 30) [] := by
  obtain ⟨fd, oc, od, sl, F, lk⟩ := at_def s 24 rfl
  exact ⟨_, fd, F, (ref_ok X G (at_fact s 24 rfl)).1⟩
theorem d25 (X : K.In h) (G : h.Ns mainGlobals mg) (s : SaysL hFs hDs hCode hTab h K) : DefAt K mg "possible" (top 31) [] := by
  obtain ⟨fd, oc, od, sl, F, lk⟩ := at_def s 25 rfl
  exact ⟨_, fd, F, (ref_ok X G (at_fact s 25 rfl)).1⟩
theorem d26 (X : K.In h) (G : h.Ns mainGlobals mg) (s : SaysL hFs hDs hCode hTab h K) : DefAt K mg "at_rest" (top 32) [] := by
  obtain ⟨fd, oc, od, sl, F, lk⟩ := at_def s 26 rfl
  exact ⟨_, fd, F, (ref_ok X G (at_fact s 26 rfl)).1⟩
theorem d27 (X : K.In h) (G : h.Ns mainGlobals mg) (s : SaysL hFs hDs hCode hTab h K) : DefAt K mg "check_cap_numbers" (top 34) [] := by
  obtain ⟨fd, oc, od, sl, F, lk⟩ := at_def s 27 rfl
  exact ⟨_, fd, F, (ref_ok X G (at_fact s 27 rfl)).1⟩
theorem d28 (X : K.In h) (G : h.Ns mainGlobals mg) (s : SaysL hFs hDs hCode hTab h K) : DefAt K mg "check_cap_names" (top 35) [] := by
  obtain ⟨fd, oc, od, sl, F, lk⟩ := at_def s 28 rfl
  exact ⟨_, fd, F, (ref_ok X G (at_fact s 28 rfl)).1⟩
theorem d29 (X : K.In h) (G : h.Ns mainGlobals mg) (s : SaysL hFs hDs hCode hTab h K) : DefAt K mg "field_in" (top 37) [] := by
  obtain ⟨fd, oc, od, sl, F, lk⟩ := at_def s 29 rfl
  exact ⟨_, fd, F, (ref_ok X G (at_fact s 29 rfl)).1⟩
theorem d30 (X : K.In h) (G : h.Ns mainGlobals mg) (s : SaysL hFs hDs hCode hTab h K) : DefAt K mg "open_bonds" (top 38) [] := by
  obtain ⟨fd, oc, od, sl, F, lk⟩ := at_def s 30 rfl
  exact ⟨_, fd, F, (ref_ok X G (at_fact s 30 rfl)).1⟩
theorem d31 (X : K.In h) (G : h.Ns mainGlobals mg) (s : SaysL hFs hDs hCode hTab h K) : DefAt K mg "joined_lamps" (top 39) [] := by
  obtain ⟨fd, oc, od, sl, F, lk⟩ := at_def s 31 rfl
  exact ⟨_, fd, F, (ref_ok X G (at_fact s 31 rfl)).1⟩
theorem d32 (X : K.In h) (G : h.Ns mainGlobals mg) (s : SaysL hFs hDs hCode hTab h K) : DefAt K mg "groups_in" (top 40) [] := by
  obtain ⟨fd, oc, od, sl, F, lk⟩ := at_def s 32 rfl
  exact ⟨_, fd, F, (ref_ok X G (at_fact s 32 rfl)).1⟩
theorem d33 (X : K.In h) (G : h.Ns mainGlobals mg) (s : SaysL hFs hDs hCode hTab h K) : DefAt K mg "groups_under" (top 42) [] := by
  obtain ⟨fd, oc, od, sl, F, lk⟩ := at_def s 33 rfl
  exact ⟨_, fd, F, (ref_ok X G (at_fact s 33 rfl)).1⟩
theorem d34 (X : K.In h) (G : h.Ns mainGlobals mg) (s : SaysL hFs hDs hCode hTab h K) : DefAt K mg "free_caps" (top 41) [] := by
  obtain ⟨fd, oc, od, sl, F, lk⟩ := at_def s 34 rfl
  exact ⟨_, fd, F, (ref_ok X G (at_fact s 34 rfl)).1⟩
theorem d35 (X : K.In h) (G : h.Ns mainGlobals mg) (s : SaysL hFs hDs hCode hTab h K) : DefAt K mg "told_lights" (top 44) [.non] := by
  obtain ⟨fd, oc, od, sl, F, lk⟩ := at_def s 35 rfl
  exact ⟨_, fd, F, (ref_ok X G (at_fact s 35 rfl)).1⟩
theorem d36 (X : K.In h) (G : h.Ns mainGlobals mg) (s : SaysL hFs hDs hCode hTab h K) : DefAt K mg "caps_of" (top 45) [] := by
  obtain ⟨fd, oc, od, sl, F, lk⟩ := at_def s 36 rfl
  exact ⟨_, fd, F, (ref_ok X G (at_fact s 36 rfl)).1⟩
theorem d37 (X : K.In h) (G : h.Ns mainGlobals mg) (s : SaysL hFs hDs hCode hTab h K) : DefAt K mg "hangers" (top 46) [] := by
  obtain ⟨fd, oc, od, sl, F, lk⟩ := at_def s 37 rfl
  exact ⟨_, fd, F, (ref_ok X G (at_fact s 37 rfl)).1⟩
theorem d38 (X : K.In h) (G : h.Ns mainGlobals mg) (s : SaysL hFs hDs hCode hTab h K) : DefAt K mg "shade_group" (top 47) [] := by
  obtain ⟨fd, oc, od, sl, F, lk⟩ := at_def s 38 rfl
  exact ⟨_, fd, F, (ref_ok X G (at_fact s 38 rfl)).1⟩
theorem d39 (X : K.In h) (G : h.Ns mainGlobals mg) (s : SaysL hFs hDs hCode hTab h K) : DefAt K mg "told_faults" (top 48) [] := by
  obtain ⟨fd, oc, od, sl, F, lk⟩ := at_def s 39 rfl
  exact ⟨_, fd, F, (ref_ok X G (at_fact s 39 rfl)).1⟩
theorem d40 (X : K.In h) (G : h.Ns mainGlobals mg) (s : SaysL hFs hDs hCode hTab h K) : FnPAt K "World" "borne" "World.borne" (inClass (top 25) 6) [] := by
  obtain ⟨fd, oc, od, sl, F, lk⟩ := at_def s 40 rfl
  exact ⟨_, _, fd, F, by rw [(ref_ok X G (at_fact s 97 rfl)).2]; exact prop_ok (at_fact s 40 rfl)⟩
theorem d41 (X : K.In h) (G : h.Ns mainGlobals mg) (s : SaysL hFs hDs hCode hTab h K) : DefAt K mg "wish_faults" (top 50) [] := by
  obtain ⟨fd, oc, od, sl, F, lk⟩ := at_def s 41 rfl
  exact ⟨_, fd, F, (ref_ok X G (at_fact s 41 rfl)).1⟩
theorem d42 (X : K.In h) (G : h.Ns mainGlobals mg) (s : SaysL hFs hDs hCode hTab h K) : DefAt K mg "granted" (top 51) [.non] := by
  obtain ⟨fd, oc, od, sl, F, lk⟩ := at_def s 42 rfl
  exact ⟨_, fd, F, (ref_ok X G (at_fact s 42 rfl)).1⟩
theorem d43 (X : K.In h) (G : h.Ns mainGlobals mg) (s : SaysL hFs hDs hCode hTab h K) : FnMAt K "Web" "__eq__" "Web.__eq__" (inClass (top 71) 17) [] := by
  obtain ⟨fd, oc, od, sl, F, lk⟩ := at_def s 43 rfl
  exact ⟨_, fd, F, by rw [(ref_ok X G (at_fact s 98 rfl)).2]; exact meth_ok' (at_fact s 43 rfl) F.kp⟩
theorem d44 (X : K.In h) (G : h.Ns mainGlobals mg) (s : SaysL hFs hDs hCode hTab h K) : FnMAt K "World" "under" "World.under" (inClass (top 25) 11) [] := by
  obtain ⟨fd, oc, od, sl, F, lk⟩ := at_def s 44 rfl
  exact ⟨_, fd, F, by rw [(ref_ok X G (at_fact s 97 rfl)).2]; exact meth_ok' (at_fact s 44 rfl) F.kp⟩
theorem d45 (X : K.In h) (G : h.Ns mainGlobals mg) (s : SaysL hFs hDs hCode hTab h K) : FnEAt K "Ungranted" "Ungranted.__init__" (inClass (top 13) 0) := by
  obtain ⟨fd, oc, od, sl, F, lk⟩ := at_def s 45 rfl
  exact ⟨_, fd, F, by rw [(ref_ok X G (at_fact s 100 rfl)).2]; exact (exin_ok (at_fact s 45 rfl)).1, (exin_ok (at_fact s 45 rfl)).2⟩
theorem d46 (X : K.In h) (G : h.Ns mainGlobals mg) (s : SaysL hFs hDs hCode hTab h K) : DefAt K mg "granted_caps" (top 52) [] := by
  obtain ⟨fd, oc, od, sl, F, lk⟩ := at_def s 46 rfl
  exact ⟨_, fd, F, (ref_ok X G (at_fact s 46 rfl)).1⟩
theorem d47 (X : K.In h) (G : h.Ns mainGlobals mg) (s : SaysL hFs hDs hCode hTab h K) : DefAt K mg "brightest" (top 53) [.non] := by
  obtain ⟨fd, oc, od, sl, F, lk⟩ := at_def s 47 rfl
  exact ⟨_, fd, F, (ref_ok X G (at_fact s 47 rfl)).1⟩
theorem d48 (X : K.In h) (G : h.Ns mainGlobals mg) (s : SaysL hFs hDs hCode hTab h K) : DefAt K mg "is_name" (top 58) [] := by
  obtain ⟨fd, oc, od, sl, F, lk⟩ := at_def s 48 rfl
  exact ⟨_, fd, F, (ref_ok X G (at_fact s 48 rfl)).1⟩
theorem d49 (X : K.In h) (G : h.Ns mainGlobals mg) (s : SaysL hFs hDs hCode hTab h K) : DefAt K mg "check_name" (top 59) [] := by
  obtain ⟨fd, oc, od, sl, F, lk⟩ := at_def s 49 rfl
  exact ⟨_, fd, F, (ref_ok X G (at_fact s 49 rfl)).1⟩
theorem d50 (X : K.In h) (G : h.Ns mainGlobals mg) (s : SaysL hFs hDs hCode hTab h K) : DefAt K mg "ordered" (top 60) [] := by
  obtain ⟨fd, oc, od, sl, F, lk⟩ := at_def s 50 rfl
  exact ⟨_, fd, F, (ref_ok X G (at_fact s 50 rfl)).1⟩
theorem d51 (X : K.In h) (G : h.Ns mainGlobals mg) (s : SaysL hFs hDs hCode hTab h K) : DefAt K mg "check_open" (top 64) [] := by
  obtain ⟨fd, oc, od, sl, F, lk⟩ := at_def s 51 rfl
  exact ⟨_, fd, F, (ref_ok X G (at_fact s 51 rfl)).1⟩
theorem d52 (X : K.In h) (G : h.Ns mainGlobals mg) (s : SaysL hFs hDs hCode hTab h K) : DefAt K mg "check_count" (top 65) [] := by
  obtain ⟨fd, oc, od, sl, F, lk⟩ := at_def s 52 rfl
  exact ⟨_, fd, F, (ref_ok X G (at_fact s 52 rfl)).1⟩
theorem d53 (X : K.In h) (G : h.Ns mainGlobals mg) (s : SaysL hFs hDs hCode hTab h K) : DefAt K mg "check_ends" (top 67) [] := by
  obtain ⟨fd, oc, od, sl, F, lk⟩ := at_def s 53 rfl
  exact ⟨_, fd, F, (ref_ok X G (at_fact s 53 rfl)).1⟩
theorem d54 (X : K.In h) (G : h.Ns mainGlobals mg) (s : SaysL hFs hDs hCode hTab h K) : DefAt K mg "check_rows" (top 68) [] := by
  obtain ⟨fd, oc, od, sl, F, lk⟩ := at_def s 54 rfl
  exact ⟨_, fd, F, (ref_ok X G (at_fact s 54 rfl)).1⟩
theorem d55 (X : K.In h) (G : h.Ns mainGlobals mg) (s : SaysL hFs hDs hCode hTab h K) : DefAt K mg "kept_bond" (top 69) [] := by
  obtain ⟨fd, oc, od, sl, F, lk⟩ := at_def s 55 rfl
  exact ⟨_, fd, F, (ref_ok X G (at_fact s 55 rfl)).1⟩
theorem d56 (X : K.In h) (G : h.Ns mainGlobals mg) (s : SaysL hFs hDs hCode hTab h K) : DefAt K mg "arms_at" (top 70) [] := by
  obtain ⟨fd, oc, od, sl, F, lk⟩ := at_def s 56 rfl
  exact ⟨_, fd, F, (ref_ok X G (at_fact s 56 rfl)).1⟩
theorem d57 (X : K.In h) (G : h.Ns mainGlobals mg) (s : SaysL hFs hDs hCode hTab h K) (TB : LamX.TabB base mg 720 hTab) : WebAt K mg base hTab "Web" "__init__" "Web.__init__" (inClass (top 71) 0) := by
  obtain ⟨fd, oc, od, sl, F, lk⟩ := at_def s 57 rfl
  exact ⟨_, fd, _, 720, F, by rw [(ref_ok X G (at_fact s 98 rfl)).2]; exact mkr_ok' (at_fact s 57 rfl), by rw [(ref_ok X G (at_fact s 98 rfl)).2]; exact (ref_ok X G (at_fact s 98 rfl)).1, code_ok (at_fact s 58 rfl) lk, TB⟩
theorem d58 (X : K.In h) (G : h.Ns mainGlobals mg) (s : SaysL hFs hDs hCode hTab h K) : DefAt K mg "_law_stir" (top 74) [] := by
  obtain ⟨fd, oc, od, sl, F, lk⟩ := at_def s 58 rfl
  exact ⟨_, fd, F, (ref_ok X G (at_fact s 59 rfl)).1⟩
theorem d59 (X : K.In h) (G : h.Ns mainGlobals mg) (s : SaysL hFs hDs hCode hTab h K) : DefAt K mg "_law_take" (top 75) [] := by
  obtain ⟨fd, oc, od, sl, F, lk⟩ := at_def s 59 rfl
  exact ⟨_, fd, F, (ref_ok X G (at_fact s 60 rfl)).1⟩
theorem d60 (X : K.In h) (G : h.Ns mainGlobals mg) (s : SaysL hFs hDs hCode hTab h K) : DefAt K mg "_law_store" (top 73) [] := by
  obtain ⟨fd, oc, od, sl, F, lk⟩ := at_def s 60 rfl
  exact ⟨_, fd, F, (ref_ok X G (at_fact s 61 rfl)).1⟩
theorem d61 (X : K.In h) (G : h.Ns mainGlobals mg) (s : SaysL hFs hDs hCode hTab h K) : DefAt K mg "_law_pick" (top 76) [] := by
  obtain ⟨fd, oc, od, sl, F, lk⟩ := at_def s 61 rfl
  exact ⟨_, fd, F, (ref_ok X G (at_fact s 62 rfl)).1⟩
theorem d62 (X : K.In h) (G : h.Ns mainGlobals mg) (s : SaysL hFs hDs hCode hTab h K) : DefAt K mg "_law_shuffled" (top 77) [] := by
  obtain ⟨fd, oc, od, sl, F, lk⟩ := at_def s 62 rfl
  exact ⟨_, fd, F, (ref_ok X G (at_fact s 63 rfl)).1⟩
theorem d63 (X : K.In h) (G : h.Ns mainGlobals mg) (s : SaysL hFs hDs hCode hTab h K) : DefAt K mg "_law_some" (top 78) [] := by
  obtain ⟨fd, oc, od, sl, F, lk⟩ := at_def s 63 rfl
  exact ⟨_, fd, F, (ref_ok X G (at_fact s 64 rfl)).1⟩
theorem d64 (X : K.In h) (G : h.Ns mainGlobals mg) (s : SaysL hFs hDs hCode hTab h K) : DefAt K mg "_law_posts" (top 81) [] := by
  obtain ⟨fd, oc, od, sl, F, lk⟩ := at_def s 64 rfl
  exact ⟨_, fd, F, (ref_ok X G (at_fact s 65 rfl)).1⟩
theorem d65 (X : K.In h) (G : h.Ns mainGlobals mg) (s : SaysL hFs hDs hCode hTab h K) : DefAt K mg "_law_bar_of" (top 82) [] := by
  obtain ⟨fd, oc, od, sl, F, lk⟩ := at_def s 65 rfl
  exact ⟨_, fd, F, (ref_ok X G (at_fact s 66 rfl)).1⟩
theorem d66 (X : K.In h) (G : h.Ns mainGlobals mg) (s : SaysL hFs hDs hCode hTab h K) : DefAt K mg "_law_edge_of" (top 83) [] := by
  obtain ⟨fd, oc, od, sl, F, lk⟩ := at_def s 66 rfl
  exact ⟨_, fd, F, (ref_ok X G (at_fact s 67 rfl)).1⟩
theorem d67 (X : K.In h) (G : h.Ns mainGlobals mg) (s : SaysL hFs hDs hCode hTab h K) : DefAt K mg "_law_lets" (top 86) [] := by
  obtain ⟨fd, oc, od, sl, F, lk⟩ := at_def s 67 rfl
  exact ⟨_, fd, F, (ref_ok X G (at_fact s 68 rfl)).1⟩
theorem d68 (X : K.In h) (G : h.Ns mainGlobals mg) (s : SaysL hFs hDs hCode hTab h K) : DefAt K mg "_law_refusal" (top 87) [] := by
  obtain ⟨fd, oc, od, sl, F, lk⟩ := at_def s 68 rfl
  exact ⟨_, fd, F, (ref_ok X G (at_fact s 69 rfl)).1⟩
theorem d69 (X : K.In h) (G : h.Ns mainGlobals mg) (s : SaysL hFs hDs hCode hTab h K) : DefAt K mg "_law_after" (top 88) [] := by
  obtain ⟨fd, oc, od, sl, F, lk⟩ := at_def s 69 rfl
  exact ⟨_, fd, F, (ref_ok X G (at_fact s 70 rfl)).1⟩
theorem d70 (X : K.In h) (G : h.Ns mainGlobals mg) (s : SaysL hFs hDs hCode hTab h K) : DefAt K mg "_law_row" (top 84) [] := by
  obtain ⟨fd, oc, od, sl, F, lk⟩ := at_def s 70 rfl
  exact ⟨_, fd, F, (ref_ok X G (at_fact s 71 rfl)).1⟩
theorem d71 (X : K.In h) (G : h.Ns mainGlobals mg) (s : SaysL hFs hDs hCode hTab h K) : DefAt K mg "_law_is_number" (top 80) [] := by
  obtain ⟨fd, oc, od, sl, F, lk⟩ := at_def s 71 rfl
  exact ⟨_, fd, F, (ref_ok X G (at_fact s 72 rfl)).1⟩
theorem d72 (X : K.In h) (G : h.Ns mainGlobals mg) (s : SaysL hFs hDs hCode hTab h K) : DefAt K mg "_law_row_glow" (top 85) [] := by
  obtain ⟨fd, oc, od, sl, F, lk⟩ := at_def s 72 rfl
  exact ⟨_, fd, F, (ref_ok X G (at_fact s 73 rfl)).1⟩
theorem d73 (X : K.In h) (G : h.Ns mainGlobals mg) (s : SaysL hFs hDs hCode hTab h K) : DefAt K mg "_law_can" (top 89) [] := by
  obtain ⟨fd, oc, od, sl, F, lk⟩ := at_def s 73 rfl
  exact ⟨_, fd, F, (ref_ok X G (at_fact s 74 rfl)).1⟩
theorem d74 (X : K.In h) (G : h.Ns mainGlobals mg) (s : SaysL hFs hDs hCode hTab h K) : DefAt K mg "_law_reach" (top 90) [] := by
  obtain ⟨fd, oc, od, sl, F, lk⟩ := at_def s 74 rfl
  exact ⟨_, fd, F, (ref_ok X G (at_fact s 75 rfl)).1⟩
theorem d75 (X : K.In h) (G : h.Ns mainGlobals mg) (s : SaysL hFs hDs hCode hTab h K) : DefAt K mg "_law_tamed" (top 91) [] := by
  obtain ⟨fd, oc, od, sl, F, lk⟩ := at_def s 75 rfl
  exact ⟨_, fd, F, (ref_ok X G (at_fact s 76 rfl)).1⟩
theorem d76 (X : K.In h) (G : h.Ns mainGlobals mg) (s : SaysL hFs hDs hCode hTab h K) : DefAt K mg "_law_free_limits" (top 92) [] := by
  obtain ⟨fd, oc, od, sl, F, lk⟩ := at_def s 76 rfl
  exact ⟨_, fd, F, (ref_ok X G (at_fact s 77 rfl)).1⟩
theorem d77 (X : K.In h) (G : h.Ns mainGlobals mg) (s : SaysL hFs hDs hCode hTab h K) : DefAt K mg "_law_aim_limits" (top 93) [] := by
  obtain ⟨fd, oc, od, sl, F, lk⟩ := at_def s 77 rfl
  exact ⟨_, fd, F, (ref_ok X G (at_fact s 78 rfl)).1⟩
theorem d78 (X : K.In h) (G : h.Ns mainGlobals mg) (s : SaysL hFs hDs hCode hTab h K) : DefAt K mg "_law_in_field" (top 94) [] := by
  obtain ⟨fd, oc, od, sl, F, lk⟩ := at_def s 78 rfl
  exact ⟨_, fd, F, (ref_ok X G (at_fact s 79 rfl)).1⟩
theorem d79 (X : K.In h) (G : h.Ns mainGlobals mg) (s : SaysL hFs hDs hCode hTab h K) : DefAt K mg "_law_has_lights" (top 106) [] := by
  obtain ⟨fd, oc, od, sl, F, lk⟩ := at_def s 79 rfl
  exact ⟨_, fd, F, (ref_ok X G (at_fact s 80 rfl)).1⟩
theorem d80 (X : K.In h) (G : h.Ns mainGlobals mg) (s : SaysL hFs hDs hCode hTab h K) : DefAt K mg "_law_is_cover" (top 95) [] := by
  obtain ⟨fd, oc, od, sl, F, lk⟩ := at_def s 80 rfl
  exact ⟨_, fd, F, (ref_ok X G (at_fact s 81 rfl)).1⟩
theorem d81 (X : K.In h) (G : h.Ns mainGlobals mg) (s : SaysL hFs hDs hCode hTab h K) : DefAt K mg "_law_paper_holds" (top 96) [] := by
  obtain ⟨fd, oc, od, sl, F, lk⟩ := at_def s 81 rfl
  exact ⟨_, fd, F, (ref_ok X G (at_fact s 82 rfl)).1⟩
theorem d82 (X : K.In h) (G : h.Ns mainGlobals mg) (s : SaysL hFs hDs hCode hTab h K) : DefAt K mg "_law_tags" (top 98) [] := by
  obtain ⟨fd, oc, od, sl, F, lk⟩ := at_def s 82 rfl
  exact ⟨_, fd, F, (ref_ok X G (at_fact s 83 rfl)).1⟩
theorem d83 (X : K.In h) (G : h.Ns mainGlobals mg) (s : SaysL hFs hDs hCode hTab h K) : DefAt K mg "_law_unlike" (top 79) [] := by
  obtain ⟨fd, oc, od, sl, F, lk⟩ := at_def s 83 rfl
  exact ⟨_, fd, F, (ref_ok X G (at_fact s 84 rfl)).1⟩
theorem d84 (X : K.In h) (G : h.Ns mainGlobals mg) (s : SaysL hFs hDs hCode hTab h K) : DefAt K mg "_law_ladder" (top 97) [] := by
  obtain ⟨fd, oc, od, sl, F, lk⟩ := at_def s 84 rfl
  exact ⟨_, fd, F, (ref_ok X G (at_fact s 85 rfl)).1⟩
theorem d85 (X : K.In h) (G : h.Ns mainGlobals mg) (s : SaysL hFs hDs hCode hTab h K) : DefAt K mg "_law_gates" (top 99) [] := by
  obtain ⟨fd, oc, od, sl, F, lk⟩ := at_def s 85 rfl
  exact ⟨_, fd, F, (ref_ok X G (at_fact s 86 rfl)).1⟩
theorem d86 (X : K.In h) (G : h.Ns mainGlobals mg) (s : SaysL hFs hDs hCode hTab h K) : DefAt K mg "_law_spread" (top 102) [] := by
  obtain ⟨fd, oc, od, sl, F, lk⟩ := at_def s 86 rfl
  exact ⟨_, fd, F, (ref_ok X G (at_fact s 87 rfl)).1⟩
theorem d87 (X : K.In h) (G : h.Ns mainGlobals mg) (s : SaysL hFs hDs hCode hTab h K) : DefAt K mg "_law_takers" (top 103) [] := by
  obtain ⟨fd, oc, od, sl, F, lk⟩ := at_def s 87 rfl
  exact ⟨_, fd, F, (ref_ok X G (at_fact s 88 rfl)).1⟩
theorem d88 (X : K.In h) (G : h.Ns mainGlobals mg) (s : SaysL hFs hDs hCode hTab h K) : DefAt K mg "_law_raised" (top 104) [] := by
  obtain ⟨fd, oc, od, sl, F, lk⟩ := at_def s 88 rfl
  exact ⟨_, fd, F, (ref_ok X G (at_fact s 89 rfl)).1⟩
theorem d89 (X : K.In h) (G : h.Ns mainGlobals mg) (s : SaysL hFs hDs hCode hTab h K) : DefAt K mg "_law_alike" (top 101) [] := by
  obtain ⟨fd, oc, od, sl, F, lk⟩ := at_def s 89 rfl
  exact ⟨_, fd, F, (ref_ok X G (at_fact s 90 rfl)).1⟩
theorem d90 (X : K.In h) (G : h.Ns mainGlobals mg) (s : SaysL hFs hDs hCode hTab h K) : DefAt K mg "_law_wish" (top 105) [] := by
  obtain ⟨fd, oc, od, sl, F, lk⟩ := at_def s 90 rfl
  exact ⟨_, fd, F, (ref_ok X G (at_fact s 91 rfl)).1⟩
theorem d91 (X : K.In h) (G : h.Ns mainGlobals mg) (s : SaysL hFs hDs hCode hTab h K) : DefAt K mg "_law_drawn" (top 100) [] := by
  obtain ⟨fd, oc, od, sl, F, lk⟩ := at_def s 91 rfl
  exact ⟨_, fd, F, (ref_ok X G (at_fact s 92 rfl)).1⟩
theorem d92 (X : K.In h) (G : h.Ns mainGlobals mg) (s : SaysL hFs hDs hCode hTab h K) : DefAt K mg "_law_paper_of" (top 107) [] := by
  obtain ⟨fd, oc, od, sl, F, lk⟩ := at_def s 92 rfl
  exact ⟨_, fd, F, (ref_ok X G (at_fact s 93 rfl)).1⟩
theorem d93 (X : K.In h) (G : h.Ns mainGlobals mg) (s : SaysL hFs hDs hCode hTab h K) : DefAt K mg "_law_all_under" (top 109) [] := by
  obtain ⟨fd, oc, od, sl, F, lk⟩ := at_def s 93 rfl
  exact ⟨_, fd, F, (ref_ok X G (at_fact s 94 rfl)).1⟩
theorem d94 (X : K.In h) (G : h.Ns mainGlobals mg) (s : SaysL hFs hDs hCode hTab h K) : DefAt K mg "_law_walk_right" (top 108) [] := by
  obtain ⟨fd, oc, od, sl, F, lk⟩ := at_def s 94 rfl
  exact ⟨_, fd, F, (ref_ok X G (at_fact s 95 rfl)).1⟩
theorem all_ok (X : K.In h) (G : h.Ns mainGlobals mg) (s : SaysL hFs hDs hCode hTab h K) (TB : LamX.TabB base mg hCode hTab) {fd : FuncData} (DL : FunD K "law" "law" (defArgs (top 110)) (defBody (top 110)) (defScope (top 110)) [] [] 1094 fd) : FnOk P w K mg base CX0 14 1094 fd ["_law_script"] (spLaw K hTab) := by
  have T : TX K mg := tx_of X G s
  have c_is_number : F_is_number P w K mg base := ok_is_number T (d0 X G s) 
  have c_check_number : F_check_number P w K mg base := ok_check_number T (d1 X G s) c_is_number
  have c_check_end : F_check_end P w K mg base := ok_check_end T (d2 X G s) c_check_number
  have c_may_take : F_may_take P w K mg base := ok_may_take T (d3 X G s) c_check_number c_check_end
  have c_lets_pass : F_lets_pass P w K mg base := ok_lets_pass T (d4 X G s) 
  have c_Span_init : F_Span_init P w K mg base := ok_Span_init T (d5 X G s) c_check_end
  have c_Span_contains : F_Span_contains P w K mg base := ok_Span_contains T (d6 X G s) 
  have c_Web_contains : F_Web_contains P w K mg base := ok_Web_contains T (d7 X G s) 
  have c_Web_lamps : F_Web_lamps P w K mg base := ok_Web_lamps T (d8 X G s) 
  have c_Web_bond_rows : F_Web_bond_rows P w K mg base := ok_Web_bond_rows T (d9 X G s) 
  have c_Web_bonds : F_Web_bonds P w K mg base := ok_Web_bonds T (d10 X G s) 
  have c_check_known : F_check_known P w K mg base := ok_check_known T (d11 X G s) 
  have c_Web_ceiling : F_Web_ceiling P w K mg base := ok_Web_ceiling T (d12 X G s) c_check_known
  have c_Web_ends : F_Web_ends P w K mg base := ok_Web_ends T (d13 X G s) c_check_known
  have c_Web_lets : F_Web_lets P w K mg base := ok_Web_lets T (d14 X G s) c_check_number c_check_known c_Span_contains
  have c_World_web : F_World_web P w K mg base := ok_World_web T (d15 X G s) 
  have c_World_lights : F_World_lights P w K mg base := ok_World_lights T (d16 X G s) 
  have c_World_row : F_World_row P w K mg base := ok_World_row T (d17 X G s) 
  have c_World_light : F_World_light P w K mg base := ok_World_light T (d18 X G s) 
  have c_World_init : F_World_init P w K mg base := ok_World_init T (d19 X G s) c_check_number c_Web_contains c_Web_lamps
  have c_World_with_light : F_World_with_light P w K mg base := ok_World_with_light T (d20 X G s) c_check_number c_World_init
  have c_check_lamp : F_check_lamp P w K mg base := ok_check_lamp T (d21 X G s) c_Web_contains
  have c_bright_first : F_bright_first P w K mg base := ok_bright_first T (d22 X G s) 
  have c_refusal_in : F_refusal_in P w K mg base := ok_refusal_in T (d23 X G s) c_bright_first c_Web_ends c_Web_lets c_may_take c_Web_ceiling
  have c_take : F_take P w K mg base := ok_take T (d24 X G s) c_World_lights c_refusal_in c_World_web c_bright_first c_Web_ends c_World_with_light
  have c_possible : F_possible P w K mg base := ok_possible T (d25 X G s) c_World_web c_World_lights c_Web_bonds c_refusal_in
  have c_at_rest : F_at_rest P w K mg base := ok_at_rest T (d26 X G s) c_possible
  have c_check_cap_numbers : F_check_cap_numbers P w K mg base := ok_check_cap_numbers T (d27 X G s) c_check_number
  have c_check_cap_names : F_check_cap_names P w K mg base := ok_check_cap_names T (d28 X G s) c_check_lamp c_Web_lamps
  have c_field_in : F_field_in P w K mg base := ok_field_in T (d29 X G s) 
  have c_open_bonds : F_open_bonds P w K mg base := ok_open_bonds T (d30 X G s) c_Web_bond_rows c_lets_pass
  have c_joined_lamps : F_joined_lamps P w K mg base := ok_joined_lamps T (d31 X G s) 
  have c_groups_in : F_groups_in P w K mg base := ok_groups_in T (d32 X G s) c_field_in c_joined_lamps c_open_bonds
  have c_groups_under : F_groups_under P w K mg base := ok_groups_under T (d33 X G s) c_check_cap_numbers c_check_number c_check_cap_names c_World_web c_groups_in c_World_lights
  have c_free_caps : F_free_caps P w K mg base := ok_free_caps T (d34 X G s) c_World_lights c_World_web c_Web_ceiling c_may_take
  have c_told_lights : F_told_lights P w K mg base := ok_told_lights T (d35 X G s) c_check_number c_World_web c_Web_contains
  have c_caps_of : F_caps_of P w K mg base := ok_caps_of T (d36 X G s) c_free_caps
  have c_hangers : F_hangers P w K mg base := ok_hangers T (d37 X G s) c_groups_under c_World_light
  have c_shade_group : F_shade_group P w K mg base := ok_shade_group T (d38 X G s) c_groups_under c_World_light
  have c_told_faults : F_told_faults P w K mg base := ok_told_faults T (d39 X G s) c_World_web c_World_light c_may_take c_Web_ceiling c_shade_group
  have c_World_borne : F_World_borne P w K mg base := ok_World_borne T (d40 X G s) 
  have c_wish_faults : F_wish_faults P w K mg base := ok_wish_faults T (d41 X G s) c_told_lights c_told_faults c_caps_of
  have c_granted : F_granted P w K mg base := ok_granted T (d42 X G s) c_wish_faults
  have c_Web_eq : F_Web_eq P w K mg base := ok_Web_eq T (d43 X G s) 
  have c_World_under : F_World_under P w K mg base := ok_World_under T (d44 X G s) c_Web_eq
  have c_Ungranted_init : F_Ungranted_init P w K mg base := ok_Ungranted_init T (d45 X G s) 
  have c_granted_caps : F_granted_caps P w K mg base := ok_granted_caps T (d46 X G s) c_caps_of c_told_faults c_Ungranted_init
  have c_brightest : F_brightest P w K mg base := ok_brightest T (d47 X G s) c_told_lights c_World_lights c_World_borne c_hangers c_World_web c_World_init c_granted_caps
  have c_brightest1 : F_brightest1 P w K mg base := ok_brightest1 T (d47 X G s) c_told_lights c_World_lights c_World_borne c_hangers c_World_web c_World_init c_granted_caps
  have c_is_name : F_is_name P w K mg base := ok_is_name T (d48 X G s) 
  have c_check_name : F_check_name P w K mg base := ok_check_name T (d49 X G s) c_is_name
  have c_ordered : F_ordered P w K mg base := ok_ordered T (d50 X G s) c_check_name
  have c_check_open : F_check_open P w K mg base := ok_check_open T (d51 X G s) c_check_number
  have c_check_count : F_check_count P w K mg base := ok_check_count T (d52 X G s) 
  have c_check_ends : F_check_ends P w K mg base := ok_check_ends T (d53 X G s) c_check_known
  have c_check_rows : F_check_rows P w K mg base := ok_check_rows T (d54 X G s) c_check_name c_check_open c_Span_init c_ordered c_check_ends c_check_count
  have c_kept_bond : F_kept_bond P w K mg base := ok_kept_bond T (d55 X G s) 
  have c_arms_at : F_arms_at P w K mg base := ok_arms_at T (d56 X G s) 
  have c_Web_init : F_Web_init P w K mg base hTab := ok_Web_init T (d57 X G s TB) c_check_rows c_kept_bond c_Span_init c_arms_at
  have c__law_stir : F__law_stir P w K mg base := ok__law_stir T (d58 X G s) 
  have c__law_take : F__law_take P w K mg base := ok__law_take T (d59 X G s) c__law_stir
  have c__law_store : F__law_store P w K mg base := ok__law_store T (d60 X G s) 
  have c__law_pick : F__law_pick P w K mg base := ok__law_pick T (d61 X G s) c__law_take
  have c__law_shuffled : F__law_shuffled P w K mg base := ok__law_shuffled T (d62 X G s) c__law_take
  have c__law_some : F__law_some P w K mg base := ok__law_some T (d63 X G s) c__law_take
  have c__law_posts : F__law_posts P w K mg base := ok__law_posts T (d64 X G s) 
  have c__law_bar_of : F__law_bar_of P w K mg base := ok__law_bar_of T (d65 X G s) 
  have c__law_edge_of : F__law_edge_of P w K mg base := ok__law_edge_of T (d66 X G s) 
  have c__law_lets : F__law_lets P w K mg base := ok__law_lets T (d67 X G s) 
  have c__law_refusal : F__law_refusal P w K mg base := ok__law_refusal T (d68 X G s) c__law_lets c__law_bar_of
  have c__law_after : F__law_after P w K mg base := ok__law_after T (d69 X G s) 
  have c__law_row : F__law_row P w K mg base := ok__law_row T (d70 X G s) 
  have c__law_is_number : F__law_is_number P w K mg base := ok__law_is_number T (d71 X G s) 
  have c__law_row_glow : F__law_row_glow P w K mg base := ok__law_row_glow T (d72 X G s) c__law_posts c__law_is_number
  have c__law_can : F__law_can P w K mg base := ok__law_can T (d73 X G s) c__law_refusal
  have c__law_reach : F__law_reach P w K mg base := ok__law_reach T (d74 X G s) c__law_row c__law_refusal c__law_after
  have c__law_tamed : F__law_tamed P w K mg base := ok__law_tamed T (d75 X G s) c__law_reach
  have c__law_free_limits : F__law_free_limits P w K mg base := ok__law_free_limits T (d76 X G s) c__law_posts c__law_bar_of
  have c__law_aim_limits : F__law_aim_limits P w K mg base := ok__law_aim_limits T (d77 X G s) c__law_free_limits
  have c__law_in_field : F__law_in_field P w K mg base := ok__law_in_field T (d78 X G s) 
  have c__law_has_lights : F__law_has_lights P w K mg base := ok__law_has_lights T (d79 X G s) 
  have c__law_is_cover : F__law_is_cover P w K mg base := ok__law_is_cover T (d80 X G s) c__law_lets c__law_in_field
  have c__law_paper_holds : F__law_paper_holds P w K mg base := ok__law_paper_holds T (d81 X G s) c__law_bar_of c__law_is_cover c__law_aim_limits
  have c__law_tags : F__law_tags P w K mg base := ok__law_tags T (d82 X G s) c__law_take c__law_shuffled
  have c__law_unlike : F__law_unlike P w K mg base := ok__law_unlike T (d83 X G s) 
  have c__law_ladder : F__law_ladder P w K mg base := ok__law_ladder T (d84 X G s) c__law_take
  have c__law_gates : F__law_gates P w K mg base := ok__law_gates T (d85 X G s) c__law_pick
  have c__law_spread : F__law_spread P w K mg base := ok__law_spread T (d86 X G s) c__law_posts c__law_lets
  have c__law_takers : F__law_takers P w K mg base := ok__law_takers T (d87 X G s) c__law_posts c__law_spread
  have c__law_raised : F__law_raised P w K mg base := ok__law_raised T (d88 X G s) c__law_take c__law_pick c__law_unlike c__law_posts c__law_takers
  have c__law_alike0 : F__law_alike0 P w K mg base := ok__law_alike0 T (d89 X G s) 
  have c__law_alikeL : F__law_alikeL P w K mg base := ok__law_alikeL T (d89 X G s) c__law_alike0
  have c__law_alikeT : F__law_alikeT P w K mg base := ok__law_alikeT T (d89 X G s) c__law_alike0
  have c__law_wish : F__law_wish P w K mg base := ok__law_wish T (d90 X G s) c__law_posts c__law_raised c__law_take c__law_pick c__law_shuffled c__law_some
  have c__law_drawn : F__law_drawn P w K mg base := ok__law_drawn T (d91 X G s) c__law_ladder c__law_take c__law_tags c__law_pick c__law_gates
  have c__law_paper_of : F__law_paper_of P w K mg base := ok__law_paper_of T (d92 X G s) c_brightest
  have c__law_all_under : F__law_all_under P w K mg base hTab := ok__law_all_under T (d93 X G s) c_Web_init c_World_row c__law_row_glow c_World_init c_World_under c__law_alike0
  have c__law_walk_right : F__law_walk_right P w K mg base := ok__law_walk_right T (d94 X G s) c_brightest1 c_possible c__law_can c__law_alikeL c__law_row c__law_alikeT c_World_row c__law_has_lights c_World_under c__law_alike0 c_at_rest c__law_pick c_take c__law_after c__law_edge_of
  exact ok_law T DL c__law_store c__law_drawn c__law_tamed c__law_wish c_Web_init c_World_init c__law_has_lights c__law_row_glow c__law_alike0 c_granted c__law_paper_of c__law_paper_holds c_brightest c__law_all_under c_brightest1 c_possible c__law_walk_right c__law_reach
end
theorem law_said {l : PySem.W.OpenLaw} (hl : l.prog = prog) (w : World) (mg : Str → Option Value) (fa : Addr) (h : Heap) (Y : hHook.says w h) (G : h.Ns mainGlobals mg) (hm : mg "law" = some (.ref fa)) : ∃ K : PySem.W.Frag, K.In h ∧ LamX.LawAtS l w K CX0 14 63 "_law_script" mg fa h := by
  obtain ⟨K, X, s⟩ := Y
  obtain ⟨fd, oc, od, sl, F, lk⟩ := at_def s 95 rfl
  have e := hm.symm.trans (ref_ok X G (at_fact s 96 rfl)).1
  cases e
  refine ⟨K, X, fd, [(hCode, hTab)], spLaw K hTab, fun p hp => ?_, fun p hp => ?_, fun p hp => ?_, fun s u => ?_, fun H a ns _ _ hH hS => ?_, fun base hB hG hTB => ?_⟩
  · rw [List.mem_singleton.mp hp]; exact s.empty
  · rw [List.mem_singleton.mp hp]; exact s.out
  · rw [List.mem_singleton.mp hp]; exact PySem.W.codeHd_of_K X s.hd
  · have b := FunD.bindsA (ps := ["_law_script"]) F fun _ _ _ _ _ _ us hl => match us, hl with | [_], _ => rfl
    exact b s [u] rfl
  · exact ⟨_, rfl, a, ns, rfl, hS, LamX.TabS.nil (hH (hCode, hTab) (List.mem_singleton.mpr rfl)), fun _ => rfl⟩
  · exact all_ok X G s (hTB (hCode, hTab) (List.mem_singleton.mpr rfl)) F
end OB

/-! ## HD -/
set_option maxHeartbeats 0
open PySem PySem.W PySem.Calls PyProof.Rows
theorem PySem.Challenge.cw_outshiners_k46_whole_brightest_of_all_holds : PySem.Challenge.rw_outshiners_k46_whole_brightest_of_all.Holds := by
  w_on; o_law
  refine HandSHeadRun.head_any (r := OB.hR) (q := OB.hq) (H := OB.hHook) (ob := OB.hOb) (M := 20000) (loose := OB.hNames) (d := HandSHeadRun.topDef OB.hR.prog 110) (kwd := []) OB.hOb_eq
    (by kernel_rfl) (fun s => by kernel_rfl) OB.hRun (by kernel_rfl) (by kernel_rfl) (by kernel_rfl) (by rfl) (by first | assumption | decide +kernel) (by decide +kernel) ⟨rfl, rfl, rfl, rfl, rfl, by decide +kernel⟩ ?hw ?hc
  case hw => w_witness2
  case hc =>
    refine LamX.walk_ofTsE (l := PySem.Challenge.rw_outshiners_k46_whole_brightest_of_all) (n := 63) (k := 14) (x := "_law_script") (CX := fun _ => L2.CX0) rfl (by decide) (by kernel_rfl) ⟨rfl, by decide, by decide⟩ ?F (fun _ _ _ _ _ z => z)
    intro w mg fa h Y G hmg0
    have hmg : mg ("law" : PySem.Str) = some (.ref fa) := by
      have e : (HandSHeadRun.topDef OB.hR.prog 110).name = ("law" : PySem.Str) := by kernel_rfl
      rw [← e]
      exact hmg0
    exact OB.law_said rfl w mg fa h Y G hmg

