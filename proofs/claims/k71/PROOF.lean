import PyProof.Rows.All
import Wide.All
import OpenK.AllK
import Wide.FinOn
import HandS.ForMost
import HandS.Exc
import HandS.TryOnly
import HandS.ExcOwn
import HandS.Wide
import HandS.WordsExc
import HandS.Deep
import HandS.HeadHook1
import HandS.WideBits
import HandS.TupAny
import HandS.IsInst
import HandS.Defaults
import HandS.SortKw
import HandS.Keys
import KE.SortKeyHeap
import KE.KExcSuper
import OpenK.KCell
import HandS.ExcIs
import HandS.ExcField
import HandS.TryMany
import HandS.HotCalls
import HandS.Conv
import HandS.Small
import KE.KStateDown
import HandS.Ends
import HandS.EndBits
import HandS.HeadEnd
import HandS.HeadHook2
import HandS.Head0
import HandS.Head1
import HandS.Head2
import KE.SortLaws
import KE.BitLaws
import KE.IntBitsLaws
import PySem.Challenge.RW_liarsbooks_k71_union_and_blames
set_option Elab.async false
set_option linter.all false
set_option maxRecDepth 100000
set_option maxHeartbeats 4000000
/-! DL1: plain data over the hand layer: slots hold data or a list of one's own; expressions are functions of the slots' data. -/
namespace L2
open PySem PySem.Spec
open PyProof.Rows hiding St
/-! ### heaps -/
theorem Same.tupl {K : PySem.W.Frag} {H H' : Hp} {a : Addr} {xs : List V} (e : Same H H') (h : SqT K H a xs) : SqT K H' a xs := by
  rcases h with (h | ⟨o, h⟩) | h
  · exact .inl (.inl (e _ _ h))
  · exact .inl (.inr ⟨o, e _ _ h⟩)
  · exact .inr h
mutual
theorem Dp.same {K : PySem.W.Frag} {G G' : Hp} (e : Same G G') : ∀ {v : V} {d : PyData}, Dp K G v d → Dp K G' v d
  | _, _, .non => .non
  | _, _, .bl b => .bl b
  | _, _, .int i => .int i
  | _, _, .str x => .str x
  | _, _, .lst h a => .lst (e.seq h) (DpAll.same e a)
  | _, _, .tup h a => .tup (Same.tupl e h) (DpAll.same e a)
theorem DpAll.same {K : PySem.W.Frag} {G G' : Hp} (e : Same G G') : ∀ {vs : List V} {ds : List PyData}, DpAll K G vs ds → DpAll K G' vs ds
  | _, _, .nil => .nil
  | _, _, .cons h a => .cons (Dp.same e h) (DpAll.same e a)
end
theorem DpAll.len {K : PySem.W.Frag} {G : Hp} : ∀ {vs : List V} {ds : List PyData}, DpAll K G vs ds → vs.length = ds.length
  | _, _, .nil => rfl
  | _, _, .cons _ a => congrArg (· + 1) (DpAll.len a)
theorem DpAll.get {K : PySem.W.Frag} {G : Hp} : ∀ {vs : List V} {ds : List PyData} {i : Nat} {d : PyData}, DpAll K G vs ds → ds[i]? = some d → ∃ v, vs[i]? = some v ∧ Dp K G v d
  | _, _, _, _, .nil, e => by simp at e
  | _, _, 0, _, .cons h _, e => by simp at e; subst e; exact ⟨_, rfl, h⟩
  | _, _, i + 1, d, .cons _ a, e => by
    obtain ⟨v, h1, h2⟩ := DpAll.get (i := i) (d := d) a (by simpa using e)
    exact ⟨v, by simpa using h1, h2⟩
theorem DpAll.getV {K : PySem.W.Frag} {G : Hp} : ∀ {vs : List V} {ds : List PyData} {i : Nat} {v : V}, DpAll K G vs ds → vs[i]? = some v → ∃ d, ds[i]? = some d ∧ Dp K G v d
  | _, _, _, _, .nil, e => by simp at e
  | _, _, 0, _, .cons h _, e => by simp at e; subst e; exact ⟨_, rfl, h⟩
  | _, _, i + 1, d, .cons _ a, e => by
    obtain ⟨v, h1, h2⟩ := DpAll.getV (i := i) (v := d) a (by simpa using e)
    exact ⟨v, by simpa using h1, h2⟩
theorem DpAll.append {K : PySem.W.Frag} {G : Hp} : ∀ {vs ws : List V} {ds es : List PyData}, DpAll K G vs ds → DpAll K G ws es → DpAll K G (vs ++ ws) (ds ++ es)
  | _, _, _, _, .nil, b => b
  | _, _, _, _, .cons h a, b => .cons h (DpAll.append a b)
theorem DpAll.take {K : PySem.W.Frag} {G : Hp} : ∀ {vs : List V} {ds : List PyData} (n : Nat), DpAll K G vs ds → DpAll K G (vs.take n) (ds.take n)
  | _, _, 0, _ => .nil
  | _, _, _ + 1, .nil => .nil
  | _, _, n + 1, .cons h a => .cons h (DpAll.take n a)
theorem DpAll.drop {K : PySem.W.Frag} {G : Hp} : ∀ {vs : List V} {ds : List PyData} (n : Nat), DpAll K G vs ds → DpAll K G (vs.drop n) (ds.drop n)
  | _, _, 0, a => a
  | _, _, _ + 1, .nil => .nil
  | _, _, n + 1, .cons _ a => DpAll.drop n a
theorem DpAll.set {K : PySem.W.Frag} {G : Hp} {v : V} {d : PyData} (h : Dp K G v d) : ∀ {vs : List V} {ds : List PyData} (n : Nat), DpAll K G vs ds → DpAll K G (vs.set n v) (ds.set n d)
  | _, _, _, .nil => .nil
  | _, _, 0, .cons _ a => .cons h a
  | _, _, n + 1, .cons q a => .cons q (DpAll.set h n a)
theorem DpAll.eraseIdx {K : PySem.W.Frag} {G : Hp} : ∀ {vs : List V} {ds : List PyData} (n : Nat), DpAll K G vs ds → DpAll K G (vs.eraseIdx n) (ds.eraseIdx n)
  | _, _, _, .nil => .nil
  | _, _, 0, .cons _ a => a
  | _, _, n + 1, .cons q a => .cons q (DpAll.eraseIdx n a)
theorem DpAll.dropLast {K : PySem.W.Frag} {G : Hp} {vs : List V} {ds : List PyData} (a : DpAll K G vs ds) : DpAll K G vs.dropLast ds.dropLast := by
  rw [List.dropLast_eq_take, List.dropLast_eq_take, a.len]
  exact a.take _
theorem DpAll.reverse {K : PySem.W.Frag} {G : Hp} : ∀ {vs : List V} {ds : List PyData}, DpAll K G vs ds → DpAll K G vs.reverse ds.reverse
  | _, _, .nil => .nil
  | _, _, .cons h a => by
    rw [List.reverse_cons, List.reverse_cons]
    exact (DpAll.reverse a).append (.cons h .nil)
theorem DpAll.map {K : PySem.W.Frag} {G : Hp} {α : Type} (f : α → V) (g : α → PyData) (h : ∀ a, Dp K G (f a) (g a)) : ∀ l : List α, DpAll K G (l.map f) (l.map g)
  | [] => .nil
  | a :: l => .cons (h a) (DpAll.map f g h l)

end L2
namespace DL
open PySem PySem.Spec L2
open PyProof.Rows hiding St

/-- a slot: plain data (it stays as it is), or a list of one's own (it may be changed) -/
inductive O where
  | val (d : PyData)
  | own (ds : List PyData)
def O.data : O → PyData
  | .val d => d
  | .own ds => .list ds
@[simp] theorem O.data_val (d : PyData) : (O.val d).data = d := id rfl
@[simp] theorem O.data_own (ds : List PyData) : (O.own ds).data = .list ds := id rfl
abbrev DEnv := List (Option O)

/-- an exception: its class by name, its field -/
structure Ex where
  cls : Str
  fld : Option (Str × PyData)

/-- an outcome: a value, an exception, or nothing is said -/
inductive R (α : Type) where
  | ok (a : α)
  | ex (e : Ex)
  | bad
def R.bind {α β : Type} (r : R α) (k : α → R β) : R β := match r with
  | .ok a => k a
  | .ex e => .ex e
  | .bad => .bad
def R.map {α β : Type} (f : α → β) (r : R α) : R β := match r with
  | .ok a => .ok (f a)
  | .ex e => .ex e
  | .bad => .bad
@[simp] theorem R.bind_ok {α β : Type} (a : α) (k : α → R β) : (R.ok a).bind k = k a := id rfl
@[simp] theorem R.bind_ex {α β : Type} (e : Ex) (k : α → R β) : (R.ex e : R α).bind k = .ex e := id rfl
@[simp] theorem R.bind_bad {α β : Type} (k : α → R β) : (R.bad : R α).bind k = .bad := id rfl
@[simp] theorem R.map_ok {α β : Type} (a : α) (f : α → β) : (R.ok a).map f = .ok (f a) := id rfl
@[simp] theorem R.map_ex {α β : Type} (e : Ex) (f : α → β) : (R.ex e : R α).map f = .ex e := id rfl
@[simp] theorem R.map_bad {α β : Type} (f : α → β) : (R.bad : R α).map f = .bad := id rfl

/-- a step of an expression: G (what stays) grows, all that stood stands, what is new in G is new -/
structure Ext (G H G' H' : Hp) : Prop where
  gg : Same G G'
  sub : Same G' H'
  hh : Same H H'
  dom : ∀ b, G' b ≠ none → G b ≠ none ∨ H b = none
theorem Ext.refl {G H : Hp} (s : Same G H) : Ext G H G H := ⟨Same.refl _, s, Same.refl _, fun _ h => .inl h⟩
theorem Ext.trans {G H G1 H1 G2 H2 : Hp} (a : Ext G H G1 H1) (b : Ext G1 H1 G2 H2) : Ext G H G2 H2 :=
  ⟨a.gg.trans b.gg, b.sub, a.hh.trans b.hh, fun c h => by
    rcases b.dom c h with q | q
    · exact a.dom c q
    · exact .inr (a.hh.free q)⟩
/-- a new object, in G or not -/
theorem upd_same_of {H : Hp} {p : Addr} {o : HO} (hp : H p = none) : Same H (upd H p o) := fun b u e => by
  rw [upd_ne (ne_of_none e hp)]
  exact e
theorem Ext.new {G H : Hp} {p : Addr} {o : HO} (s : Same G H) (hp : H p = none) : Ext G H G (upd H p o) :=
  ⟨Same.refl _, s.trans (upd_same_of hp), upd_same_of hp, fun _ h => .inl h⟩
theorem Ext.newG {G H : Hp} {p : Addr} {o : HO} (s : Same G H) (hp : H p = none) : Ext G H (upd G p o) (upd H p o) :=
  ⟨upd_same_of (s.free hp), fun b u e => by
    by_cases hb : b = p
    · subst hb; rw [upd_same] at e ⊢; exact e
    · rw [upd_ne hb] at e ⊢; exact s b u e, upd_same_of hp, fun b h => by
    by_cases hb : b = p
    · subst hb; exact .inr hp
    · rw [upd_ne hb] at h; exact .inl h⟩
/-- an own list becomes data -/
theorem Ext.keepG {G H : Hp} {p : Addr} {o : HO} {G0 H0 : Hp} (x : Ext G0 H0 G H) (h0 : H0 p = none) (hg : G p = none) (hp : H p = some o) : Ext G0 H0 (upd G p o) H :=
  ⟨x.gg.trans (upd_same_of hg), fun b u e => by
    by_cases hb : b = p
    · subst hb; rw [upd_same] at e; rw [← e]; exact hp
    · rw [upd_ne hb] at e; exact x.sub b u e, x.hh, fun b h => by
    by_cases hb : b = p
    · subst hb; exact .inr h0
    · rw [upd_ne hb] at h; exact x.dom b h⟩

/-! ### what is wanted behind -/
def ExcFld (K : PySem.W.Frag) (G : Hp) (dd : Option Addr) (x : Ex) : Prop := match x.fld with
  | none => dd = none
  | some (f, e) => ∃ a v, dd = some a ∧ G a = some (.xd [(f, v)]) ∧ Dp K G v e
def ExRep (K : PySem.W.Frag) (G H : Hp) (cls : Value) (d : Option Addr) (x : Ex) : Prop :=
  cls = .ref (He.ga K x.cls) ∧ ExcFld K G d x
def AftX (K : PySem.W.Frag) (W : WX) (σ : St) (G H : Hp) (x : Ex) : Prop := ∀ cls d G' H', Ext G H G' H' → ExRep K G' H' cls d x → W cls d σ H'
def AftV (K : PySem.W.Frag) (W : WX) (σ : St) (G H : Hp) (Q : VK) : R PyData → Prop
  | .ok d => ∀ v G' H', Ext G H G' H' → Dp K G' v d → Q v H'
  | .ex x => AftX K W σ G H x
  | .bad => False
def AftE (K : PySem.W.Frag) (W : WX) (σ : St) (G H : Hp) (Q : VK) : R O → Prop
  | .ok (.val d) => ∀ v G' H', Ext G H G' H' → Dp K G' v d → Q v H'
  | .ok (.own ds) => ∀ a vs G' H', Ext G H G' H' → H a = none → G' a = none → H' a = some (.lst vs) → DpAll K G' vs ds → Q (.ref a) H'
  | .ex x => AftX K W σ G H x
  | .bad => False
def AftB (K : PySem.W.Frag) (W : WX) (σ : St) (G H : Hp) (Q : Bool → Hp → Prop) : R Bool → Prop
  | .ok b => ∀ G' H', Ext G H G' H' → Q b H'
  | .ex x => AftX K W σ G H x
  | .bad => False
def AftA (K : PySem.W.Frag) (W : WX) (σ : St) (G H : Hp) (Q : List V → Hp → Prop) : R (List PyData) → Prop
  | .ok ds => ∀ vs G' H', Ext G H G' H' → DpAll K G' vs ds → Q vs H'
  | .ex x => AftX K W σ G H x
  | .bad => False
section
variable {K : PySem.W.Frag} {W : WX} {σ : St} {G H G1 H1 : Hp}
theorem AftX.ext {x : Ex} (e : Ext G H G1 H1) (h : AftX K W σ G H x) : AftX K W σ G1 H1 x := fun cls d G' H' e' r => h cls d G' H' (e.trans e') r
theorem AftV.ext {Q : VK} (e : Ext G H G1 H1) : ∀ {r : R PyData}, AftV K W σ G H Q r → AftV K W σ G1 H1 Q r
  | .ok _, h => fun v G' H' e' q => h v G' H' (e.trans e') q
  | .ex _, h => AftX.ext e h
  | .bad, h => h
theorem AftE.ext {Q : VK} (e : Ext G H G1 H1) : ∀ {r : R O}, AftE K W σ G H Q r → AftE K W σ G1 H1 Q r
  | .ok (.val _), h => fun v G' H' e' q => h v G' H' (e.trans e') q
  | .ok (.own _), h => fun a vs G' H' e' n g q r => h a vs G' H' (e.trans e') (e.hh.free n) g q r
  | .ex _, h => AftX.ext e h
  | .bad, h => h
theorem AftB.ext {Q : Bool → Hp → Prop} (e : Ext G H G1 H1) : ∀ {r : R Bool}, AftB K W σ G H Q r → AftB K W σ G1 H1 Q r
  | .ok _, h => fun G' H' e' => h G' H' (e.trans e')
  | .ex _, h => AftX.ext e h
  | .bad, h => h
theorem AftA.ext {Q : List V → Hp → Prop} (e : Ext G H G1 H1) : ∀ {r : R (List PyData)}, AftA K W σ G H Q r → AftA K W σ G1 H1 Q r
  | .ok _, h => fun v G' H' e' q => h v G' H' (e.trans e') q
  | .ex _, h => AftX.ext e h
  | .bad, h => h
/-- data of whatever is wanted as data or own -/
theorem AftE.data {Q : VK} : ∀ {r : R O}, AftV K W σ G H Q (r.map O.data) → AftE K W σ G H Q r
  | .ok (.val _), h => h
  | .ok (.own ds), h => fun a vs G' H' e n g q r => h (.ref a) (upd G' a (.lst vs)) H' (e.keepG n g q) (.lst (SqL.of upd_same) (r.same (upd_same_of g)))
  | .ex _, h => h
  | .bad, h => h
theorem AftV.toE {Q : VK} : ∀ {r : R PyData}, AftE K W σ G H Q (r.map O.val) → AftV K W σ G H Q r
  | .ok _, h => h
  | .ex _, h => h
  | .bad, h => h
end

/-! ### slots, as an expression sees them -/
/-- an exception that a suite holds, as the slot's datum -/
def excD (x : Ex) : PyData := .dict ((.str x.cls, .none) :: (match x.fld with
  | none => []
  | some (f, e) => [(.str f, e)]))
def isDict : PyData → Bool
  | .dict _ => true
  | _ => false
def ExcAt (K : PySem.W.Frag) (pn : List (Addr × Obj)) (G : Hp) (v : V) (d : PyData) : Prop :=
  ∃ (a : Addr) (dd : Option Addr) (x : Ex), d = excD x ∧ v = .ref a ∧ ExcFld K G dd x ∧ ∀ p rest, pn = p :: rest → p.1 = a ∧ Zc (.ref (He.ga K x.cls)) dd p.2 ∧ ∃ vs, p.2.data = .fields vs
theorem ExcFld.same {K : PySem.W.Frag} {G G' : Hp} {dd : Option Addr} {x : Ex} (e : Same G G') (h : ExcFld K G dd x) : ExcFld K G' dd x := by
  unfold ExcFld at h ⊢
  cases hx : x.fld with
  | none => rw [hx] at h; exact h
  | some p =>
    rw [hx] at h
    obtain ⟨a, v, h1, h2, h3⟩ := h
    exact ⟨a, v, h1, e _ _ h2, h3.same e⟩
/-- what a slot of data holds -/
def Sl (K : PySem.W.Frag) (pn : List (Addr × Obj)) (G : Hp) (v : V) (d : PyData) : Prop := Dp K G v d ∨ ExcAt K pn G v d
theorem Sl.same {K : PySem.W.Frag} {pn : List (Addr × Obj)} {G G' : Hp} {v : V} {d : PyData} (e : Same G G') : Sl K pn G v d → Sl K pn G' v d
  | .inl h => .inl (h.same e)
  | .inr ⟨a, dd, x, h1, h2, h3, h4⟩ => .inr ⟨a, dd, x, h1, h2, h3.same e, h4⟩
theorem Sl.dp {K : PySem.W.Frag} {pn : List (Addr × Obj)} {G : Hp} {v : V} {d : PyData} (h : Sl K pn G v d) (hd : isDict d = false) : Dp K G v d := by
  rcases h with h | ⟨a, dd, x, h1, _⟩
  · exact h
  · rw [h1] at hd
    cases hd
def RelE (K : PySem.W.Frag) (pn : List (Addr × Obj)) (G : Hp) (σ : St) (δ : DEnv) : Prop := δ.length = σ.length ∧ ∀ (i : Nat) (o : O), δ[i]? = some (some o) → ∃ v, σ[i]? = some (some v) ∧ Sl K pn G v o.data
theorem RelE.same {K : PySem.W.Frag} {pn : List (Addr × Obj)} {G G' : Hp} {σ : St} {δ : DEnv} (e : Same G G') (r : RelE K pn G σ δ) : RelE K pn G' σ δ := ⟨r.1, fun i o h => by
  obtain ⟨v, h1, h2⟩ := r.2 i o h
  exact ⟨v, h1, h2.same e⟩⟩
theorem RelE.nil {K : PySem.W.Frag} {pn : List (Addr × Obj)} {G : Hp} {σ : St} {δ : DEnv} (r : RelE K pn G σ δ) : RelE K [] G σ δ := ⟨r.1, fun i o h => by
  obtain ⟨v, h1, h2⟩ := r.2 i o h
  rcases h2 with h2 | ⟨a, dd, x, h2, h3, h4, _⟩
  · exact ⟨v, h1, .inl h2⟩
  · exact ⟨v, h1, .inr ⟨a, dd, x, h2, h3, h4, fun p rest z => by cases z⟩⟩⟩

/-! ### judgements -/
/-- an expression whose value is data -/
def DV (X : Cx) (W : WX) (e : Expr) (f : DEnv → R PyData) : Prop :=
  ∃ te, PE X e te ∧ ∀ G H σ δ Q, Same G H → RelE X.K X.pn G σ δ → AftV X.K W σ G H Q (f δ) → te σ H Q
/-- an expression whose value is data or a new list -/
def DO (X : Cx) (W : WX) (e : Expr) (f : DEnv → R O) : Prop :=
  ∃ te, PE X e te ∧ ∀ G H σ δ Q, Same G H → RelE X.K X.pn G σ δ → AftE X.K W σ G H Q (f δ) → te σ H Q
/-- a test -/
def DT (X : Cx) (W : WX) (e : Expr) (f : DEnv → R Bool) : Prop :=
  ∃ tt, PT X e tt ∧ ∀ G H σ δ Q, Same G H → RelE X.K X.pn G σ δ → AftB X.K W σ G H Q (f δ) → tt σ H Q
/-- arguments -/
def DA (X : Cx) (W : WX) (es : List Expr) (f : DEnv → R (List PyData)) : Prop :=
  ∃ ta, PA X es ta ∧ ∀ G H σ δ Q, Same G H → RelE X.K X.pn G σ δ → AftA X.K W σ G H Q (f δ) → ta σ H Q
section
variable {X : Cx} {W : WX} {σ₀ : St} {e a b : Expr} {es : List Expr} {pos : Pos}
def dV (f : DEnv → R O) : DEnv → R PyData := fun δ => (f δ).map O.data
def dO (f : DEnv → R PyData) : DEnv → R O := fun δ => (f δ).map O.val
theorem DO.v {f : DEnv → R O} (h : DO X W e f) : DV X W e (dV f) := by
  obtain ⟨te, p, i⟩ := h
  exact ⟨te, p, fun G H σ δ Q s r q => i G H σ δ Q s r (AftE.data q)⟩
theorem DV.o {f : DEnv → R PyData} (h : DV X W e f) : DO X W e (dO f) := by
  obtain ⟨te, p, i⟩ := h
  exact ⟨te, p, fun G H σ δ Q s r q => i G H σ δ Q s r (AftV.toE q)⟩

/-! names and constants -/
def dVar (i : Nat) : DEnv → R PyData := fun δ => match δ[i]? with
  | some (some o) => if isDict o.data = true then .bad else .ok o.data
  | _ => .bad
theorem dv_var (i : Nat) {x : Str} (hN : X.N[i]? = some x := by rfl) (hv : Vis X.env.scope x := by first | exact Or.inl rfl | exact Or.inr (Or.inl rfl) | exact Or.inr (Or.inr rfl)) (hd : (x == ("__debug__" : Str)) = false := by decide)
    (hcd : (x == ("__classdict__" : Str)) = false := by decide) : DV X W (.Name x pos) (dVar i) := by
  refine ⟨_, pe_var hN hv hd hcd, fun G H σ δ Q s r q => ?_⟩
  unfold dVar at q
  cases h : δ[i]? with
  | none => rw [h] at q; exact q.elim
  | some o =>
    cases o with
    | none => rw [h] at q; exact q.elim
    | some o =>
      rw [h] at q
      simp only at q
      obtain ⟨v, h1, h2⟩ := r.2 i o h
      split at q
      · exact q.elim
      · rename_i hd
        exact ⟨v, h1, q v G H (Ext.refl s) (h2.dp (by simpa using hd))⟩
def dC (d : PyData) : DEnv → R PyData := fun _ => .ok d
theorem dv_int {i : Int} {j p} : DV X W (.Constant (.int i) j p) (dC (.int i)) := ⟨_, pe_int, fun G H σ δ Q s r q => q _ G H (Ext.refl s) (.int i)⟩
theorem dv_bl {i : Bool} {j p} : DV X W (.Constant (.bool i) j p) (dC (.bool i)) := ⟨_, pe_bl, fun G H σ δ Q s r q => q _ G H (Ext.refl s) (.bl i)⟩
theorem dv_non {j p} : DV X W (.Constant .none j p) (dC .none) := ⟨_, pe_non, fun G H σ δ Q s r q => q _ G H (Ext.refl s) .non⟩
theorem dv_str {x : Str} {j p} : DV X W (.Constant (.str x) j p) (dC (.str x)) := ⟨_, pe_str, fun G H σ δ Q s r q => q _ G H (Ext.refl s) (.str x)⟩

/-! two in a row -/
theorem two_in {ta tb : TE} {fa fb : DEnv → R PyData} {α : Type} {Aft : Hp → Hp → R α → Prop} (hex : ∀ {G H : Hp} {x : Ex}, Aft G H (.ex x) → AftX X.K W σ₀ G H x) (hbad : ∀ {G H : Hp}, Aft G H .bad → False)
    (hext : ∀ {G H G1 H1 : Hp} {r : R α}, Ext G H G1 H1 → Aft G H r → Aft G1 H1 r)
    (ia : ∀ G H σ δ Q, Same G H → RelE X.K X.pn G σ δ → AftV X.K W σ G H Q (fa δ) → ta σ H Q) (ib : ∀ G H σ δ Q, Same G H → RelE X.K X.pn G σ δ → AftV X.K W σ G H Q (fb δ) → tb σ H Q)
    {G H : Hp} {δ : DEnv} {k : PyData → PyData → R α} (s : Same G H) (r : RelE X.K X.pn G σ₀ δ) (q : Aft G H ((fa δ).bind fun x => (fb δ).bind fun y => k x y))
    {T : V → V → Hp → Prop} (hT : ∀ G2 H2 v w x y, Same G2 H2 → Dp X.K G2 v x → Dp X.K G2 w y → Aft G2 H2 (k x y) → T v w H2) : ta σ₀ H fun v H1 => tb σ₀ H1 fun w H2 => T v w H2 := by
  refine ia G H σ₀ δ _ s r ?_
  cases ha : fa δ with
  | ok x =>
    rw [ha] at q
    intro v G1 H1 e1 d1
    refine ib G1 H1 σ₀ δ _ e1.sub (r.same e1.gg) ?_
    cases hb : fb δ with
    | ok y =>
      rw [hb] at q
      intro w G2 H2 e2 d2
      exact hT G2 H2 v w x y e2.sub (d1.same e2.gg) d2 (hext (e1.trans e2) q)
    | ex x =>
      rw [hb] at q
      exact (hex q).ext e1
    | bad =>
      rw [hb] at q
      exact (hbad q).elim
  | ex x =>
    rw [ha] at q
    exact hex q
  | bad =>
    rw [ha] at q
    exact (hbad q).elim
theorem one_in {ta : TE} {fa : DEnv → R PyData} {α : Type} {Aft : Hp → Hp → R α → Prop} (hex : ∀ {G H : Hp} {x : Ex}, Aft G H (.ex x) → AftX X.K W σ₀ G H x) (hbad : ∀ {G H : Hp}, Aft G H .bad → False)
    (hext : ∀ {G H G1 H1 : Hp} {r : R α}, Ext G H G1 H1 → Aft G H r → Aft G1 H1 r)
    (ia : ∀ G H σ δ Q, Same G H → RelE X.K X.pn G σ δ → AftV X.K W σ G H Q (fa δ) → ta σ H Q)
    {G H : Hp} {δ : DEnv} {k : PyData → R α} (s : Same G H) (r : RelE X.K X.pn G σ₀ δ) (q : Aft G H ((fa δ).bind fun x => k x))
    {T : V → Hp → Prop} (hT : ∀ G2 H2 v x, Same G2 H2 → Ext G H G2 H2 → Dp X.K G2 v x → Aft G2 H2 (k x) → T v H2) : ta σ₀ H fun v H1 => T v H1 := by
  refine ia G H σ₀ δ _ s r ?_
  cases ha : fa δ with
  | ok x =>
    rw [ha] at q
    intro v G1 H1 e1 d1
    exact hT G1 H1 v x e1.sub e1 d1 (hext e1 q)
  | ex x =>
    rw [ha] at q
    exact hex q
  | bad =>
    rw [ha] at q
    exact (hbad q).elim

/-! ### operators -/
/-- a two-place operation by data -/
def OpD (X : Cx) (f : Value → Value → Sem Value) (g : PyData → PyData → R O) : Prop :=
  ∃ r : R2, OpR X f r ∧ ∀ (W : WX) (σ : St) G H x y d e Q, Same G H → Dp X.K G x d → Dp X.K G y e → AftE X.K W σ G H Q (g d e) → r x y H Q
/-- a comparison by data -/
def OpB (X : Cx) (f : Value → Value → Sem Value) (g : PyData → PyData → R Bool) : Prop :=
  ∃ r : R2, OpR X f r ∧ ∀ (W : WX) (σ : St) G H x y d e (Q : VK), Same G H → Dp X.K G x d → Dp X.K G y e → AftB X.K W σ G H (fun b H' => Q (.bl b) H') (g d e) → r x y H Q
def dBin (g : PyData → PyData → R O) (fa fb : DEnv → R PyData) : DEnv → R O := fun δ => (fa δ).bind fun x => (fb δ).bind fun y => g x y
def dCmp (g : PyData → PyData → R Bool) (fa fb : DEnv → R PyData) : DEnv → R Bool := fun δ => (fa δ).bind fun x => (fb δ).bind fun y => g x y
def dBl (f : DEnv → R Bool) : DEnv → R PyData := fun δ => (f δ).map .bool
theorem AftB.bl {K : PySem.W.Frag} {σ : St} {G H : Hp} {Q : VK} : ∀ {r : R Bool}, AftV K W σ G H Q (r.map .bool) → AftB K W σ G H (fun b H' => Q (.bl b) H') r
  | .ok b, h => fun G' H' e => h _ G' H' e (.bl b)
  | .ex _, h => h
  | .bad, h => h
theorem AftB.tt {K : PySem.W.Frag} {σ : St} {G H : Hp} {Q : Bool → Hp → Prop} : ∀ {r : R Bool}, AftB K W σ G H Q r → AftB K W σ G H (fun b H' => ∃ c, V.bl b = V.bl c ∧ Q c H') r
  | .ok b, h => fun G' H' e => ⟨b, rfl, h G' H' e⟩
  | .ex _, h => h
  | .bad, h => h
theorem do_bin {op : Operator} {g : PyData → PyData → R O} {fa fb : DEnv → R PyData} (ho : OpD X (binaryOp op) g) (ha : DV X W a fa) (hb : DV X W b fb) : DO X W (.BinOp a op b pos) (dBin g fa fb) := by
  obtain ⟨r, hr, ir⟩ := ho
  obtain ⟨ta, pa, ia⟩ := ha
  obtain ⟨tb, pb, ib⟩ := hb
  refine ⟨_, pe_op hr pa pb, fun G H σ δ Q s rl q => ?_⟩
  exact two_in (Aft := fun G H r => AftE X.K W σ G H Q r) (fun h => h) (fun h => h) (fun e h => h.ext e) ia ib s rl q fun G2 H2 v w x y s2 d1 d2 q2 => ir W σ G2 H2 v w x y Q s2 d1 d2 q2
theorem dv_cmp {op : CmpOp} {g : PyData → PyData → R Bool} {fa fb : DEnv → R PyData} (ho : OpB X (compareOp op) g) (ha : DV X W a fa) (hb : DV X W b fb) (h1 : behindInMarks op b = false := by first | exact nobehind _ (by decide) (by decide) | rfl) :
    DV X W (.Compare a [op] [b] pos) (dBl (dCmp g fa fb)) := by
  obtain ⟨r, hr, ir⟩ := ho
  obtain ⟨ta, pa, ia⟩ := ha
  obtain ⟨tb, pb, ib⟩ := hb
  refine ⟨_, pe_cmpR hr pa pb h1, fun G H σ δ Q s rl q => ?_⟩
  exact two_in (Aft := fun G H r => AftB X.K W σ G H (fun b H' => Q (.bl b) H') r) (fun h => h) (fun h => h) (fun e h => h.ext e) ia ib s rl (AftB.bl q) fun G2 H2 v w x y s2 d1 d2 q2 => ir W σ G2 H2 v w x y Q s2 d1 d2 q2
theorem dt_cmp {op : CmpOp} {g : PyData → PyData → R Bool} {fa fb : DEnv → R PyData} (ho : OpB X (compareOp op) g) (ha : DV X W a fa) (hb : DV X W b fb) (h1 : behindInMarks op b = false := by first | exact nobehind _ (by decide) (by decide) | rfl) :
    DT X W (.Compare a [op] [b] pos) (dCmp g fa fb) := by
  obtain ⟨r, hr, ir⟩ := ho
  obtain ⟨ta, pa, ia⟩ := ha
  obtain ⟨tb, pb, ib⟩ := hb
  refine ⟨_, pt_cmpR hr pa pb h1, fun G H σ δ Q s rl q => ?_⟩
  exact two_in (Aft := fun G H r => AftB X.K W σ G H (fun b H' => ∃ c, V.bl b = V.bl c ∧ Q c H') r) (fun h => h) (fun h => h) (fun e h => h.ext e) ia ib s rl (AftB.tt q) fun G2 H2 v w x y s2 d1 d2 q2 => ir W σ G2 H2 v w x y _ s2 d1 d2 q2
end
end DL
set_option Elab.async false
set_option linter.all false
set_option maxRecDepth 100000
set_option maxHeartbeats 4000000
/-! DL2: operators, comparisons, displays, subscripts, tests by data. -/
namespace DL
open PySem PySem.Spec L2
open PyProof.Rows hiding St

section
variable {X : Cx} {W : WX}

/-! ### lists and tuples joined -/
def rCatL (K : PySem.W.Frag) : R2 := fun x y H Q => ∃ l b xs zs, x = .ref l ∧ y = .ref b ∧ SqL K H l xs ∧ SqL K H b zs ∧ xs.length + zs.length ≤ sizeLine ∧ ∀ p, H p = none → Q (.ref p) (upd H p (.lst (xs ++ zs)))
theorem op_catL : OpR X (binaryOp .Add) (rCatL X.K) := by
  intro pins s σ H x y v u Q I rx ry h
  obtain ⟨l, b, xs, zs, rfl, rfl, hH, hB, hz, q⟩ := h
  cases rx
  cases ry
  obtain ⟨its, r, p1, _⟩ := I.list hH
  obtain ⟨its2, r2, p2, _⟩ := I.list hB
  obtain ⟨⟨cls, dd, data, sl⟩, ho, hc, n, hd⟩ := p1.isList
  obtain ⟨⟨cls2, dd2, data2, sl2⟩, ho2, hc2, n2, hd2⟩ := p2.isList
  simp only at hc hd hc2 hd2
  subst hc hd hc2 hd2
  have e : its.toArray ++ its2.toArray = (its ++ its2).toArray := by simp
  refine concat_meets ⟨_, ho, rfl⟩ ⟨_, ho2, rfl⟩ noFill_list_add seq_list_add PySem.F.slot_list_add PySem.F.entry_list_add (PySem.F.args_list_add_2 _ _) (list_addW l b its.toArray its2.toArray n n2 dd dd2 sl sl2 (by have h1 := r.length; have h2 := r2.length; simp only [List.size_toArray]; omega)) ⟨ho, ho2, ?_⟩
  rw [e]
  exact ⟨.ref _, _, I.lnew (t' := s.toks) (r.append r2) (by rw [List.length_append]; omega), rfl, q _ I.fresh⟩

theorem OpR.or {f : Value → Value → Sem Value} {r r' : R2} (h : OpR X f r) (h' : OpR X f r') : OpR X f (fun x y H Q => r x y H Q ∨ r' x y H Q) := by
  intro pins s σ H x y v u Q I rx ry q
  rcases q with q | q
  · exact h pins s σ H x y v u Q I rx ry q
  · exact h' pins s σ H x y v u Q I rx ry q

def opAdd : PyData → PyData → R O
  | .int i, .int j => .ok (.val (.int (i + j)))
  | .list xs, .list ys => if xs.length + ys.length ≤ sizeLine then .ok (.own (xs ++ ys)) else .bad
  | .tuple xs, .tuple ys => if xs.length + ys.length ≤ sizeLine then .ok (.val (.tuple (xs ++ ys))) else .bad
  | _, _ => .bad
theorem od_add : OpD X (binaryOp .Add) opAdd := by
  refine ⟨_, OpR.or op_add (OpR.or op_catL op_catA), fun W σ G H x y d e Q s hd he q => ?_⟩
  cases hd with
  | int i =>
    cases he with
    | int j => exact .inl ⟨i, j, rfl, rfl, q _ G H (Ext.refl s) (.int _)⟩
    | _ => exact q.elim
  | lst h a =>
    cases he with
    | lst h' a' =>
      simp only [opAdd] at q
      split at q
      · rename_i hz
        refine .inr (.inl ⟨_, _, _, _, rfl, rfl, s.seq h, s.seq h', by rw [a.len, a'.len]; exact hz, fun p hp => ?_⟩)
        exact q p _ G _ (Ext.new s hp) hp (s.free hp) upd_same (a.append a')
      · exact q.elim
    | _ => exact q.elim
  | tup h a =>
    cases he with
    | tup h' a' =>
      simp only [opAdd] at q
      split at q
      · rename_i hz
        refine .inr (.inr ⟨_, _, _, _, rfl, rfl, Same.tupl s h, Same.tupl s h', by rw [a.len, a'.len]; exact hz, fun e0 => ?_, fun e0 e1 => ?_, fun e0 e1 p hp => ?_⟩)
        · subst e0
          cases a
          exact q _ G H (Ext.refl s) (.tup h' a')
        · subst e1
          cases a'
          exact q _ G H (Ext.refl s) (.tup h (by rw [List.append_nil]; exact a))
        · exact q _ (upd G p (.tup _)) _ (Ext.newG s hp) (.tup (SqT.of upd_same) ((a.append a').same (upd_same_of (s.free hp))))
      · exact q.elim
    | _ => exact q.elim
  | _ => exact q.elim
theorem decok {p q : Prop} [Decidable p] (h : decide p = true) (e : p → q := by exact fun h => h) : q := e (of_decide_eq_true h)
/-- an operation on ints under a condition -/
def opInt (C : Int → Int → Bool) (g : Int → Int → Int) : PyData → PyData → R O
  | .int i, .int j => if C i j = true then .ok (.val (.int (g i j))) else .bad
  | _, _ => .bad
theorem od_int {f : Value → Value → Sem Value} {C : Int → Int → Prop} {Cb : Int → Int → Bool} {g : Int → Int → Int} (h : OpR X f (rI C fun i j => .int (g i j))) (hC : ∀ i j, Cb i j = true → C i j) : OpD X f (opInt Cb g) := by
  refine ⟨_, h, fun W σ G H x y d e Q s hd he q => ?_⟩
  cases hd with
  | int i =>
    cases he with
    | int j =>
      simp only [opInt] at q
      split at q
      · rename_i hz
        exact ⟨i, j, rfl, rfl, hC i j hz, q _ G H (Ext.refl s) (.int _)⟩
      · exact q.elim
    | _ => exact q.elim
  | _ => exact q.elim
def opInt0 (g : Int → Int → Int) : PyData → PyData → R O
  | .int i, .int j => .ok (.val (.int (g i j)))
  | _, _ => .bad
theorem od_int0 {f : Value → Value → Sem Value} {g : Int → Int → Int} (h : OpR X f (rI0 fun i j => .int (g i j))) : OpD X f (opInt0 g) := by
  refine ⟨_, h, fun W σ G H x y d e Q s hd he q => ?_⟩
  cases hd with
  | int i =>
    cases he with
    | int j => exact ⟨i, j, rfl, rfl, q _ G H (Ext.refl s) (.int _)⟩
    | _ => exact q.elim
  | _ => exact q.elim
abbrev opSub := opInt0 fun i j => i - j
theorem od_sub : OpD X (binaryOp .Sub) opSub := od_int0 op_sub
def cMul (i j : Int) : Bool := decide ((Builtin.Int.intBits i : Int) + (Builtin.Int.intBits j : Int) ≤ 134217728)
abbrev opMul := opInt cMul fun i j => i * j
theorem od_mul : OpD X (binaryOp .Mult) opMul := od_int op_mulX fun i j h => decok h
def cDiv (i j : Int) : Bool := decide (0 < j ∧ j.natAbs.log2 < 9000)
abbrev opDiv := opInt cDiv fun i j => i / j
theorem od_div : OpD X (binaryOp .FloorDiv) opDiv := od_int op_fdivW fun i j h => decok h
def cMod (i j : Int) : Bool := decide (0 < j)
abbrev opMod := opInt cMod fun i j => i % j
theorem od_mod : OpD X (binaryOp .Mod) opMod := od_int op_mod fun i j h => decok h
def cPow (i j : Int) : Bool := decide (0 ≤ j ∧ j ≤ 1000000 ∧ i.natAbs < 2 ^ 64)
abbrev opPow := opInt cPow fun i j => i ^ j.toNat
theorem od_pow : OpD X (binaryOp .Pow) opPow := od_int op_pow fun i j h => decok h
def cShl (i j : Int) : Bool := decide (0 ≤ j ∧ (Builtin.Int.intBits i : Int) + j ≤ 2 ^ 27)
abbrev opShl := opInt cShl fun i j => i * 2 ^ j.toNat
theorem od_shl : OpD X (binaryOp .LShift) opShl := od_int op_shlW fun i j h => decok h
def cShr (i j : Int) : Bool := decide (0 ≤ j)
abbrev opShr := opInt cShr fun i j => i / 2 ^ j.toNat
theorem od_shr : OpD X (binaryOp .RShift) opShr := od_int op_shr fun i j h => decok h
abbrev opAnd := opInt0 Builtin.bitAnd
theorem od_and : OpD X (binaryOp .BitAnd) opAnd := od_int0 op_and
abbrev opOr := opInt0 Builtin.bitOr
theorem od_or : OpD X (binaryOp .BitOr) opOr := od_int0 op_or
abbrev opXor := opInt0 Builtin.bitXor
theorem od_xor : OpD X (binaryOp .BitXor) opXor := od_int0 op_xor

/-! ### comparisons -/
def opIB (g : Int → Int → Bool) : PyData → PyData → R Bool
  | .int i, .int j => .ok (g i j)
  | _, _ => .bad
theorem ob_int {f : Value → Value → Sem Value} {g : Int → Int → Bool} (h : OpR X f (rI0 fun i j => .bl (g i j))) : OpB X f (opIB g) := by
  refine ⟨_, h, fun W σ G H x y d e Q s hd he q => ?_⟩
  cases hd with
  | int i =>
    cases he with
    | int j => exact ⟨i, j, rfl, rfl, q G H (Ext.refl s)⟩
    | _ => exact q.elim
  | _ => exact q.elim
abbrev opLt := opIB fun i j => decide (i < j)
abbrev opLe := opIB fun i j => decide (i ≤ j)
abbrev opGt := opIB fun i j => decide (j < i)
abbrev opGe := opIB fun i j => decide (j ≤ i)
theorem ob_lt : OpB X (compareOp .Lt) opLt := ob_int op_lt
theorem ob_le : OpB X (compareOp .LtE) opLe := ob_int op_le
theorem ob_gt : OpB X (compareOp .Gt) opGt := ob_int op_gt
theorem ob_ge : OpB X (compareOp .GtE) opGe := ob_int op_ge
def opEq (d e : PyData) : R Bool := if (SeqAt.shaped d && SeqAt.shaped e) = true then .ok (PyData.eqv d e) else .bad
def opNe (d e : PyData) : R Bool := if (SeqAt.shaped d && SeqAt.shaped e) = true then .ok (!PyData.eqv d e) else .bad
theorem ob_eq (hu : X.A.units + 64 < cLine) : OpB X (compareOp .Eq) opEq := by
  refine ⟨_, op_eqD hu, fun W σ G H x y d e Q s hd he q => ?_⟩
  unfold opEq at q
  split at q
  · rename_i hz
    rw [Bool.and_eq_true] at hz
    exact ⟨d, e, hd.same s, he.same s, hz.1, hz.2, q G H (Ext.refl s)⟩
  · exact q.elim
theorem ob_ne (hu : X.A.units + 64 < cLine) : OpB X (compareOp .NotEq) opNe := by
  refine ⟨_, op_neD hu, fun W σ G H x y d e Q s hd he q => ?_⟩
  unfold opNe at q
  split at q
  · rename_i hz
    rw [Bool.and_eq_true] at hz
    exact ⟨d, e, hd.same s, he.same s, hz.1, hz.2, q G H (Ext.refl s)⟩
  · exact q.elim
def opIs (d e : PyData) : R Bool := match e with
  | .none => (match d with | .none => .ok true | _ => .ok false)
  | _ => .bad
def opIsN (d e : PyData) : R Bool := match e with
  | .none => (match d with | .none => .ok false | _ => .ok true)
  | _ => .bad
theorem ob_is : OpB X (compareOp .Is) opIs := by
  refine ⟨_, op_isN, fun W σ G H x y d e Q s hd he q => ?_⟩
  cases he with
  | non => refine ⟨rfl, ?_⟩; cases hd <;> exact q G H (Ext.refl s)
  | _ => cases hd <;> exact q.elim
theorem ob_isN : OpB X (compareOp .IsNot) opIsN := by
  refine ⟨_, op_notN, fun W σ G H x y d e Q s hd he q => ?_⟩
  cases he with
  | non => refine ⟨rfl, ?_⟩; cases hd <;> exact q G H (Ext.refl s)
  | _ => cases hd <;> exact q.elim
/-- is True, is False -/
def opIsB (d e : PyData) : R Bool := match d, e with
  | .bool b, .bool c => .ok (b == c)
  | .none, .bool _ => .ok false
  | _, _ => .bad

/-! x in l, x not in l -/
def rInT (K : PySem.W.Frag) (neg : Bool) : R2 := fun x y H Q => ∃ d ds, Dp K H x d ∧ Dp K H y (.tuple ds) ∧ SeqAt.shaped d = true ∧ SeqAt.shaped (.tuple ds) = true ∧ Q (.bl (if neg then !ds.any (fun z => PyData.eqv z d) else ds.any fun z => PyData.eqv z d)) H
theorem room_in_shapedT {A : Around} {d : PyData} {ds : List PyData} (h : SeqAt.shaped d = true) (hu : A.units + 65 < cLine) : A.units + 1 + min (PyData.depthAll ds) d.depth < cLine := by
  have h1 := SeqAt.depth_of_shaped h
  have h2 : min (PyData.depthAll ds) d.depth ≤ d.depth := Nat.min_le_right _ _
  omega
theorem op_inT (hu : X.A.units + 65 < cLine) : OpR X (compareOp .In) (rInT X.K false) := by
  intro pins s σ H x y v u Q I rx ry h
  obtain ⟨d, ds, hd, he, sd, se, q⟩ := h
  obtain ⟨as, r1⟩ := Dp.reads I d x v hd rx
  obtain ⟨bs, r2⟩ := Dp.reads I (.tuple ds) y u he ry
  exact SeqAt.in_tuple_reads r2 r1 (by simpa [PyData.canLay0] using SeqAt.canLay_of_shaped se) (SeqAt.canLay_of_shaped sd) (room_in_shapedT sd hu) ⟨.bl _, H, I, rfl, q⟩
theorem op_notInT (hu : X.A.units + 65 < cLine) : OpR X (compareOp .NotIn) (rInT X.K true) := by
  intro pins s σ H x y v u Q I rx ry h
  obtain ⟨d, ds, hd, he, sd, se, q⟩ := h
  obtain ⟨as, r1⟩ := Dp.reads I d x v hd rx
  obtain ⟨bs, r2⟩ := Dp.reads I (.tuple ds) y u he ry
  exact SeqAt.notIn_tuple_reads r2 r1 (by simpa [PyData.canLay0] using SeqAt.canLay_of_shaped se) (SeqAt.canLay_of_shaped sd) (room_in_shapedT sd hu) ⟨.bl _, H, I, rfl, q⟩
def opIn (d e : PyData) : R Bool := match e with
  | .list ds => if (SeqAt.shaped d && SeqAt.shaped (.list ds)) = true then .ok (ds.any fun z => PyData.eqv z d) else .bad
  | .tuple ds => if (SeqAt.shaped d && SeqAt.shaped (.tuple ds)) = true then .ok (ds.any fun z => PyData.eqv z d) else .bad
  | _ => .bad
def opNotIn (d e : PyData) : R Bool := (opIn d e).map (!·)
theorem ob_in (hu : X.A.units + 65 < cLine) : OpB X (compareOp .In) opIn := by
  refine ⟨_, OpR.or (op_inD hu) (op_inT hu), fun W σ G H x y d e Q s hd he q => ?_⟩
  cases he with
  | lst h a =>
    unfold opIn at q
    simp only at q
    split at q
    · rename_i hz
      rw [Bool.and_eq_true] at hz
      exact .inl ⟨d, _, hd.same s, .lst (s.seq h) (a.same s), hz.1, hz.2, q G H (Ext.refl s)⟩
    · exact q.elim
  | tup h a =>
    unfold opIn at q
    simp only at q
    split at q
    · rename_i hz
      rw [Bool.and_eq_true] at hz
      exact .inr ⟨d, _, hd.same s, .tup (Same.tupl s h) (a.same s), hz.1, hz.2, q G H (Ext.refl s)⟩
    · exact q.elim
  | _ => exact q.elim
theorem ob_notIn (hu : X.A.units + 65 < cLine) : OpB X (compareOp .NotIn) opNotIn := by
  refine ⟨_, OpR.or (op_notInD hu) (op_notInT hu), fun W σ G H x y d e Q s hd he q => ?_⟩
  cases he with
  | lst h a =>
    unfold opNotIn opIn at q
    simp only at q
    split at q
    · rename_i hz
      rw [Bool.and_eq_true] at hz
      exact .inl ⟨d, _, hd.same s, .lst (s.seq h) (a.same s), hz.1, hz.2, q G H (Ext.refl s)⟩
    · exact q.elim
  | tup h a =>
    unfold opNotIn opIn at q
    simp only at q
    split at q
    · rename_i hz
      rw [Bool.and_eq_true] at hz
      exact .inr ⟨d, _, hd.same s, .tup (Same.tupl s h) (a.same s), hz.1, hz.2, q G H (Ext.refl s)⟩
    · exact q.elim
  | _ => exact q.elim
end

section
variable {X : Cx} {W : WX} {a b c e : Expr} {es : List Expr} {pos : Pos}
/-! ### unary minus -/
def dNeg (f : DEnv → R PyData) : DEnv → R PyData := fun δ => (f δ).bind fun x => match x with
  | .int i => .ok (.int (-i))
  | _ => .bad
theorem dv_neg {f : DEnv → R PyData} (ha : DV X W a f) : DV X W (.UnaryOp .USub a pos) (dNeg f) := by
  obtain ⟨ta, pa, ia⟩ := ha
  refine ⟨_, pe_un un_neg pa, fun G H σ δ Q s rl q => ?_⟩
  refine one_in (W := W) (Aft := fun G H r => AftV X.K W σ G H Q r) (fun h => h) (fun h => h) (fun e h => h.ext e) ia s rl q fun G2 H2 v x s2 e2 d2 q2 => ?_
  cases d2 with
  | int i => exact ⟨i, rfl, q2 _ G2 H2 (Ext.refl s2) (.int _)⟩
  | _ => exact q2.elim

/-! ### arguments, displays -/
def dNil : DEnv → R (List PyData) := fun _ => .ok []
theorem da_nil : DA X W [] dNil := ⟨_, pa_nil, fun G H σ δ Q s r q => q [] G H (Ext.refl s) .nil⟩
def dCons (f : DEnv → R PyData) (g : DEnv → R (List PyData)) : DEnv → R (List PyData) := fun δ => (f δ).bind fun x => (g δ).bind fun xs => .ok (x :: xs)
theorem da_cons {f : DEnv → R PyData} {g : DEnv → R (List PyData)} (ha : DV X W e f) (hr : DA X W es g) (hs : starEach (e :: es) X.env = (false, eval e X.env) :: starEach es X.env := by rfl) : DA X W (e :: es) (dCons f g) := by
  obtain ⟨ta, pa, ia⟩ := ha
  obtain ⟨tb, pb, ib⟩ := hr
  refine ⟨_, pa_cons pa pb hs, fun G H σ δ Q s rl q => ?_⟩
  refine one_in (W := W) (Aft := fun G H r => AftA X.K W σ G H Q r) (fun h => h) (fun h => h) (fun e h => h.ext e) ia s rl q fun G2 H2 v x s2 e2 d2 q2 => ?_
  refine ib G2 H2 σ δ _ s2 (rl.same e2.gg) ?_
  cases hg : g δ with
  | ok xs =>
    rw [hg] at q2
    intro vs G3 H3 e3 d3
    exact q2 (v :: vs) G3 H3 e3 (.cons (d2.same e3.gg) d3)
  | ex x =>
    rw [hg] at q2
    exact q2
  | bad =>
    rw [hg] at q2
    exact q2.elim
def dTup (g : DEnv → R (List PyData)) : DEnv → R PyData := fun δ => (g δ).map .tuple
def dLst (g : DEnv → R (List PyData)) : DEnv → R O := fun δ => (g δ).map .own
theorem args_in {tb : TA} {g : DEnv → R (List PyData)} {α : Type} {σ₀ : St} {Aft : Hp → Hp → R α → Prop} (hex : ∀ {G H : Hp} {x : Ex}, Aft G H (.ex x) → AftX X.K W σ₀ G H x) (hbad : ∀ {G H : Hp}, Aft G H .bad → False)
    (hext : ∀ {G H G1 H1 : Hp} {r : R α}, Ext G H G1 H1 → Aft G H r → Aft G1 H1 r)
    (ib : ∀ G H σ δ Q, Same G H → RelE X.K X.pn G σ δ → AftA X.K W σ G H Q (g δ) → tb σ H Q)
    {G H : Hp} {δ : DEnv} {k : List PyData → R α} (s : Same G H) (r : RelE X.K X.pn G σ₀ δ) (q : Aft G H ((g δ).bind fun x => k x))
    {T : List V → Hp → Prop} (hT : ∀ G2 H2 vs xs, Same G2 H2 → Ext G H G2 H2 → DpAll X.K G2 vs xs → Aft G2 H2 (k xs) → T vs H2) : tb σ₀ H fun vs H1 => T vs H1 := by
  refine ib G H σ₀ δ _ s r ?_
  cases hg : g δ with
  | ok xs =>
    rw [hg] at q
    intro vs G1 H1 e1 d1
    exact hT G1 H1 vs xs e1.sub e1 d1 (hext e1 q)
  | ex x =>
    rw [hg] at q
    exact hex q
  | bad =>
    rw [hg] at q
    exact (hbad q).elim
theorem R.map_bind {α β : Type} (r : R α) (f : α → β) : r.map f = r.bind fun x => .ok (f x) := by cases r <;> rfl
/-- how many arguments a list gives -/
def CountA (g : DEnv → R (List PyData)) (n : Nat) : Prop := ∀ δ xs, g δ = .ok xs → xs.length = n
theorem count_nil : CountA dNil 0 := fun δ xs h => by cases h; rfl
theorem count_cons {f : DEnv → R PyData} {g : DEnv → R (List PyData)} {n : Nat} (h : CountA g n) : CountA (dCons f g) (n + 1) := fun δ xs e => by
  unfold dCons at e
  cases hf : f δ with
  | ok x =>
    rw [hf] at e
    cases hg : g δ with
    | ok ys =>
      rw [hg] at e
      cases e
      exact congrArg (· + 1) (h δ ys hg)
    | ex x => rw [hg] at e; cases e
    | bad => rw [hg] at e; cases e
  | ex x => rw [hf] at e; cases e
  | bad => rw [hf] at e; cases e
theorem dv_tup {g : DEnv → R (List PyData)} {x1} {n : Nat} (h : DA X W es g) (hc : CountA g n) (hn : n ≤ sizeLine) : DV X W (.Tuple es x1 pos) (dTup g) := by
  obtain ⟨tb, pb, ib⟩ := h
  refine ⟨_, pe_tup pb, fun G H σ δ Q s rl q => ?_⟩
  unfold dTup at q
  refine ib G H σ δ _ s rl ?_
  cases hg : g δ with
  | ok xs =>
    rw [hg] at q
    intro vs G1 H1 e1 d1
    refine ⟨by rw [d1.len, hc δ xs hg]; exact hn, fun p hp => ?_⟩
    exact q (.ref p) (upd G1 p (.tup vs)) _ (e1.trans (Ext.newG e1.sub hp)) (.tup (SqT.of upd_same) (d1.same (upd_same_of (e1.sub.free hp))))
  | ex x => rw [hg] at q; exact q
  | bad => rw [hg] at q; exact q.elim
theorem do_lst {g : DEnv → R (List PyData)} {n : Nat} (h : DA X W es g) (hc : CountA g n) (hn : n ≤ sizeLine) : DO X W (.List es pos) (dLst g) := by
  obtain ⟨tb, pb, ib⟩ := h
  refine ⟨_, pe_lst pb, fun G H σ δ Q s rl q => ?_⟩
  unfold dLst at q
  refine ib G H σ δ _ s rl ?_
  cases hg : g δ with
  | ok xs =>
    rw [hg] at q
    intro vs G1 H1 e1 d1
    refine ⟨by rw [d1.len, hc δ xs hg]; exact hn, fun p hp => ?_⟩
    exact q p vs G1 _ (e1.trans (Ext.new e1.sub hp)) (e1.hh.free hp) (e1.sub.free hp) upd_same d1
  | ex x => rw [hg] at q; exact q
  | bad => rw [hg] at q; exact q.elim

/-! ### subscripts -/
def opIx (d e : PyData) : R PyData := match d, e with
  | .list ds, .int i => (match atI ds i with | some x => .ok x | none => .bad)
  | .tuple ds, .int i => (match atI ds i with | some x => .ok x | none => .bad)
  | _, _ => .bad
def dIx (f g : DEnv → R PyData) : DEnv → R PyData := fun δ => (f δ).bind fun x => (g δ).bind fun y => opIx x y
theorem atI_all {K : PySem.W.Frag} {G : Hp} {vs : List V} {ds : List PyData} {i : Int} {d : PyData} (a : DpAll K G vs ds) (h : atI ds i = some d) : ∃ v, atI vs i = some v ∧ Dp K G v d := by
  unfold atI at h ⊢
  rw [a.len]
  cases hn : ixN ds.length i with
  | none => rw [hn] at h; cases h
  | some j =>
    rw [hn] at h
    have h' : ds[j]? = some d := h
    obtain ⟨v, h1, h2⟩ := a.get h'
    exact ⟨v, h1, h2⟩
theorem dv_ix {f g : DEnv → R PyData} (ha : DV X W a f) (hb : DV X W b g) (hs : PlainIx b) : DV X W (.Subscript a b pos) (dIx f g) := by
  obtain ⟨ta, pa, ia⟩ := ha
  obtain ⟨tb, pb, ib⟩ := hb
  refine ⟨_, pe_ix (ix_list.or ix_tup) pa pb hs, fun G H σ δ Q s rl q => ?_⟩
  refine two_in (W := W) (Aft := fun G H r => AftV X.K W σ G H Q r) (fun h => h) (fun h => h) (fun e h => h.ext e) ia ib s rl q fun G2 H2 v w x y s2 d1 d2 q2 => ?_
  cases d2 with
  | int i =>
    cases d1 with
    | lst h al =>
      unfold opIx at q2
      simp only at q2
      split at q2
      · rename_i x hx
        obtain ⟨v, h1, h2⟩ := atI_all al hx
        exact .inl ⟨_, _, i, v, rfl, rfl, s2.seq h, h1, q2 v G2 H2 (Ext.refl s2) h2⟩
      · exact q2.elim
    | tup h al =>
      unfold opIx at q2
      simp only at q2
      split at q2
      · rename_i x hx
        obtain ⟨v, h1, h2⟩ := atI_all al hx
        exact .inr ⟨_, _, i, v, rfl, rfl, Same.tupl s2 h, h1, q2 v G2 H2 (Ext.refl s2) h2⟩
      · exact q2.elim
    | _ => exact q2.elim
  | _ => cases d1 <;> exact q2.elim

/-! slices -/
def DPart (X : Cx) (W : WX) (e : Option Expr) (f : DEnv → R (Option Int)) : Prop :=
  ∃ to, PO X e to ∧ ∀ G H σ δ (Q : Option Int → Hp → Prop), Same G H → RelE X.K X.pn G σ δ → (match f δ with | .ok o => ∀ G' H', Ext G H G' H' → Q o H' | .ex x => AftX X.K W σ G H x | .bad => False) → to σ H Q
def dNoPart : DEnv → R (Option Int) := fun _ => .ok none
def dPart (f : DEnv → R PyData) : DEnv → R (Option Int) := fun δ => (f δ).bind fun x => match x with
  | .int i => .ok (some i)
  | _ => .bad
theorem dp_none : DPart X W none dNoPart := ⟨_, po_none, fun G H σ δ Q s r q => q G H (Ext.refl s)⟩
theorem dp_some {f : DEnv → R PyData} (h : DV X W e f) : DPart X W (some e) (dPart f) := by
  obtain ⟨te, pe, ie⟩ := h
  refine ⟨_, po_some pe, fun G H σ δ Q s r q => ?_⟩
  unfold dPart at q
  refine ie G H σ δ _ s r ?_
  cases hf : f δ with
  | ok x =>
    rw [hf] at q
    intro v G1 H1 e1 d1
    cases d1 with
    | int i => exact ⟨i, rfl, q G1 H1 e1⟩
    | _ => exact q.elim
  | ex x => rw [hf] at q; exact q
  | bad => rw [hf] at q; exact q.elim
def cutD {α : Type} (xs : List α) (lo hi : Option Int) : List α := (xs.drop (HT.sIx xs.length 0 lo)).take (HT.sIx xs.length xs.length hi - HT.sIx xs.length 0 lo)
theorem cut_all {K : PySem.W.Frag} {G : Hp} {vs : List V} {ds : List PyData} (a : DpAll K G vs ds) (lo hi : Option Int) : DpAll K G (cutV vs lo hi) (cutD ds lo hi) := by
  unfold cutV cutD
  rw [a.len]
  exact (a.drop _).take _
def opCut (d : PyData) (lo hi : Option Int) : R O := match d with
  | .list ds => .ok (.own (cutD ds lo hi))
  | .tuple ds => .ok (.val (.tuple (cutD ds lo hi)))
  | _ => .bad
def dCut (f : DEnv → R PyData) (g h : DEnv → R (Option Int)) : DEnv → R O := fun δ => (f δ).bind fun x => (g δ).bind fun lo => (h δ).bind fun hi => opCut x lo hi
theorem do_cut {f : DEnv → R PyData} {g h : DEnv → R (Option Int)} {lo hi : Option Expr} {p2 : Pos} (he : DV X W e f) (hl : DPart X W lo g) (hu : DPart X W hi h) : DO X W (.Subscript e (.Slice lo hi none p2) pos) (dCut f g h) := by
  obtain ⟨te, pe, ie⟩ := he
  obtain ⟨tl, pl, il⟩ := hl
  obtain ⟨th, ph, ih⟩ := hu
  refine ⟨_, pe_slice (sl_list.or sl_tupA) pe pl ph, fun G H σ δ Q s rl q => ?_⟩
  refine one_in (W := W) (Aft := fun G H r => AftE X.K W σ G H Q r) (fun h => h) (fun h => h) (fun e h => h.ext e) ie s rl q fun G1 H1 v x s1 e1 d1 q1 => ?_
  refine il G1 H1 σ δ _ s1 (rl.same e1.gg) ?_
  cases hg : g δ with
  | ok lo =>
    rw [hg] at q1
    intro G2 H2 e2
    refine ih G2 H2 σ δ _ e2.sub (rl.same (e1.gg.trans e2.gg)) ?_
    cases hh : h δ with
    | ok hi =>
      rw [hh] at q1
      intro G3 H3 e3
      have q3 := AftE.ext (e2.trans e3) q1
      have d3 := d1.same (e2.gg.trans e3.gg)
      have s3 := e3.sub
      simp only [R.bind_ok] at q3
      cases d3 with
      | lst hq al =>
        refine .inl ⟨_, _, rfl, s3.seq hq, fun p hp => ?_⟩
        exact q3 p _ G3 _ (Ext.new s3 hp) hp (s3.free hp) upd_same (cut_all al lo hi)
      | tup hq al =>
        refine .inr ⟨_, _, rfl, Same.tupl s3 hq, fun hw => ?_, fun hw p hp => ?_⟩
        · refine q3 _ G3 H3 (Ext.refl s3) (.tup hq ?_)
          have := cut_all al lo hi
          unfold cutV at this
          rw [hw.1, hw.2] at this
          simpa using this
        · exact q3 _ (upd G3 p (.tup _)) _ (Ext.newG s3 hp) (.tup (SqT.of upd_same) ((cut_all al lo hi).same (upd_same_of (s3.free hp))))
      | _ => exact q3.elim
    | ex x =>
      rw [hh] at q1
      exact AftX.ext e2 q1
    | bad =>
      rw [hh] at q1
      exact q1.elim
  | ex x => rw [hg] at q1; exact q1
  | bad => rw [hg] at q1; exact q1.elim

/-! ### tests -/
def asBool (d : PyData) : R Bool := match d with
  | .bool b => .ok b
  | _ => .bad
def dIsTrue (f : DEnv → R PyData) : DEnv → R Bool := fun δ => (f δ).bind asBool
theorem dt_val {f : DEnv → R PyData} (h : DV X W e f) (he : ∀ whole, isTrue e X.env whole = (do let v ← whole; standAt e.pos; holding [v] (truthy v)) := by intro _; rfl) : DT X W e (dIsTrue f) := by
  obtain ⟨te, pe, ie⟩ := h
  refine ⟨_, pt_val pe he, fun G H σ δ Q s rl q => ?_⟩
  refine one_in (W := W) (Aft := fun G H r => AftB X.K W σ G H Q r) (fun h => h) (fun h => h) (fun e h => h.ext e) ie s rl q fun G1 H1 v x s1 e1 d1 q1 => ?_
  cases d1 with
  | bl b => exact ⟨b, rfl, q1 G1 H1 (Ext.refl s1)⟩
  | _ => exact q1.elim
def dNotB (f : DEnv → R Bool) : DEnv → R Bool := fun δ => (f δ).map (!·)
theorem dt_not {f : DEnv → R Bool} (h : DT X W a f) : DT X W (.UnaryOp .Not a pos) (dNotB f) := by
  obtain ⟨te, pe, ie⟩ := h
  refine ⟨_, pt_not pe, fun G H σ δ Q s rl q => ?_⟩
  refine ie G H σ δ _ s rl ?_
  unfold dNotB at q
  cases hf : f δ with
  | ok b => rw [hf] at q; exact q
  | ex x => rw [hf] at q; exact q
  | bad => rw [hf] at q; exact q
def DW (X : Cx) (W : WX) (e : Expr) (f : DEnv → R Bool) : Prop :=
  ∃ tt, PW X e tt ∧ ∀ G H σ δ Q, Same G H → RelE X.K X.pn G σ δ → AftB X.K W σ G H Q (f δ) → tt σ H Q
theorem DW.t {f : DEnv → R Bool} (h : DW X W e f) : DT X W e f := by
  obtain ⟨tt, p, i⟩ := h
  exact ⟨tt, p.pt, i⟩
theorem dw_and1 {f : DEnv → R Bool} (h : DT X W a f) : DW X W (.BoolOp .And [a] pos) f := by
  obtain ⟨tt, p, i⟩ := h
  exact ⟨tt, pw_and1 p, i⟩
theorem dw_or1 {f : DEnv → R Bool} (h : DT X W a f) : DW X W (.BoolOp .Or [a] pos) f := by
  obtain ⟨tt, p, i⟩ := h
  exact ⟨tt, pw_or1 p, i⟩
def dAnd (f g : DEnv → R Bool) : DEnv → R Bool := fun δ => (f δ).bind fun x => if x = true then g δ else .ok false
def dOr (f g : DEnv → R Bool) : DEnv → R Bool := fun δ => (f δ).bind fun x => if x = true then .ok true else g δ
theorem dw_and {f g : DEnv → R Bool} (ha : DT X W a f) (hb : DW X W (.BoolOp .And (b :: es) pos) g) : DW X W (.BoolOp .And (a :: b :: es) pos) (dAnd f g) := by
  obtain ⟨ta, pa, ia⟩ := ha
  obtain ⟨tb, pb, ib⟩ := hb
  refine ⟨_, pw_and pa pb, fun G H σ δ Q s rl q => ?_⟩
  refine ia G H σ δ _ s rl ?_
  unfold dAnd at q
  cases hf : f δ with
  | ok x =>
    rw [hf] at q
    intro G1 H1 e1
    cases x with
    | true => exact iteT (ib G1 H1 σ δ Q e1.sub (rl.same e1.gg) (AftB.ext e1 q))
    | false => exact iteF (q G1 H1 e1)
  | ex x => rw [hf] at q; exact q
  | bad => rw [hf] at q; exact q.elim
theorem dw_or {f g : DEnv → R Bool} (ha : DT X W a f) (hb : DW X W (.BoolOp .Or (b :: es) pos) g) : DW X W (.BoolOp .Or (a :: b :: es) pos) (dOr f g) := by
  obtain ⟨ta, pa, ia⟩ := ha
  obtain ⟨tb, pb, ib⟩ := hb
  refine ⟨_, pw_or pa pb, fun G H σ δ Q s rl q => ?_⟩
  refine ia G H σ δ _ s rl ?_
  unfold dOr at q
  cases hf : f δ with
  | ok x =>
    rw [hf] at q
    intro G1 H1 e1
    cases x with
    | true => exact iteT (q G1 H1 e1)
    | false => exact iteF (ib G1 H1 σ δ Q e1.sub (rl.same e1.gg) (AftB.ext e1 q))
  | ex x => rw [hf] at q; exact q
  | bad => rw [hf] at q; exact q.elim
/-- and, or as values: all but the last are True or False -/
theorem dv_one {op} {f : DEnv → R PyData} (h : DV X W a f) : DV X W (.BoolOp op [a] pos) f := by
  obtain ⟨tt, p, i⟩ := h
  exact ⟨tt, pe_one p, i⟩
def dAndV (f : DEnv → R Bool) (g : DEnv → R PyData) : DEnv → R PyData := fun δ => (f δ).bind fun x => if x = true then g δ else .ok (.bool false)
def dOrV (f : DEnv → R Bool) (g : DEnv → R PyData) : DEnv → R PyData := fun δ => (f δ).bind fun x => if x = true then .ok (.bool true) else g δ
theorem dv_and {f g : DEnv → R PyData} (ha : DV X W a f) (hb : DV X W (.BoolOp .And (b :: es) pos) g) : DV X W (.BoolOp .And (a :: b :: es) pos) (dAndV (dIsTrue f) g) := by
  obtain ⟨ta, pa, ia⟩ := ha
  obtain ⟨tb, pb, ib⟩ := hb
  refine ⟨_, pe_and pa pb, fun G H σ δ Q s rl q => ?_⟩
  refine ia G H σ δ _ s rl ?_
  unfold dAndV dIsTrue at q
  cases hf : f δ with
  | ok x =>
    rw [hf] at q
    intro v G1 H1 e1 d1
    cases d1 with
    | bl c =>
      refine ⟨c, rfl, ?_⟩
      cases c with
      | true => exact iteT (ib G1 H1 σ δ Q e1.sub (rl.same e1.gg) (AftV.ext e1 q))
      | false => exact iteF (q _ G1 H1 e1 (.bl false))
    | _ => exact q.elim
  | ex x => rw [hf] at q; exact q
  | bad => rw [hf] at q; exact q.elim
theorem dv_or {f g : DEnv → R PyData} (ha : DV X W a f) (hb : DV X W (.BoolOp .Or (b :: es) pos) g) : DV X W (.BoolOp .Or (a :: b :: es) pos) (dOrV (dIsTrue f) g) := by
  obtain ⟨ta, pa, ia⟩ := ha
  obtain ⟨tb, pb, ib⟩ := hb
  refine ⟨_, pe_or pa pb, fun G H σ δ Q s rl q => ?_⟩
  refine ia G H σ δ _ s rl ?_
  unfold dOrV dIsTrue at q
  cases hf : f δ with
  | ok x =>
    rw [hf] at q
    intro v G1 H1 e1 d1
    cases d1 with
    | bl c =>
      refine ⟨c, rfl, ?_⟩
      cases c with
      | true => exact iteT (q _ G1 H1 e1 (.bl true))
      | false => exact iteF (ib G1 H1 σ δ Q e1.sub (rl.same e1.gg) (AftV.ext e1 q))
    | _ => exact q.elim
  | ex x => rw [hf] at q; exact q
  | bad => rw [hf] at q; exact q.elim
def dNotV (f : DEnv → R PyData) : DEnv → R PyData := fun δ => (f δ).bind fun x => match x with
  | .bool b => .ok (.bool (!b))
  | _ => .bad
theorem dv_not {f : DEnv → R PyData} (h : DV X W a f) : DV X W (.UnaryOp .Not a pos) (dNotV f) := by
  obtain ⟨te, pe, ie⟩ := h
  refine ⟨_, pe_not pe, fun G H σ δ Q s rl q => ?_⟩
  refine one_in (W := W) (Aft := fun G H r => AftV X.K W σ G H Q r) (fun h => h) (fun h => h) (fun e h => h.ext e) ie s rl q fun G1 H1 v x s1 e1 d1 q1 => ?_
  cases d1 with
  | bl b => exact ⟨b, rfl, q1 _ G1 H1 (Ext.refl s1) (.bl _)⟩
  | _ => exact q1.elim
def dIf {α : Type} (c : DEnv → R Bool) (f g : DEnv → R α) : DEnv → R α := fun δ => (c δ).bind fun x => if x = true then f δ else g δ
theorem dv_ifExp {c' : DEnv → R Bool} {f g : DEnv → R PyData} (hc : DT X W c c') (ha : DV X W a f) (hb : DV X W b g) : DV X W (.IfExp c a b pos) (dIf c' f g) := by
  obtain ⟨tc, pc, ic⟩ := hc
  obtain ⟨ta, pa, ia⟩ := ha
  obtain ⟨tb, pb, ib⟩ := hb
  refine ⟨_, pe_ifExp pc pa pb, fun G H σ δ Q s rl q => ?_⟩
  refine ic G H σ δ _ s rl ?_
  unfold dIf at q
  cases hf : c' δ with
  | ok x =>
    rw [hf] at q
    intro G1 H1 e1
    cases x with
    | true => exact iteT (ia G1 H1 σ δ Q e1.sub (rl.same e1.gg) (AftV.ext e1 q))
    | false => exact iteF (ib G1 H1 σ δ Q e1.sub (rl.same e1.gg) (AftV.ext e1 q))
  | ex x => rw [hf] at q; exact q
  | bad => rw [hf] at q; exact q.elim
end
end DL
set_option Elab.async false
set_option linter.all false
set_option maxRecDepth 100000
set_option maxHeartbeats 4000000
/-! DL3: calls of built-ins and of own defs by data. -/
namespace DL
open PySem PySem.Spec L2
open PyProof.Rows hiding St

/-! ### built-ins -/
def CallD (X : Cx) (f : Value) (g : List PyData → R O) : Prop :=
  ∃ r, CallR X f r ∧ ∀ (W : WX) (σ : St) G H vs ds Q, Same G H → DpAll X.K G vs ds → AftE X.K W σ G H Q (g ds) → r vs H Q
def dApp {α : Type} (g : List PyData → R α) (f : DEnv → R (List PyData)) : DEnv → R α := fun δ => (f δ).bind g
section
variable {X : Cx} {W : WX} {x : Str} {p pos : Pos} {e : Expr} {es : List Expr} {id T : String}
theorem do_callB {g : List PyData → R O} {f : DEnv → R (List PyData)} (hc : CallD X (.builtin id) g) (hg : Gl X x) (hm : X.mg x = none) (hv : bootBuiltins x = some (.builtin id)) (ha : DA X W (e :: es) f) (hn : x ≠ "__name__" := by decide) (hdb : (x == ("__debug__" : Str)) = false := by decide)
    (he : starEach (e :: es) X.env = (false, eval e X.env) :: starEach es X.env := by rfl) (hpl : (backTo pos (starEach es X.env)).any (·.1) = false := by rfl) : DO X W (.Call (.Name x p) (e :: es) [] pos) (dApp g f) := by
  obtain ⟨r, hr, ir⟩ := hc
  obtain ⟨ta, pa, ia⟩ := ha
  refine ⟨_, pe_callB hr hg hm hv pa hn hdb he hpl, fun G H σ δ Q s rl q => ?_⟩
  exact args_in (W := W) (Aft := fun G H r => AftE X.K W σ G H Q r) (fun h => h) (fun h => h) (fun e h => h.ext e) ia s rl q fun G2 H2 vs xs s2 e2 d2 q2 => ir W σ G2 H2 vs xs Q s2 d2 q2
theorem do_callTy {g : List PyData → R O} {f : DEnv → R (List PyData)} (hc : CallD X (.type T) g) (hg : Gl X x) (hm : X.mg x = none) (hv : bootBuiltins x = some (.type T)) (ha : DA X W (e :: es) f) (hn : x ≠ "__name__" := by decide) (hdb : (x == ("__debug__" : Str)) = false := by decide)
    (he : starEach (e :: es) X.env = (false, eval e X.env) :: starEach es X.env := by rfl) (hpl : (backTo pos (starEach es X.env)).any (·.1) = false := by rfl) : DO X W (.Call (.Name x p) (e :: es) [] pos) (dApp g f) := by
  obtain ⟨r, hr, ir⟩ := hc
  obtain ⟨ta, pa, ia⟩ := ha
  refine ⟨_, pe_callTy hr hg hm hv pa hn hdb he hpl, fun G H σ δ Q s rl q => ?_⟩
  exact args_in (W := W) (Aft := fun G H r => AftE X.K W σ G H Q r) (fun h => h) (fun h => h) (fun e h => h.ext e) ia s rl q fun G2 H2 vs xs s2 e2 d2 q2 => ir W σ G2 H2 vs xs Q s2 d2 q2
end

theorem _root_.L2.DpAll.one {K : PySem.W.Frag} {G : Hp} {vs : List V} {d : PyData} (h : DpAll K G vs [d]) : ∃ v, vs = [v] ∧ Dp K G v d := by
  cases h with
  | cons h t =>
    cases t
    exact ⟨_, rfl, h⟩
theorem _root_.L2.DpAll.two {K : PySem.W.Frag} {G : Hp} {vs : List V} {d e : PyData} (h : DpAll K G vs [d, e]) : ∃ v w, vs = [v, w] ∧ Dp K G v d ∧ Dp K G w e := by
  cases h with
  | cons h t =>
    obtain ⟨w, rfl, h2⟩ := t.one
    exact ⟨_, w, rfl, h, h2⟩

/-- the ints of a list -/
def asInts : List PyData → Option (List Int)
  | [] => some []
  | .int i :: ds => (asInts ds).map (i :: ·)
  | _ :: _ => none
@[simp] theorem asInts_map : ∀ ns : List Int, asInts (ns.map .int) = some ns
  | [] => rfl
  | n :: ns => by show (asInts (ns.map .int)).map (n :: ·) = _; rw [asInts_map ns]; rfl
theorem asInts_some : ∀ {ds : List PyData} {ns : List Int}, asInts ds = some ns → ds = ns.map .int
  | [], ns, h => by cases h; rfl
  | .int i :: ds, ns, h => by
    have h' : (asInts ds).map (i :: ·) = some ns := h
    cases e : asInts ds with
    | none => rw [e] at h'; cases h'
    | some ms =>
      rw [e] at h'
      cases h'
      rw [asInts_some e]
      rfl
  | .none :: _, _, h => by cases h
  | .bool _ :: _, _, h => by cases h
  | .str _ :: _, _, h => by cases h
  | .list _ :: _, _, h => by cases h
  | .tuple _ :: _, _, h => by cases h
  | .dict _ :: _, _, h => by cases h
theorem ints_vals {K : PySem.W.Frag} {G : Hp} : ∀ {ns : List Int} {vs : List V}, DpAll K G vs (ns.map .int) → vs = ns.map V.int
  | [], _, h => by cases h; rfl
  | n :: ns, _, h => by
    cases h with
    | cons h t =>
      cases h
      rw [ints_vals t]
      rfl
def asBools : List PyData → Option (List Bool)
  | [] => some []
  | .bool i :: ds => (asBools ds).map (i :: ·)
  | _ :: _ => none
@[simp] theorem asBools_map : ∀ ns : List Bool, asBools (ns.map .bool) = some ns
  | [] => rfl
  | n :: ns => by show (asBools (ns.map .bool)).map (n :: ·) = _; rw [asBools_map ns]; rfl
theorem asBools_some : ∀ {ds : List PyData} {ns : List Bool}, asBools ds = some ns → ds = ns.map .bool
  | [], ns, h => by cases h; rfl
  | .bool i :: ds, ns, h => by
    have h' : (asBools ds).map (i :: ·) = some ns := h
    cases e : asBools ds with
    | none => rw [e] at h'; cases h'
    | some ms =>
      rw [e] at h'
      cases h'
      rw [asBools_some e]
      rfl
  | .none :: _, _, h => by cases h
  | .int _ :: _, _, h => by cases h
  | .str _ :: _, _, h => by cases h
  | .list _ :: _, _, h => by cases h
  | .tuple _ :: _, _, h => by cases h
  | .dict _ :: _, _, h => by cases h
theorem bools_vals {K : PySem.W.Frag} {G : Hp} : ∀ {ns : List Bool} {vs : List V}, DpAll K G vs (ns.map .bool) → vs = ns.map V.bl
  | [], _, h => by cases h; rfl
  | n :: ns, _, h => by
    cases h with
    | cons h t =>
      cases h
      rw [bools_vals t]
      rfl

section
variable {X : Cx}
def biLen : List PyData → R O
  | [.list ds] => .ok (.val (.int ds.length))
  | [.tuple ds] => .ok (.val (.int ds.length))
  | _ => .bad
theorem cd_len : CallD X (.builtin "len") biLen := by
  refine ⟨_, call_len_seq, fun W σ G H vs ds Q s hd q => ?_⟩
  match ds, hd, q with
  | [d], hd, q =>
    obtain ⟨v, rfl, h⟩ := hd.one
    cases h with
    | lst h a => exact ⟨_, _, rfl, .inl (s.seq h), by rw [a.len]; exact q _ G H (Ext.refl s) (.int _)⟩
    | tup h a => exact ⟨_, _, rfl, .inr (Same.tupl s h), by rw [a.len]; exact q _ G H (Ext.refl s) (.int _)⟩
    | _ => exact q.elim
  | [], _, q => exact q.elim
  | .none :: _ :: _, _, q => exact q.elim
  | .bool _ :: _ :: _, _, q => exact q.elim
  | .int _ :: _ :: _, _, q => exact q.elim
  | .str _ :: _ :: _, _, q => exact q.elim
  | .list _ :: _ :: _, _, q => exact q.elim
  | .tuple _ :: _ :: _, _, q => exact q.elim
  | .dict _ :: _ :: _, _, q => exact q.elim
/-- of one argument -/
def bi1 (g : PyData → R O) : List PyData → R O
  | [d] => g d
  | _ => .bad
theorem cd_1 {f : Value} {g : PyData → R O} {r : List V → Hp → VK → Prop} (hr : CallR X f r) (h : ∀ (W : WX) (σ : St) G H v d Q, Same G H → Dp X.K G v d → AftE X.K W σ G H Q (g d) → r [v] H Q) : CallD X f (bi1 g) := by
  refine ⟨_, hr, fun W σ G H vs ds Q s hd q => ?_⟩
  match ds, hd, q with
  | [d], hd, q =>
    obtain ⟨v, rfl, h1⟩ := hd.one
    exact h W σ G H v d Q s h1 q
  | [], _, q => exact q.elim
  | _ :: _ :: _, _, q => exact q.elim
def bi2 (g : PyData → PyData → R O) : List PyData → R O
  | [d, e] => g d e
  | _ => .bad
theorem cd_2 {f : Value} {g : PyData → PyData → R O} {r : List V → Hp → VK → Prop} (hr : CallR X f r) (h : ∀ (W : WX) (σ : St) G H v w d e Q, Same G H → Dp X.K G v d → Dp X.K G w e → AftE X.K W σ G H Q (g d e) → r [v, w] H Q) : CallD X f (bi2 g) := by
  refine ⟨_, hr, fun W σ G H vs ds Q s hd q => ?_⟩
  match ds, hd, q with
  | [d, e], hd, q =>
    obtain ⟨v, w, rfl, h1, h2⟩ := hd.two
    exact h W σ G H v w d e Q s h1 h2 q
  | [], _, q => exact q.elim
  | [_], _, q => exact q.elim
  | _ :: _ :: _ :: _, _, q => exact q.elim
def biAbs (d : PyData) : R O := match d with
  | .int i => .ok (.val (.int (if i < 0 then -i else i)))
  | _ => .bad
theorem cd_abs : CallD X (.builtin "abs") (bi1 biAbs) := cd_1 call_abs fun W σ G H v d Q s h q => by
  cases h with
  | int i => exact ⟨i, rfl, q _ G H (Ext.refl s) (.int _)⟩
  | _ => exact q.elim
def biInt (d : PyData) : R O := match d with
  | .int i => .ok (.val (.int i))
  | .bool b => .ok (.val (.int (if b then 1 else 0)))
  | _ => .bad
theorem cd_int : CallD X (.type "int") (bi1 biInt) := cd_1 call_int1 fun W σ G H v d Q s h q => by
  cases h with
  | int i => exact .inl ⟨i, rfl, q _ G H (Ext.refl s) (.int _)⟩
  | bl b => exact .inr ⟨b, rfl, q _ G H (Ext.refl s) (.int _)⟩
  | _ => exact q.elim
def biMax (d e : PyData) : R O := match d, e with
  | .int i, .int j => .ok (.val (.int (if j > i then j else i)))
  | _, _ => .bad
theorem cd_max2 (hc : X.calm = true) : CallD X (.builtin "max") (bi2 biMax) := cd_2 (call_max2 hc) fun W σ G H v w d e Q s h h' q => by
  cases h with
  | int i =>
    cases h' with
    | int j => exact ⟨i, j, rfl, q _ G H (Ext.refl s) (.int _)⟩
    | _ => exact q.elim
  | _ => exact q.elim
def biMin (d e : PyData) : R O := match d, e with
  | .int i, .int j => .ok (.val (.int (if j < i then j else i)))
  | _, _ => .bad
theorem cd_min2 (hc : X.calm = true) : CallD X (.builtin "min") (bi2 biMin) := cd_2 (call_min2 hc) fun W σ G H v w d e Q s h h' q => by
  cases h with
  | int i =>
    cases h' with
    | int j => exact ⟨i, j, rfl, q _ G H (Ext.refl s) (.int _)⟩
    | _ => exact q.elim
  | _ => exact q.elim
def biSum (d : PyData) : R O := match d with
  | .list ds => (match asInts ds with | some ns => .ok (.val (.int ns.sum)) | none => .bad)
  | _ => .bad
theorem cd_sum (hc : X.calm = true) : CallD X (.builtin "sum") (bi1 biSum) := cd_1 (cr_sum hc) fun W σ G H v d Q s h q => by
  cases h with
  | lst h a =>
    simp only [biSum] at q
    split at q
    · rename_i ns e
      have e2 := asInts_some e
      subst e2
      have e3 := ints_vals a
      subst e3
      exact ⟨_, ns, rfl, s.seq h, q _ G H (Ext.refl s) (.int _)⟩
    · exact q.elim
  | _ => exact q.elim
def biAny (d : PyData) : R O := match d with
  | .list ds => (match asBools ds with | some bs => .ok (.val (.bool (bs.any id))) | none => .bad)
  | _ => .bad
theorem cd_any (hc : X.calm = true) : CallD X (.builtin "any") (bi1 biAny) := cd_1 (cr_any hc) fun W σ G H v d Q s h q => by
  cases h with
  | lst h a =>
    simp only [biAny] at q
    split at q
    · rename_i ns e
      have e2 := asBools_some e
      subst e2
      have e3 := bools_vals a
      subst e3
      exact ⟨_, ns, rfl, s.seq h, q _ G H (Ext.refl s) (.bl _)⟩
    · exact q.elim
  | _ => exact q.elim
def biAll (d : PyData) : R O := match d with
  | .list ds => (match asBools ds with | some bs => .ok (.val (.bool (bs.all id))) | none => .bad)
  | _ => .bad
theorem cd_all (hc : X.calm = true) : CallD X (.builtin "all") (bi1 biAll) := cd_1 (cr_all hc) fun W σ G H v d Q s h q => by
  cases h with
  | lst h a =>
    simp only [biAll] at q
    split at q
    · rename_i ns e
      have e2 := asBools_some e
      subst e2
      have e3 := bools_vals a
      subst e3
      exact ⟨_, ns, rfl, s.seq h, q _ G H (Ext.refl s) (.bl _)⟩
    · exact q.elim
  | _ => exact q.elim
def biList (d : PyData) : R O := match d with
  | .list ds => .ok (.own ds)
  | .tuple ds => .ok (.own ds)
  | _ => .bad
theorem cd_list : CallD X (.type "list") (bi1 biList) := cd_1 call_list_of fun W σ G H v d Q s h q => by
  cases h with
  | lst h a => exact ⟨_, _, rfl, .inl (s.seq h), fun l hl => q l _ G _ (Ext.new s hl) hl (s.free hl) upd_same a⟩
  | tup h a => exact ⟨_, _, rfl, .inr (Same.tupl s h), fun l hl => q l _ G _ (Ext.new s hl) hl (s.free hl) upd_same a⟩
  | _ => exact q.elim
def biTuple (d : PyData) : R O := match d with
  | .list ds => .ok (.val (.tuple ds))
  | .tuple ds => .ok (.val (.tuple ds))
  | _ => .bad
theorem cd_tuple : CallD X (.type "tuple") (bi1 biTuple) := cd_1 call_tuple_of fun W σ G H v d Q s h q => by
  cases h with
  | lst h a => exact ⟨_, _, rfl, .inl ⟨s.seq h, fun l hl => q _ (upd G l (.tup _)) _ (Ext.newG s hl) (.tup (SqT.of upd_same) (a.same (upd_same_of (s.free hl))))⟩⟩
  | tup h a => exact ⟨_, _, rfl, .inr ⟨Same.tupl s h, q _ G H (Ext.refl s) (.tup h a)⟩⟩
  | _ => exact q.elim

/-! isinstance of a built-in class -/
def tyN : PyData → String
  | .none => "NoneType"
  | .bool _ => "bool"
  | .int _ => "int"
  | .str _ => "str"
  | .list _ => "list"
  | .tuple _ => "tuple"
  | .dict _ => "dict"
def isiD (T : String) (d : PyData) : Bool := match d with
  | .bool _ => T == "bool" || T == "int"
  | d => tyN d == T
theorem ty_of {K : PySem.W.Frag} {G H : Hp} {v : V} {d : PyData} (s : Same G H) (h : Dp K G v d) : TyX K H v (.type (tyN d)) := by
  cases h with
  | non => exact .base .non
  | bl b => exact .base (.bl b)
  | int i => exact .base (.int i)
  | str x => exact .base (.str x)
  | lst h a =>
    rcases s.seq h with (h | ⟨o, h⟩) | ⟨o, its, n, h, c, _⟩
    · exact .base (.lst h)
    · exact .base (.frz h)
    · exact .kList h c
  | tup h a =>
    rcases Same.tupl s h with (h | ⟨o, h⟩) | ⟨o, its, n, h, c, _⟩
    · exact .base (.tup h)
    · exact .fTuple h
    · exact .kTuple h c
def dIsi (T : String) (f : DEnv → R PyData) : DEnv → R PyData := fun δ => (f δ).map fun d => .bool (isiD T d)
theorem dv_isi {W : WX} {x t : Str} {T : String} {p p2 pos : Pos} {e : Expr} {f : DEnv → R PyData} (he : DV X W e f) (hg : Gl X x) (hm : X.mg x = none) (hv : bootBuiltins x = some (.builtin "isinstance")) (hg2 : Gl X t) (hm2 : X.mg t = none) (hv2 : bootBuiltins t = some (.type T))
    (hk : ∀ d : PyData, (match d with | .dict _ => true | _ => kitB (tyN d) T == some (isiD T d)) = true) (hn : x ≠ "__name__" := by decide) (hdb : (x == ("__debug__" : Str)) = false := by decide) (hn2 : t ≠ "__name__" := by decide) (hdb2 : (t == ("__debug__" : Str)) = false := by decide)
    (h1 : starEach [e, .Name t p2] X.env = (false, eval e X.env) :: starEach [.Name t p2] X.env := by rfl) (h2 : starEach [.Name t p2] X.env = (false, eval (.Name t p2) X.env) :: starEach [] X.env := by rfl) (hpl : (backTo pos (starEach [.Name t p2] X.env)).any (·.1) = false := by rfl) :
    DV X W (.Call (.Name x p) [e, .Name t p2] [] pos) (dIsi T f) := by
  obtain ⟨te, pe, ie⟩ := he
  refine ⟨_, pe_callB call_isi hg hm hv (pa_cons pe (pa_cons (pe_bltn (v := .ty T) hg2 hm2 hv2 rfl hn2 hdb2) pa_nil h2) h1) hn hdb h1 hpl, fun G H σ δ Q s rl q => ?_⟩
  refine ie G H σ δ _ s rl ?_
  unfold dIsi at q
  cases hf : f δ with
  | ok d =>
    rw [hf] at q
    intro v G1 H1 e1 d1
    refine ⟨v, .ty T, _, _, isiD T d, rfl, .ty T, ty_of e1.sub d1, kit_ty ?_, q _ G1 H1 e1 (.bl _)⟩
    have z := hk d
    cases d1 <;> exact eq_of_beq z
  | ex x => rw [hf] at q; exact q
  | bad => rw [hf] at q; exact q.elim
theorem isi_ok {T : String} (h : ([.none, .bool true, .int 0, .str "", .list [], .tuple []] : List PyData).all (fun d => kitB (tyN d) T == some (isiD T d)) = true) : ∀ d : PyData, (match d with | .dict _ => true | _ => kitB (tyN d) T == some (isiD T d)) = true := fun d => by
  simp only [List.all_cons, List.all_nil, Bool.and_eq_true] at h
  obtain ⟨h1, h2, h3, h4, h5, h6, _⟩ := h
  cases d with
  | none => exact h1
  | bool b => exact h2
  | int i => exact h3
  | str x => exact h4
  | list l => exact h5
  | tuple l => exact h6
  | dict _ => rfl
end

/-! ### own defs -/
/-- what a def promises by data: n arguments, g of them -/
def spD (K : PySem.W.Frag) (n : Nat) (g : List PyData → R O) : Sp := fun vs H Q E => ∃ G ds, Same G H ∧ DpAll K G vs ds ∧ ds.length = n ∧ AftE K (fun c d _ H' => E c d H') [] G H Q (g ds)
theorem AftE.wof {K : PySem.W.Frag} {W W' : WX} {σ σ' : St} {G H : Hp} {Q : VK} (hw : ∀ c d H, W c d σ H → W' c d σ' H) : ∀ {r : R O}, AftE K W σ G H Q r → AftE K W' σ' G H Q r
  | .ok (.val _), h => h
  | .ok (.own _), h => h
  | .ex _, h => fun cls d G' H' e r => hw _ _ _ (h cls d G' H' e r)
  | .bad, h => h
section
variable {X : Cx} {W : WX} {x : Str} {p pos : Pos} {e : Expr} {es : List Expr} {k n : Nat} {f : Addr} {fd : FuncData} {ps : List Str}
theorem do_call {g : List PyData → R O} {fa : DEnv → R (List PyData)} (F : FnOk X.prog X.w X.K X.mg X.base (L2.CX X.prog X.w) k f fd ps (spD X.K n g)) (tk : Takes X W) (hr : Room k X.A) (hg : Gl X x) (hm : X.mg x = some (.ref f)) (hk : PySem.W.keepIn X.K (.ref f) = true) (hb : Binds X.K fd ps [])
    (ha : DA X W (e :: es) fa) (hc : CountA fa n) (hdb : (x == ("__debug__" : Str)) = false := by decide) (he : starEach (e :: es) X.env = (false, eval e X.env) :: starEach es X.env := by rfl) (hpl : (backTo pos (starEach es X.env)).any (·.1) = false := by rfl) :
    DO X W (.Call (.Name x p) (e :: es) [] pos) (dApp g fa) := by
  obtain ⟨ta, pa, ia⟩ := ha
  refine ⟨_, pe_callS F hr hg hm hk hb (fun σ => passAt tk σ) pa hdb he hpl, fun G H σ δ Q s rl q => ?_⟩
  unfold dApp at q
  refine ia G H σ δ _ s rl ?_
  cases hf : fa δ with
  | ok xs =>
    rw [hf] at q
    intro vs G1 H1 e1 d1
    exact ⟨G1, xs, e1.sub, d1, hc δ xs hf, AftE.wof (fun _ _ _ h => h) (AftE.ext e1 q)⟩
  | ex x => rw [hf] at q; exact q
  | bad => rw [hf] at q; exact q.elim
end
end DL
set_option Elab.async false
set_option linter.all false
set_option maxRecDepth 100000
set_option maxHeartbeats 4000000
set_option autoImplicit false
/-! DL4: statements by data: slots of data and lists of one's own. -/
namespace DL
open PySem PySem.Spec L2
open PyProof.Rows hiding St

/-! ### no list within -/
mutual
def flat : PyData → Bool
  | .list _ => false
  | .dict _ => false
  | .tuple ds => flatAll ds
  | .none => true
  | .bool _ => true
  | .int _ => true
  | .str _ => true
def flatAll : List PyData → Bool
  | [] => true
  | d :: ds => flat d && flatAll ds
end
def O.flat : O → Bool
  | .val d => DL.flat d
  | .own ds => flatAll ds
def Ex.flat (x : Ex) : Bool := match x.fld with
  | none => true
  | some (_, d) => DL.flat d
@[simp] theorem flat_list (l : List PyData) : flat (.list l) = false := by simp [flat]
@[simp] theorem flat_tuple (l : List PyData) : flat (.tuple l) = flatAll l := by simp [flat]
@[simp] theorem flat_none : flat .none = true := by simp [flat]
@[simp] theorem flat_bool (b : Bool) : flat (.bool b) = true := by simp [flat]
@[simp] theorem flat_int (b : Int) : flat (.int b) = true := by simp [flat]
@[simp] theorem flat_str (b : Str) : flat (.str b) = true := by simp [flat]
@[simp] theorem flatAll_nil : flatAll [] = true := by simp [flatAll]
@[simp] theorem flatAll_cons (d : PyData) (l : List PyData) : flatAll (d :: l) = (flat d && flatAll l) := by simp [flatAll]
theorem flatAll_all : ∀ l : List PyData, flatAll l = l.all flat
  | [] => by simp
  | d :: l => by simp [flatAll_all l]
theorem flatAll_map {α : Type} (f : α → PyData) (h : ∀ a, flat (f a) = true) (l : List α) : flatAll (l.map f) = true := by
  rw [flatAll_all, List.all_map]
  simp [h]
@[simp] theorem flatAll_ints (l : List Int) : flatAll (l.map .int) = true := flatAll_map _ (fun _ => by simp) l
@[simp] theorem flatAll_append (l m : List PyData) : flatAll (l ++ m) = (flatAll l && flatAll m) := by simp [flatAll_all]

open Classical in
/-- G without what P says -/
noncomputable def minus (G : Hp) (P : Addr → Prop) : Hp := fun b => if P b then none else G b
open Classical in
/-- F, and what H has where P says -/
noncomputable def plus (F H : Hp) (P : Addr → Prop) : Hp := fun b => if P b then H b else F b
theorem minus_no {G : Hp} {P : Addr → Prop} {b : Addr} (h : ¬ P b) : minus G P b = G b := by unfold minus; rw [if_neg h]
theorem minus_yes {G : Hp} {P : Addr → Prop} {b : Addr} (h : P b) : minus G P b = none := by unfold minus; rw [if_pos h]
theorem plus_no {F H : Hp} {P : Addr → Prop} {b : Addr} (h : ¬ P b) : plus F H P b = F b := by unfold plus; rw [if_neg h]
theorem plus_yes {F H : Hp} {P : Addr → Prop} {b : Addr} (h : P b) : plus F H P b = H b := by unfold plus; rw [if_pos h]
/-- where P says there are lists -/
def Lists (G : Hp) (P : Addr → Prop) : Prop := ∀ b o, P b → G b = some o → ∃ vs, o = .lst vs
mutual
theorem flat_minus {K : PySem.W.Frag} {G : Hp} {P : Addr → Prop} (hP : Lists G P) : ∀ {v : V} {d : PyData}, Dp K G v d → flat d = true → Dp K (minus G P) v d
  | _, _, .non, _ => .non
  | _, _, .bl b, _ => .bl b
  | _, _, .int i, _ => .int i
  | _, _, .str x, _ => .str x
  | _, _, .lst _ _, f => by simp at f
  | _, _, .tup (a := a) (xs := xs) h al, f => by
    refine .tup ?_ (flatAll_minus hP al (by simpa using f))
    rcases h with (h | ⟨o, h⟩) | h
    · refine .inl (.inl ?_)
      rw [minus_no]
      · exact h
      · intro p
        obtain ⟨vs, e⟩ := hP a _ p h
        cases e
    · refine .inl (.inr ⟨o, ?_⟩)
      rw [minus_no]
      · exact h
      · intro p
        obtain ⟨vs, e⟩ := hP a _ p h
        cases e
    · exact .inr h
theorem flatAll_minus {K : PySem.W.Frag} {G : Hp} {P : Addr → Prop} (hP : Lists G P) : ∀ {vs : List V} {ds : List PyData}, DpAll K G vs ds → flatAll ds = true → DpAll K (minus G P) vs ds
  | _, _, .nil, _ => .nil
  | _, _, .cons h t, f => by
    rw [flatAll_cons, Bool.and_eq_true] at f
    exact .cons (flat_minus hP h f.1) (flatAll_minus hP t f.2)
end

/-! ### the state of a body -/
/-- slot i holds an own list, at b -/
def OwnAt (σ : St) (δ : DEnv) (i : Nat) (b : Addr) : Prop := ∃ ds : List PyData, δ[i]? = some (some (.own ds)) ∧ σ[i]? = some (some (.ref b))
def Ow (σ : St) (δ : DEnv) (b : Addr) : Prop := ∃ i, OwnAt σ δ i b
structure Rel (K : PySem.W.Frag) (pn : List (Addr × Obj)) (F H : Hp) (σ : St) (δ : DEnv) : Prop where
  sub : Same F H
  len : δ.length = σ.length
  val : ∀ (i : Nat) (d : PyData), δ[i]? = some (some (.val d)) → ∃ v, σ[i]? = some (some v) ∧ Sl K pn F v d
  own : ∀ (i : Nat) (ds : List PyData), δ[i]? = some (some (.own ds)) → ∃ a vs, σ[i]? = some (some (.ref a)) ∧ H a = some (.lst vs) ∧ F a = none ∧ DpAll K F vs ds
  dis : ∀ (i j : Nat) (a : Addr), OwnAt σ δ i a → OwnAt σ δ j a → i = j
structure SExt (F H : Hp) (O : Addr → Prop) (F' H' : Hp) (O' : Addr → Prop) : Prop where
  ff : Same F F'
  hh : ∀ b o, H b = some o → ¬ O b → H' b = some o
  dom : ∀ b, F' b ≠ none → F b ≠ none ∨ O b ∨ H b = none
  own : ∀ b, O' b → O b ∨ H b = none
theorem SExt.refl {F H : Hp} {O : Addr → Prop} : SExt F H O F H O := ⟨Same.refl _, fun _ _ h _ => h, fun _ h => .inl h, fun _ h => .inl h⟩
theorem SExt.trans {F H F1 H1 F2 H2 : Hp} {O O1 O2 : Addr → Prop} (a : SExt F H O F1 H1 O1) (b : SExt F1 H1 O1 F2 H2 O2) : SExt F H O F2 H2 O2 := by
  have key : ∀ c, O1 c ∨ H1 c = none → O c ∨ H c = none := fun c h => by
    rcases h with h | h
    · exact a.own c h
    · cases hc : H c with
      | none => exact .inr rfl
      | some o =>
        by_cases ho : O c
        · exact .inl ho
        · rw [a.hh c o hc ho] at h
          cases h
  refine ⟨a.ff.trans b.ff, fun c o h ho => b.hh c o (a.hh c o h ho) fun h1 => ?_, fun c h => ?_, fun c h => key c (b.own c h)⟩
  · rcases a.own c h1 with z | z
    · exact ho z
    · rw [h] at z; cases z
  · rcases b.dom c h with z | z
    · exact a.dom c z
    · exact .inr (key c z)
theorem Rel.there {K : PySem.W.Frag} {pn : List (Addr × Obj)} {F H : Hp} {σ : St} {δ : DEnv} (r : Rel K pn F H σ δ) {b : Addr} (h : Ow σ δ b) : ∃ vs, H b = some (.lst vs) ∧ F b = none := by
  obtain ⟨i, ds, h1, h2⟩ := h
  obtain ⟨a, vs, e, h3, h4, _⟩ := r.own i ds h1
  rw [h2] at e
  cases e
  exact ⟨vs, h3, h4⟩
/-- another list in the slot of an own list -/
theorem Rel.mut {K : PySem.W.Frag} {pn : List (Addr × Obj)} {F H : Hp} {σ : St} {δ : DEnv} (r : Rel K pn F H σ δ) {i : Nat} {a : Addr} {ds es : List PyData} {ws : List V} (h1 : δ[i]? = some (some (.own ds))) (h2 : σ[i]? = some (some (.ref a))) (hw : DpAll K F ws es) :
    Rel K pn F (upd H a (.lst ws)) σ (δ.set i (some (.own es))) ∧ SExt F H (Ow σ δ) F (upd H a (.lst ws)) (Ow σ (δ.set i (some (.own es)))) := by
  have hi : i < δ.length := (List.getElem?_eq_some_iff.mp h1).1
  have ha : OwnAt σ δ i a := ⟨ds, h1, h2⟩
  have back : ∀ j b, OwnAt σ (δ.set i (some (.own es))) j b → OwnAt σ δ j b := fun j b ⟨fs, e1, e2⟩ => by
    by_cases hj : i = j
    · subst hj
      exact ⟨ds, h1, e2⟩
    · rw [List.getElem?_set_ne hj] at e1
      exact ⟨fs, e1, e2⟩
  obtain ⟨vs0, hH, hF⟩ := r.there ⟨i, ha⟩
  refine ⟨⟨fun b o e => ?_, by rw [List.length_set]; exact r.len, fun j d e => ?_, fun j fs e => ?_, fun j k b x y => r.dis j k b (back j b x) (back k b y)⟩,
    ⟨Same.refl _, fun b o e hb => ?_, fun b h => .inl h, fun b ⟨j, h⟩ => .inl ⟨j, back j b h⟩⟩⟩
  · rw [upd_ne (ne_of_none e hF)]
    exact r.sub b o e
  · by_cases hj : i = j
    · subst hj
      rw [List.getElem?_set_self hi] at e
      cases e
    · rw [List.getElem?_set_ne hj] at e
      exact r.val j d e
  · by_cases hj : i = j
    · subst hj
      rw [List.getElem?_set_self hi] at e
      cases e
      exact ⟨a, ws, h2, upd_same, hF, hw⟩
    · rw [List.getElem?_set_ne hj] at e
      obtain ⟨b, vs, q1, q2, q3, q4⟩ := r.own j fs e
      refine ⟨b, vs, q1, ?_, q3, q4⟩
      rw [upd_ne]
      · exact q2
      · rintro rfl
        exact hj (r.dis i j b ha ⟨fs, e, q1⟩)
  · rw [upd_ne]
    · exact e
    · rintro rfl
      exact hb ⟨i, ha⟩
/-- data in a slot -/
theorem Rel.setV {K : PySem.W.Frag} {pn : List (Addr × Obj)} {F H : Hp} {σ : St} {δ : DEnv} (r : Rel K pn F H σ δ) {i : Nat} {v : V} {d : PyData} (hi : i < δ.length) (h : Sl K pn F v d) :
    Rel K pn F H (σ.set i (some v)) (δ.set i (some (.val d))) ∧ SExt F H (Ow σ δ) F H (Ow (σ.set i (some v)) (δ.set i (some (.val d)))) := by
  have hs : i < σ.length := by rw [← r.len]; exact hi
  have back : ∀ j b, OwnAt (σ.set i (some v)) (δ.set i (some (.val d))) j b → OwnAt σ δ j b := fun j b ⟨fs, e1, e2⟩ => by
    by_cases hj : i = j
    · subst hj
      rw [List.getElem?_set_self hi] at e1
      cases e1
    · rw [List.getElem?_set_ne hj] at e1 e2
      exact ⟨fs, e1, e2⟩
  refine ⟨⟨r.sub, by rw [List.length_set, List.length_set]; exact r.len, fun j e q => ?_, fun j fs e => ?_, fun j k b x y => r.dis j k b (back j b x) (back k b y)⟩,
    ⟨Same.refl _, fun b o e _ => e, fun b h => .inl h, fun b ⟨j, h⟩ => .inl ⟨j, back j b h⟩⟩⟩
  · by_cases hj : i = j
    · subst hj
      rw [List.getElem?_set_self hi] at q
      cases q
      exact ⟨v, by rw [List.getElem?_set_self hs], h⟩
    · rw [List.getElem?_set_ne hj] at q ⊢
      exact r.val j e q
  · by_cases hj : i = j
    · subst hj
      rw [List.getElem?_set_self hi] at e
      cases e
    · rw [List.getElem?_set_ne hj] at e ⊢
      exact r.own j fs e
/-- a new own list in a slot -/
theorem Rel.setO {K : PySem.W.Frag} {pn : List (Addr × Obj)} {F H : Hp} {σ : St} {δ : DEnv} (r : Rel K pn F H σ δ) {i : Nat} {a : Addr} {vs : List V} {ds : List PyData} (hi : i < δ.length) (ha : H a = some (.lst vs)) (hF : F a = none) (no : ¬ Ow σ δ a) (h : DpAll K F vs ds) :
    Rel K pn F H (σ.set i (some (.ref a))) (δ.set i (some (.own ds))) ∧ ∀ b, Ow (σ.set i (some (.ref a))) (δ.set i (some (.own ds))) b → b = a ∨ Ow σ δ b := by
  have hs : i < σ.length := by rw [← r.len]; exact hi
  have back : ∀ j b, OwnAt (σ.set i (some (.ref a))) (δ.set i (some (.own ds))) j b → (j = i ∧ b = a) ∨ (j ≠ i ∧ OwnAt σ δ j b) := fun j b ⟨fs, e1, e2⟩ => by
    by_cases hj : i = j
    · subst hj
      rw [List.getElem?_set_self hs] at e2
      cases e2
      exact .inl ⟨rfl, rfl⟩
    · rw [List.getElem?_set_ne hj] at e1 e2
      exact .inr ⟨fun z => hj z.symm, fs, e1, e2⟩
  refine ⟨⟨r.sub, by rw [List.length_set, List.length_set]; exact r.len, fun j e q => ?_, fun j fs e => ?_, fun j k b x y => ?_⟩, fun b ⟨j, h⟩ => ?_⟩
  · by_cases hj : i = j
    · subst hj
      rw [List.getElem?_set_self hi] at q
      cases q
    · rw [List.getElem?_set_ne hj] at q ⊢
      exact r.val j e q
  · by_cases hj : i = j
    · subst hj
      rw [List.getElem?_set_self hi] at e
      cases e
      exact ⟨a, vs, by rw [List.getElem?_set_self hs], ha, hF, h⟩
    · rw [List.getElem?_set_ne hj] at e ⊢
      exact r.own j fs e
  · rcases back j b x with ⟨e1, e2⟩ | ⟨n1, x'⟩
    · rcases back k b y with ⟨e3, _⟩ | ⟨_, y'⟩
      · rw [e1, e3]
      · exact absurd ⟨k, by rw [e2] at y'; exact y'⟩ no
    · rcases back k b y with ⟨e3, e4⟩ | ⟨_, y'⟩
      · exact absurd ⟨j, by rw [e4] at x'; exact x'⟩ no
      · exact r.dis j k b x' y'
  · rcases back j b h with ⟨_, z⟩ | ⟨_, z⟩
    · exact .inl z
    · exact .inr ⟨j, z⟩
/-- F may grow by data that is not own -/
theorem Rel.grow {K : PySem.W.Frag} {pn : List (Addr × Obj)} {F H F' : Hp} {σ : St} {δ : DEnv} (r : Rel K pn F H σ δ) {H' : Hp} (e : Same F F') (s : Same F' H') (hh : Same H H') (no : ∀ b, Ow σ δ b → F' b = none) : Rel K pn F' H' σ δ :=
  ⟨s, r.len, fun i d h => let ⟨v, a, b⟩ := r.val i d h; ⟨v, a, b.same e⟩, fun i ds h => by
    obtain ⟨a, vs, h1, h2, h3, h4⟩ := r.own i ds h
    exact ⟨a, vs, h1, hh _ _ h2, no a ⟨i, ds, h, h1⟩, h4.same e⟩, r.dis⟩

/-! ### an expression within a statement -/
/-- the own lists that ms does not name are hidden -/
def vis (ms : List Nat) (δ : DEnv) : DEnv := δ.mapIdx fun i o => match o with
  | some (.own ds) => if i ∈ ms then some (.own ds) else none
  | o => o
/-- the own lists that ms names become data -/
def frz (ms : List Nat) (δ : DEnv) : DEnv := δ.mapIdx fun i o => match o with
  | some (.own ds) => if i ∈ ms then some (.val (.list ds)) else some (.own ds)
  | o => o
/-- the value, and the slots behind it: where a list may hang in the value, what it was read from is no more changed -/
def exE (ms : List Nat) (f : DEnv → R O) (δ : DEnv) : R (O × DEnv) := match f δ with
  | .ok o => if o.flat = true then .ok (o, δ) else (match f (vis ms δ) with
    | .ok o' => .ok (o', frz ms δ)
    | _ => .bad)
  | .ex x => if x.flat = true then .ex x else .bad
  | .bad => .bad
theorem exE_flat {ms : List Nat} {f : DEnv → R O} {δ : DEnv} {o : O} (h : f δ = .ok o) (hf : o.flat = true) : exE ms f δ = .ok (o, δ) := by
  unfold exE
  rw [h]
  simp only
  rw [if_pos hf]
def AftX' (K : PySem.W.Frag) (pn : List (Addr × Obj)) (W : WX) (F H : Hp) (σ : St) (δ : DEnv) (x : Ex) : Prop := ∀ cls d F' H', SExt F H (Ow σ δ) F' H' (Ow σ δ) → Rel K pn F' H' σ δ → ExRep K F' H' cls d x → W cls d σ H'
def AftS1 (K : PySem.W.Frag) (pn : List (Addr × Obj)) (W : WX) (F H : Hp) (σ : St) (δ : DEnv) (Q : VK) : R (O × DEnv) → Prop
  | .ok (.val d, δ') => ∀ v F' H', SExt F H (Ow σ δ) F' H' (Ow σ δ') → Rel K pn F' H' σ δ' → Dp K F' v d → Q v H'
  | .ok (.own ds, δ') => ∀ a vs F' H', SExt F H (Ow σ δ) F' H' (fun b => b = a ∨ Ow σ δ' b) → Rel K pn F' H' σ δ' → ¬ Ow σ δ' a → F' a = none → H' a = some (.lst vs) → DpAll K F' vs ds → Q (.ref a) H'
  | .ex x => AftX' K pn W F H σ δ x
  | .bad => False
section
variable {K : PySem.W.Frag} {pn : List (Addr × Obj)} {W : WX} {F H : Hp} {σ : St} {δ : DEnv}
theorem vis_get {ms : List Nat} {δ : DEnv} {i : Nat} {o : O} (h : (vis ms δ)[i]? = some (some o)) : δ[i]? = some (some o) ∧ (∀ ds, o = .own ds → i ∈ ms) := by
  unfold vis at h
  rw [List.getElem?_mapIdx] at h
  cases hd : δ[i]? with
  | none => rw [hd] at h; cases h
  | some p =>
    rw [hd] at h
    cases p with
    | none => cases h
    | some p =>
      cases p with
      | val d =>
        cases h
        exact ⟨rfl, fun ds e => by cases e⟩
      | own ds =>
        simp only [Option.map_some] at h
        split at h
        · rename_i hm
          cases h
          exact ⟨rfl, fun _ _ => hm⟩
        · cases h
/-- the own lists of ms -/
def OwM (ms : List Nat) (σ : St) (δ : DEnv) (b : Addr) : Prop := ∃ i, i ∈ ms ∧ OwnAt σ δ i b
theorem frz_get {ms : List Nat} {δ : DEnv} {i : Nat} {o : O} (h : (frz ms δ)[i]? = some (some o)) : (δ[i]? = some (some o) ∧ ∀ ds, o = .own ds → i ∉ ms) ∨ ∃ ds, δ[i]? = some (some (.own ds)) ∧ o = .val (.list ds) ∧ i ∈ ms := by
  unfold frz at h
  rw [List.getElem?_mapIdx] at h
  cases hd : δ[i]? with
  | none => rw [hd] at h; cases h
  | some p =>
    rw [hd] at h
    cases p with
    | none => cases h
    | some p =>
      cases p with
      | val d =>
        cases h
        exact .inl ⟨rfl, fun ds e => by cases e⟩
      | own ds =>
        simp only [Option.map_some] at h
        split at h
        · rename_i hm
          cases h
          exact .inr ⟨ds, rfl, rfl, hm⟩
        · rename_i hm
          cases h
          exact .inl ⟨rfl, fun _ _ => hm⟩
/-- what an expression sees: F and the own lists of P -/
theorem Rel.plus {P : Addr → Prop} (r : Rel K pn F H σ δ) (hP : ∀ b, P b → Ow σ δ b) : Same F (DL.plus F H P) ∧ Same (DL.plus F H P) H := by
  refine ⟨fun b o e => ?_, fun b o e => ?_⟩
  · rw [plus_no]
    · exact e
    · intro p
      obtain ⟨_, _, z⟩ := r.there (hP b p)
      rw [z] at e
      cases e
  · by_cases p : P b
    · rw [plus_yes p] at e
      exact e
    · rw [plus_no p] at e
      exact r.sub b o e
theorem Rel.sees (r : Rel K pn F H σ δ) : RelE K pn (DL.plus F H (Ow σ δ)) σ δ := ⟨r.len, fun i o h => by
  obtain ⟨p1, p2⟩ := r.plus (P := Ow σ δ) fun _ h => h
  cases o with
  | val d =>
    obtain ⟨v, h1, h2⟩ := r.val i d h
    exact ⟨v, h1, h2.same p1⟩
  | own ds =>
    obtain ⟨a, vs, h1, h2, h3, h4⟩ := r.own i ds h
    refine ⟨.ref a, h1, .inl (.lst (SqL.of ?_) (h4.same p1))⟩
    rw [plus_yes ⟨i, ds, h, h1⟩]
    exact h2⟩
theorem Rel.seesM (r : Rel K pn F H σ δ) (ms : List Nat) : RelE K pn (DL.plus F H (OwM ms σ δ)) σ (vis ms δ) := ⟨by unfold vis; rw [List.length_mapIdx]; exact r.len, fun i o h => by
  obtain ⟨p1, p2⟩ := r.plus (P := OwM ms σ δ) fun b ⟨i, _, h⟩ => ⟨i, h⟩
  obtain ⟨h, hm⟩ := vis_get h
  cases o with
  | val d =>
    obtain ⟨v, h1, h2⟩ := r.val i d h
    exact ⟨v, h1, h2.same p1⟩
  | own ds =>
    obtain ⟨a, vs, h1, h2, h3, h4⟩ := r.own i ds h
    refine ⟨.ref a, h1, .inl (.lst (SqL.of ?_) (h4.same p1))⟩
    rw [plus_yes ⟨i, hm ds rfl, ds, h, h1⟩]
    exact h2⟩
/-- behind an expression whose value has no list: the own lists stay own -/
theorem Rel.behind (r : Rel K pn F H σ δ) {G' H' : Hp} (e : Ext (DL.plus F H (Ow σ δ)) H G' H') :
    Rel K pn (minus G' (Ow σ δ)) H' σ δ ∧ SExt F H (Ow σ δ) (minus G' (Ow σ δ)) H' (Ow σ δ) ∧ Lists G' (Ow σ δ) := by
  obtain ⟨p1, p2⟩ := r.plus (P := Ow σ δ) fun _ h => h
  have ff : Same F (minus G' (Ow σ δ)) := fun b o h => by
    rw [minus_no]
    · exact e.gg b o (p1 b o h)
    · intro z
      obtain ⟨_, _, z⟩ := r.there z
      rw [z] at h
      cases h
  refine ⟨r.grow ff (fun b o h => ?_) e.hh fun b h => minus_yes h, ⟨ff, fun b o h _ => e.hh b o h, fun b h => ?_, fun b h => .inl h⟩, fun b o hb h => ?_⟩
  · by_cases hb : Ow σ δ b
    · rw [minus_yes hb] at h
      cases h
    · rw [minus_no hb] at h
      exact e.sub b o h
  · by_cases hb : Ow σ δ b
    · exact .inr (.inl hb)
    · rw [minus_no hb] at h
      rcases e.dom b h with z | z
      · rw [plus_no hb] at z
        exact .inl z
      · exact .inr (.inr z)
  · obtain ⟨vs, h1, _⟩ := r.there hb
    have z := e.sub b o h
    rw [e.hh b _ h1] at z
    cases z
    exact ⟨vs, rfl⟩
/-- behind one whose value may have lists: the own lists of ms are data from now on -/
theorem Rel.behindM (r : Rel K pn F H σ δ) {ms : List Nat} {G' H' : Hp} (e : Ext (DL.plus F H (OwM ms σ δ)) H G' H') :
    Rel K pn G' H' σ (frz ms δ) ∧ SExt F H (Ow σ δ) G' H' (Ow σ (frz ms δ)) ∧ (∀ b, Ow σ (frz ms δ) b → Ow σ δ b) := by
  obtain ⟨p1, p2⟩ := r.plus (P := OwM ms σ δ) fun b ⟨i, _, h⟩ => ⟨i, h⟩
  have back : ∀ j b, OwnAt σ (frz ms δ) j b → OwnAt σ δ j b ∧ j ∉ ms := fun j b ⟨fs, e1, e2⟩ => by
    rcases frz_get e1 with ⟨h, hm⟩ | ⟨ds, h, z, _⟩
    · exact ⟨⟨fs, h, e2⟩, hm fs rfl⟩
    · cases z
  have ff : Same F G' := p1.trans e.gg
  refine ⟨⟨e.sub, by unfold frz; rw [List.length_mapIdx]; exact r.len, fun i d h => ?_, fun i ds h => ?_, fun i j b x y => r.dis i j b (back i b x).1 (back j b y).1⟩,
    ⟨ff, fun b o h _ => e.hh b o h, fun b h => ?_, fun b ⟨j, h⟩ => .inl ⟨j, (back j b h).1⟩⟩, fun b ⟨j, h⟩ => ⟨j, (back j b h).1⟩⟩
  · rcases frz_get h with ⟨h', _⟩ | ⟨ds, h', z, hm⟩
    · obtain ⟨v, h1, h2⟩ := r.val i d h'
      exact ⟨v, h1, h2.same ff⟩
    · cases z
      obtain ⟨a, vs, h1, h2, h3, h4⟩ := r.own i ds h'
      refine ⟨.ref a, h1, .inl (.lst (SqL.of ?_) (h4.same ff))⟩
      refine e.gg a _ ?_
      rw [plus_yes ⟨i, hm, ds, h', h1⟩]
      exact h2
  · rcases frz_get h with ⟨h, hm⟩ | ⟨_, _, z, _⟩
    · obtain ⟨a, vs, h1, h2, h3, h4⟩ := r.own i ds h
      refine ⟨a, vs, h1, e.hh _ _ h2, ?_, h4.same ff⟩
      cases hg : G' a with
      | none => rfl
      | some o =>
        rcases e.dom a (by rw [hg]; exact fun z => by cases z) with z | z
        · rw [plus_no] at z
          · exact absurd h3 z
          · rintro ⟨j, hj, hq⟩
            have := r.dis i j a ⟨ds, h, h1⟩ hq
            subst this
            exact hm ds rfl hj
        · rw [h2] at z
          cases z
    · cases z
  · rcases e.dom b h with z | z
    · by_cases hb : OwM ms σ δ b
      · obtain ⟨i, _, q⟩ := hb
        exact .inr (.inl ⟨i, q⟩)
      · rw [plus_no hb] at z
        exact .inl z
    · exact .inr (.inr z)
theorem ExRep.minus {G H' : Hp} {cls : Value} {d : Option Addr} {x : Ex} {P : Addr → Prop} (hP : Lists G P) (hf : x.flat = true) (h : ExRep K G H' cls d x) : ExRep K (DL.minus G P) H' cls d x := by
  obtain ⟨h1, h2⟩ := h
  refine ⟨h1, ?_⟩
  obtain ⟨xc, xf⟩ := x
  cases xf with
  | none => exact h2
  | some p =>
    obtain ⟨f, e⟩ := p
    obtain ⟨a, v, e1, e2, e3⟩ := h2
    refine ⟨a, v, e1, ?_, flat_minus hP e3 hf⟩
    rw [minus_no]
    · exact e2
    · intro p
      obtain ⟨vs, e⟩ := hP a _ p e2
      cases e
/-- THE STEP: an expression within a statement -/
theorem eval_in {te : TE} {f : DEnv → R O} (ms : List Nat) (ie : ∀ G H σ δ Q, Same G H → RelE K pn G σ δ → AftE K W σ G H Q (f δ) → te σ H Q) (r : Rel K pn F H σ δ) {Q : VK} (h : AftS1 K pn W F H σ δ Q (exE ms f δ)) : te σ H Q := by
  unfold exE at h
  have exc : ∀ {P : Addr → Prop} {δ0 : DEnv}, True := fun {_ _} => True.intro
  cases hf : f δ with
  | ok o =>
    rw [hf] at h
    simp only at h
    by_cases hfl : o.flat = true
    · rw [if_pos hfl] at h
      obtain ⟨p1, p2⟩ := r.plus (P := Ow σ δ) fun _ h => h
      refine ie (DL.plus F H (Ow σ δ)) H σ δ Q p2 r.sees ?_
      rw [hf]
      cases o with
      | val d =>
        intro v G' H' e q
        obtain ⟨r1, s1, l1⟩ := r.behind e
        exact h v _ H' s1 r1 (flat_minus l1 q hfl)
      | own ds =>
        intro a vs G' H' e hn hg hq q
        obtain ⟨r1, s1, l1⟩ := r.behind e
        have na : ¬ Ow σ δ a := fun z => by
          obtain ⟨vs, z, _⟩ := r.there z
          rw [hn] at z
          cases z
        refine h a vs _ H' ⟨s1.ff, s1.hh, s1.dom, fun b hb => ?_⟩ r1 na ?_ hq (flatAll_minus l1 q hfl)
        · rcases hb with rfl | hb
          · exact .inr hn
          · exact .inl hb
        · rw [minus_no na]
          exact hg
    · rw [if_neg hfl] at h
      obtain ⟨p1, p2⟩ := r.plus (P := OwM ms σ δ) fun b ⟨i, _, h⟩ => ⟨i, h⟩
      refine ie (DL.plus F H (OwM ms σ δ)) H σ (vis ms δ) Q p2 (r.seesM ms) ?_
      cases hf' : f (vis ms δ) with
      | ok o' =>
        rw [hf'] at h
        cases o' with
        | val d =>
          intro v G' H' e q
          obtain ⟨r1, s1, b1⟩ := r.behindM e
          exact h v _ H' s1 r1 q
        | own ds =>
          intro a vs G' H' e hn hg hq q
          obtain ⟨r1, s1, b1⟩ := r.behindM e
          have na : ¬ Ow σ (frz ms δ) a := fun z => by
            obtain ⟨vs, z, _⟩ := r.there (b1 a z)
            rw [hn] at z
            cases z
          refine h a vs _ H' ⟨s1.ff, s1.hh, s1.dom, fun b hb => ?_⟩ r1 na hg hq q
          rcases hb with rfl | hb
          · exact .inr hn
          · exact s1.own b hb
      | ex x => rw [hf'] at h; exact h.elim
      | bad => rw [hf'] at h; exact h.elim
  | ex x =>
    rw [hf] at h
    simp only at h
    by_cases hfl : x.flat = true
    · rw [if_pos hfl] at h
      obtain ⟨p1, p2⟩ := r.plus (P := Ow σ δ) fun _ h => h
      refine ie (DL.plus F H (Ow σ δ)) H σ δ Q p2 r.sees ?_
      rw [hf]
      intro cls d G' H' e q
      obtain ⟨r1, s1, l1⟩ := r.behind e
      exact h cls d _ H' s1 r1 (q.minus l1 hfl)
    · rw [if_neg hfl] at h
      exact h.elim
  | bad => rw [hf] at h; exact h.elim
/-- a test within a statement -/
def exT (f : DEnv → R Bool) (δ : DEnv) : R Bool := match f δ with
  | .ok b => .ok b
  | .ex x => if x.flat = true then .ex x else .bad
  | .bad => .bad
def AftS1T (K : PySem.W.Frag) (pn : List (Addr × Obj)) (W : WX) (F H : Hp) (σ : St) (δ : DEnv) (Q : Bool → Hp → Prop) : R Bool → Prop
  | .ok b => ∀ F' H', SExt F H (Ow σ δ) F' H' (Ow σ δ) → Rel K pn F' H' σ δ → Q b H'
  | .ex x => AftX' K pn W F H σ δ x
  | .bad => False
theorem test_in {tt : TT} {f : DEnv → R Bool} (ie : ∀ G H σ δ Q, Same G H → RelE K pn G σ δ → AftB K W σ G H Q (f δ) → tt σ H Q) (r : Rel K pn F H σ δ) {Q : Bool → Hp → Prop} (h : AftS1T K pn W F H σ δ Q (exT f δ)) : tt σ H Q := by
  unfold exT at h
  obtain ⟨p1, p2⟩ := r.plus (P := Ow σ δ) fun _ h => h
  refine ie (DL.plus F H (Ow σ δ)) H σ δ Q p2 r.sees ?_
  cases hf : f δ with
  | ok b =>
    rw [hf] at h
    intro G' H' e
    obtain ⟨r1, s1, l1⟩ := r.behind e
    exact h _ H' s1 r1
  | ex x =>
    rw [hf] at h
    simp only at h
    by_cases hfl : x.flat = true
    · rw [if_pos hfl] at h
      intro cls d G' H' e q
      obtain ⟨r1, s1, l1⟩ := r.behind e
      exact h cls d _ H' s1 r1 (q.minus l1 hfl)
    · rw [if_neg hfl] at h
      exact h.elim
  | bad => rw [hf] at h; exact h.elim
end

/-! ### outcomes of statements -/
inductive SO where
  | nx (δ : DEnv)
  | bk (δ : DEnv)
  | ct (δ : DEnv)
  | rt (o : O)
  | ex (x : Ex) (δ : DEnv)
  | bad
def AftS (K : PySem.W.Frag) (pn : List (Addr × Obj)) (W : WX) (F H : Hp) (P : Addr → Prop) (D : Ends) : SO → Prop
  | .nx δ' => ∀ σ' F' H', SExt F H P F' H' (Ow σ' δ') → Rel K pn F' H' σ' δ' → D.nx σ' H'
  | .bk δ' => ∀ σ' F' H', SExt F H P F' H' (Ow σ' δ') → Rel K pn F' H' σ' δ' → D.bk σ' H'
  | .ct δ' => ∀ σ' F' H', SExt F H P F' H' (Ow σ' δ') → Rel K pn F' H' σ' δ' → D.ct σ' H'
  | .rt (.val d) => ∀ v F' H', SExt F H P F' H' (fun _ => False) → Same F' H' → Dp K F' v d → D.rt v H'
  | .rt (.own ds) => ∀ a vs F' H', SExt F H P F' H' (fun b => b = a) → Same F' H' → F' a = none → H' a = some (.lst vs) → DpAll K F' vs ds → D.rt (.ref a) H'
  | .ex x δ' => ∀ cls d σ' F' H', SExt F H P F' H' (Ow σ' δ') → Rel K pn F' H' σ' δ' → ExRep K F' H' cls d x → W cls d σ' H'
  | .bad => False
theorem AftS.ext {K : PySem.W.Frag} {pn : List (Addr × Obj)} {W : WX} {F H F1 H1 : Hp} {P P1 : Addr → Prop} {D : Ends} (e : SExt F H P F1 H1 P1) : ∀ {r : SO}, AftS K pn W F H P D r → AftS K pn W F1 H1 P1 D r
  | .nx _, h => fun σ' F' H' s r => h σ' F' H' (e.trans s) r
  | .bk _, h => fun σ' F' H' s r => h σ' F' H' (e.trans s) r
  | .ct _, h => fun σ' F' H' s r => h σ' F' H' (e.trans s) r
  | .rt (.val _), h => fun v F' H' s r q => h v F' H' (e.trans s) r q
  | .rt (.own _), h => fun a vs F' H' s r q1 q2 q3 => h a vs F' H' (e.trans s) r q1 q2 q3
  | .ex _ _, h => fun cls d σ' F' H' s r q => h cls d σ' F' H' (e.trans s) r q
  | .bad, h => h
def DS (X : Cx) (W : WX) (st : Stmt) (g : DEnv → SO) : Prop :=
  ∃ ts, PS X st ts ∧ ∀ F H σ δ D, Rel X.K X.pn F H σ δ → AftS X.K X.pn W F H (Ow σ δ) D (g δ) → ts D σ H
def DSs (X : Cx) (W : WX) (sts : List Stmt) (g : DEnv → SO) : Prop :=
  ∃ ts, PSs X sts ts ∧ ∀ F H σ δ D, Rel X.K X.pn F H σ δ → AftS X.K X.pn W F H (Ow σ δ) D (g δ) → ts D σ H
def seqS (g1 g2 : DEnv → SO) : DEnv → SO := fun δ => match g1 δ with
  | .nx δ' => g2 δ'
  | o => o
section
variable {X : Cx} {W : WX} {st : Stmt} {rest sts : List Stmt} {e c : Expr} {es : List Expr} {pos p' apos : Pos}
def dNx : DEnv → SO := fun δ => .nx δ
def dBk : DEnv → SO := fun δ => .bk δ
def dCt : DEnv → SO := fun δ => .ct δ
def dBad : DEnv → SO := fun _ => .bad
def dRetN : DEnv → SO := fun _ => .rt (.val .none)
theorem dss_nil : DSs X W [] dNx := ⟨_, pss_nil, fun F H σ δ D r q => q σ F H SExt.refl r⟩
theorem dss_one {g : DEnv → SO} (h : DS X W st g) : DSs X W [st] g := by
  obtain ⟨ts, p, i⟩ := h
  exact ⟨ts, pss_one p, i⟩
theorem dss_cons {g1 g2 : DEnv → SO} (h1 : DS X W st g1) (h2 : DSs X W rest g2) : DSs X W (st :: rest) (seqS g1 g2) := by
  obtain ⟨t1, p1, i1⟩ := h1
  obtain ⟨t2, p2, i2⟩ := h2
  refine ⟨_, pss_cons p1 p2, fun F H σ δ D r q => ?_⟩
  refine i1 F H σ δ { D with nx := t2 D } r ?_
  unfold seqS at q
  cases hg : g1 δ with
  | nx δ' =>
    rw [hg] at q
    intro σ' F' H' s r'
    exact i2 F' H' σ' δ' D r' (AftS.ext s q)
  | rt o =>
    rw [hg] at q
    cases o <;> exact q
  | bk _ => rw [hg] at q; exact q
  | ct _ => rw [hg] at q; exact q
  | ex _ _ => rw [hg] at q; exact q
  | bad => rw [hg] at q; exact q
theorem ds_pass : DS X W (.Pass pos) dNx := ⟨_, ps_pass, fun F H σ δ D r q => q σ F H SExt.refl r⟩
theorem ds_break : DS X W (.Break pos) dBk := ⟨_, ps_break, fun F H σ δ D r q => q σ F H SExt.refl r⟩
theorem ds_continue : DS X W (.Continue pos) dCt := ⟨_, ps_continue, fun F H σ δ D r q => q σ F H SExt.refl r⟩
/-- code that is never reached by the data at hand -/
theorem dss_never : DSs X W sts dBad := ⟨_, pss_never, fun F H σ δ D r q => q.elim⟩

/-! x = e -/
def dSet (i : Nat) (ms : List Nat) (f : DEnv → R O) : DEnv → SO := fun δ => match exE ms f δ with
  | .ok (o, δ') => if i < δ'.length then .nx (δ'.set i (some o)) else .bad
  | .ex x => .ex x δ
  | .bad => .bad
theorem AftX'.s {K : PySem.W.Frag} {pn : List (Addr × Obj)} {F H : Hp} {σ : St} {δ : DEnv} {D : Ends} {x : Ex} (h : AftS K pn W F H (Ow σ δ) D (.ex x δ)) : AftX' K pn W F H σ δ x := fun cls d F' H' s r q => h cls d σ F' H' s r q
theorem set_in {te : TE} {i : Nat} {ms : List Nat} {f : DEnv → R O} (ie : ∀ G H σ δ Q, Same G H → RelE X.K X.pn G σ δ → AftE X.K W σ G H Q (f δ) → te σ H Q) {F H : Hp} {σ : St} {δ : DEnv} {D : Ends} (r : Rel X.K X.pn F H σ δ)
    (q : AftS X.K X.pn W F H (Ow σ δ) D (dSet i ms f δ)) : tAsg te (gName i) D σ H := by
  refine eval_in ms ie r ?_
  unfold dSet at q
  cases he : exE ms f δ with
  | ok p =>
    rw [he] at q
    obtain ⟨o, δ'⟩ := p
    simp only at q
    by_cases hi : i < δ'.length
    · rw [if_pos hi] at q
      cases o with
      | val d =>
        intro v F' H' s r' dv
        obtain ⟨r2, s2⟩ := r'.setV hi (.inl dv)
        exact q _ F' H' (s.trans s2) r2
      | own ds =>
        intro a vs F' H' s r' no hF hH dv
        obtain ⟨r2, b2⟩ := r'.setO hi hH hF no dv
        exact q _ F' H' ⟨s.ff, s.hh, s.dom, fun b hb => s.own b (b2 b hb)⟩ r2
    · rw [if_neg hi] at q
      exact q.elim
  | ex x =>
    rw [he] at q
    exact AftX'.s q
  | bad => rw [he] at q; exact q.elim
theorem ds_set {i : Nat} {x : Str} {ms : List Nat} {f : DEnv → R O} (hN : X.N.Nodup) (he : DO X W e f) (hi : X.N[i]? = some x := by rfl) (hx : Loc X.env.scope x := by first | exact .inl rfl | exact .inr rfl) (hs : swapsWith e (some (.Name x p')) pos.line X.env = pure false := by rfl)
    (hf : X.fn x = true ∨ X.env.scope.names.lookup x = some .local := by first | exact .inl rfl | exact .inr rfl | assumption) : DS X W (.Assign [.Name x p'] e pos) (dSet i ms f) := by
  obtain ⟨te, pe, ie⟩ := he
  exact ⟨_, ps_set hN hi hx pe hs hf, fun F H σ δ D r q => set_in ie r q⟩

/-! return -/
def dRet (f : DEnv → R O) : DEnv → SO := fun δ => match f δ with
  | .ok o => .rt o
  | .ex x => if x.flat = true then .ex x δ else .bad
  | .bad => .bad
theorem ds_ret {f : DEnv → R O} (he : DO X W e f) : DS X W (.Return (some e) pos) (dRet f) := by
  obtain ⟨te, pe, ie⟩ := he
  refine ⟨_, ps_ret pe, fun F H σ δ D r q => ?_⟩
  obtain ⟨p1, p2⟩ := r.plus (P := Ow σ δ) fun _ h => h
  refine ie (DL.plus F H (Ow σ δ)) H σ δ D.rt p2 r.sees ?_
  unfold dRet at q
  have dom : ∀ {G' H' : Hp}, Ext (DL.plus F H (Ow σ δ)) H G' H' → ∀ b, G' b ≠ none → F b ≠ none ∨ Ow σ δ b ∨ H b = none := fun {G' H'} e b h => by
    rcases e.dom b h with z | z
    · by_cases hb : Ow σ δ b
      · exact .inr (.inl hb)
      · rw [plus_no hb] at z
        exact .inl z
    · exact .inr (.inr z)
  cases hf : f δ with
  | ok o =>
    rw [hf] at q
    cases o with
    | val d => exact fun v G' H' e dv => q v G' H' ⟨p1.trans e.gg, fun b o h _ => e.hh b o h, dom e, fun b h => h.elim⟩ e.sub dv
    | own ds => exact fun a vs G' H' e hn hg hh dv => q a vs G' H' ⟨p1.trans e.gg, fun b o h _ => e.hh b o h, dom e, fun b h => by subst h; exact .inr hn⟩ e.sub hg hh dv
  | ex x =>
    rw [hf] at q
    simp only at q
    by_cases hfl : x.flat = true
    · rw [if_pos hfl] at q
      intro cls d G' H' e z
      obtain ⟨r1, s1, l1⟩ := r.behind e
      exact q cls d σ _ H' s1 r1 (z.minus l1 hfl)
    · rw [if_neg hfl] at q
      exact q.elim
  | bad => rw [hf] at q; exact q.elim
/-- return x: what slot i holds -/
def dRetV (i : Nat) : DEnv → SO := fun δ => match δ[i]? with
  | some (some o) => if isDict o.data = true then .bad else .rt o
  | _ => .bad
theorem ds_retV (i : Nat) {x : Str} (hN : X.N[i]? = some x := by rfl) (hv : Vis X.env.scope x := by first | exact Or.inl rfl | exact Or.inr (Or.inl rfl) | exact Or.inr (Or.inr rfl)) (hd : (x == ("__debug__" : Str)) = false := by decide)
    (hcd : (x == ("__classdict__" : Str)) = false := by decide) : DS X W (.Return (some (.Name x p')) pos) (dRetV i) := by
  refine ⟨_, ps_ret (pe_var hN hv hd hcd), fun F H σ δ D r q => ?_⟩
  unfold dRetV at q
  cases h : δ[i]? with
  | none => rw [h] at q; exact q.elim
  | some o =>
    rw [h] at q
    cases o with
    | none => exact q.elim
    | some o =>
      cases o with
      | val d =>
        obtain ⟨v, h1, h2⟩ := r.val i d h
        have q : AftS X.K X.pn W F H (Ow σ δ) D (if isDict d = true then .bad else .rt (.val d)) := q
        by_cases hd : isDict d = true
        · rw [if_pos hd] at q
          exact q.elim
        · rw [if_neg hd] at q
          exact ⟨v, h1, q v F H ⟨Same.refl _, fun b o h _ => h, fun b h => .inl h, fun b h => h.elim⟩ r.sub (h2.dp (by simpa using hd))⟩
      | own ds =>
        have q : AftS X.K X.pn W F H (Ow σ δ) D (.rt (.own ds)) := q
        obtain ⟨a, vs, h1, h2, h3, h4⟩ := r.own i ds h
        exact ⟨_, h1, q a vs F H ⟨Same.refl _, fun b o h _ => h, fun b h => .inl h, fun b hb => by subst hb; exact .inl ⟨i, ds, h, h1⟩⟩ r.sub h3 h2 h4⟩
theorem ds_retN : DS X W (.Return none pos) dRetN :=
  ⟨_, ps_retN, fun F H σ δ D r q => q .non F H ⟨Same.refl _, fun b o h _ => h, fun b h => .inl h, fun b h => h.elim⟩ r.sub .non⟩

/-! if -/
def dIfS (c : DEnv → R Bool) (g1 g2 : DEnv → SO) : DEnv → SO := fun δ => match exT c δ with
  | .ok b => if b = true then g1 δ else g2 δ
  | .ex x => .ex x δ
  | .bad => .bad
theorem ds_if {c' : DEnv → R Bool} {g1 g2 : DEnv → SO} {a b : List Stmt} (hc : DT X W c c') (ha : DSs X W a g1) (hb : DSs X W b g2) : DS X W (.If c a b pos) (dIfS c' g1 g2) := by
  obtain ⟨tc, pc, ic⟩ := hc
  obtain ⟨ta, pa, ia⟩ := ha
  obtain ⟨tb, pb, ib⟩ := hb
  refine ⟨_, ps_if pc pa pb, fun F H σ δ D r q => ?_⟩
  refine test_in ic r ?_
  unfold dIfS at q
  cases he : exT c' δ with
  | ok x =>
    rw [he] at q
    intro F' H' s r'
    cases x with
    | true => exact iteT (ia F' H' σ δ D r' (AftS.ext s q))
    | false => exact iteF (ib F' H' σ δ D r' (AftS.ext s q))
  | ex x => rw [he] at q; exact AftX'.s q
  | bad => rw [he] at q; exact q.elim

/-! while -/
def whileS (c : DEnv → R Bool) (g : DEnv → SO) : Nat → DEnv → SO
  | 0, _ => .bad
  | n + 1, δ => match exT c δ with
    | .ok b => if b = true then (match g δ with
      | .nx δ' => whileS c g n δ'
      | .ct δ' => whileS c g n δ'
      | .bk δ' => .nx δ'
      | o => o) else .nx δ
    | .ex x => .ex x δ
    | .bad => .bad
theorem ds_while {c' : DEnv → R Bool} {g : DEnv → SO} {body : List Stmt} (n : Nat) (hp : PassesOwn (model X.prog X.w) X.A X.env X.xe) (hc : DT X W c c') (hb : DSs X W body g) : DS X W (.While c body [] pos) (whileS c' g n) := by
  obtain ⟨tc, pc, ic⟩ := hc
  obtain ⟨tb, pb, ib⟩ := hb
  refine ⟨_, ps_while hp pc pb, fun F H σ δ D r q => ?_⟩
  refine ⟨fun m σ1 H1 => ∃ F1 δ1, SExt F H (Ow σ δ) F1 H1 (Ow σ1 δ1) ∧ Rel X.K X.pn F1 H1 σ1 δ1 ∧ AftS X.K X.pn W F1 H1 (Ow σ1 δ1) D (whileS c' g m δ1), ⟨n, F, δ, SExt.refl, r, q⟩, ?_⟩
  rintro m σ1 H1 ⟨F1, δ1, s1, r1, q1⟩
  cases m with
  | zero => exact q1.elim
  | succ m =>
    refine test_in ic r1 ?_
    unfold whileS at q1
    cases he : exT c' δ1 with
    | ok x =>
      rw [he] at q1
      intro F2 H2 s2 r2
      cases x with
      | true =>
        have q1 := AftS.ext s2 q1
        simp only [if_true] at q1
        refine iteT ⟨fun σ3 H3 => ∃ F3 δ3, SExt F H (Ow σ δ) F3 H3 (Ow σ3 δ3) ∧ Rel X.K X.pn F3 H3 σ3 δ3 ∧ AftS X.K X.pn W F3 H3 (Ow σ3 δ3) D (whileS c' g m δ3), fun σ' H' h => ⟨m, Nat.lt_succ_self _, h⟩, ?_⟩
        refine ib F2 H2 σ1 δ1 _ r2 ?_
        cases hg : g δ1 with
        | nx δ3 =>
          rw [hg] at q1
          intro σ3 F3 H3 s3 r3
          exact ⟨F3, δ3, (s1.trans s2).trans s3, r3, AftS.ext s3 q1⟩
        | ct δ3 =>
          rw [hg] at q1
          intro σ3 F3 H3 s3 r3
          exact ⟨F3, δ3, (s1.trans s2).trans s3, r3, AftS.ext s3 q1⟩
        | bk δ3 =>
          rw [hg] at q1
          intro σ3 F3 H3 s3 r3
          exact q1 σ3 F3 H3 s3 r3
        | rt o =>
          rw [hg] at q1
          cases o <;> exact q1
        | ex x δ3 =>
          rw [hg] at q1
          exact q1
        | bad =>
          rw [hg] at q1
          exact q1
      | false => exact iteF (q1 σ1 F2 H2 s2 r2)
    | ex x => rw [he] at q1; exact AftX'.s q1
    | bad => rw [he] at q1; exact q1.elim
end
end DL
set_option Elab.async false
set_option linter.all false
set_option maxRecDepth 100000
set_option maxHeartbeats 4000000
set_option autoImplicit false
/-! DL5: what is walked; for; comprehensions; changes of own lists; a def by its body. -/
namespace DL
open PySem PySem.Spec L2
open PyProof.Rows hiding St

/-! ### what is walked -/
structure Walk (K : PySem.W.Frag) (J : It) (F : Hp) (ds : List PyData) : Prop where
  go : ∀ (i : Nat) (d : PyData) (H : Hp), Same F H → ds[i]? = some d → J.go i H ∧ ∀ x H', J.yld i H x H' → H' = H ∧ Dp K F x d
  stop : ∀ (H : Hp), Same F H → J.stop ds.length H
theorem Walk.same {K : PySem.W.Frag} {J : It} {F F' : Hp} {ds : List PyData} (w : Walk K J F ds) (e : Same F F') : Walk K J F' ds :=
  ⟨fun i d H s h => let ⟨a, b⟩ := w.go i d H (e.trans s) h; ⟨a, fun x H' y => let ⟨c, q⟩ := b x H' y; ⟨c, q.same e⟩⟩, fun H s => w.stop H (e.trans s)⟩
theorem walk_list {K : PySem.W.Frag} {F : Hp} {a : Addr} {vs : List V} {ds : List PyData} (h : SqL K F a vs) (al : DpAll K F vs ds) : Walk K (Itl K a) F ds := by
  refine ⟨fun i d H s hd => ?_, fun H s => ⟨vs, s.seq h, by rw [al.len]; exact Nat.le_refl _⟩⟩
  obtain ⟨v, h1, h2⟩ := al.get hd
  refine ⟨⟨vs, v, s.seq h, h1⟩, fun x H' ⟨e, y⟩ => ⟨e, ?_⟩⟩
  have z := y vs (s.seq h)
  rw [h1] at z
  cases z
  exact h2
theorem walk_tup {K : PySem.W.Frag} {F : Hp} {a : Addr} {vs : List V} {ds : List PyData} (h : SqT K F a vs) (al : DpAll K F vs ds) : Walk K (Itt K a) F ds := by
  refine ⟨fun i d H s hd => ?_, fun H s => ⟨vs, Same.tupl s h, by rw [al.len]; exact Nat.le_refl _⟩⟩
  obtain ⟨v, h1, h2⟩ := al.get hd
  refine ⟨⟨vs, v, Same.tupl s h, h1⟩, fun x H' ⟨e, y⟩ => ⟨e, ?_⟩⟩
  have z := y vs (Same.tupl s h)
  rw [h1] at z
  cases z
  exact h2
def rangeL (lo c : Int) (n : Nat) : List PyData := (List.range n).map fun (k : Nat) => .int (lo + (k : Int) * c)
@[simp] theorem rangeL_length (lo c : Int) (n : Nat) : (rangeL lo c n).length = n := by simp [rangeL]
theorem rangeL_get {lo c : Int} {n i : Nat} {d : PyData} (h : (rangeL lo c n)[i]? = some d) : i < n ∧ d = .int (lo + (i : Int) * c) := by
  unfold rangeL at h
  rw [List.getElem?_map] at h
  by_cases hi : i < n
  · rw [List.getElem?_range hi] at h
    cases h
    exact ⟨hi, rfl⟩
  · rw [List.getElem?_eq_none (by simpa using hi)] at h
    cases h
theorem walk_rng {K : PySem.W.Frag} {F : Hp} {lo : Int} {n : Nat} : Walk K (Itr lo n) F (rangeL lo 1 n) := by
  refine ⟨fun i d H s hd => ?_, fun H s => by rw [rangeL_length]; exact Nat.le_refl _⟩
  obtain ⟨h1, rfl⟩ := rangeL_get hd
  refine ⟨h1, fun x H' ⟨e, y⟩ => ⟨e, ?_⟩⟩
  rw [y, Int.mul_one]
  exact .int _
theorem walk_rngC {K : PySem.W.Frag} {F : Hp} {lo c : Int} {n : Nat} : Walk K (Itc lo c n) F (rangeL lo c n) := by
  refine ⟨fun i d H s hd => ?_, fun H s => by rw [rangeL_length]; exact Nat.le_refl _⟩
  obtain ⟨h1, rfl⟩ := rangeL_get hd
  refine ⟨h1, fun x H' ⟨e, y⟩ => ⟨e, ?_⟩⟩
  rw [y]
  exact .int _
def small62 (i : Int) : Bool := decide (-(2 ^ 62) ≤ i ∧ i < 2 ^ 62)
theorem small62_ok {i : Int} (h : small62 i = true) : -(2 ^ 62) ≤ i ∧ i < 2 ^ 62 := of_decide_eq_true h
def rng1 : List PyData → R (List PyData)
  | [.int j] => if small62 j = true then .ok (rangeL 0 1 j.toNat) else .bad
  | _ => .bad
def rng2 : List PyData → R (List PyData)
  | [.int i, .int j] => if (small62 i && small62 j) = true then .ok (rangeL i 1 (j - i).toNat) else .bad
  | _ => .bad
def rng3 : List PyData → R (List PyData)
  | [.int i, .int j, .int c] => if (small62 i && small62 j && decide (c = -1)) = true then .ok (rangeL i (-1) (i - j).toNat) else .bad
  | _ => .bad
theorem rng1_ok : ∀ {ds es : List PyData}, rng1 ds = .ok es → ∃ j : Int, ds = [.int j] ∧ small62 j = true ∧ es = rangeL 0 1 j.toNat := fun {ds es} h => by
  unfold rng1 at h
  split at h
  · split at h
    · rename_i j hz
      cases h
      exact ⟨_, rfl, hz, rfl⟩
    · cases h
  · cases h
theorem rng2_ok : ∀ {ds es : List PyData}, rng2 ds = .ok es → ∃ i j : Int, ds = [.int i, .int j] ∧ (small62 i = true ∧ small62 j = true) ∧ es = rangeL i 1 (j - i).toNat := fun {ds es} h => by
  unfold rng2 at h
  split at h
  · split at h
    · rename_i j hz
      cases h
      exact ⟨_, _, rfl, Bool.and_eq_true_iff.mp hz, rfl⟩
    · cases h
  · cases h
theorem rng3_ok : ∀ {ds es : List PyData}, rng3 ds = .ok es → ∃ i j : Int, ds = [.int i, .int j, .int (-1)] ∧ (small62 i = true ∧ small62 j = true) ∧ es = rangeL i (-1) (i - j).toNat := fun {ds es} h => by
  unfold rng3 at h
  split at h
  · split at h
    · rename_i j hz
      cases h
      simp only [Bool.and_eq_true, decide_eq_true_eq] at hz
      obtain ⟨z1, z2⟩ := hz
      subst z2
      exact ⟨_, _, rfl, z1, rfl⟩
    · cases h
  · cases h
theorem rng1_ex {ds : List PyData} {x : Ex} (h : rng1 ds = .ex x) : False := by
  unfold rng1 at h
  split at h
  · split at h <;> cases h
  · cases h
theorem rng2_ex {ds : List PyData} {x : Ex} (h : rng2 ds = .ex x) : False := by
  unfold rng2 at h
  split at h
  · split at h <;> cases h
  · cases h
theorem rng3_ex {ds : List PyData} {x : Ex} (h : rng3 ds = .ex x) : False := by
  unfold rng3 at h
  split at h
  · split at h <;> cases h
  · cases h
/-- list or tuple -/
def seqD : PyData → R (List PyData)
  | .list ds => .ok ds
  | .tuple ds => .ok ds
  | _ => .bad
def AftI (K : PySem.W.Frag) (W : WX) (σ : St) (G H : Hp) (Q : It → Hp → Prop) : R (List PyData) → Prop
  | .ok ds => ∀ J G' H', Ext G H G' H' → Walk K J G' ds → Q J H'
  | .ex x => AftX K W σ G H x
  | .bad => False
def DI (X : Cx) (W : WX) (tg iter : Expr) (f : DEnv → R (List PyData)) : Prop :=
  ∃ wi, PI X tg iter wi ∧ ∀ G H σ δ Q, Same G H → RelE X.K X.pn G σ δ → AftI X.K W σ G H Q (f δ) → wi σ H Q
def AftR (K : PySem.W.Frag) (W : WX) (σ : St) (G H : Hp) (Q : It → Hp → Prop) : R (List PyData) → Prop
  | .ok ds => ∀ J G' H', Ext G H G' H' → (∀ F, Walk K J F ds) → Q J H'
  | .ex x => AftX K W σ G H x
  | .bad => False
/-- a range -/
def DR (X : Cx) (W : WX) (tg iter : Expr) (f : DEnv → R (List PyData)) : Prop :=
  ∃ wi, PI X tg iter wi ∧ ∀ G H σ δ Q, Same G H → RelE X.K X.pn G σ δ → AftR X.K W σ G H Q (f δ) → wi σ H Q
theorem DR.i {X : Cx} {W : WX} {tg iter : Expr} {f : DEnv → R (List PyData)} (h : DR X W tg iter f) : DI X W tg iter f := by
  obtain ⟨wi, p, i⟩ := h
  refine ⟨wi, p, fun G H σ δ Q s r q => i G H σ δ Q s r ?_⟩
  cases hf : f δ with
  | ok ds => rw [hf] at q; exact fun J G' H' e w => q J G' H' e (w _)
  | ex x => rw [hf] at q; exact q
  | bad => rw [hf] at q; exact q
def iSeq (K : PySem.W.Frag) (tl : TE) : TI := fun σ H R => tl σ H fun x H1 => ∃ a, x = .ref a ∧ ((∃ xs, SqL K H1 a xs) ∧ R (Itl K a) H1 ∨ (∃ xs, SqT K H1 a xs) ∧ R (Itt K a) H1)
section
variable {X : Cx} {W : WX} {tg e a b c l : Expr} {p pos : Pos} {tl : TE}
theorem pi_seq (hl : PE X l tl) : PI X tg l (iSeq X.K tl) := by
  refine ⟨fun pins s σ H R I h => ?_⟩
  refine thn (hl.run pins s σ H _ I h) fun v s1 ⟨x, H1, I1, r1, q1⟩ => ?_
  obtain ⟨a, e, q⟩ := q1
  subst e
  cases r1
  rcases q with ⟨⟨xs, hq⟩, q⟩ | ⟨⟨xs, hq⟩, q⟩
  · obtain ⟨its, rv, p, hz⟩ := I1.list hq
    refine wpAny_pyIter_list p.isList ?_
    refine ⟨s1.heap.objs.size, [s1.heap.objs.size], _, _, H1, rfl, I1.kept (t' := s1.toks) fun b o e => Heap.get?_push_of_some _ e, turn_list a _, ⟨_, Heap.get?_push_size _ rfl, rfl, rfl⟩, fun b hb => ?_, q⟩
    have e : b = s1.heap.objs.size := by simpa using hb
    subst e
    exact I1.fpOk (Nat.le_refl _) (I1.hok.fresh (Nat.le_refl _))
  · obtain ⟨its, rv, p, hz⟩ := I1.tuple hq
    refine wpAny_pyIter_tuple (show s1.heap.IsTuple a its.toArray from p) ?_
    refine ⟨s1.heap.objs.size, [s1.heap.objs.size], _, _, H1, rfl, I1.kept (t' := s1.toks) fun b o e => Heap.get?_push_of_some _ e, turn_tuple a _, ⟨_, Heap.get?_push_size _ rfl, rfl, rfl⟩, fun b hb => ?_, q⟩
    have e : b = s1.heap.objs.size := by simpa using hb
    subst e
    exact I1.fpOk (Nat.le_refl _) (I1.hok.fresh (Nat.le_refl _))
def dSeqI (f : DEnv → R PyData) : DEnv → R (List PyData) := fun δ => (f δ).bind seqD
theorem di_seq {f : DEnv → R PyData} (h : DV X W e f) : DI X W tg e (dSeqI f) := by
  obtain ⟨te, pe, ie⟩ := h
  refine ⟨_, pi_seq pe, fun G H σ δ Q s r q => ?_⟩
  unfold dSeqI at q
  refine ie G H σ δ _ s r ?_
  cases hf : f δ with
  | ok d =>
    rw [hf] at q
    intro v G1 H1 e1 d1
    cases d1 with
    | lst h al => exact ⟨_, rfl, .inl ⟨⟨_, e1.sub.seq h⟩, q _ G1 H1 e1 (walk_list h al)⟩⟩
    | tup h al => exact ⟨_, rfl, .inr ⟨⟨_, Same.tupl e1.sub h⟩, q _ G1 H1 e1 (walk_tup h al)⟩⟩
    | _ => exact q.elim
  | ex x => rw [hf] at q; exact q
  | bad => rw [hf] at q; exact q.elim
def dRngI (g : List PyData → R (List PyData)) (f : DEnv → R (List PyData)) : DEnv → R (List PyData) := fun δ => (f δ).bind g
theorem range_in {ta : TA} {g : List PyData → R (List PyData)} {f : DEnv → R (List PyData)} (ia : ∀ G H σ δ Q, Same G H → RelE X.K X.pn G σ δ → AftA X.K W σ G H Q (f δ) → ta σ H Q) {σ : St} {G H : Hp} {δ : DEnv} {Q : It → Hp → Prop} (s : Same G H) (r : RelE X.K X.pn G σ δ)
    (q : AftR X.K W σ G H Q ((f δ).bind g)) {T : List V → Hp → Prop} (hx : ∀ {ds : List PyData} {x : Ex}, g ds = .ex x → False)
    (ht : ∀ ds es vs G1 H1, g ds = .ok es → Ext G H G1 H1 → DpAll X.K G1 vs ds → (∀ J, (∀ F, Walk X.K J F es) → Q J H1) → T vs H1) : ta σ H fun vs H1 => T vs H1 := by
  refine ia G H σ δ _ s r ?_
  cases hf : f δ with
  | ok ds =>
    rw [hf] at q
    intro vs G1 H1 e1 d1
    cases hg : g ds with
    | ok es =>
      simp only [R.bind_ok, hg] at q
      exact ht ds es vs G1 H1 hg e1 d1 fun J w => q J G1 H1 e1 w
    | ex x => exact (hx hg).elim
    | bad =>
      simp only [R.bind_ok, hg] at q
      exact q.elim
  | ex x => rw [hf] at q; exact q
  | bad => rw [hf] at q; exact q.elim
theorem dr_range1 {f : DEnv → R (List PyData)} (hm : X.mg "range" = none) (h : DA X W [a] f) (hg : Gl X "range" := by rfl) (hs : starEach [a] X.env = [(false, eval a X.env)] := by rfl) : DR X W tg (.Call (.Name "range" p) [a] [] pos) (dRngI rng1 f) := by
  obtain ⟨ta, pa, ia⟩ := h
  refine ⟨_, pi_range1 hg hm pa hs, fun G H σ δ Q s r q => range_in (W := W) ia s r q rng1_ex fun ds es vs G1 H1 hd e1 d1 qw => ?_⟩
  obtain ⟨j, rfl, hz, rfl⟩ := rng1_ok hd
  obtain ⟨z1, z2⟩ := small62_ok hz
  obtain ⟨v, rfl, h1⟩ := d1.one
  cases h1
  exact ⟨j, rfl, z1, z2, qw _ fun _ => walk_rng⟩
theorem dr_range2 {f : DEnv → R (List PyData)} (hm : X.mg "range" = none) (h : DA X W [a, b] f) (hg : Gl X "range" := by rfl) (hs : starEach [a, b] X.env = [(false, eval a X.env), (false, eval b X.env)] := by rfl) (hs2 : starEach [b] X.env = [(false, eval b X.env)] := by rfl) :
    DR X W tg (.Call (.Name "range" p) [a, b] [] pos) (dRngI rng2 f) := by
  obtain ⟨ta, pa, ia⟩ := h
  refine ⟨_, pi_range2 hg hm pa hs hs2, fun G H σ δ Q s r q => range_in (W := W) ia s r q rng2_ex fun ds es vs G1 H1 hd e1 d1 qw => ?_⟩
  obtain ⟨i, j, rfl, ⟨hz, hy⟩, rfl⟩ := rng2_ok hd
  obtain ⟨z1, z2⟩ := small62_ok hz
  obtain ⟨y1, y2⟩ := small62_ok hy
  obtain ⟨v, w, rfl, h1, h2⟩ := d1.two
  cases h1
  cases h2
  exact ⟨i, j, rfl, ⟨z1, z2, y1, y2⟩, qw _ fun _ => walk_rng⟩
theorem dr_range3 {f : DEnv → R (List PyData)} (hm : X.mg "range" = none) (h : DA X W [a, b, c] f) (hg : Gl X "range" := by rfl) (hs : starEach [a, b, c] X.env = (false, eval a X.env) :: starEach [b, c] X.env := by rfl) (hpl : (backTo pos (starEach [b, c] X.env)).any (·.1) = false := by rfl) :
    DR X W tg (.Call (.Name "range" p) [a, b, c] [] pos) (dRngI rng3 f) := by
  obtain ⟨ta, pa, ia⟩ := h
  refine ⟨_, pi_range3 hg hm pa hs hpl, fun G H σ δ Q s r q => range_in (W := W) ia s r q rng3_ex fun ds es vs G1 H1 hd e1 d1 qw => ?_⟩
  obtain ⟨i, j, rfl, ⟨hz, hy⟩, rfl⟩ := rng3_ok hd
  obtain ⟨z1, z2⟩ := small62_ok hz
  obtain ⟨y1, y2⟩ := small62_ok hy
  cases d1 with
  | cons h1 t =>
    obtain ⟨v, w, rfl, h2, h3⟩ := t.two
    cases h1
    cases h2
    cases h3
    exact ⟨i, j, -1, _, rfl, RgC.neg z1 z2 y1 y2, qw _ fun _ => walk_rngC⟩

/-! ### targets -/
def DG (X : Cx) (tg : Expr) (set : PyData → DEnv → Option DEnv) : Prop :=
  ∃ g, PG X tg g ∧ ∀ F H σ δ v d (Q : St → Hp → Prop), Rel X.K X.pn F H σ δ → Dp X.K F v d → (∃ δ', set d δ = some δ' ∧ ∀ σ', SExt F H (Ow σ δ) F H (Ow σ' δ') → Rel X.K X.pn F H σ' δ' → Q σ' H) → g v σ H Q
def sName (i : Nat) : PyData → DEnv → Option DEnv := fun d δ => if i < δ.length then some (δ.set i (some (.val d))) else none
theorem dg_name {i : Nat} {x : Str} (hN : X.N.Nodup) (hi : X.N[i]? = some x := by rfl) (hx : Loc X.env.scope x := by first | exact .inl rfl | exact .inr rfl) (hf : X.fn x = true ∨ X.env.scope.names.lookup x = some .local := by first | exact .inl rfl | exact .inr rfl | assumption) : DG X (.Name x pos) (sName i) := by
  refine ⟨_, pg_name hN hi hx hf, fun F H σ δ v d Q r dv ⟨δ', e, q⟩ => ?_⟩
  unfold sName at e
  split at e
  · rename_i hz
    cases e
    obtain ⟨r2, s2⟩ := r.setV hz (.inl dv)
    exact q _ s2 r2
  · cases e
def DGs (X : Cx) (tgs : List Expr) (set : List PyData → DEnv → Option DEnv) : Prop :=
  ∃ g, PGs X tgs g ∧ ∀ F H σ δ vs ds (Q : St → Hp → Prop), Rel X.K X.pn F H σ δ → DpAll X.K F vs ds → (∃ δ', set ds δ = some δ' ∧ ∀ σ', SExt F H (Ow σ δ) F H (Ow σ' δ') → Rel X.K X.pn F H σ' δ' → Q σ' H) → g vs σ H Q
def sNil : List PyData → DEnv → Option DEnv := fun ds δ => match ds with
  | [] => some δ
  | _ => none
def sCons (s1 : PyData → DEnv → Option DEnv) (s2 : List PyData → DEnv → Option DEnv) : List PyData → DEnv → Option DEnv := fun ds δ => match ds with
  | d :: ds => (s1 d δ).bind fun δ' => s2 ds δ'
  | _ => none
theorem dgs_nil : DGs X [] sNil := ⟨_, pgs_nil, fun F H σ δ vs ds Q r dv ⟨δ', e, q⟩ => by
  cases dv with
  | nil =>
    cases e
    exact ⟨rfl, q σ SExt.refl r⟩
  | cons _ _ => cases e⟩
theorem dgs_cons {es : List Expr} {s1 : PyData → DEnv → Option DEnv} {s2 : List PyData → DEnv → Option DEnv} (h1 : DG X e s1) (h2 : DGs X es s2) (hs : (assignEach (e :: es) X.env).map (·.2) = assign e X.env :: (assignEach es X.env).map (·.2) := by rfl) : DGs X (e :: es) (sCons s1 s2) := by
  obtain ⟨g1, p1, i1⟩ := h1
  obtain ⟨g2, p2, i2⟩ := h2
  refine ⟨_, pgs_cons p1 p2 hs, fun F H σ δ vs ds Q r dv ⟨δ', e, q⟩ => ?_⟩
  cases dv with
  | nil => cases e
  | cons h t =>
    unfold sCons at e
    simp only at e
    obtain ⟨δ1, e1, e2⟩ := Option.bind_eq_some_iff.mp e
    exact ⟨_, _, rfl, i1 F H σ δ _ _ _ r h ⟨δ1, e1, fun σ1 s1 r1 => i2 F H σ1 δ1 _ _ Q r1 t ⟨δ', e2, fun σ2 s2 r2 => q σ2 (s1.trans s2) r2⟩⟩⟩
def sTup (n : Nat) (s : List PyData → DEnv → Option DEnv) : PyData → DEnv → Option DEnv := fun d δ => match d with
  | .tuple ds => if ds.length = n then s ds δ else none
  | _ => none
theorem dg_tup {es : List Expr} {k n : Nat} {s : List PyData → DEnv → Option DEnv} (hc : X.calm = true) (h : DGs X es s) (hn : (assignEach es X.env).length = n := by rfl) (hst : (assignEach es X.env).findIdx? (·.1) = none := by rfl) : DG X (.Tuple es k pos) (sTup n s) := by
  obtain ⟨g, p, i⟩ := h
  refine ⟨_, pg_tup hc p hn hst, fun F H σ δ v d Q r dv ⟨δ', e, q⟩ => ?_⟩
  cases dv with
  | tup hq al =>
    unfold sTup at e
    simp only at e
    split at e
    · rename_i hz
      exact ⟨_, _, rfl, Same.tupl r.sub hq, by rw [al.len]; exact hz, i F H σ δ _ _ Q r al ⟨δ', e, q⟩⟩
    · cases e
  | _ => cases e

/-! ### for -/
def loopS (set : PyData → DEnv → Option DEnv) (g : DEnv → SO) : List PyData → DEnv → SO
  | [], δ => .nx δ
  | d :: ds, δ => match set d δ with
    | none => .bad
    | some δ1 => (match g δ1 with
      | .nx δ2 => loopS set g ds δ2
      | .ct δ2 => loopS set g ds δ2
      | .bk δ2 => .nx δ2
      | o => o)
theorem for_in {J : It} {ds : List PyData} {tb : TS} {gt : TG} {set : PyData → DEnv → Option DEnv} {g : DEnv → SO} {D : Ends} {F H : Hp} {σ : St} {δ : DEnv}
    (ig : ∀ F H σ δ v d (Q : St → Hp → Prop), Rel X.K X.pn F H σ δ → Dp X.K F v d → (∃ δ', set d δ = some δ' ∧ ∀ σ', SExt F H (Ow σ δ) F H (Ow σ' δ') → Rel X.K X.pn F H σ' δ' → Q σ' H) → gt v σ H Q)
    (ib : ∀ F H σ δ D, Rel X.K X.pn F H σ δ → AftS X.K X.pn W F H (Ow σ δ) D (g δ) → tb D σ H) (w : Walk X.K J F ds) (r : Rel X.K X.pn F H σ δ) (q : AftS X.K X.pn W F H (Ow σ δ) D (loopS set g ds δ)) :
    ∃ W : Nat → Nat → St → Hp → Prop, (∃ m, W 0 m σ H) ∧ ∀ i m σ H, W i m σ H → (J.stop i H ∧ D.nx σ H) ∨ (J.go i H ∧ ∃ N : St → Hp → Prop, (∀ σ' H', N σ' H' → ∃ m', m' < m ∧ W (i + 1) m' σ' H') ∧ ∀ x H', J.yld i H x H' → gt x σ H' fun σ2 H2 => tb { D with nx := N, ct := N, bk := D.nx } σ2 H2) := by
  refine ⟨fun i m σ1 H1 => m = ds.length - i ∧ i ≤ ds.length ∧ ∃ F1 δ1, SExt F H (Ow σ δ) F1 H1 (Ow σ1 δ1) ∧ Rel X.K X.pn F1 H1 σ1 δ1 ∧ AftS X.K X.pn W F1 H1 (Ow σ1 δ1) D (loopS set g (ds.drop i) δ1), ⟨_, rfl, Nat.zero_le _, F, δ, SExt.refl, r, q⟩, ?_⟩
  rintro i m σ1 H1 ⟨rfl, hi, F1, δ1, s1, r1, q1⟩
  have sF : Same F H1 := s1.ff.trans r1.sub
  by_cases hlt : i < ds.length
  · obtain ⟨d, hd⟩ : ∃ d, ds[i]? = some d := ⟨_, List.getElem?_eq_getElem hlt⟩
    obtain ⟨go, yl⟩ := w.go i d H1 sF hd
    have ed : ds.drop i = d :: ds.drop (i + 1) := by
      rw [List.drop_eq_getElem_cons hlt]
      rw [List.getElem?_eq_getElem hlt] at hd
      cases hd
      rfl
    rw [ed] at q1
    unfold loopS at q1
    refine .inr ⟨go, fun σ2 H2 => i + 1 ≤ ds.length ∧ ∃ F2 δ2, SExt F H (Ow σ δ) F2 H2 (Ow σ2 δ2) ∧ Rel X.K X.pn F2 H2 σ2 δ2 ∧ AftS X.K X.pn W F2 H2 (Ow σ2 δ2) D (loopS set g (ds.drop (i + 1)) δ2), fun σ2 H2 h => ⟨ds.length - (i + 1), by omega, rfl, h⟩, fun x H2 y => ?_⟩
    obtain ⟨rfl, dx⟩ := yl x H2 y
    cases hset : set d δ1 with
    | none => rw [hset] at q1; exact q1.elim
    | some δ2 =>
      rw [hset] at q1
      simp only at q1
      refine ig F1 _ σ1 δ1 x d _ r1 (dx.same s1.ff) ⟨δ2, hset, fun σ2 s2 r2 => ?_⟩
      have q2 := AftS.ext s2 q1
      have s12 := s1.trans s2
      refine ib F1 _ σ2 δ2 _ r2 ?_
      cases hg : g δ2 with
      | nx δ3 =>
        rw [hg] at q2
        intro σ3 F3 H3 s3 r3
        exact ⟨hlt, F3, δ3, s12.trans s3, r3, AftS.ext s3 q2⟩
      | ct δ3 =>
        rw [hg] at q2
        intro σ3 F3 H3 s3 r3
        exact ⟨hlt, F3, δ3, s12.trans s3, r3, AftS.ext s3 q2⟩
      | bk δ3 =>
        rw [hg] at q2
        intro σ3 F3 H3 s3 r3
        exact q2 σ3 F3 H3 s3 r3
      | rt o =>
        rw [hg] at q2
        cases o <;> exact q2
      | ex x δ3 =>
        rw [hg] at q2
        exact q2
      | bad =>
        rw [hg] at q2
        exact q2
  · have e : i = ds.length := by omega
    subst e
    rw [List.drop_length] at q1
    exact .inl ⟨w.stop H1 sF, q1 σ1 F1 H1 SExt.refl r1⟩
/-- for over a list or a tuple -/
def dFor (ms : List Nat) (f : DEnv → R O) (set : PyData → DEnv → Option DEnv) (g : DEnv → SO) : DEnv → SO := fun δ => match exE ms f δ with
  | .ok (o, δ') => (match seqD o.data with
    | .ok ds => loopS set g ds δ'
    | _ => .bad)
  | .ex x => .ex x δ
  | .bad => .bad
theorem ds_for {iter : Expr} {body : List Stmt} {ms : List Nat} {f : DEnv → R O} {set : PyData → DEnv → Option DEnv} {g : DEnv → SO} (hp : PassesOwn (model X.prog X.w) X.A X.env X.xe) (hc : X.calm = true) (hi : DO X W iter f) (hg : DG X tg set) (hb : DSs X W body g)
    (hs : ∀ x, foldedSetIterable iter X.env x = pure x := by intro _; rfl) : DS X W (.For tg iter body [] pos) (dFor ms f set g) := by
  obtain ⟨te, pe, ie⟩ := hi
  obtain ⟨gt, pg, ig⟩ := hg
  obtain ⟨tb, pb, ib⟩ := hb
  refine ⟨_, ps_for hp hc (pi_seq pe) pg pb hs, fun F H σ δ D r q => ?_⟩
  unfold dFor at q
  refine eval_in ms ie r ?_
  cases he : exE ms f δ with
  | ok p =>
    rw [he] at q
    obtain ⟨o, δ'⟩ := p
    cases o with
    | val d =>
      intro v F' H' s r' dv
      have q := AftS.ext s q
      cases dv with
      | lst h al => exact ⟨_, rfl, .inl ⟨⟨_, r'.sub.seq h⟩, for_in (W := W) ig ib (walk_list h al) r' q⟩⟩
      | tup h al => exact ⟨_, rfl, .inr ⟨⟨_, Same.tupl r'.sub h⟩, for_in (W := W) ig ib (walk_tup h al) r' q⟩⟩
      | _ => exact q.elim
    | own ds =>
      intro a vs F' H' s r' no hF hH al
      -- the list becomes data
      have hs : Same F' (upd F' a (.lst vs)) := upd_same_of hF
      have r2 : Rel X.K X.pn (upd F' a (.lst vs)) H' σ δ' := r'.grow hs (fun b o e => by
        by_cases hb : b = a
        · subst hb; rw [upd_same] at e; rw [← e]; exact hH
        · rw [upd_ne hb] at e; exact r'.sub b o e) (Same.refl _) fun b hb => by
          by_cases hba : b = a
          · subst hba; exact absurd hb no
          · rw [upd_ne hba]
            obtain ⟨_, _, z⟩ := r'.there hb
            exact z
      have s2 : SExt F H (Ow σ δ) (upd F' a (.lst vs)) H' (Ow σ δ') := ⟨s.ff.trans hs, s.hh, fun b h => by
        by_cases hb : b = a
        · subst hb; exact .inr (s.own b (.inl rfl))
        · rw [upd_ne hb] at h; exact s.dom b h, fun b h => s.own b (.inr h)⟩
      have q := AftS.ext s2 q
      exact ⟨a, rfl, .inl ⟨⟨_, r2.sub.seq (SqL.of upd_same)⟩, for_in (W := W) ig ib (walk_list (SqL.of upd_same) (al.same hs)) r2 q⟩⟩
  | ex x => rw [he] at q; exact AftX'.s q
  | bad => rw [he] at q; exact q.elim
/-- for over a range -/
def exI (f : DEnv → R (List PyData)) (δ : DEnv) : R (List PyData) := match f δ with
  | .ok ds => .ok ds
  | .ex x => if x.flat = true then .ex x else .bad
  | .bad => .bad
def dForR (f : DEnv → R (List PyData)) (set : PyData → DEnv → Option DEnv) (g : DEnv → SO) : DEnv → SO := fun δ => match exI f δ with
  | .ok ds => loopS set g ds δ
  | .ex x => .ex x δ
  | .bad => .bad
theorem ds_forR {iter : Expr} {body : List Stmt} {f : DEnv → R (List PyData)} {set : PyData → DEnv → Option DEnv} {g : DEnv → SO} (hp : PassesOwn (model X.prog X.w) X.A X.env X.xe) (hc : X.calm = true)
    (hi : DR X W tg iter f) (hg : DG X tg set) (hb : DSs X W body g)
    (hs : ∀ x, foldedSetIterable iter X.env x = pure x := by intro _; rfl) : DS X W (.For tg iter body [] pos) (dForR f set g) := by
  obtain ⟨wi, pi, ii⟩ := hi
  obtain ⟨gt, pg, ig⟩ := hg
  obtain ⟨tb, pb, ib⟩ := hb
  refine ⟨_, ps_for hp hc pi pg pb hs, fun F H σ δ D r q => ?_⟩
  unfold dForR exI at q
  obtain ⟨p1, p2⟩ := r.plus (P := Ow σ δ) fun _ h => h
  refine ii (DL.plus F H (Ow σ δ)) H σ δ _ p2 r.sees ?_
  cases hf : f δ with
  | ok ds =>
    rw [hf] at q
    simp only at q
    intro J G' H' e w
    obtain ⟨r1, s1, l1⟩ := r.behind e
    exact for_in (W := W) ig ib (w _) r1 (AftS.ext s1 q)
  | ex x =>
    rw [hf] at q
    simp only at q
    by_cases hfl : x.flat = true
    · rw [if_pos hfl] at q
      intro cls d G' H' e z
      obtain ⟨r1, s1, l1⟩ := r.behind e
      exact q cls d σ _ H' s1 r1 (z.minus l1 hfl)
    · rw [if_neg hfl] at q
      exact q.elim
  | bad => rw [hf] at q; exact q.elim
end
end DL
set_option Elab.async false
set_option linter.all false
set_option maxRecDepth 100000
set_option maxHeartbeats 4000000
set_option autoImplicit false
/-! DL6: own lists changed; comprehensions; a def by its body. -/
namespace DL
open PySem PySem.Spec L2
open PyProof.Rows hiding St
section
variable {X : Cx} {W : WX} {tg e a b c l iter : Expr} {es : List Expr} {p p' p1 p2 pos pos' apos : Pos}

/-- a fresh own list becomes data -/
theorem Rel.take {K : PySem.W.Frag} {pn : List (Addr × Obj)} {F0 H0 F' H' : Hp} {P0 : Addr → Prop} {σ : St} {δ' : DEnv} {a : Addr} {vs : List V} {ds : List PyData} (s : SExt F0 H0 P0 F' H' (fun b => b = a ∨ Ow σ δ' b)) (r : Rel K pn F' H' σ δ') (no : ¬ Ow σ δ' a) (hF : F' a = none) (hH : H' a = some (.lst vs)) (al : DpAll K F' vs ds) :
    Rel K pn (upd F' a (.lst vs)) H' σ δ' ∧ SExt F0 H0 P0 (upd F' a (.lst vs)) H' (Ow σ δ') ∧ Dp K (upd F' a (.lst vs)) (.ref a) (.list ds) := by
  have hs : Same F' (upd F' a (.lst vs)) := upd_same_of hF
  refine ⟨r.grow hs (fun b o e => ?_) (Same.refl _) fun b hb => ?_, ⟨s.ff.trans hs, s.hh, fun b h => ?_, fun b h => s.own b (.inr h)⟩, .lst (SqL.of upd_same) (al.same hs)⟩
  · by_cases hb : b = a
    · subst hb; rw [upd_same] at e; rw [← e]; exact hH
    · rw [upd_ne hb] at e; exact r.sub b o e
  · by_cases hba : b = a
    · subst hba; exact absurd hb no
    · rw [upd_ne hba]
      obtain ⟨_, _, z⟩ := r.there hb
      exact z
  · by_cases hb : b = a
    · subst hb; exact .inr (s.own b (.inl rfl))
    · rw [upd_ne hb] at h; exact s.dom b h
/-- an expression's value as data -/
def exD (ms : List Nat) (f : DEnv → R O) (δ : DEnv) : R (PyData × DEnv) := (exE ms f δ).map fun q => (q.1.data, q.2)
theorem evalD_in {te : TE} {f : DEnv → R O} (ms : List Nat) (ie : ∀ G H σ δ Q, Same G H → RelE X.K X.pn G σ δ → AftE X.K W σ G H Q (f δ) → te σ H Q) {F H : Hp} {σ : St} {δ : DEnv} (r : Rel X.K X.pn F H σ δ) {Q : VK}
    (h : match exD ms f δ with
      | .ok (d, δ') => ∀ v F' H', SExt F H (Ow σ δ) F' H' (Ow σ δ') → Rel X.K X.pn F' H' σ δ' → Dp X.K F' v d → Q v H'
      | .ex x => AftX' X.K X.pn W F H σ δ x
      | .bad => False) : te σ H Q := by
  refine eval_in ms ie r ?_
  unfold exD at h
  cases he : exE ms f δ with
  | ok p =>
    rw [he] at h
    obtain ⟨o, δ'⟩ := p
    cases o with
    | val d => exact h
    | own ds =>
      intro a vs F' H' s r' no hF hH al
      obtain ⟨r2, s2, d2⟩ := Rel.take s r' no hF hH al
      exact h (.ref a) _ H' s2 r2 d2
  | ex x => rw [he] at h; exact h
  | bad => rw [he] at h; exact h.elim

/-! x.append(e) -/
def dAppend (i : Nat) (ms : List Nat) (f : DEnv → R O) : DEnv → SO := fun δ => match δ[i]? with
  | some (some (.own _)) => (match exD ms f δ with
    | .ok (d, δ') => (match δ'[i]? with
      | some (some (.own ds)) => if ds.length < sizeLine then .nx (δ'.set i (some (.own (ds ++ [d])))) else .bad
      | _ => .bad)
    | .ex x => .ex x δ
    | .bad => .bad)
  | _ => .bad
theorem ds_append {i : Nat} {x : Str} {ms : List Nat} {f : DEnv → R O} (he : DO X W e f) (hN : X.N[i]? = some x := by rfl) (hv : Vis X.env.scope x := by first | exact Or.inl rfl | exact Or.inr (Or.inl rfl) | exact Or.inr (Or.inr rfl)) (hd : (x == ("__debug__" : Str)) = false := by decide)
    (hcd : (x == ("__classdict__" : Str)) = false := by decide)
    (hbase : attributeBase (.Name x p1) "append" X.env (eval (.Name x p1) X.env) = eval (.Name x p1) X.env := by rfl)
    (hfew : ((backTo p (starEach [e] X.env)).all (fun x => !x.1) && (backToKw p (keywordEach [] X.env)).all (fun x => x.1.isSome)
      && decide (([e] : List Expr).length + ([] : List Keyword).length + (if ([] : List Keyword).isEmpty then 0 else 1) < 30)) = true := by rfl)
    (hline : (apos.endLine == p.line) = true := by rfl) (hs : starEach [e] X.env = (false, eval e X.env) :: starEach [] X.env := by rfl) (hplain : (backTo p (starEach [] X.env)).any (·.1) = false := by rfl)
    (hsw : swapsWith (.Call (.Attribute (.Name x p1) "append" apos) [e] [] p) none pos.line X.env = pure false := by rfl) :
    DS X W (.Expr (.Call (.Attribute (.Name x p1) "append" apos) [e] [] p) pos) (dAppend i ms f) := by
  obtain ⟨te, pe, ie⟩ := he
  refine ⟨_, ps_expr (pe_bm PySem.F.plainAttrs_list PySem.F.slot_list_append PySem.F.type_list_append mt_append (pe_var hN hv hd hcd) (pa_cons pe pa_nil hs) hbase hfew hline hs hplain) hsw, fun F H σ δ D r q => ?_⟩
  unfold dAppend at q
  split at q
  · rename_i ds0 hi
    obtain ⟨a, vs, h1, h2, h3, h4⟩ := r.own i ds0 hi
    refine ⟨.ref a, h1, .inl ⟨rfl, _, SqL.of h2⟩, ?_⟩
    refine evalD_in ms ie r ?_
    cases hx : exD ms f δ with
    | ok pr =>
      rw [hx] at q
      obtain ⟨d, δ'⟩ := pr
      simp only at q
      split at q
      · rename_i ds hi'
        split at q
        · rename_i hz
          intro v F' H' s r' dv
          obtain ⟨a', ws, g1, g2, g3, g4⟩ := r'.own i ds hi'
          rw [h1] at g1
          cases g1
          obtain ⟨r2, s2⟩ := r'.mut (ws := ws ++ [v]) hi' h1 (g4.append (.cons dv .nil))
          exact ⟨a, ws, v, rfl, rfl, g2, by rw [g4.len]; exact hz, q σ F' _ (s.trans s2) r2⟩
        · exact q.elim
      · exact q.elim
    | ex x => rw [hx] at q; exact AftX'.s q
    | bad => rw [hx] at q; exact q.elim
  · exact q.elim

/-! x[k] = e -/
def dStore (i : Nat) (ms : List Nat) (f : DEnv → R O) (g : DEnv → R PyData) : DEnv → SO := fun δ => match exD ms f δ with
  | .ok (d, δ') => (match δ'[i]? with
    | some (some (.own ds)) => (match g δ' with
      | .ok (.int k) => (match ixN ds.length k with
        | some j => .nx (δ'.set i (some (.own (ds.set j d))))
        | none => .bad)
      | _ => .bad)
    | _ => .bad)
  | .ex x => .ex x δ
  | .bad => .bad
theorem ds_store {i : Nat} {x : Str} {ms : List Nat} {f : DEnv → R O} {g : DEnv → R PyData} (he : DO X W e f) (hk : DV X W b g) (hN : X.N[i]? = some x := by rfl) (hv : Vis X.env.scope x := by first | exact Or.inl rfl | exact Or.inr (Or.inl rfl) | exact Or.inr (Or.inr rfl)) (hd : (x == ("__debug__" : Str)) = false := by decide)
    (hcd : (x == ("__classdict__" : Str)) = false := by decide)
    (ha : ∀ v, assign (.Subscript (.Name x p1) b p2) X.env v = (do
      let ov ← holding [v] (eval (.Name x p1) X.env)
      let iv ← holding [v, ov] (eval b X.env)
      standAt p2
      holding [v, ov, iv] (setItem ov iv v)
      release [v, ov, iv] []) := by intro _; rfl)
    (hs : swapsWithSole [.Subscript (.Name x p1) b p2] e pos.line X.env = pure false := by rfl) (hw : swappedStores [.Subscript (.Name x p1) b p2] e X.env = pure none := by rfl)
    (h1 : (assignEach [.Subscript (.Name x p1) b p2] X.env).map (·.2) = [assign (.Subscript (.Name x p1) b p2) X.env] := by rfl) :
    DS X W (.Assign [.Subscript (.Name x p1) b p2] e pos) (dStore i ms f g) := by
  obtain ⟨te, pe, ie⟩ := he
  obtain ⟨tk, pk, ik⟩ := hk
  refine ⟨_, ps_asg pe (pg_sub (pe_var hN hv hd hcd) pk set_list ha) hs hw h1, fun F H σ δ D r q => ?_⟩
  unfold dStore at q
  refine evalD_in ms ie r ?_
  cases hx : exD ms f δ with
  | ok pr =>
    rw [hx] at q
    obtain ⟨d, δ'⟩ := pr
    simp only at q
    intro v F' H' s r' dv
    split at q
    · rename_i ds hi
      obtain ⟨a, vs, h1, h2, h3, h4⟩ := r'.own i ds hi
      refine ⟨.ref a, h1, ?_⟩
      obtain ⟨p1, p2⟩ := r'.plus (P := Ow σ δ') fun _ h => h
      refine ik (DL.plus F' H' (Ow σ δ')) H' σ δ' _ p2 r'.sees ?_
      split at q
      · rename_i k hk
        rw [hk]
        intro kv G' H2 e2 dk
        cases dk
        split at q
        · rename_i j hj
          obtain ⟨r2, s2, l2⟩ := r'.behind e2
          obtain ⟨r3, s3⟩ := r2.mut (ws := vs.set j v) hi h1 (((h4.same s2.ff)).set (dv.same s2.ff) j)
          exact ⟨a, vs, k, j, rfl, rfl, e2.hh _ _ h2, by rw [h4.len]; exact hj, q σ _ _ ((s.trans s2).trans s3) r3⟩
        · exact q.elim
      · exact q.elim
    · exact q.elim
  | ex x => rw [hx] at q; exact AftX'.s q
  | bad => rw [hx] at q; exact q.elim

/-! ### a def by its body -/
def runD (m : Nat) (g : DEnv → SO) (ds : List PyData) : R O := match g (ds.map (fun d => some (.val d)) ++ List.replicate (m - ds.length) none) with
  | .nx _ => .ok (.val .none)
  | .rt o => .ok o
  | .ex x _ => .ex x
  | _ => .bad
end

/-- the context of a def's body -/
abbrev cxD (P : Program) (w : World) (K : PySem.W.Frag) (mg : Str → Option Value) (base : Heap) (N : List Str) (qual : Str) (st : Stmt) (f : Addr) (cdv : Value) (A : Around) (outer : List Env) (s : Shared) (H : Hp) (E : XK) : Cx := cxOf (L2.CX P w) P w K mg base N qual (defScope st) f cdv A outer s H E
abbrev WofE (E : XK) : WX := fun cls d _ H => E cls d H
theorem okD {P : Program} {w : World} {K : PySem.W.Frag} {mg : Str → Option Value} {base : Heap} {x qual : Str} {st : Stmt} {f : Addr} {fd : FuncData} {N ps : List Str} {k n : Nat} {g : DEnv → SO} (F : FunD K x qual (defArgs st) (defBody st) (defScope st) [] [] f fd) (S : FnScope N ps (defScope st)) (hn : ps.length = n)
    (hb : ∀ (cdv : Value) (A : Around) (outer : List Env) (s : Shared) (H : Hp) (E : XK), Room k (A.deeper (envOfC qual (defScope st) s.heap.objs.size f cdv)) → Takes (cxD P w K mg base N qual st f cdv A outer s H E) (WofE E) →
      DSs (cxD P w K mg base N qual st f cdv A outer s H E) (WofE E) (defBody st) g) :
    FnOk P w K mg base (L2.CX P w) (k + 1) f fd ps (spD K n (runD N.length g)) := by
  refine F.ok (CX := L2.CX P w) S (fun vs H Q E h => ?_) (fun cdv A outer s H vs Q E hr h => ?_)
  · obtain ⟨G, ds, _, al, hl, _⟩ := h
    rw [al.len, hl, hn]
  · obtain ⟨G, ds, hs, al, hl, q⟩ := h
    obtain ⟨ts, pss, is⟩ := hb cdv A outer s H E hr (takes_of rfl rfl rfl rfl)
    refine ⟨ts, pss, is G H (L2.start N vs) (ds.map (fun d => some (.val d)) ++ List.replicate (N.length - ds.length) none) _ ?_ ?_⟩
    · have noown : ∀ (i : Nat) (es : List PyData), (ds.map (fun d => some (O.val d)) ++ List.replicate (N.length - ds.length) none)[i]? = some (some (.own es)) → False := fun i es h => by
        by_cases hi : i < ds.length
        · rw [List.getElem?_append_left (by simpa using hi), List.getElem?_map] at h
          rw [List.getElem?_eq_getElem hi] at h
          cases h
        · rw [List.getElem?_append_right (by simpa using hi), List.getElem?_replicate] at h
          split at h <;> cases h
      refine ⟨hs, by unfold L2.start; simp [al.len], fun i d h => ?_, fun i es h => (noown i es h).elim, fun i j a h _ => ?_⟩
      · by_cases hi : i < ds.length
        · rw [List.getElem?_append_left (by simpa using hi), List.getElem?_map, List.getElem?_eq_getElem hi] at h
          cases h
          obtain ⟨v, h1, h2⟩ := al.get (List.getElem?_eq_getElem hi)
          refine ⟨v, ?_, .inl h2⟩
          unfold L2.start
          rw [List.getElem?_append_left (by rw [List.length_map, al.len]; exact hi), List.getElem?_map, h1]
          rfl
        · rw [List.getElem?_append_right (by simpa using hi), List.getElem?_replicate] at h
          split at h <;> cases h
      · obtain ⟨es, h, _⟩ := h
        exact (noown i es h).elim
    · have noO : ∀ b, ¬ Ow (L2.start N vs) (ds.map (fun d => some (O.val d)) ++ List.replicate (N.length - ds.length) none) b := fun b ⟨i, es, h, _⟩ => by
        by_cases hi : i < ds.length
        · rw [List.getElem?_append_left (by simpa using hi), List.getElem?_map, List.getElem?_eq_getElem hi] at h
          cases h
        · rw [List.getElem?_append_right (by simpa using hi), List.getElem?_replicate] at h
          split at h <;> cases h
      have toExt : ∀ {F' H' : Hp} {O' : Addr → Prop}, Same F' H' → SExt G H (Ow (L2.start N vs) (ds.map (fun d => some (O.val d)) ++ List.replicate (N.length - ds.length) none)) F' H' O' → Ext G H F' H' := fun {F' H' O'} sb se =>
        ⟨se.ff, sb, fun b o e => se.hh b o e (noO b), fun b h => by
          rcases se.dom b h with z | z | z
          · exact .inl z
          · exact absurd z (noO b)
          · exact .inr z⟩
      unfold runD at q
      cases hg : g (ds.map (fun d => some (O.val d)) ++ List.replicate (N.length - ds.length) none) with
      | nx δ' =>
        rw [hg] at q
        intro σ' F' H' se r'
        exact q .non F' H' (toExt r'.sub se) .non
      | rt o =>
        rw [hg] at q
        cases o with
        | val d =>
          intro v F' H' se sb dv
          exact q v F' H' (toExt sb se) dv
        | own es =>
          intro a ws F' H' se sb hF hH dv
          refine q a ws F' H' (toExt sb se) ?_ hF hH dv
          rcases se.own a rfl with z | z
          · exact absurd z (noO a)
          · exact z
      | ex x δ' =>
        rw [hg] at q
        intro cls d σ' F' H' se r' z
        exact q cls d F' H' (toExt r'.sub se) z
      | bk _ => rw [hg] at q; exact q.elim
      | ct _ => rw [hg] at q; exact q.elim
      | bad => rw [hg] at q; exact q.elim
/-- a def that stands at the module's name x, called with n values, at level k -/
structure Dfn (P : Program) (w : World) (K : PySem.W.Frag) (mg : Str → Option Value) (base : Heap) (x : Str) (k n : Nat) (g : List PyData → R O) : Prop where
  ex : ∃ (f : Addr) (fd : FuncData) (ps : List Str), FnOk P w K mg base (L2.CX P w) k f fd ps (spD K n g) ∧ mg x = some (.ref f) ∧ PySem.W.keepIn K (.ref f) = true ∧ Binds K fd ps []
theorem mkDfn {P : Program} {w : World} {K : PySem.W.Frag} {mg : Str → Option Value} {base : Heap} {x : Str} {st : Stmt} {f : Addr} {fd : FuncData} {N ps : List Str} {k n : Nat} {g : DEnv → SO} (F : FunD K x x (defArgs st) (defBody st) (defScope st) [] [] f fd) (hm : mg x = some (.ref f)) (S : FnScope N ps (defScope st)) (hn : ps.length = n)
    (hbd : ∀ (kV doc pm : Value) (an : Option Addr) (cdv ct : Value) (us : List Value), us.length = ps.length → bindArgs (PySem.W.fnOf x x (defArgs st) (defBody st) (defScope st) .none kV doc pm an cdv ct) ⟨us, []⟩ = pure (ps.zip us))
    (hb : ∀ (cdv : Value) (A : Around) (outer : List Env) (s : Shared) (H : Hp) (E : XK), Room k (A.deeper (envOfC x (defScope st) s.heap.objs.size f cdv)) → Takes (cxD P w K mg base N x st f cdv A outer s H E) (WofE E) →
      DSs (cxD P w K mg base N x st f cdv A outer s H E) (WofE E) (defBody st) g) : Dfn P w K mg base x (k + 1) n (runD N.length g) :=
  ⟨f, fd, ps, okD F S hn hb, hm, F.kp, F.bindsN hbd⟩
section
variable {X : Cx} {W : WX} {x : Str} {p pos : Pos} {e : Expr} {es : List Expr} {k j n : Nat}
theorem do_fn {g : List PyData → R O} {fa : DEnv → R (List PyData)} (F : Dfn X.prog X.w X.K X.mg X.base x k n g) (tk : Takes X W) (hr : Room j X.A) (hjk : k ≤ j) (hg : Gl X x)
    (ha : DA X W (e :: es) fa) (hc : CountA fa n) (hdb : (x == ("__debug__" : Str)) = false := by decide) (he : starEach (e :: es) X.env = (false, eval e X.env) :: starEach es X.env := by rfl) (hpl : (backTo pos (starEach es X.env)).any (·.1) = false := by rfl) :
    DO X W (.Call (.Name x p) (e :: es) [] pos) (dApp g fa) := by
  obtain ⟨f, fd, ps, F1, hm, hk, hb⟩ := F.ex
  exact do_call F1 tk (hr.mono hjk) hg hm hk hb ha hc hdb he hpl
end
end DL
set_option Elab.async false
set_option linter.all false
set_option maxRecDepth 100000
set_option maxHeartbeats 4000000
set_option autoImplicit false
/-! DL7: comprehensions. -/
namespace DL
open PySem PySem.Spec L2
open PyProof.Rows hiding St
/-- within a comprehension nothing is raised -/
abbrev WF : WX := fun _ _ _ _ => False
theorem takesF {X : Cx} : Takes X WF := takes0
def teV (K : PySem.W.Frag) (pn : List (Addr × Obj)) (W : WX) (f : DEnv → R PyData) : TE := fun σ H Q => ∃ G δ, Same G H ∧ RelE K pn G σ δ ∧ AftV K W σ G H Q (f δ)
def ttB (K : PySem.W.Frag) (pn : List (Addr × Obj)) (W : WX) (f : DEnv → R Bool) : TT := fun σ H Q => ∃ G δ, Same G H ∧ RelE K pn G σ δ ∧ AftB K W σ G H Q (f δ)
theorem DV.pe {X : Cx} {W : WX} {e : Expr} {f : DEnv → R PyData} (h : DV X W e f) : PE X e (teV X.K X.pn W f) := by
  obtain ⟨te, p, i⟩ := h
  exact ⟨fun pins s σ H Q I ⟨G, δ, sg, r, q⟩ => p.run pins s σ H Q I (i G H σ δ Q sg r q)⟩
theorem DT.pt {X : Cx} {W : WX} {e : Expr} {f : DEnv → R Bool} (h : DT X W e f) : PT X e (ttB X.K X.pn W f) := by
  obtain ⟨te, p, i⟩ := h
  exact ⟨fun pins s σ H Q I ⟨G, δ, sg, r, q⟩ => p.run pins s σ H Q I (i G H σ δ Q sg r q)⟩
/-- the items that are made -/
def compL (i : Nat) (c : DEnv → R Bool) (e : DEnv → R PyData) (δ : DEnv) : List PyData → R (List PyData)
  | [] => .ok []
  | d :: ds => match c (δ.set i (some (.val d))) with
    | .ok b => if b = true then (match e (δ.set i (some (.val d))) with
      | .ok y => (compL i c e δ ds).map (y :: ·)
      | _ => .bad) else compL i c e δ ds
    | _ => .bad
def dYes : DEnv → R Bool := fun _ => .ok true
def dComp (i : Nat) (fi : DEnv → R (List PyData)) (c : DEnv → R Bool) (e : DEnv → R PyData) : DEnv → R O := fun δ => (fi δ).bind fun ds => if ds.length ≤ sizeLine then (compL i c e δ ds).map .own else .bad
theorem compL_noex {i : Nat} {c : DEnv → R Bool} {e : DEnv → R PyData} {δ : DEnv} {x : Ex} : ∀ {ds : List PyData}, compL i c e δ ds = .ex x → False
  | [], h => by cases h
  | d :: ds, h => by
    unfold compL at h
    split at h
    · split at h
      · split at h
        · cases hc : compL i c e δ ds with
          | ok ys => rw [hc] at h; cases h
          | ex y => exact compL_noex hc
          | bad => rw [hc] at h; cases h
        · cases h
      · exact compL_noex h
    · cases h
section
variable {X : Cx} {W : WX} {elt iter cond : Expr} {px pos : Pos} {x : Str} {scope : Scope}
theorem relE_set {K : PySem.W.Frag} {pn : List (Addr × Obj)} {G : Hp} {σ : St} {δ : DEnv} {i : Nat} {v : V} {d : PyData} (r : RelE K pn G σ δ) (h : Dp K G v d) : RelE K pn G ((wipe σ [i]).set i (some v)) (δ.set i (some (.val d))) := by
  refine ⟨by rw [List.length_set, List.length_set, wipe_length]; exact r.1, fun j o hj => ?_⟩
  have e : wipe σ [i] = σ.set i none := rfl
  by_cases hij : i = j
  · subst hij
    have hi : i < δ.length := by
      have := (List.getElem?_eq_some_iff.mp hj).1
      rw [List.length_set] at this
      exact this
    rw [List.getElem?_set_self hi] at hj
    cases hj
    exact ⟨v, by rw [List.getElem?_set_self (by rw [wipe_length, ← r.1]; exact hi)], .inl h⟩
  · rw [List.getElem?_set_ne hij] at hj
    obtain ⟨w, h1, h2⟩ := r.2 j o hj
    exact ⟨w, by rw [List.getElem?_set_ne hij, e, List.getElem?_set_ne hij]; exact h1, h2⟩
theorem lc_in {J : It} {tt : TT} {i : Nat} {c : DEnv → R Bool} {e : DEnv → R PyData} {G1 H1 : Hp} {σ : St} {δ : DEnv} {ds : List PyData} {Q : VK} {D : Addr} (w : Walk X.K J G1 ds) (s1 : Same G1 H1) (r : RelE X.K X.pn G1 σ δ) (hD : H1 D = none) (hz : ds.length ≤ sizeLine)
    (ht : ∀ σ H (Q : Bool → Hp → Prop), ttB X.K [] WF c σ H Q → tt σ H Q) {zs : List PyData} (hc : compL i c e δ ds = .ok zs)
    (q : ∀ vs G' H', Ext G1 H1 G' H' → G' D = none → H' D = some (.lst vs) → DpAll X.K G' vs zs → Q (.ref D) H') :
    ∃ W : Nat → Nat → Hp → Prop, (∃ m, W 0 m (upd H1 D (.lst []))) ∧ ∀ k m H, W k m H → (J.stop k H ∧ Q (.ref D) H) ∨ (J.go k H ∧ ∃ Nx : Hp → Prop, (∀ H', Nx H' → ∃ m', m' < m ∧ W (k + 1) m' H') ∧ ∀ x H', J.yld k H x H' → gName i x (wipe σ [i]) H' fun σ2 H2 => wipe σ2 [i] = wipe σ [i] ∧ tt σ2 H2 fun b H3 =>
      if b = true then teV X.K [] WF e σ2 H3 fun y H4 => ∃ acc, H4 D = some (.lst acc) ∧ acc.length < sizeLine ∧ Nx (upd H4 D (.lst (acc ++ [y]))) else Nx H3) := by
  have gD : G1 D = none := s1.free hD
  refine ⟨fun k m H => m = ds.length - k ∧ k ≤ ds.length ∧ ∃ G2 acc ys rest, Ext G1 H1 G2 H ∧ G2 D = none ∧ H D = some (.lst acc) ∧ DpAll X.K G2 acc ys ∧ acc.length ≤ k ∧ compL i c e δ (ds.drop k) = .ok rest ∧ ys ++ rest = zs,
    ⟨_, rfl, Nat.zero_le _, G1, [], [], zs, Ext.new s1 hD, gD, upd_same, .nil, Nat.le_refl _, hc, rfl⟩, ?_⟩
  rintro k m H ⟨rfl, hk, G2, acc, ys, rest, e2, g2, h2, al, hl, hr, hzs⟩
  by_cases hlt : k < ds.length
  · obtain ⟨d, hd⟩ : ∃ d, ds[k]? = some d := ⟨_, List.getElem?_eq_getElem hlt⟩
    have w2 := w.same e2.gg
    obtain ⟨go, yl⟩ := w2.go k d H e2.sub hd
    have ed : ds.drop k = d :: ds.drop (k + 1) := by
      rw [List.drop_eq_getElem_cons hlt]
      rw [List.getElem?_eq_getElem hlt] at hd
      cases hd
      rfl
    rw [ed] at hr
    unfold compL at hr
    refine .inr ⟨go, fun H3 => k + 1 ≤ ds.length ∧ ∃ G2 acc ys rest, Ext G1 H1 G2 H3 ∧ G2 D = none ∧ H3 D = some (.lst acc) ∧ DpAll X.K G2 acc ys ∧ acc.length ≤ k + 1 ∧ compL i c e δ (ds.drop (k + 1)) = .ok rest ∧ ys ++ rest = zs, fun H3 h => ⟨ds.length - (k + 1), by omega, rfl, h⟩, fun x H2 y => ?_⟩
    obtain ⟨rfl, dx⟩ := yl x H2 y
    refine ⟨?_, ?_⟩
    · show ((wipe σ [i]).set i (some x)).set i none = (σ.set i none)
      rw [show wipe σ [i] = σ.set i none from rfl, List.set_set, List.set_set]
    have r2 : RelE X.K X.pn G2 ((wipe σ [i]).set i (some x)) (δ.set i (some (.val d))) := relE_set (r.same e2.gg) dx
    refine ht _ _ _ ⟨G2, _, e2.sub, r2.nil, ?_⟩
    cases hcd : c (δ.set i (some (.val d))) with
    | ok b =>
      rw [hcd] at hr
      intro G3 H3 e3
      have g3 : G3 D = none := by
        cases hg : G3 D with
        | none => rfl
        | some o =>
          rcases e3.dom D (by rw [hg]; exact fun z => by cases z) with z | z
          · exact absurd g2 z
          · rw [h2] at z; cases z
      cases b with
      | false =>
        simp only [Bool.false_eq_true, if_false] at hr
        exact iteF ⟨hlt, G3, acc, ys, rest, e2.trans e3, g3, e3.hh _ _ h2, al.same e3.gg, Nat.le_succ_of_le hl, hr, hzs⟩
      | true =>
        simp only [if_true] at hr
        refine iteT ⟨G3, _, e3.sub, (r2.same e3.gg).nil, ?_⟩
        cases hed : e (δ.set i (some (.val d))) with
        | ok z =>
          rw [hed] at hr
          simp only at hr
          intro v G4 H4 e4 dv
          have g4 : G4 D = none := by
            cases hg : G4 D with
            | none => rfl
            | some o =>
              rcases e4.dom D (by rw [hg]; exact fun z => by cases z) with z | z
              · exact absurd g3 z
              · rw [e3.hh _ _ h2] at z; cases z
          have h4 := e4.hh _ _ (e3.hh _ _ h2)
          cases hrest : compL i c e δ (ds.drop (k + 1)) with
          | ok rest' =>
            rw [hrest] at hr
            cases hr
            have e34 := e3.trans e4
            refine ⟨acc, h4, by omega, hlt, G4, acc ++ [v], ys ++ [z], rest', ?_, g4, upd_same, (al.same e34.gg).append (.cons dv .nil), by rw [List.length_append]; exact Nat.succ_le_succ hl, rfl, by rw [← hzs]; simp⟩
            have e14 := e2.trans e34
            exact ⟨e14.gg, fun b o h => by rw [upd_ne (ne_of_none h g4)]; exact e14.sub b o h, fun b o h => by rw [upd_ne (ne_of_none h hD)]; exact e14.hh b o h, e14.dom⟩
          | ex x => rw [hrest] at hr; cases hr
          | bad => rw [hrest] at hr; cases hr
        | ex x => rw [hed] at hr; cases hr
        | bad => rw [hed] at hr; cases hr
    | ex x => rw [hcd] at hr; cases hr
    | bad => rw [hcd] at hr; cases hr
  · have ek : k = ds.length := by omega
    subst ek
    rw [List.drop_length] at hr
    cases hr
    rw [List.append_nil] at hzs
    subst hzs
    exact .inl ⟨(w.same e2.gg).stop H e2.sub, q acc G2 H e2 g2 h2 al⟩
theorem tlc_in {wi : TI} {tt : TT} {i : Nat} {fi : DEnv → R (List PyData)} {c : DEnv → R Bool} {e : DEnv → R PyData} (ii : ∀ G H σ δ Q, Same G H → RelE X.K X.pn G σ δ → AftI X.K W σ G H Q (fi δ) → wi σ H Q)
    (ht : ∀ σ H (Q : Bool → Hp → Prop), ttB X.K [] WF c σ H Q → tt σ H Q) {G H : Hp} {σ : St} {δ : DEnv} {Q : VK} (s : Same G H) (r : RelE X.K X.pn G σ δ) (q : AftE X.K W σ G H Q (dComp i fi c e δ)) : tLc wi (gName i) tt (teV X.K [] WF e) [i] σ H Q := by
  unfold dComp at q
  refine ii G H σ δ _ s r ?_
  cases hi : fi δ with
  | ok ds =>
    rw [hi] at q
    simp only [R.bind_ok] at q
    intro J G1 H1 e1 w D hD
    split at q
    · rename_i hz
      cases hc : compL i c e δ ds with
      | ok zs =>
        rw [hc] at q
        exact lc_in (X := X) w e1.sub (r.same e1.gg) hD hz ht hc fun vs G' H' e2 gD hH al => q D vs G' H' (e1.trans e2) (e1.hh.free hD) gD hH al
      | ex x => exact (compL_noex hc).elim
      | bad => rw [hc] at q; exact q.elim
    · exact q.elim
  | ex x => rw [hi] at q; exact q
  | bad => rw [hi] at q; exact q.elim
/-- [elt for x in iter] -/
theorem do_lc0 (i : Nat) {fi : DEnv → R (List PyData)} {e : DEnv → R PyData} (hc : X.calm = true) (hN : X.N.Nodup) (hi : DI X W (.Name x px) iter fi) (ok : BlkOk X.N X.env.scope scope [(x, i)])
    (hg : ∀ (s : Shared) (H : Hp) (C : Addr) (cl : List (Str × Addr)) (fp : List Addr), PG (X.blk s H scope (compEnvC scope cl C X.env) fp) (.Name x px) (gName i)) (he : ∀ (s : Shared) (H : Hp) (C : Addr) (cl : List (Str × Addr)) (fp : List Addr), DV (X.blk s H scope (compEnvC scope cl C X.env) fp) WF elt e)
    (hs : ∀ y, foldedSetIterable iter X.env y = pure y := by intro _; rfl) : DO X W (.ListComp elt [⟨.Name x px, iter, [], 0⟩] scope pos) (dComp i fi dYes e) := by
  obtain ⟨wi, pi, ii⟩ := hi
  refine ⟨_, pe_lc (own := [(x, i)]) (te := teV X.K [] WF e) hc hN pi ok hg (fun _ _ _ _ _ => pts_nil) (fun s H C cl fp => (he s H C cl fp).pe) hs, fun G H σ δ Q s r q => ?_⟩
  refine tlc_in (W := W) (c := dYes) ii (fun σ H Q ⟨G, δ, s, _, q⟩ => q G H (Ext.refl s)) s r q
/-- [elt for x in iter if cond] -/
theorem do_lc1 (i : Nat) {fi : DEnv → R (List PyData)} {c : DEnv → R Bool} {e : DEnv → R PyData} (hc : X.calm = true) (hN : X.N.Nodup) (hi : DI X W (.Name x px) iter fi) (ok : BlkOk X.N X.env.scope scope [(x, i)])
    (hg : ∀ (s : Shared) (H : Hp) (C : Addr) (cl : List (Str × Addr)) (fp : List Addr), PG (X.blk s H scope (compEnvC scope cl C X.env) fp) (.Name x px) (gName i)) (ht : ∀ (s : Shared) (H : Hp) (C : Addr) (cl : List (Str × Addr)) (fp : List Addr), DT (X.blk s H scope (compEnvC scope cl C X.env) fp) WF cond c)
    (he : ∀ (s : Shared) (H : Hp) (C : Addr) (cl : List (Str × Addr)) (fp : List Addr), DV (X.blk s H scope (compEnvC scope cl C X.env) fp) WF elt e)
    (hs : ∀ y, foldedSetIterable iter X.env y = pure y := by intro _; rfl) : DO X W (.ListComp elt [⟨.Name x px, iter, [cond], 0⟩] scope pos) (dComp i fi c e) := by
  obtain ⟨wi, pi, ii⟩ := hi
  refine ⟨_, pe_lc (own := [(x, i)]) (te := teV X.K [] WF e) (tt := ttB X.K [] WF c) hc hN pi ok hg (fun s H C cl fp => pts_one (ht s H C cl fp).pt) (fun s H C cl fp => (he s H C cl fp).pe) hs, fun G H σ δ Q s r q => ?_⟩
  exact tlc_in (W := W) (c := c) ii (fun σ H Q h => h) s r q
/-- y = [..] -/
theorem ds_setLc0 {j : Nat} (i : Nat) {ms : List Nat} {y : Str} {py spos : Pos} {fi : DEnv → R (List PyData)} {e : DEnv → R PyData} (hc : X.calm = true) (hN : X.N.Nodup) (hy : X.N[j]? = some y) (hyl : X.env.scope.names.lookup y = some .local)
    (hsw : swapsWith (.ListComp elt [⟨.Name x px, iter, [], 0⟩] scope pos) (some (.Name y py)) spos.line X.env = pure true) (hi : DI X W (.Name x px) iter fi) (ok : BlkOk X.N X.env.scope scope [(x, i)])
    (hg : ∀ (s : Shared) (H : Hp) (C : Addr) (cl : List (Str × Addr)) (fp : List Addr), PG (X.blk s H scope (compEnvC scope cl C X.env) fp) (.Name x px) (gName i)) (he : ∀ (s : Shared) (H : Hp) (C : Addr) (cl : List (Str × Addr)) (fp : List Addr), DV (X.blk s H scope (compEnvC scope cl C X.env) fp) WF elt e)
    (hs : ∀ y, foldedSetIterable iter X.env y = pure y := by intro _; rfl) : DS X W (.Assign [.Name y py] (.ListComp elt [⟨.Name x px, iter, [], 0⟩] scope pos) spos) (dSet j ms (dComp i fi dYes e)) := by
  obtain ⟨wi, pi, ii⟩ := hi
  refine ⟨_, ps_setLc (own := [(x, i)]) (te := teV X.K [] WF e) hc hN hy hyl hsw pi ok hg (fun _ _ _ _ _ => pts_nil) (fun s H C cl fp => (he s H C cl fp).pe) hs, fun F H σ δ D r q => ?_⟩
  exact set_in (fun G H σ δ Q s r q => tlc_in (W := W) (c := dYes) ii (fun σ H Q ⟨G, δ, s, _, q⟩ => q G H (Ext.refl s)) s r q) r q
theorem ds_setLc1 {j : Nat} (i : Nat) {ms : List Nat} {y : Str} {py spos : Pos} {fi : DEnv → R (List PyData)} {c : DEnv → R Bool} {e : DEnv → R PyData} (hc : X.calm = true) (hN : X.N.Nodup) (hy : X.N[j]? = some y) (hyl : X.env.scope.names.lookup y = some .local)
    (hsw : swapsWith (.ListComp elt [⟨.Name x px, iter, [cond], 0⟩] scope pos) (some (.Name y py)) spos.line X.env = pure true) (hi : DI X W (.Name x px) iter fi) (ok : BlkOk X.N X.env.scope scope [(x, i)])
    (hg : ∀ (s : Shared) (H : Hp) (C : Addr) (cl : List (Str × Addr)) (fp : List Addr), PG (X.blk s H scope (compEnvC scope cl C X.env) fp) (.Name x px) (gName i)) (ht : ∀ (s : Shared) (H : Hp) (C : Addr) (cl : List (Str × Addr)) (fp : List Addr), DT (X.blk s H scope (compEnvC scope cl C X.env) fp) WF cond c)
    (he : ∀ (s : Shared) (H : Hp) (C : Addr) (cl : List (Str × Addr)) (fp : List Addr), DV (X.blk s H scope (compEnvC scope cl C X.env) fp) WF elt e)
    (hs : ∀ y, foldedSetIterable iter X.env y = pure y := by intro _; rfl) : DS X W (.Assign [.Name y py] (.ListComp elt [⟨.Name x px, iter, [cond], 0⟩] scope pos) spos) (dSet j ms (dComp i fi c e)) := by
  obtain ⟨wi, pi, ii⟩ := hi
  refine ⟨_, ps_setLc (own := [(x, i)]) (te := teV X.K [] WF e) (tt := ttB X.K [] WF c) hc hN hy hyl hsw pi ok hg (fun s H C cl fp => pts_one (ht s H C cl fp).pt) (fun s H C cl fp => (he s H C cl fp).pe) hs, fun F H σ δ D r q => ?_⟩
  exact set_in (fun G H σ δ Q s r q => tlc_in (W := W) (c := c) ii (fun σ H Q h => h) s r q) r q
end
end DL
set_option Elab.async false
set_option linter.all false
set_option maxRecDepth 100000
set_option maxHeartbeats 4000000
set_option autoImplicit false
/-! DL8: sorted, by data. -/
namespace DL
open PySem PySem.Spec L2
open PyProof.Rows hiding St
theorem hu65 {A : Around} {k : Nat} (h : Room k A) : A.units + 65 < cLine := by have := h.un; omega
theorem hu130 {A : Around} {k : Nat} (h : Room k A) : A.units + 130 < cLine := by have := h.un; omega

/-- a key function that is called by sorted -/
def KeyF (X : Cx) (f : Value) (g : PyData → R O) : Prop := ∀ (pins : List (Addr × Obj)) (σ : St) (H G : Hp) (s : Shared) (u : Value) (v : V) (d : PyData) (o : O) (E : Value → Shared → Prop), Inv X pins σ H s → RelV v u → Same G H → Dp X.K G v d → g d = .ok o →
  wpAny (model X.prog X.w) X.A.in1.in1 (call f [u]) (fun u' s' => ∃ v' G' H', Inv X pins σ H' s' ∧ RelV v' u' ∧ Ext G H G' H' ∧ Dp X.K G' v' o.data) E s
theorem keyF_abs {X : Cx} : KeyF X (.builtin "abs") biAbs := fun pins σ H G s u v d o E I r sg hd hg => by
  cases hd with
  | int i =>
    obtain ⟨t, rfl⟩ := r
    cases hg
    exact call_abs_int fun u tk => ⟨.int _, G, H, I.tok _, ⟨_, rfl⟩, Ext.refl sg, .int _⟩
  | _ => cases hg
theorem keyF_def {X : Cx} {k : Nat} {x : Str} {g : List PyData → R O} {f : Addr} {fd : FuncData} {ps : List Str} (F : FnOk X.prog X.w X.K X.mg X.base (L2.CX X.prog X.w) k f fd ps (spD X.K 1 g)) (hb : Binds X.K fd ps []) (hr : Room k X.A.in1.in1) : KeyF X (.ref f) (fun d => g [d]) := fun pins σ H G s u v d o E I r sg hd hg => by
  have al : DpAll X.K G [v] [d] := .cons hd .nil
  have hg : g [d] = .ok o := hg
  have hs : spD X.K 1 g [v] H (fun v' H' => ∃ G', Ext G H G' H' ∧ Dp X.K G' v' o.data) (fun _ _ _ => False) := by
    refine ⟨G, [d], sg, al, rfl, ?_⟩
    rw [hg]
    refine AftE.data ?_
    exact fun v' G' H' e q => ⟨G', e, q⟩
  have hl : ([u] : List Value).length = ps.length := F.len _ _ _ _ hs
  have b := hb s [u] I.kIn (by rw [List.append_nil]; exact hl)
  rw [List.append_nil] at b
  refine wpAny_call (codeAny_mono (F.run X.A.in1.in1 X.stack s H ⟨[u], []⟩ [u] [v] _ _ hr I.env0.in1.in1 b (.cons r .nil) hs) fun r s' hq => ?_)
  cases r with
  | error e =>
    obtain ⟨_, _, _, _, _, _, _, _, _, _, _, _, q⟩ := hq
    exact q.elim
  | ok fl =>
    cases fl with
    | ret u' =>
      obtain ⟨v', H', I', r', G', e, q⟩ := I.after hq
      exact ⟨v', G', H', I', r', e, q⟩
    | next => exact False.elim hq
    | brk => exact False.elim hq
    | cont => exact False.elim hq

def keysR (g : PyData → R O) : List PyData → Option (List PyData)
  | [] => some []
  | d :: ds => match g d with
    | .ok o => (keysR g ds).map (o.data :: ·)
    | _ => none
theorem keysR_len {g : PyData → R O} : ∀ {ds ks : List PyData}, keysR g ds = some ks → ks.length = ds.length
  | [], _, h => by cases h; rfl
  | d :: ds, ks, h => by
    unfold keysR at h
    split at h
    · cases e : keysR g ds with
      | none => rw [e] at h; cases h
      | some ys =>
        rw [e] at h
        cases h
        exact congrArg (· + 1) (keysR_len e)
    · cases h
theorem keysR_get {g : PyData → R O} : ∀ {ds ks : List PyData} {i : Nat} {d : PyData}, keysR g ds = some ks → ds[i]? = some d → ∃ o, g d = .ok o ∧ ks[i]? = some o.data
  | [], _, _, _, _, h => by simp at h
  | d :: ds, ks, i, d', h, hi => by
    unfold keysR at h
    split at h
    · rename_i o ho
      cases e : keysR g ds with
      | none => rw [e] at h; cases h
      | some ys =>
        rw [e] at h
        cases h
        cases i with
        | zero => simp at hi; subst hi; exact ⟨o, ho, rfl⟩
        | succ i => exact keysR_get (i := i) e (by simpa using hi)
    · cases h
def alikes (ks : List PyData) : Bool := ks.all fun a => ks.all fun b => PySem.W.alike a b
def sortables (ks : List PyData) : Bool := ks.all (fun d => match d with | .tuple (_ :: _) => true | _ => false) || ks.all (fun d => match d with | .tuple _ => false | .none => false | _ => true)
theorem alikes_ok {ks : List PyData} (h : alikes ks = true) : PySem.W.AllAlike ks := fun d hd d' hd' => List.all_eq_true.mp (List.all_eq_true.mp h d hd) d' hd'
theorem sortables_ok {ks : List PyData} (h : sortables ks = true) : PySem.W.Sortable ks := by
  unfold sortables at h
  rw [Bool.or_eq_true] at h
  rcases h with h | h
  · refine .inl fun d hd => ?_
    have := List.all_eq_true.mp h d hd
    split at this
    · exact ⟨_, _, rfl⟩
    · cases this
  · refine .inr fun d hd => ?_
    have := List.all_eq_true.mp h d hd
    split at this
    · cases this
    · cases this
    · rename_i h1 h2
      exact ⟨h2, h1⟩
def sortCond (ks : List PyData) : Bool := alikes ks && sortables ks && ks.all (fun d => decide (d.depth ≤ 64)) && decide (ks.length ≤ sizeLine)
theorem sortCond_ok {ks : List PyData} (h : sortCond ks = true) : PySem.W.AllAlike ks ∧ PySem.W.Sortable ks ∧ (∀ d, d ∈ ks → d.depth ≤ 64) ∧ ks.length ≤ sizeLine := by
  unfold sortCond at h
  simp only [Bool.and_eq_true, decide_eq_true_eq] at h
  obtain ⟨⟨⟨h1, h2⟩, h3⟩, h4⟩ := h
  exact ⟨alikes_ok h1, sortables_ok h2, fun d hd => of_decide_eq_true (List.all_eq_true.mp h3 d hd), h4⟩
def sortBy (ds ks : List PyData) : List PyData := ((ds.zip ks).mergeSort (PySem.W.dataLe false Prod.snd)).map Prod.fst

theorem each_zip {K : PySem.W.Frag} {G : Hp} : ∀ {ds ks : List PyData} {vs : List V} {us : List Value}, DpAll K G vs ds → Vals vs us → ks.length = ds.length → PySem.W.EachIs (fun (u : Value) (p : PyData × PyData) => ∃ v, RelV v u ∧ Dp K G v p.1) us (ds.zip ks)
  | [], _, _, _, al, rv, _ => by
    cases al
    cases rv
    exact .nil
  | d :: ds, [], _, _, _, _, h => by cases h
  | d :: ds, k :: ks, _, _, al, rv, h => by
    cases al with
    | cons h1 h2 =>
      cases rv with
      | cons r1 r2 => exact .cons ⟨_, r1, h1⟩ (each_zip h2 r2 (Nat.succ.inj h))
theorem each_back {K : PySem.W.Frag} {G : Hp} : ∀ {us : List Value} {ps : List (PyData × PyData)}, PySem.W.EachIs (fun (u : Value) (p : PyData × PyData) => ∃ v, RelV v u ∧ Dp K G v p.1) us ps → ∃ ws, Vals ws us ∧ DpAll K G ws (ps.map Prod.fst)
  | _, _, .nil => ⟨[], .nil, .nil⟩
  | _, _, .cons ⟨v, r, d⟩ t => by
    obtain ⟨ws, h1, h2⟩ := each_back t
    exact ⟨v :: ws, .cons r h1, .cons d h2⟩
open PySem.W PySem.Calls in
theorem sortRest {X : Cx} {pins : List (Addr × Obj)} {σ : St} {H G : Hp} {s : Shared} {f : Value} {g : PyData → R O} (hf : KeyF X f g) (I : Inv X pins σ H s) (sg : Same G H) {a kS : Addr} {e1 : Nat} {us : List Value} {vs : List V} {ds ks : List PyData}
    (rv : Vals vs us) (al : DpAll X.K G vs ds) (hk : keysR g ds = some ks) (hc : sortCond ks = true) (fa : FpOk X pins H a) (fk : FpOk X pins H kS) (hka : kS ≠ a) (nk : s.heap.get? kS = some (seqObj "list" #[] 0)) (na : s.heap.get? a = some (seqObj "list" #[] e1))
    (hu : X.A.units + 130 < cLine) {P : PySem.Fin → Shared → Prop} {E : Value → Shared → Prop}
    (h : ∀ s' ws G' H', Inv X pins σ (upd H' a (.lst ws)) s' → Ext G H G' (upd H' a (.lst ws)) → G' a = none → DpAll X.K G' ws (sortBy ds ks) → P (.done (.ret .none)) s') :
    wpAny (model X.prog X.w) X.A.in1.in1 (ksk_rest a f false us.toArray e1 (.ref kS)) P E s := by
  obtain ⟨hal, hsk, hdep, hZ⟩ := sortCond_ok hc
  have hlk := keysR_len hk
  have hlv : vs.length = ds.length := al.len
  have hlu : us.length = vs.length := rv.length.symm
  have noc : ∀ (xs : Array Value) (n : Nat) (v : Option Value), (seqObj "list" xs n).data ≠ .cell v := fun xs n v z => by cases z
  unfold ksk_rest
  refine wpAny_bind (wpAny_rule ?_)
  first
    | rw [List.forIn_toArray]
    | (rw [← Array.forIn_toList]; simp only [List.toList_toArray])
    | rw [← Array.forIn_toList]
  refine wpAny_bind (ksk_fold (fun i s' => ∃ H' G' kvs kA e, Inv X pins σ H' s' ∧ Ext G H G' H' ∧ FpOk X pins H' a ∧ FpOk X pins H' kS ∧ s'.heap.get? kS = some (seqObj "list" kA e) ∧ s'.heap.get? a = some (seqObj "list" #[] e1) ∧ Vals kvs kA.toList ∧ DpAll X.K G' kvs (ks.take i)) us 0 s
    ⟨H, G, [], #[], 0, I, Ext.refl sg, fa, fk, nk, na, .nil, by rw [List.take_zero]; exact .nil⟩ ?step ?done)
  case step =>
    rintro j x s' hx ⟨H', G', kvs, kA, e, I', e', fa', fk', nk', na', rk, ak⟩
    simp only [Nat.zero_add] at ak ⊢
    have hj : j < us.length := (List.getElem?_eq_some_iff.mp hx).1
    obtain ⟨v, hv⟩ : ∃ v, vs[j]? = some v := ⟨_, List.getElem?_eq_getElem (by omega)⟩
    obtain ⟨x', hx', rx⟩ := rv.get hv
    rw [hx] at hx'
    cases hx'
    obtain ⟨d, hd, dv⟩ := al.getV hv
    obtain ⟨o, ho, hkj⟩ := keysR_get hk hd
    have hz : kA.size ≤ us.length := by
      have h1 : kvs.length = kA.toList.length := rk.length
      have h2 : kvs.length = (ks.take j).length := ak.len
      have h4 : kA.toList.length = kA.size := Array.length_toList
      rw [List.length_take] at h2
      have h3 : min j ks.length ≤ j := Nat.min_le_left _ _
      omega
    have Ip : Inv X (pins ++ pinsAt [a, kS] s'.heap) σ H' s' := I'.pinned (fun b hb => by
      rcases List.mem_cons.mp hb with rfl | hb
      · exact fa'
      · rw [List.mem_singleton.mp hb]; exact fk') fun b hb => by
      rcases List.mem_cons.mp hb with rfl | hb
      · exact ⟨_, na', noc _ _⟩
      · rw [List.mem_singleton.mp hb]; exact ⟨_, nk', noc _ _⟩
    refine wpAny_bind (wpAny_attempt (wpAny_mono (hf _ σ H' G' s' x v d o (fun _ _ => False) Ip rx e'.sub (dv.same e'.gg) ho) (fun u s'' he => ?_) fun _ _ hF => hF.elim))
    obtain ⟨v', G2, H2, I2, r2, e2, d2⟩ := he
    try dsimp only
    have pa := I2.pin (a, _) (List.mem_append_right _ (List.mem_append_right _ (mem_pinsAt (by simp) na')))
    have pk := I2.pin (kS, _) (List.mem_append_right _ (List.mem_append_right _ (mem_pinsAt (by simp) nk')))
    have nk2 : s''.heap.get? kS = some (seqObj "list" kA e) := pk.1
    have na2 : s''.heap.get? a = some (seqObj "list" #[] e1) := pa.1
    have s1 := Heap.SameBut.update s''.heap kS (Obj.mapSeq (·.push u))
    obtain ⟨c2, hc2⟩ : ∃ c2, (s''.heap.update kS (Obj.mapSeq (·.push u))).get? kS = some (seqObj "list" (kA.push u) c2) := ⟨_, get?_update_seq nk2 (·.push u)⟩
    have ek : ks.take (j + 1) = ks.take j ++ [o.data] := by rw [List.take_add_one, hkj]; simp
    have ea : (kA.push u).toList = kA.toList ++ [u] := by simp
    have fk2 : FpOk X pins H2 kS := ⟨pk.2.1, fk'.2⟩
    have fa2 : FpOk X pins H2 a := ⟨pa.2.1, fa'.2⟩
    have hzs : kA.size ≤ sizeLine := by omega
    refine wpAny_bind (listUpdate_at nk2 rfl ?_ hzs (Nat.le_trans (Nat.le_of_eq (Array.size_push ..)) (Nat.succ_le_succ hzs)))
    have I3 : Inv X pins σ H2 { s'' with heap := s''.heap.update kS (Obj.mapSeq (·.push u)) } := (I2.unpinned).turnedL (t' := s''.toks) (ch := [kS]) (fun b o hb q => (s1.2 b (fun z => hb (by simp [z]))).trans q) fun b hb => by rw [List.mem_singleton.mp hb]; exact fk2
    refine wpAny_pure ⟨rfl, H2, G2, kvs ++ [v'], kA.push u, c2, I3, e'.trans e2, fa2, fk2, hc2, (s1.2 a hka.symm).trans na2, ?_, ?_⟩
    · rw [ea]
      exact rk.append (.cons r2 .nil)
    · rw [ek]
      exact (ak.same e2.gg).append (.cons d2 .nil)
  case done =>
    rintro s' ⟨H', G', kvs, kA, e, I', e', fa', fk', nk', na', rk, ak⟩
    have e3 : ks.take (0 + us.length) = ks := List.take_of_length_le (by omega)
    rw [e3] at ak
    obtain ⟨as, hr⟩ := Dp.readsAll I' ks kvs kA.toList (ak.same e'.sub) rk
    have hk' : EachIs (fun v k => ∃ as, Reads s'.heap v k as) kA.toList ks := by
      have := readsAll_each (h := s'.heap) (fun d : PyData => d) (vs := kA.toList) (bs := ks) (as := as) (by rw [List.map_id']; exact hr)
      exact this
    have hsz : kA.size = us.length := by
      have h1 := hk'.length
      rw [Array.length_toList] at h1
      omega
    try dsimp only
    refine wpAny_bind (listItems_at nk' rfl ?_)
    have hgone : (s'.heap.update kS fun o => { o with data := .freed }).get? kS = none := by
      cases hh : s'.heap with
      | mk ob li =>
        rw [hh] at nk'
        unfold Heap.get? at nk'
        simp only at nk'
        have hx : ∃ o, ob[kS]? = some o := by
          cases q : ob[kS]? with
          | none => rw [q] at nk'; cases nk'
          | some o => exact ⟨o, rfl⟩
        obtain ⟨o, ho⟩ := hx
        simp [Heap.get?, Heap.update, Array.getElem?_modify, ho]
    refine keyH_end (κ := dataKind s'.heap ks) (h₁ := s'.heap.update kS fun o => { o with data := .freed }) (fun b o hb q => ?_) hgone nk' na' hka (SortsAt.data (s := s') hk' hal hsk (fun d hd => ?_)) hsz (by omega) fun h3 tk3 c k3 n3 => ?_
    · by_cases hbk : b = kS
      · subst hbk
        rw [hgone] at q
        cases q
      · rw [Heap.get?_update_ne _ _ _ _ hbk] at q
        exact q
    · have := hdep d hd
      show X.A.units + 1 + 1 + d.depth < cLine
      omega
    · have hkeep : ∀ b o, b ∉ [a, kS] → s'.heap.get? b = some o → h3.get? b = some o := fun b o hb q => k3 b o (fun z => hb (by simp [z])) (by
        rw [Heap.get?_update_ne _ _ _ _ (fun z => hb (by simp [z]))]
        exact q)
      have I3 : Inv X pins σ H' { s' with heap := h3, toks := tk3 } := I'.turnedL (t' := tk3) (ch := [a, kS]) hkeep fun b hb => by
        rcases List.mem_cons.mp hb with rfl | hb
        · exact fa'
        · rw [List.mem_singleton.mp hb]; exact fk'
      have hlen : us.length = ks.length := by omega
      have eR : EachIs (fun (u : Value) (p : PyData × PyData) => ∃ v, RelV v u ∧ Dp X.K G' v p.1) us (ds.zip ks) := each_zip (al.same e'.gg) rv (by omega)
      have hmap : (ds.zip ks).map Prod.snd = ks := List.map_snd_zip (by omega)
      have ko : KeyedOut false ((ds.zip ks).map Prod.snd) us (sortVals (dataKind s'.heap ks) false kA.toList us) := by
        rw [hmap]
        exact ⟨s'.heap, kA.toList, hal, rfl, hk'⟩
      have eo := keyedOut_each (R := fun (u : Value) (p : PyData × PyData) => ∃ v, RelV v u ∧ Dp X.K G' v p.1) Prod.snd ko eR
      obtain ⟨ws, rw1, aw⟩ := each_back eo
      have hwl : ws.length ≤ sizeLine := by
        have h1 := aw.len
        unfold sortBy at h1
        rw [List.length_map, List.length_mergeSort, List.length_zip] at h1
        omega
      refine h _ ws G' H' (I3.take (t' := tk3) (it := a) (fun _ _ _ q => q) fa' ⟨hwl, _, c, rw1, n3⟩) ⟨e'.gg, fun b o q => ?_, fun b o q => ?_, e'.dom⟩ (e'.sub.free fa'.1) aw
      · rw [upd_ne (ne_of_none (e'.sub b o q) fa'.1)]
        exact e'.sub b o q
      · rw [upd_ne (ne_of_none (e'.hh b o q) fa'.1)]
        exact e'.hh b o q
open PySem.W PySem.Calls in
theorem sortTree {X : Cx} {pins : List (Addr × Obj)} {σ : St} {H G : Hp} {s : Shared} {f : Value} {g : PyData → R O} (hf : KeyF X f g) (I : Inv X pins σ H s) (sg : Same G H) {us : List Value} {vs : List V} {ds ks : List PyData}
    (rv : Vals vs us) (al : DpAll X.K G vs ds) (hk : keysR g ds = some ks) (hc : sortCond ks = true) (hu : X.A.units + 130 < cLine) {P : PySem.Fin → Shared → Prop} {E : Value → Shared → Prop}
    (h : ∀ s' ws G' H', Inv X pins σ (upd H' (s.heap.objs.size + 1) (.lst ws)) s' → Ext G H G' (upd H' (s.heap.objs.size + 1) (.lst ws)) → G' (s.heap.objs.size + 1) = none → DpAll X.K G' ws (sortBy ds ks) → P (.done (.ret .none)) s') :
    wpAny (model X.prog X.w) X.A.in1.in1 (ksk_tree (s.heap.objs.size + 1) f false) P E { s with heap := copyHeap s.heap us } := by
  have hZ : us.length ≤ sizeLine := by
    obtain ⟨_, _, _, hZ⟩ := sortCond_ok hc
    have h1 := keysR_len hk
    have h2 := al.len
    have h3 : vs.length = us.length := rv.length
    omega
  have ho := copyHeap_at s.heap us
  have ha : s.heap.objs.size + 1 < (copyHeap s.heap us).objs.size := Heap.lt_size ho
  obtain ⟨e1, ho1⟩ : ∃ e1, ((copyHeap s.heap us).update (s.heap.objs.size + 1) (Obj.mapSeq fun _ => (#[] : Array Value))).get? (s.heap.objs.size + 1) = some (seqObj "list" #[] e1) := ⟨_, get?_update_seq ho fun _ => #[]⟩
  have hkS : (((copyHeap s.heap us).update (s.heap.objs.size + 1) (Obj.mapSeq fun _ => (#[] : Array Value))).push (seqObj "tuple" us.toArray 0)).objs.size = (copyHeap s.heap us).objs.size + 1 := by rw [size_push', Heap.size_update]
  unfold ksk_tree
  refine wpAny_bind (listItems_at ho rfl ?_)
  refine wpAny_bind (listUpdate_at ho rfl ?_ (by rw [List.size_toArray]; exact hZ) (Nat.zero_le _))
  refine wpAny_bind (seqEpoch_at ho1 rfl ?_)
  refine wpAny_bind (wpAny_newTuple ?_ (by show us.length ≤ _; exact hZ))
  refine wpAny_bind (wpAny_newList ?_ (Nat.zero_le _))
  refine wpAny_holding ?_
  have fresh : H (s.heap.objs.size + 1) = none := I.hok.fresh (Nat.le_succ _)
  have freshK : H (((copyHeap s.heap us).update (s.heap.objs.size + 1) (Obj.mapSeq fun _ => (#[] : Array Value))).push (seqObj "tuple" us.toArray 0)).objs.size = none := I.hok.fresh (by rw [hkS]; omega)
  have hka : (((copyHeap s.heap us).update (s.heap.objs.size + 1) (Obj.mapSeq fun _ => (#[] : Array Value))).push (seqObj "tuple" us.toArray 0)).objs.size ≠ s.heap.objs.size + 1 := by rw [hkS]; omega
  have hkl : s.heap.objs.size ≤ (((copyHeap s.heap us).update (s.heap.objs.size + 1) (Obj.mapSeq fun _ => (#[] : Array Value))).push (seqObj "tuple" us.toArray 0)).objs.size := by rw [hkS]; omega
  refine sortRest hf (s := { s with heap := (((copyHeap s.heap us).update (s.heap.objs.size + 1) (Obj.mapSeq fun _ => (#[] : Array Value))).push (seqObj "tuple" us.toArray 0)).push (seqObj "list" #[] 0) })
    (I.kept (t' := s.toks) fun b u q => ?_) sg rv al hk hc (I.fpOk (Nat.le_succ _) fresh) (I.fpOk hkl freshK) hka (Heap.get?_push_size _ rfl) (Heap.get?_push_of_some _ (Heap.get?_push_of_some _ ho1)) hu h
  have hb : b ≠ s.heap.objs.size + 1 := Nat.ne_of_lt (Nat.lt_succ_of_lt (Heap.lt_size q))
  exact Heap.get?_push_of_some _ (Heap.get?_push_of_some _ ((Heap.get?_update_ne _ _ _ _ hb).trans (copyHeap_old q)))

def opSortK (g : PyData → R O) (d : PyData) : R O := match d with
  | .list ds => (match keysR g ds with
    | some ks => if sortCond ks = true then .ok (.own (sortBy ds ks)) else .bad
    | none => .bad)
  | _ => .bad
def dSortedK (g : PyData → R O) (f : DEnv → R PyData) : DEnv → R O := fun δ => (f δ).bind (opSortK g)
def tSortK (K : PySem.W.Frag) (g : PyData → R O) (te : TE) : TE := fun σ H Q => te σ H fun x H1 => ∃ v, [x] = [v] ∧ ∃ G ds ks, Same G H1 ∧ Dp K G v (.list ds) ∧ keysR g ds = some ks ∧ sortCond ks = true ∧
  ∀ a ws G' H', Ext G H1 G' H' → H1 a = none → G' a = none → H' a = some (.lst ws) → DpAll K G' ws (sortBy ds ks) → Q (.ref a) H'
theorem pe_sortedKey {X : Cx} {e fe : Expr} {p kp pos : Pos} {f : Value} {g : PyData → R O} {te : TE} (hf : KeyF X f g) (hu : X.A.units + 130 < cLine) (ht : ∀ a, Builtin.«list.sort» ⟨[.ref a], [(Str.ofString "key", f)]⟩ = ksk_tree a f false)
    (hfe : ∀ (pins : List (Addr × Obj)) (s : Shared) (σ : St) (H : Hp) (Q : Value → Shared → Prop), Inv X pins σ H s → Q f s → wpAny (model X.prog X.w) X.A (eval fe X.env) Q X.xe s) (hm : X.mg "sorted" = none) (pe : PE X e te) (hg : Gl X "sorted" := by rfl)
    (hst : backTo pos (starEach [e] X.env) = (false, eval e X.env) :: backTo pos (starEach [] X.env) := by rfl) (hpl : (backTo pos (starEach [e] X.env)).any (·.1) = false := by rfl) (hs1 : starEach [e] X.env = (false, eval e X.env) :: starEach [] X.env := by rfl)
    (hall : (backToKw pos (keywordEach [⟨some "key", fe, kp⟩] X.env)).all (·.1.isSome) = true := by rfl) (hnone : (backToKw pos (keywordEach [⟨some "key", fe, kp⟩] X.env)).any (·.1.isNone) = false := by rfl) (hks : (backToKw pos (keywordEach [⟨some "key", fe, kp⟩] X.env)).filterMap (·.1) = [Str.ofString "key"] := by rfl) :
    PE X (.Call (.Name "sorted" p) [e] [⟨some "key", fe, kp⟩] pos) (tSortK X.K g te) := by
  refine ⟨fun pins s σ H Q I h => ?_⟩
  · refine wpAny_Call_Name_kw (ld_blt I hg hm (u := .builtin "sorted") (by decide +kernel) ?_ (by decide) (by decide))
    have ha : PA X [e] (tCons te tNil) := pa_cons pe pa_nil hs1
    refine PyProof.Rows.callWith_kw (thn (ha.run pos pins s σ H (fun vs H1 => ∃ v, vs = [v] ∧ ∃ G ds ks, Same G H1 ∧ Dp X.K G v (.list ds) ∧ keysR g ds = some ks ∧ sortCond ks = true ∧ ∀ a ws G' H', Ext G H1 G' H' → H1 a = none → G' a = none → H' a = some (.lst ws) → DpAll X.K G' ws (sortBy ds ks) → Q (.ref a) H') I ?_) fun us s1 hh => ?_) hst hpl hall hnone
    · exact h
    · obtain ⟨vs, H1, I1, r1, v, rfl, G, ds, ks, sg, hd, hk, hc, q⟩ := hh
      cases r1 with
      | cons ru rn =>
        rename_i u us'
        cases rn
        have hkw : wpAny (model X.prog X.w) X.A (evalAll ((do let v ← eval fe X.env; standAt pos; pure v) :: [])) (fun ws s2 => ws = [f] ∧ s2 = s1) X.xe s1 :=
          wpAny_evalAll_cons (wpAny_bind (hfe pins s1 σ H1 _ I1 (wpAny_bind (wpAny_standAt (wpAny_pure (wpAny_evalAll_nil ⟨rfl, rfl⟩))))))
        refine thn hkw fun ws s2 hw => ?_
        obtain ⟨rfl, rfl⟩ := hw
        rw [hks]
        show wpAny _ _ (call (.builtin "sorted") [u] [(Str.ofString "key", f)]) _ _ _
        cases hd with
        | lst hl al =>
          cases ru
          obtain ⟨its, rv, pl, hz⟩ := I1.list (sg.seq hl)
          refine PySem.W.sorted_of_sort (vs := its) pl.isList (by rw [← rv.length]; exact hz) (ksk_s1 _ _) (fun _ => ksk_l1 _ _) fun E' => ?_
          rw [ht]
          refine sortTree hf I1 sg rv al hk hc hu fun s' ws G' H' I' e' ng aw => ⟨rfl, ?_⟩
          exact ⟨.ref _, _, I', rfl, q _ ws G' _ e' (I1.hok.fresh (Nat.le_succ _)) ng upd_same aw⟩
theorem do_sortedKey {X : Cx} {W : WX} {e fe : Expr} {p kp pos : Pos} {f : Value} {g : PyData → R O} {fa : DEnv → R PyData} (hf : KeyF X f g) (hu : X.A.units + 130 < cLine) (ht : ∀ a, Builtin.«list.sort» ⟨[.ref a], [(Str.ofString "key", f)]⟩ = ksk_tree a f false)
    (hfe : ∀ (pins : List (Addr × Obj)) (s : Shared) (σ : St) (H : Hp) (Q : Value → Shared → Prop), Inv X pins σ H s → Q f s → wpAny (model X.prog X.w) X.A (eval fe X.env) Q X.xe s) (hm : X.mg "sorted" = none) (he : DV X W e fa) (hg : Gl X "sorted" := by rfl)
    (hst : backTo pos (starEach [e] X.env) = (false, eval e X.env) :: backTo pos (starEach [] X.env) := by rfl) (hpl : (backTo pos (starEach [e] X.env)).any (·.1) = false := by rfl) (hs1 : starEach [e] X.env = (false, eval e X.env) :: starEach [] X.env := by rfl)
    (hall : (backToKw pos (keywordEach [⟨some "key", fe, kp⟩] X.env)).all (·.1.isSome) = true := by rfl) (hnone : (backToKw pos (keywordEach [⟨some "key", fe, kp⟩] X.env)).any (·.1.isNone) = false := by rfl) (hks : (backToKw pos (keywordEach [⟨some "key", fe, kp⟩] X.env)).filterMap (·.1) = [Str.ofString "key"] := by rfl) :
    DO X W (.Call (.Name "sorted" p) [e] [⟨some "key", fe, kp⟩] pos) (dSortedK g fa) := by
  obtain ⟨te, pe, ie⟩ := he
  refine ⟨tSortK X.K g te, pe_sortedKey hf hu ht hfe hm pe hg hst hpl hs1 hall hnone hks, fun G H σ δ Q s rl q => ?_⟩
  · refine one_in (W := W) (Aft := fun G H r => AftE X.K W σ G H Q r) (fun h => h) (fun h => h) (fun e h => h.ext e) ie s rl q fun G2 H2 v x s2 e2 d2 q2 => ?_
    unfold opSortK at q2
    cases d2 with
    | lst hl al =>
      simp only at q2
      split at q2
      · rename_i ks hk
        split at q2
        · rename_i hc
          exact ⟨_, rfl, G2, _, ks, s2, .lst hl al, hk, hc, q2⟩
        · exact q2.elim
      · exact q2.elim
    | _ => exact q2.elim
end DL
set_option Elab.async false
set_option linter.all false
set_option maxRecDepth 100000
set_option maxHeartbeats 4000000
set_option autoImplicit false
/-! DL9: own exceptions whose __init__ says super().__init__(text); self.f = f. -/
namespace PySem
namespace SupX
open PySem.W PySem.Calls PyProof.Rows PySem.HandSPX
/-- the text of __init__(self, f): super().__init__(text); self.f = f -/
def iA (f : Str) (p1 p2 : Pos) : Arguments := { posonlyargs := [], args := [{ arg := "self", annotation := none, pos := p1 }, { arg := f, annotation := none, pos := p2 }], vararg := none, kwonlyargs := [], kw_defaults := [], kwarg := none, defaults := [] }
def iB (f txt : Str) (j : Nat) (r0 r1 r2 r3 r4 r5 q1 q2 q3 q4 : Pos) : List Stmt :=
  [.Expr (.Call (.Attribute (.Call (.Name "super" r0) [] [] r1) "__init__" r2) [.Constant (.str txt) j r3] [] r4) r5, .Assign [.Attribute (.Name "self" q1) f q2] (.Name f q3) q4]
def iS (f : Str) : Scope := { kind := .function, names := [(Str.ofString "self", .local), (f, .local), (Str.ofString "__class__", .free), (Str.ofString "super", .globalImplicit)], isGenerator := false, isCoroutine := false, more := [] }
/-- a field's name -/
structure NmOk (f : Str) : Prop where
  bnd : ∀ (qual : Str) (body : List Stmt) (kV doc pm : Value) (an : Option Addr) (cdv ct : Value) (cc : Addr) (p1 p2 : Pos) (u v : Value), bindArgs (ksFn "__init__" qual (iA f p1 p2) body (iS f) .none kV doc pm an cdv ct cc) ⟨[u, v], []⟩ = pure [(("self" : Str), u), (f, v)]
  nf1 : (("super" : Str) == f) = false
  nf2 : (("__class__" : Str) == f) = false
  nf3 : (f == ("self" : Str)) = false
  nf4 : (f == ("__debug__" : Str)) = false
  nf5 : (("self" : Str) == f) = false
theorem nmOk_count : NmOk "count" := ⟨by intros; rfl, by decide, by decide, by decide, by decide, by decide⟩
/-- super().__init__(text) is a call of a method -/
def SupEv (txt : Str) (j : Nat) (r0 r1 r2 r3 r4 : Pos) : Prop := ∀ env : Env, ∃ pl : Sem Bool, eval (.Call (.Attribute (.Call (.Name "super" r0) [] [] r1) "__init__" r2) [.Constant (.str txt) j r3] [] r4) env = (do
  let ov ← attributeBase (.Call (.Name "super" r0) [] [] r1) "__init__" env (eval (.Call (.Name "super" r0) [] [] r1) env)
  standAt r2.atName
  let (f, first) ← holding [ov] (getMethod ov "__init__" pl)
  callWith r4 f first (backTo r4 (starEach [.Constant (.str txt) j r3] env)) [])
/-- what the written part says of the class at C, its __init__ at fI, the cell at cc, the code at cda -/
structure SupTxt (P : Program) (K : Frag) (f : Str) (C fI cc cda : Addr) : Prop where
  cls : ∃ nm q N bs bm sn sub ab col dd k0 k1 k2 k3 k5, K.lookup C = some (excClassObj nm q C N bs bm true sn sub ab col dd k0 k1 k2 k3 k5 "ValueError.__new__") ∧ refsVE bm = true ∧ alongIn K "__init__" bm = some (some (.builtin "ValueError.__init__"))
  sa : findIn K (.ref C) "__setattr__" = some (some (.builtin "object.__setattr__"))
  noN : findIn K (.ref C) f = some none
  iC : findIn K (.ref C) "__init__" = some (some (.ref fI))
  tC : typeIn K (.ref fI) = some (.type "function")
  kC : keepIn K (.ref C) = true
  exC : subIn K (.ref C) (.type "BaseException") = some true
  veC : subIn K (.ref C) (.type "ValueError") = some true
  tyC : typeIn K (.ref C) = some (.type "type")
  fn : ∃ (oc : Value) (od : Option Addr) (qual txt : Str) (j : Nat) (sc : Scope) (kV doc pm : Value) (an : Option Addr) (ct : Value) (osl : Array (Option Value)) (p1 p2 r0 r1 r2 r3 r4 r5 q1 q2 q3 q4 : Pos),
    K.lookup fI = some ⟨oc, od, .func (ksFn "__init__" qual (iA f p1 p2) (iB f txt j r0 r1 r2 r3 r4 r5 q1 q2 q3 q4) sc .none kV doc pm an (.ref cda) ct cc), osl⟩ ∧ codeIn K (.ref cda) qual = true ∧
    sc = iS f ∧ SupEv txt j r0 r1 r2 r3 r4
  code : ∃ ccl cdd vs ccs file tf, K.lookup cda = some ⟨ccl, cdd, .fields vs, ccs⟩ ∧ vs[2]? = some (.str file tf) ∧ ((P.main.file : Str) == file) = true
  cell : ∃ cl cld csl, K.lookup cc = some ⟨cl, cld, .cell (some (.ref C)), csl⟩
  opq : nsIn K cStatics "thirdparty.any" = some none
  nm : NmOk f
  sup : nsIn K mainGlobals "super" = some none
  top : (P.main.scope.names.lookup ("super" : Str)).isSome = false
theorem one_size (v : Value) : [v].length ≤ sizeLine := by
  rw [sizeLine_eq]
  exact (by decide : 1 ≤ 16777216)
theorem ldX {M : Model} {s : Shared} {env : Env} {m : Str → Option Value} {x : Str} {pos : Pos} {v : Value} {Q : Value → Shared → Prop} {A : Around} {E : Value → Shared → Prop} (hn : s.heap.Ns env.locals m) (hv : m x = some v) (h : Q v s)
    (hk : env.scope.kind = .function) (hl : env.kindOf x = some .local) (hd : (x == ("__debug__" : Str)) = false) : wpAny M A (eval (.Name x pos) env) Q E s := wpAny_Name (wpAny_loadName_local hk hl hn hv h) hd
/-- what __init__ leaves of a fresh exception at x -/
structure InitEnd (h h' : Heap) (x C dx t1 : Addr) (f : Str) (v : Value) : Prop where
  keep : ∀ b o, b ≠ x → h.get? b = some o → h'.get? b = some o
  obj : h'.get? x = some { cls := .ref C, dict := some dx, data := .fields #[.ref t1, .none, .none, .none, .bool false, .none] }
  dbig : h.objs.size ≤ dx
  dne : dx ≠ x
  ns : h'.Ns1 dx (fun y => if y = f then some v else none)
/-- a made exception -/
structure OwnMade (h h' : Heap) (e C d : Addr) (f : Str) (v : Value) : Prop where
  keep : ∀ b o, h.get? b = some o → h'.get? b = some o
  new : h.objs.size ≤ e
  obj : ∃ oe vs, h'.get? e = some oe ∧ oe.cls = .ref C ∧ oe.dict = some d ∧ oe.data = .fields vs ∧ vs[1]? = some .none
  dbig : h.objs.size ≤ d
  dne : d ≠ e
  ns : h'.Ns1 d (fun y => if y = f then some v else none)
section
variable {prog : Program} {w : World} {A : Around} {E : Value → Shared → Prop} {R : Result → Shared → Prop} {s : Shared} {K : Frag} {f : Str} {C fI cc cda : Addr}
theorem super_call {h : Heap} {g : Array GenState} {d : Drawn} {tk : Nat} {os : OsState} {nm q : Str} {N : Addr} {bs bm : List Value} {hdct : Bool} {sn : List Str} {sub : List Value} {ab : Bool} {col : Option Bool} {dd : Option Addr} {k0 k1 k2 k3 k5 : Option Value} {u x t0 : Addr} {rest : List Value} {Q : Value → Shared → Prop}
    (hC : h.get? C = some (excClassObj nm q C N bs bm hdct sn sub ab col dd k0 k1 k2 k3 k5 "ValueError.__new__")) (he : h.get? x = some (excO C t0)) (hu : h.get? u = some (kxs_mw "ValueError.__init__" x)) (hrest : rest.length ≤ sizeLine)
    (hq : ∀ h' t1, (∀ b o, b ≠ x → h.get? b = some o → h'.get? b = some o) → h'.get? x = some (excO C t1) → Q .none ⟨h', g, d, tk, os⟩) :
    wpAny (model prog w) A (call (.ref u) rest) Q E ⟨h, g, d, tk, os⟩ := by
  refine wpAny_call (codeAny_of_tree ?_)
  show wpAny _ A.in1 (callAny (.ref u) ⟨rest, []⟩) _ _ _
  simp only [callAny]
  refine wpAny_bind (wpAny_load hu ?_)
  simp only [kxs_mw, show (Value.type "method-wrapper" == Value.type "method" || Value.type "method-wrapper" == Value.type "builtin_function_or_method" || Value.type "method-wrapper" == Value.type "method-wrapper") = true by decide, if_true]
  refine KFB.if_so (by decide) ?_
  refine wpAny_bind (check_bound_init F.excBase_ValueError.toExcCallFacts hC he rfl ?_)
  refine wpAny_bind (wpAny_pure (wpAny_pure ?_))
  refine ⟨plainId_quiet F.excBase_ValueError.init.plain _, codeAny_builtin F.excBase_ValueError.initEntry ?_⟩
  exact exc_init_tree (cls := .ref C) (t0 := t0) (dv := none) (c2 := .none) (c3 := .none) (b4 := .bool false) he hrest fun h' k e' _ => hq h' _ k e'
theorem sup_init {mg : Str → Option Value} {base : Heap} (T : SupTxt prog K f C fI cc cda) (md : L2.Mod K mg base) (kb : ∀ b o, base.get? b = some o → s.heap.get? b = some o) {x t0 : Addr} {v : Value} (hxK : K.lookup x = none) (hx : s.heap.get? x = some (excO C t0)) (hroom : A.depth < recursionLimit)
    (hq : ∀ h' tk dx t1, InitEnd s.heap h' x C dx t1 f v → R (.ok (.ret .none)) { s with heap := h', toks := tk }) :
    codeAny (model prog w) A (.call (.ref fI) ⟨[.ref x, v], []⟩) R s := by
  obtain ⟨oc, od, qual, txt, j, sc, kV, doc, pm, an, ct, osl, p1, p2, r0, r1, r2, r3, r4, r5, q1, q2, q3, q4, ho, hcd, rfl, hev⟩ := T.fn
  obtain ⟨nm, q, N, bs, bm, sn, sub, ab, col, dd, k0, k1, k2, k3, k5, hC, hbm, hini⟩ := T.cls
  obtain ⟨ccl, cdd, vs, ccs, file, tf, hcda, hvs, hfile⟩ := T.code
  obtain ⟨cl, cld, csl, hcell⟩ := T.cell
  have hcl : clsIn K C = some { name := nm, bases := bs, mro := .ref C :: bm, ns := N, qualname := q, hasDict := true, slotNames := sn, subclasses := sub, abstract := ab, collection := col, hasDel := false } := by unfold clsIn; rw [hC] <;> rfl
  have X : K.In s.heap := md.kin.keeps kb
  have nf1 := T.nm.nf1
  have nf2 := T.nm.nf2
  have nf3 := T.nm.nf3
  have nf5 := T.nm.nf5
  have l1 : (iS f).names.lookup ("self" : Str) = some .local := rfl
  have l2 : (iS f).names.lookup f = some .local := by
    show List.lookup f [(("self" : Str), NameKind.local), (f, .local), (("__class__" : Str), .free), (("super" : Str), .globalImplicit)] = _
    simp [List.lookup, nf3]
  have l3 : (iS f).names.lookup ("super" : Str) = some .globalImplicit := by
    show List.lookup ("super" : Str) [(("self" : Str), NameKind.local), (f, .local), (("__class__" : Str), .free), (("super" : Str), .globalImplicit)] = _
    rw [List.lookup_cons, List.lookup_cons, nf1]
    rfl
  have l4 : (iS f).names.lookup ("__class__" : Str) = some .free := by
    show List.lookup ("__class__" : Str) [(("self" : Str), NameKind.local), (f, .local), (("__class__" : Str), .free), (("super" : Str), .globalImplicit)] = _
    rw [List.lookup_cons, List.lookup_cons, nf2]
    rfl
  refine ks_codeAny_call_defAt (fd := ksFn "__init__" qual (iA f p1 p2) (iB f txt j r0 r1 r2 r3 r4 r5 q1 q2 q3 q4) (iS f) .none kV doc pm an (.ref cda) ct cc) (body := iB f txt j r0 r1 r2 r3 r4 r5 q1 q2 q3 q4) (binds := [("self", .ref x), (f, v)]) hroom (X _ _ ho) rfl (md.nolimit.keeps kb) (codeRec_of X hcd) rfl
    (BindsTo.of_eq (T.nm.bnd _ _ _ _ _ _ _ _ _ _ _ _ _)) (by intro y hy; simp only [ksFn, fnX, iS, List.mem_cons, List.not_mem_nil, or_false] at hy; rcases hy with rfl | rfl | rfl | rfl <;> simp) (by
      intro y hy
      rcases List.mem_cons.mp hy with rfl | hy
      · exact l1
      · rw [List.mem_singleton.mp hy]; exact l2) (fun h₁ hns hk₁ => ?_)
  have X₁ : K.In h₁ := X.keeps hk₁
  have kb₁ : ∀ b o, base.get? b = some o → h₁.get? b = some o := fun b o e => hk₁ b o (kb b o e)
  have hx₁ := hk₁ _ _ hx
  have hxL : s.heap.objs.size ≠ x := Nat.ne_of_gt (Heap.lt_size hx)
  obtain ⟨mb, hb1, hb2⟩ := md.blt
  have hself : (([(("self" : Str), Value.ref x), (f, v)] : List (Str × Value)).reverse.lookup ("self" : Str)) = some (.ref x) := by
    show List.lookup ("self" : Str) [(f, v), (("self" : Str), Value.ref x)] = _
    rw [List.lookup_cons, nf5]
    rfl
  have hf : (([(("self" : Str), Value.ref x), (f, v)] : List (Str × Value)).reverse.lookup f) = some v := by
    show List.lookup f [(f, v), (("self" : Str), Value.ref x)] = _
    simp [List.lookup]
  have hmro : refsVE (.ref C :: bm) = true := hbm
  have hxC : x ≠ C := fun z => by rw [z, hC] at hxK; cases hxK
  have hcD : h₁.get? C = some (excClassObj nm q C N bs bm true sn sub ab col dd k0 k1 k2 k3 k5 "ValueError.__new__") := X₁ _ _ hC
  -- super().__init__(text)
  obtain ⟨pl, he⟩ := hev (callEnv (ksFn "__init__" qual (iA f p1 p2) (iB f txt j r0 r1 r2 r3 r4 r5 q1 q2 q3 q4) (iS f) .none kV doc pm an (.ref cda) ct cc) s.heap.objs.size fI)
  refine ks_wpAt_execs_cons (ks_wpAt_Expr_any (ks_wpAt_MethodCall ?_ he))
  refine ks_wpAt_super_base (env := callEnv (ksFn "__init__" qual (iA f p1 p2) (iB f txt j r0 r1 r2 r3 r4 r5 q1 q2 q3 q4) (iS f) .none kV doc pm an (.ref cda) ct cc) s.heap.objs.size fI) l3 l4 (by decide) rfl (X₁ _ _ ho) rfl rfl rfl (X₁ _ _ hcda) rfl hvs hfile T.top ?_
  refine ks_loadName_global rfl l3 (loadGlobal_builtin (md.glob.keeps kb₁) (mg_none_of md.kin md.glob T.sup) (hb1.keeps kb₁) ((hb2 _ (by decide +kernel)).trans (by decide +kernel : bootBuiltins "super" = some (.type "super"))) ⟨rfl, ?_⟩)
  refine wpAny_loadName_free rfl l4 rfl ⟨_, X₁ _ _ hcell, rfl⟩ ?_
  refine wpAny_loadName_local rfl l1 hns hself ?_
  refine ks_wpAny_isType_cls hcD rfl ⟨rfl, ?_⟩
  have hno1 : ∀ c, (excO C t0).data ≠ .cls c := fun c z => by cases z
  refine ks_wpAny_call_super hcD rfl hx₁ rfl hno1 (looks_mroIn X₁ (by unfold mroIn; rw [hcl, Option.bind_some]; simp)) (fun h₂ e₂ k₂ => ?_)
  have X₂ : K.In h₂ := X₁.keeps k₂
  have hx₂ := k₂ _ _ hx₁
  have I₂ : InstAt h₂ x (excO C t0) C none := ⟨hx₂, rfl, rfl, trivial⟩
  have hC₂ : Looks (model prog w) h₂ (mroOf (.ref C)) (.ref C :: bm) := fun A Q E s k q => wpAny_bind ((looks_clsIn X₂ hcl) A _ E s k (wpAny_pure q))
  refine kxs_getMethod kxs_ValueError e₂ (looks_opaque X₂ T.opq) (l₀ := .ref C :: bm) hC₂ (by simp [List.dropWhile_cons]) X₂ hini (I₂.type.andThen (looks_subIn X₂ T.veC)) hxC (by decide) ?_
  refine kxs_callWith (i := "ValueError.__init__") (x := x) (by rfl) (evalArgs_plain (spliced_cons (wpAny_Constant_str (k := j) (pos := r3) (spliced_nil ?_))))
  refine ⟨Heap.get?_push_size _ rfl, ?_⟩
  have k₃ : ∀ b o, h₂.get? b = some o → (h₂.push (kxs_mw "ValueError.__init__" x)).get? b = some o := fun b o e => Heap.get?_push_of_some _ e
  refine super_call (X₂.keeps k₃ _ _ hC) (k₃ _ _ hx₂) (Heap.get?_push_size _ rfl) (one_size _) (fun h₄ t1 k₄ hx₄ => ?_)
  have old : ∀ b o, s.heap.get? b = some o → b ≠ x → h₄.get? b = some o := fun b o e hb => k₄ b o hb (k₃ _ _ (k₂ _ _ (hk₁ _ _ e)))
  have hkb : ∀ b o, h₁.get? b = some o → b ≠ x → h₄.get? b = some o := fun b o e hb => k₄ b o hb (k₃ _ _ (k₂ _ _ e))
  have X₄ : K.In h₄ := fun b o e => hkb b o (X₁ b o e) fun z => by rw [z, hxK] at e; cases e
  have hns₄ : h₄.Ns s.heap.objs.size fun y => List.lookup y ([(("self" : Str), Value.ref x), (f, v)] : List (Str × Value)).reverse := by
    obtain ⟨oL, es, ep, hL, r⟩ := hns
    exact ⟨oL, es, ep, hkb _ _ hL hxL, r⟩
  -- self.f = f
  show wpAt _ _ _ (execs _ _) _ _ _
  refine wpAt_of_wpAny (wpAny_execs_cons (plainObj_wpAny_Assign_Attribute ?_))
  refine ldX hns₄ hf ?_ rfl l2 T.nm.nf4
  refine ldX hns₄ hself ?_ rfl l1 (by decide)
  refine set_plain X₄ (ox := excO C t1) (od := none) ⟨hx₄, rfl, rfl, trivial⟩ T.sa ?_
  refine exc_osa X₄ hx₄ hcl hmro rfl T.noN (fun h₅ tk₅ dx k₅ dn dne hx₅ hn₅ => ?_)
  have z : s.heap.objs.size < h₄.objs.size := hns₄.lt
  exact wpAny_execs_nil (hq h₅ tk₅ dx t1 ⟨fun b o hb e => k₅ b o hb (old b o e hb), hx₅, Nat.le_of_lt (Nat.lt_of_lt_of_le z dn), dne, hn₅⟩)
theorem sup_made {mg : Str → Option Value} {base : Heap} (T : SupTxt prog K f C fI cc cda) (md : L2.Mod K mg base) (kb : ∀ b o, base.get? b = some o → s.heap.get? b = some o) {v : Value} (hroom : A.depth + 1 < recursionLimit)
    (hq : ∀ h' tk e d, OwnMade s.heap h' e C d f v → R (.ok (.ret (.ref e))) { s with heap := h', toks := tk }) :
    codeAny (model prog w) A (.call (.ref C) ⟨[v], []⟩) R s := by
  obtain ⟨nm, q, N, bs, bm, sn, sub, ab, col, dd, k0, k1, k2, k3, k5, hC, hbm, hini⟩ := T.cls
  have X : K.In s.heap := md.kin.keeps kb
  obtain ⟨hp, g, dr, tk, os⟩ := s
  have k : ∀ b o, hp.get? b = some o → ((hp.push (kdv_tup [v])).push (excO C hp.objs.size)).get? b = some o := fun b o e => Heap.get?_push_of_some _ (Heap.get?_push_of_some _ e)
  have hget : ((hp.push (kdv_tup [v])).push (excO C hp.objs.size)).get? (hp.objs.size + 1) = some (excO C hp.objs.size) := by heap_get
  have hnx : K.lookup (hp.objs.size + 1) = none := by
    cases e : K.lookup (hp.objs.size + 1) with
    | none => rfl
    | some o =>
      have z : hp.get? (hp.objs.size + 1) = some o := X _ _ e
      exact absurd (Nat.lt_of_succ_lt (Heap.lt_size z)) (Nat.lt_irrefl _)
  refine call_own F.excBase_ValueError (fun X => refsVE_contains X bm hbm) (X _ _ hC) (looks_findIn X T.iC) (fun self => bind_fn X self T.tC) (one_size v) ?_
  refine sup_init (s := ⟨(hp.push (kdv_tup [v])).push (excO C hp.objs.size), g, dr, tk, os⟩) T md (fun b o e => k b o (kb b o e)) hnx hget ?_ fun h' tk' dx t1 ⟨k', hx, dn, dne, hns⟩ => ?_
  · show A.depth + 1 < recursionLimit
    exact hroom
  · have old : ∀ b o, hp.get? b = some o → h'.get? b = some o := fun b o e => k' b o (Nat.ne_of_lt (Nat.lt_succ_of_lt (Heap.lt_size e))) (k b o e)
    have z : hp.objs.size + 1 + 1 ≤ dx := by
      first
        | (simpa only [Heap.size_push] using dn)
        | exact dn
        | (have q := dn; rw [Heap.size_push, Heap.size_push] at q; exact q)
    exact ⟨rfl, hq h' tk' (hp.objs.size + 1) dx ⟨old, Nat.le_succ _, ⟨_, _, hx, rfl, rfl, rfl, rfl⟩, Nat.le_trans (Nat.le_trans (Nat.le_succ _) (Nat.le_succ _)) z, dne, hns⟩⟩
end
end SupX
end PySem
set_option Elab.async false
set_option linter.all false
set_option maxRecDepth 100000
set_option maxHeartbeats 4000000
set_option autoImplicit false
/-! DL10: raise, try .. except X as e, isinstance(e, X), e.f by data. -/
namespace DL
open PySem PySem.Spec L2
open PyProof.Rows hiding St
/-! ### raise X(e) -/
theorem relO_fld {f : Str} {v : V} {v' : Value} (r : RelV v v') (g : Str) : RelO (List.lookup g [(f, v)]) (if g = f then some v' else none) := by
  by_cases hw : g = f
  · subst hw
    rw [if_pos rfl]
    have q : List.lookup g [(g, v)] = some v := by simp [List.lookup]
    rw [q]
    exact r
  · rw [if_neg hw]
    have qw : (g == f) = false := by simpa using hw
    have q2 : List.lookup g [(f, v)] = none := by simp [List.lookup, qw]
    rw [q2]
    trivial
section
variable {X : Cx} {C fI cc cda : Addr} {f x : Str}
def tMkSup (C : Addr) (f : Str) (ta : TA) : L2.St → Hp → XK → Prop := fun σ H Q => ta σ H fun vs H1 => ∃ v, vs = [v] ∧ ∀ d, H1 d = none → Q (.ref C) (some d) (upd H1 d (.xd [(f, v)]))
theorem pmk_sup {a : Expr} {ta : TA} {p pos : Pos} {k : Nat} (T : PySem.SupX.SupTxt X.prog X.K f C fI cc cda) (gC : X.mg x = some (.ref C)) (hr : Room k X.A) (ha : PA X [a] ta) (hg : Gl X x) (hdb : (x == ("__debug__" : Str)) = false := by decide)
    (he : starEach (a :: []) X.env = (false, eval a X.env) :: starEach [] X.env := by rfl) (hpl : (backTo pos (starEach [] X.env)).any (·.1) = false := by rfl) :
    PMk X (.Call (.Name x p) [a] [] pos) (tMkSup C f ta) := by
  intro pins s σ H Q I h
  refine wpAny_Call_Name_kw (ld_glob I hg gC ?_ hdb)
  refine PySem.W.callWith_K (h₀ := X.base) I.ok.mod.kin T.kC (thn (ha.run pos pins s σ H _ I h) fun us s1 hh => ?_) he hpl
  obtain ⟨vs, H1, I1, r1, v, ev, q1⟩ := hh
  subst ev
  refine ⟨I1.kIn, ?_⟩
  cases r1 with
  | cons rv rn =>
    rename_i v' us'
    cases rn
    show wpAny _ _ (call (.ref C) [v']) _ _ _
    have kb : ∀ b o, X.base.get? b = some o → s1.heap.get? b = some o := I1.bk
    obtain ⟨hp, g, dr, tk, os⟩ := s1
    refine wpAny_call (PySem.SupX.sup_made T I1.mod kb (by have := hr.dp; omega) fun h' tk' e d M => ?_)
    show MkP X pins σ Q (.ref e) ⟨h', g, dr, tk', os⟩
    obtain ⟨oe, fv, hoe, hc, hd, hdat, h1⟩ := M.obj
    have hns := M.ns
    obtain ⟨G', g1, g2⟩ := restrict h' fun b => decide (b ≠ e)
    have gk : ∀ b, b ≠ e → G'.get? b = h'.get? b := fun b hb => g1 b (decide_eq_true hb)
    have ge : G'.get? e = none := g2 e (by simp)
    have old : ∀ b o, hp.get? b = some o → G'.get? b = some o := fun b o q => (gk b (Nat.ne_of_lt (Nat.lt_of_lt_of_le (Heap.lt_size q) M.new))).trans (M.keep b o q)
    have ob : ObjOk X.prog X.w (upd H1 d (.xd [(f, v)])) G' d (.xd [(f, v)]) :=
      ⟨_, hns.at (fun o q => (gk d M.dne).trans q), fun g => relO_fld rv g⟩
    have J : Inv X pins σ (upd H1 d (.xd [(f, v)])) ⟨G', g, dr, tk', os⟩ := I1.laid (t' := tk') old M.dbig ob
    refine ⟨e, oe, fv, ⟨G', g, dr, tk', os⟩, _, .ref C, some d, rfl, J, fun b o q => ?_, ge, hoe, ⟨hc, hd⟩, hdat, h1, ?_, rfl, I1.bare, raises_own T.exC T.tyC, q1 d (I1.hok.fresh M.dbig)⟩
    · by_cases hb : b = e
      · have q' : G'.get? b = some o := q
        rw [hb, ge] at q'; cases q'
      · exact (gk b hb).symm.trans q
    · rw [upd_ne (Ne.symm M.dne)]
      exact I1.hok.fresh M.new
end
/-- the class x, whose __init__ takes f -/
structure SupC (P : Program) (K : PySem.W.Frag) (mg : Str → Option Value) (x f : Str) : Prop where
  gC : mg x = some (.ref (He.ga K x))
  ex : ∃ fI cc cda, PySem.SupX.SupTxt P K f (He.ga K x) fI cc cda
def dRaise (x f : Str) (g : DEnv → R PyData) : DEnv → SO := fun δ => match g δ with
  | .ok d => if flat d = true then .ex ⟨x, some (f, d)⟩ δ else .bad
  | .ex y => if y.flat = true then .ex y δ else .bad
  | .bad => .bad
section
variable {X : Cx} {W : WX} {f x : Str} {a : Expr} {p pos pos2 : Pos} {k : Nat}
theorem ds_raise {g : DEnv → R PyData} (hc : X.calm = true) (T : SupC X.prog X.K X.mg x f) (hr : Room k X.A) (tk : Takes X W) (ha : DV X W a g) (hg : Gl X x) (hdb : (x == ("__debug__" : Str)) = false := by decide)
    (he : starEach (a :: []) X.env = (false, eval a X.env) :: starEach [] X.env := by rfl) (hpl : (backTo pos (starEach [] X.env)).any (·.1) = false := by rfl) :
    DS X W (.Raise (some (.Call (.Name x p) [a] [] pos)) none pos2) (dRaise x f g) := by
  obtain ⟨te, pe, ie⟩ := ha
  obtain ⟨fI, cc, cda, T1⟩ := T.ex
  refine ⟨_, ps_raise hc tk (pmk_sup T1 T.gC hr (pa_cons pe pa_nil he) hg hdb he hpl), fun F H σ δ D r q => ?_⟩
  obtain ⟨p1, p2⟩ := r.plus (P := Ow σ δ) fun _ h => h
  refine ie (DL.plus F H (Ow σ δ)) H σ δ _ p2 r.sees ?_
  unfold dRaise at q
  cases hgd : g δ with
  | ok d =>
    rw [hgd] at q
    simp only at q
    by_cases hf : flat d = true
    · rw [if_pos hf] at q
      intro v G' H' e dv
      obtain ⟨r1, s1, l1⟩ := r.behind e
      refine ⟨v, rfl, fun d0 hd0 => ?_⟩
      have F0 : (minus G' (Ow σ δ)) d0 = none := r1.sub.free hd0
      have sF := upd_same_of (o := .xd [(f, v)]) F0
      have r2 : Rel X.K X.pn (upd (minus G' (Ow σ δ)) d0 (.xd [(f, v)])) (upd H' d0 (.xd [(f, v)])) σ δ := r1.grow sF (fun b o h => by
        by_cases hb : b = d0
        · subst hb; rw [upd_same] at h ⊢; exact h
        · rw [upd_ne hb] at h ⊢; exact r1.sub b o h) (upd_same_of hd0) fun b hb => by
        by_cases hbd : b = d0
        · subst hbd
          obtain ⟨vs, z, _⟩ := r1.there hb
          rw [hd0] at z; cases z
        · rw [upd_ne hbd]
          obtain ⟨_, _, z⟩ := r1.there hb
          exact z
      refine q _ _ σ _ _ ⟨s1.ff.trans sF, fun b o h ho => ?_, fun b h => ?_, s1.own⟩ r2 ⟨rfl, d0, v, rfl, upd_same, (flat_minus l1 dv hf).same sF⟩
      · rw [upd_ne (ne_of_none (s1.hh b o h ho) hd0)]
        exact s1.hh b o h ho
      · by_cases hb : b = d0
        · subst hb
          cases hh : H b with
          | none => exact .inr (.inr rfl)
          | some o =>
            by_cases ho : Ow σ δ b
            · exact .inr (.inl ho)
            · rw [s1.hh b o hh ho] at hd0; cases hd0
        · rw [upd_ne hb] at h
          exact s1.dom b h
    · rw [if_neg hf] at q
      exact q.elim
  | ex y =>
    rw [hgd] at q
    simp only at q
    by_cases hfl : y.flat = true
    · rw [if_pos hfl] at q
      intro cls d G' H' e z
      obtain ⟨r1, s1, l1⟩ := r.behind e
      exact q cls d σ _ H' s1 r1 (z.minus l1 hfl)
    · rw [if_neg hfl] at q
      exact q.elim
  | bad => rw [hgd] at q; exact q.elim
end

/-! ### try .. except X as e -/
def noDict (δ : DEnv) : Bool := δ.all fun o => match o with
  | some (.val d) => !isDict d
  | _ => true
theorem noDict_get {δ : DEnv} (h : noDict δ = true) {i : Nat} {d : PyData} (hi : δ[i]? = some (some (.val d))) : isDict d = false := by
  have := List.all_eq_true.mp h _ (List.mem_of_getElem? hi)
  simpa using this
theorem Rel.nil {K : PySem.W.Frag} {pn : List (Addr × Obj)} {F H : Hp} {σ : L2.St} {δ : DEnv} (r : Rel K pn F H σ δ) : Rel K [] F H σ δ := ⟨r.sub, r.len, fun i d h => by
  obtain ⟨v, h1, h2⟩ := r.val i d h
  rcases h2 with h2 | ⟨a, dd, x, h2, h3, h4, _⟩
  · exact ⟨v, h1, .inl h2⟩
  · exact ⟨v, h1, .inr ⟨a, dd, x, h2, h3, h4, fun p rest z => by cases z⟩⟩, r.own, r.dis⟩
theorem Rel.repn {K : PySem.W.Frag} {pn pn' : List (Addr × Obj)} {F H : Hp} {σ : L2.St} {δ : DEnv} (r : Rel K pn F H σ δ) (h : noDict δ = true) : Rel K pn' F H σ δ := ⟨r.sub, r.len, fun i d hi => by
  obtain ⟨v, h1, h2⟩ := r.val i d hi
  exact ⟨v, h1, .inl (h2.dp (noDict_get h hi))⟩, r.own, r.dis⟩
theorem AftS.nil {K : PySem.W.Frag} {pn : List (Addr × Obj)} {W : WX} {F H : Hp} {P : Addr → Prop} {D : Ends} : ∀ {r : SO}, AftS K [] W F H P D r → AftS K pn W F H P D r
  | .nx _, h => fun σ' F' H' s r => h σ' F' H' s r.nil
  | .bk _, h => fun σ' F' H' s r => h σ' F' H' s r.nil
  | .ct _, h => fun σ' F' H' s r => h σ' F' H' s r.nil
  | .rt (.val _), h => h
  | .rt (.own _), h => h
  | .ex _ _, h => fun cls d σ' F' H' s r z => h cls d σ' F' H' s r.nil z
  | .bad, h => h
/-- a slot is emptied -/
theorem Rel.unset {K : PySem.W.Frag} {pn : List (Addr × Obj)} {F H : Hp} {σ : L2.St} {δ : DEnv} (r : Rel K pn F H σ δ) (i : Nat) : Rel K pn F H (σ.set i none) (δ.set i none) := by
  have key : ∀ {j : Nat} {o : O}, (δ.set i none)[j]? = some (some o) → i ≠ j ∧ δ[j]? = some (some o) := fun {j o} h => by
    by_cases hj : i = j
    · subst hj
      by_cases hi : i < δ.length
      · rw [List.getElem?_set_self hi] at h; cases h
      · rw [List.getElem?_eq_none (by rw [List.length_set]; omega)] at h; cases h
    · rw [List.getElem?_set_ne hj] at h
      exact ⟨hj, h⟩
  refine ⟨r.sub, by rw [List.length_set, List.length_set]; exact r.len, fun j d h => ?_, fun j ds h => ?_, fun j k a x y => ?_⟩
  · obtain ⟨hj, h'⟩ := key h
    rw [List.getElem?_set_ne hj]
    exact r.val j d h'
  · obtain ⟨hj, h'⟩ := key h
    rw [List.getElem?_set_ne hj]
    exact r.own j ds h'
  · obtain ⟨ds, x1, x2⟩ := x
    obtain ⟨es, y1, y2⟩ := y
    obtain ⟨hj, x1'⟩ := key x1
    obtain ⟨hk, y1'⟩ := key y1
    rw [List.getElem?_set_ne hj] at x2
    rw [List.getElem?_set_ne hk] at y2
    exact r.dis j k a ⟨ds, x1', x2⟩ ⟨es, y1', y2⟩
theorem ow_unset {σ : L2.St} {δ : DEnv} {i : Nat} {b : Addr} (h : Ow (σ.set i none) (δ.set i none) b) : Ow σ δ b := by
  obtain ⟨j, ds, h1, h2⟩ := h
  by_cases hj : i = j
  · subst hj
    by_cases hi : i < δ.length
    · rw [List.getElem?_set_self hi] at h1; cases h1
    · rw [List.getElem?_eq_none (by rw [List.length_set]; omega)] at h1; cases h1
  · rw [List.getElem?_set_ne hj] at h1 h2
    exact ⟨j, ds, h1, h2⟩
/-- the suite's end: the name is gone -/
def unsetS (i : Nat) : SO → SO
  | .nx δ => if noDict (δ.set i none) = true then .nx (δ.set i none) else .bad
  | .bk δ => if noDict (δ.set i none) = true then .bk (δ.set i none) else .bad
  | .ct δ => if noDict (δ.set i none) = true then .ct (δ.set i none) else .bad
  | .rt o => .rt o
  | .ex _ _ => .bad
  | .bad => .bad
def emptyAt (δ : DEnv) (i : Nat) : Bool := match δ[i]? with
  | some none => true
  | _ => false
theorem emptyAt_ok {δ : DEnv} {i : Nat} (h : emptyAt δ i = true) : δ[i]? = some none := by
  unfold emptyAt at h
  split at h
  · assumption
  · cases h
def catchS (isx : Str → Option Bool) (i : Nat) (gs : DEnv → SO) : SO → SO
  | .nx δ => if noDict δ = true then .nx δ else .bad
  | .bk δ => if noDict δ = true then .bk δ else .bad
  | .ct δ => if noDict δ = true then .ct δ else .bad
  | .rt o => .rt o
  | .ex x δ => if (noDict δ && emptyAt δ i) = true then (match isx x.cls with
    | some true => unsetS i (gs (δ.set i (some (.val (excD x)))))
    | some false => .ex x δ
    | none => .bad) else .bad
  | .bad => .bad
def dTry (isx : Str → Option Bool) (i : Nat) (gb gs : DEnv → SO) : DEnv → SO := fun δ => if noDict δ = true then catchS isx i gs (gb δ) else .bad
/-- the canonical reading of statements -/
def tsS (K : PySem.W.Frag) (g : DEnv → SO) (W : WX) : TS := fun D σ H => ∃ F δ, Rel K [] F H σ δ ∧ noDict δ = true ∧ AftS K [] W F H (Ow σ δ) D (g δ)
/-- .. of a suite that holds an exception at a in slot i -/
def tsX (K : PySem.W.Frag) (i : Nat) (g : DEnv → SO) (a : Addr) (cls : Value) (d : Option Addr) : TS := fun D σ H => ∃ F δ x, cls = .ref (He.ga K x.cls) ∧ ExcFld K F d x ∧ σ[i]? = some (some (.ref a)) ∧ δ[i]? = some none ∧ Rel K [] F H (σ.set i none) δ ∧ noDict δ = true ∧
  AftS K [] WF F H (Ow (σ.set i none) δ) D (g (δ.set i (some (.val (excD x)))))
theorem DSs.pss {X : Cx} {W : WX} {sts : List Stmt} {g : DEnv → SO} (h : DSs X W sts g) : PSs X sts (tsS X.K g W) := by
  obtain ⟨ts, p, i⟩ := h
  exact ⟨fun pins s σ H D I ⟨F, δ, r, nd, q⟩ => p.run pins s σ H D I (i F H σ δ D (r.repn nd) q.nil)⟩
theorem ow_exc {σ : L2.St} {δ : DEnv} {i : Nat} {d : PyData} (h : δ[i]? = some none) : Ow σ (δ.set i (some (.val d))) = Ow (σ.set i none) δ := by
  have hi : i < δ.length := (List.getElem?_eq_some_iff.mp h).1
  funext b
  refine propext ⟨fun ⟨j, ds, h1, h2⟩ => ?_, fun ⟨j, ds, h1, h2⟩ => ?_⟩
  · by_cases hj : i = j
    · subst hj
      rw [List.getElem?_set_self hi] at h1; cases h1
    · rw [List.getElem?_set_ne hj] at h1
      exact ⟨j, ds, h1, by rw [List.getElem?_set_ne hj]; exact h2⟩
  · by_cases hj : i = j
    · subst hj
      rw [h] at h1; cases h1
    · rw [List.getElem?_set_ne hj] at h2
      exact ⟨j, ds, by rw [List.getElem?_set_ne hj]; exact h1, h2⟩
theorem DSs.suite {X : Cx} {sts : List Stmt} {g : DEnv → SO} {i : Nat} {a : Addr} {oe : Obj} {cls : Value} {d : Option Addr} {pn : List (Addr × Obj)} (hz : Zc cls d oe) (hf : ∃ vs, oe.data = .fields vs) (h : DSs (X.suite a ((a, oe) :: pn)) WF sts g) : PSs (X.suite a ((a, oe) :: pn)) sts (tsX X.K i g a cls d) := by
  obtain ⟨ts, p, is⟩ := h
  refine ⟨fun pins s σ H D I ⟨F, δ, x, ec, fl, hi, di, r, nd, q⟩ => p.run pins s σ H D I ?_⟩
  have hil : i < δ.length := (List.getElem?_eq_some_iff.mp di).1
  refine is F H σ (δ.set i (some (.val (excD x)))) D ⟨r.sub, by rw [List.length_set]; have := r.len; rw [List.length_set] at this; exact this, fun j e hj => ?_, fun j ds hj => ?_, fun j k b x1 y1 => ?_⟩ ?_
  · by_cases hij : i = j
    · subst hij
      rw [List.getElem?_set_self hil] at hj
      cases hj
      refine ⟨_, hi, .inr ⟨a, d, x, rfl, rfl, fl, fun p rest z => ?_⟩⟩
      cases z
      exact ⟨rfl, by rw [← ec]; exact hz, hf⟩
    · rw [List.getElem?_set_ne hij] at hj
      obtain ⟨v, h1, h2⟩ := r.val j e hj
      rw [List.getElem?_set_ne hij] at h1
      exact ⟨v, h1, .inl (h2.dp (noDict_get nd hj))⟩
  · by_cases hij : i = j
    · subst hij
      rw [List.getElem?_set_self hil] at hj
      cases hj
    · rw [List.getElem?_set_ne hij] at hj
      obtain ⟨b, vs, h1, h2⟩ := r.own j ds hj
      rw [List.getElem?_set_ne hij] at h1
      exact ⟨b, vs, h1, h2⟩
  · have back : ∀ {j : Nat} {b : Addr}, OwnAt σ (δ.set i (some (.val (excD x)))) j b → OwnAt (σ.set i none) δ j b := fun {j b} ⟨ds, h1, h2⟩ => by
      by_cases hij : i = j
      · subst hij
        rw [List.getElem?_set_self hil] at h1
        cases h1
      · rw [List.getElem?_set_ne hij] at h1
        exact ⟨ds, h1, by rw [List.getElem?_set_ne hij]; exact h2⟩
    exact r.dis j k b (back x1) (back y1)
  · rw [ow_exc di]
    exact q.nil
section
variable {X : Cx} {W : WX} {x n : Str} {c : Value} {i : Nat} {body suite : List Stmt} {b₀ : Stmt} {np pos pos' : Pos} {gb gs : DEnv → SO} {isx : Str → Option Bool}
theorem ds_try (hs : X.stack = X.env :: X.outer) (hf : X.env.frame = some X.env.locals) (hN : X.N.Nodup) (hi : X.N[i]? = some n) (hln : X.env.kindOf n = some .local) (hc : Names X x c) (tk : Takes X W) (hx : ∀ y b, isx y = some b → PySem.W.exmOne X.K (.ref (He.ga X.K y)) c = some b)
    (hb : ∀ (W : WX) (pn : List (Addr × Obj)) (xe : Value → Shared → Prop), Takes (X.tr pn xe) W → PassesOwn (model X.prog X.w) X.A X.env xe → DSs (X.tr pn xe) W body gb)
    (hsu : ∀ (a : Addr) (oe : Obj) (cls : Value) (d : Option Addr) (pn : List (Addr × Obj)), Zc cls d oe → (∃ vs, oe.data = .fields vs) → DSs (X.suite a ((a, oe) :: pn)) WF (b₀ :: suite) gs) :
    DS X W (.Try body [.ExceptHandler (some (.Name x np)) (some n) (b₀ :: suite) pos'] [] [] pos) (dTry isx i gb gs) := by
  refine ⟨_, ps_try_as (tb := tsS X.K gb) (ts := fun a cls d => tsX X.K i gs a cls d) (Wout := W) hs hf hN hi hln hc tk (fun W pn xe tk hp => (hb W pn xe tk hp).pss) (fun a oe cls d pn hz hf => (hsu a oe cls d pn hz hf).suite hz hf), fun F H σ δ D r q => ?_⟩
  unfold dTry at q
  by_cases hnd : noDict δ = true
  · rw [if_pos hnd] at q
    refine ⟨F, δ, r.nil, hnd, ?_⟩
    cases hg : gb δ with
    | nx δ' =>
      rw [hg] at q
      simp only [catchS] at q
      by_cases h1 : noDict δ' = true
      · rw [if_pos h1] at q
        exact fun σ' F' H' s r' => q σ' F' H' s (r'.repn h1)
      · rw [if_neg h1] at q; exact q.elim
    | bk δ' =>
      rw [hg] at q
      simp only [catchS] at q
      by_cases h1 : noDict δ' = true
      · rw [if_pos h1] at q
        exact fun σ' F' H' s r' => q σ' F' H' s (r'.repn h1)
      · rw [if_neg h1] at q; exact q.elim
    | ct δ' =>
      rw [hg] at q
      simp only [catchS] at q
      by_cases h1 : noDict δ' = true
      · rw [if_pos h1] at q
        exact fun σ' F' H' s r' => q σ' F' H' s (r'.repn h1)
      · rw [if_neg h1] at q; exact q.elim
    | rt o =>
      rw [hg] at q
      simp only [catchS] at q
      cases o <;> exact q
    | bad => rw [hg] at q; exact q.elim
    | ex x δ' =>
      rw [hg] at q
      simp only [catchS] at q
      by_cases h1 : (noDict δ' && emptyAt δ' i) = true
      · rw [if_pos h1] at q
        rw [Bool.and_eq_true] at h1
        obtain ⟨h1, h2⟩ := h1
        have di := emptyAt_ok h2
        have hil : i < δ'.length := (List.getElem?_eq_some_iff.mp di).1
        intro cls d σ' F' H' s r' z
        obtain ⟨ec, fl⟩ := z
        cases hb : isx x.cls with
        | none => rw [hb] at q; exact q.elim
        | some b =>
          rw [hb] at q
          refine ⟨b, by rw [ec]; exact hx _ _ hb, fun hbt a ha => ?_, fun hbf => ?_⟩
          · subst hbt
            simp only at q
            have hset : (σ'.set i (some (V.ref a))).set i none = σ'.set i none := List.set_set ..
            have r2 : Rel X.K [] F' H' ((σ'.set i (some (.ref a))).set i none) δ' := by
              rw [hset]
              have := r'.unset i
              have e : δ'.set i none = δ' := by
                refine List.ext_getElem? fun j => ?_
                by_cases hj : i = j
                · subst hj
                  rw [List.getElem?_set_self hil, di]
                · rw [List.getElem?_set_ne hj]
              rw [e] at this
              exact this
            have hsl : i < σ'.length := by rw [← r'.len]; exact hil
            refine ⟨F', δ', x, ec, fl, by rw [List.getElem?_set_self hsl], di, r2, h1, ?_⟩
            rw [hset]
            have osub : ∀ b, Ow (σ'.set i none) δ' b → Ow σ' δ' b := fun b ⟨j, ds, y1, y2⟩ => by
              by_cases hj : i = j
              · subst hj; rw [di] at y1; cases y1
              · rw [List.getElem?_set_ne hj] at y2
                exact ⟨j, ds, y1, y2⟩
            have s2 : SExt F H (Ow σ δ) F' H' (Ow (σ'.set i none) δ') := ⟨s.ff, s.hh, s.dom, fun b hb => s.own b (osub b hb)⟩
            cases hgs : gs (δ'.set i (some (.val (excD x)))) with
            | nx δ2 =>
              rw [hgs] at q
              simp only [unsetS] at q
              by_cases h3 : noDict (δ2.set i none) = true
              · rw [if_pos h3] at q
                intro σ3 F3 H3 s3 r3
                have s4 := s2.trans s3
                exact q _ F3 H3 ⟨s4.ff, s4.hh, s4.dom, fun b hb => s4.own b (ow_unset hb)⟩ ((r3.unset i).repn h3)
              · rw [if_neg h3] at q; exact q.elim
            | bk δ2 =>
              rw [hgs] at q
              simp only [unsetS] at q
              by_cases h3 : noDict (δ2.set i none) = true
              · rw [if_pos h3] at q
                intro σ3 F3 H3 s3 r3
                have s4 := s2.trans s3
                exact q _ F3 H3 ⟨s4.ff, s4.hh, s4.dom, fun b hb => s4.own b (ow_unset hb)⟩ ((r3.unset i).repn h3)
              · rw [if_neg h3] at q; exact q.elim
            | ct δ2 =>
              rw [hgs] at q
              simp only [unsetS] at q
              by_cases h3 : noDict (δ2.set i none) = true
              · rw [if_pos h3] at q
                intro σ3 F3 H3 s3 r3
                have s4 := s2.trans s3
                exact q _ F3 H3 ⟨s4.ff, s4.hh, s4.dom, fun b hb => s4.own b (ow_unset hb)⟩ ((r3.unset i).repn h3)
              · rw [if_neg h3] at q; exact q.elim
            | rt o =>
              rw [hgs] at q
              have q2 := AftS.ext s2 q
              cases o <;> exact q2
            | ex _ _ => rw [hgs] at q; exact q.elim
            | bad => rw [hgs] at q; exact q.elim
          · subst hbf
            simp only at q
            exact q cls d σ' F' H' s (r'.repn h1) ⟨ec, fl⟩
      · rw [if_neg h1] at q; exact q.elim
  · rw [if_neg hnd] at q
    exact q.elim
end
end DL
set_option Elab.async false
set_option linter.all false
set_option maxRecDepth 100000
set_option maxHeartbeats 4000000
set_option autoImplicit false
/-! DL11: a caught exception read; defs called in a suite. -/
namespace PySem.W
open PySem PySem.Spec PySem.Calls PyProof.Rows
section
variable {prog : Program} {w : World} {A : Around} {E : Value → Shared → Prop} {s : Shared} {K : Frag} {x D : Addr} {ox : Obj} {od : Option Obj}
theorem dl_findObj {C : Addr} {name : Str} {a g : Value} (hc : (clsIn K C).isSome = true) (ha : findIn K (.ref C) name = some (some a)) (hg : specialIn K a "__get__" = some (some g)) (ht : takesIn K a = some true) : findObj K C od name = some (.bind g a) := by
  obtain ⟨cd, hc⟩ := Option.isSome_iff_exists.mp hc
  unfold findObj
  rw [hc, Option.bind_some, ha, Option.bind_some]
  simp [hg, ht]
theorem dl_classE {Q : Option Value → Shared → Prop} (C : L2.ExcC K D)
    (X : K.In s.heap) (I : InstAt s.heap x ox D od) (h : Q (some (.ref D)) { s with toks := s.toks + 1 }) : wpAny (model prog w) A (getAttr? (.ref x) "__class__") Q E s := by
  obtain ⟨hga, hgt, hsub, hdct, ha, hn, htk, hm⟩ := C
  have hf : findObj K D od "__class__" = some (.bind (.builtin "getset_descriptor.__get__") (.builtin "object.__class__")) := dl_findObj (by obtain ⟨cd, hc, _⟩ := any_some hdct; rw [hc]; rfl) ha hn htk
  obtain ⟨hp, g, d, t, os⟩ := s
  have L0 := I.type (M := model prog w)
  have L1 := looks_findIn (M := model prog w) X hga
  have L2 := looks_findIn (M := model prog w) X hgt
  have L3 := looks_find (M := model prog w) X I hf
  have sub : Looks (model prog w) hp (isInstance (.ref x) (.type "BaseException")) true := L0.andThen (looks_subIn X hsub)
  have hx0 : (false && onTheHeap (Value.builtin "BaseException.__getattribute__")) = false := rfl
  have hx2 : (Value.builtin "BaseException.__getattribute__" == Value.builtin "object.__getattribute__") = false := by decide +kernel
  have hx1 : (onTheHeap (Value.ref D) && Value.builtin "BaseException.__getattribute__" == Value.builtin "object.__getattribute__") = false := by rw [hx2]; rfl
  unfold getAttr? getAttrBy? getAttrBy
  refine wpAny_bind (wpAny_mkText (wpAny_bind (wpAny_attempt (wpAny_holding (wpAny_bind (L0.at (wpAny_bind (L1.at ?_))))))))
  show wpAny _ _ (if (onTheHeap (Value.ref D) && Value.builtin "BaseException.__getattribute__" == Value.builtin "object.__getattribute__") = true then _ else _) _ _ _
  rw [hx1, if_neg Bool.false_ne_true]
  unfold getAttrByItsOwn hookBefore
  refine wpAny_bind ?_
  rw [if_pos (show onTheHeap (Value.ref D) = true from rfl)]
  refine L2.at ?_
  refine wpAny_bind (wpAny_attempt (wpAny_holding ?_))
  unfold callGetattribute
  rw [hx0, if_neg Bool.false_ne_true]
  unfold boundAndCalled
  rw [PySem.F.excAttr_ValueError.ga.bind (.ref x)]
  refine wpAny_bind (wpAny_pure ?_)
  show wpAny _ _ (call (.builtin "BaseException.__getattribute__") [.ref x, .str "__class__" t]) _ _ _
  refine wpAny_call (codeAny_call_builtin PySem.F.excAttr_ValueError.ga.plain PySem.F.entry_bexc_ga ?_)
  refine @check_slot (model prog w) _ _ ⟨hp, g, d, t + 1, os⟩ "BaseException.__getattribute__" "BaseException" "__getattribute__" (.ref x) [.str "__class__" t] [] _ (by decide +kernel) (by decide +kernel) sub (PySem.F.args_bexc_ga (.ref x) (.str "__class__" t)) ?_
  unfold Builtin.«object.__getattribute__»
  refine wpAny_bind (wpAny_of_eq (a := ((Value.ref x : Value), [Value.str "__class__" t])) (by first | rfl | (simp only [slotArgs]; rfl)) ?_)
  refine wpAny_bind (wpAny_pure (wpAny_bind (L0.at (wpAny_bind (L3.at ?_)))))
  show wpAny _ _ (holding [Value.builtin "object.__class__"] (call (.builtin "getset_descriptor.__get__") [.builtin "object.__class__", .ref x, .ref D]) >>= ret) _ _ _
  refine wpAny_bind (wpAny_holding (wpAny_call (class_get (s := ⟨hp, g, d, t + 1, os⟩) (ox := ox) (od := od) X I hm ?_)))
  refine wpAny_pure ?_
  show wpAny _ _ (handedOut (.ref D)) _ _ _
  rw [handedOut_of (v := .ref D) rfl]
  first
    | exact wpAny_pure (wpAny_pure h)
    | exact wpAny_pure h
    | exact wpAny_pure (wpAny_bind (wpAny_pure (wpAny_pure h)))
theorem dl_kitx (C : L2.ExcC K D) : KitX K (.ref x) (.ref D) (fun h => InstAt h x ox D od) where
  ty := fun _ _ _ I => I.type
  it := fun _ _ X _ => by
    obtain ⟨cdD, hcD, _⟩ := any_some C.hd
    unfold clsIn at hcD
    split at hcD
    · rename_i c' d' cd' sl' ho
      intro A' Q' E' s' k q
      unfold isType loadHead
      exact wpAny_bind (wpAny_loadPart (k _ _ (X _ _ ho)) (wpAny_pure q))
    · cases hcD
  ne := fun h tp dd its n sl X htp => by
    obtain ⟨cdD, hcD, _⟩ := any_some C.hd
    refine Bool.eq_false_iff.mpr fun q => ?_
    have e : D = tp := Value.ref.inj (beq_iff_eq.mp q)
    subst e
    unfold clsIn at hcD
    split at hcD
    · rename_i c' d' cd' sl' ho
      have z := (X _ _ ho).symm.trans htp
      cases z
    · cases hcD
  ca := fun X I k => dl_classE C X I k
end
end PySem.W
namespace DL
open PySem PySem.Spec L2
open PyProof.Rows hiding St
/-- the exception at a, as the state holds it -/
theorem exc_inst {X : Cx} {pins : List (Addr × Obj)} {σ : L2.St} {H : Hp} {s : Shared} {a D : Addr} {oe : Obj} {dd : Option Addr} {rest : List (Addr × Obj)} (I : Inv X pins σ H s) (hpn : X.pn = (a, oe) :: rest) (hz : Zc (.ref D) dd oe) (hf : ∃ vs, oe.data = .fields vs)
    (hd : dd = none ∨ ∃ b fs, dd = some b ∧ H b = some (.xd fs)) : ∃ od, PySem.W.InstAt s.heap a oe D od := by
  obtain ⟨ha, _⟩ := I.pin (a, oe) (List.mem_append_left _ (by rw [hpn]; exact List.mem_cons_self))
  obtain ⟨vs, hv⟩ := hf
  rcases hd with rfl | ⟨b, fs, rfl, hb⟩
  · exact ⟨none, ha, hz.1, by unfold PySem.W.notCls; rw [hv] <;> rfl, by rw [hz.2]; trivial⟩
  · have hx : ObjOk X.prog X.w H s.heap b (.xd fs) := I.hok b _ hb
    obtain ⟨mA, hns, hr⟩ := hx
    obtain ⟨od, ho, hl⟩ := lookIn_ns hns
    exact ⟨some od, ha, hz.1, by unfold PySem.W.notCls; rw [hv] <;> rfl, by rw [hz.2]; exact ho⟩
def ExcAtS (X : Cx) (H : Hp) (a : Addr) (oe : Obj) (D : Addr) (dd : Option Addr) : Prop := Zc (.ref D) dd oe ∧ (∃ vs, oe.data = .fields vs) ∧ (dd = none ∨ ∃ b fs, dd = some b ∧ H b = some (.xd fs))
/-- the class of the exception in slot i -/
def excCls (i : Nat) (δ : DEnv) : Option Str := match δ[i]? with
  | some (some (.val (.dict ((.str c, .none) :: _)))) => some c
  | _ => none
theorem excD_cls {x : Ex} {c : Str} {r : List (PyData × PyData)} (h : excD x = .dict ((.str c, .none) :: r)) : x.cls = c := by
  unfold excD at h
  injection h with h
  injection h with h _
  injection h with h _
  injection h
theorem excCls_at {X : Cx} {G : Hp} {σ : L2.St} {δ : DEnv} {i : Nat} {c : Str} {a : Addr} {oe : Obj} {rest : List (Addr × Obj)} (hpn : X.pn = (a, oe) :: rest) (r : RelE X.K X.pn G σ δ) (h : excCls i δ = some c) :
    ∃ dd x, σ[i]? = some (some (.ref a)) ∧ x.cls = c ∧ δ[i]? = some (some (.val (excD x))) ∧ ExcFld X.K G dd x ∧ Zc (.ref (He.ga X.K c)) dd oe ∧ ∃ vs, oe.data = .fields vs := by
  unfold excCls at h
  split at h
  · rename_i c' r' hd
    cases h
    obtain ⟨v, h1, h2⟩ := r.2 i _ hd
    rcases h2 with h2 | ⟨b, dd, x, h2, h3, h4, h5⟩
    · cases h2
    · have ec := excD_cls h2.symm
      obtain ⟨e1, e2, e3⟩ := h5 _ _ hpn
      have e1 : a = b := e1
      subst e1
      subst h3
      refine ⟨dd, x, h1, ec, ?_, h4, by rw [← ec]; exact e2, e3⟩
      rw [hd]
      exact congrArg (fun z => some (some (O.val z))) h2
  · cases h
theorem ExcFld.there {K : PySem.W.Frag} {G H : Hp} {dd : Option Addr} {x : Ex} (s : Same G H) (h : ExcFld K G dd x) : dd = none ∨ ∃ b fs, dd = some b ∧ H b = some (.xd fs) := by
  unfold ExcFld at h
  split at h
  · exact .inl h
  · obtain ⟨a, v, h1, h2, _⟩ := h
    exact .inr ⟨a, _, h1, s _ _ h2⟩

/-! ### isinstance(e, C) -/
def rIsX (X : Cx) (a : Addr) (oe : Obj) : List V → Hp → VK → Prop := fun xs H Q => ∃ (c : V) (cv : Value) (b : Bool) (D : Addr) (dd : Option Addr), xs = [.ref a, c] ∧ ExcAtS X H a oe D dd ∧ ExcC X.K D ∧ (∀ u, RelV c u → u = cv) ∧ PySem.W.kitOne X.K (.ref D) cv = some b ∧ Q (.bl b) H
theorem call_isX {X : Cx} {a : Addr} {oe : Obj} {rest : List (Addr × Obj)} (hpn : X.pn = (a, oe) :: rest) : CallR X (.builtin "isinstance") (rIsX X a oe) := by
  intro pins s σ H xs us Q I r h
  obtain ⟨c, cv, b, D, dd, rfl, ⟨hz, hf, hd⟩, C, hcv, e, q⟩ := h
  cases r with
  | cons rx rr =>
    cases rr with
    | cons rt rr =>
      cases rr
      cases rx
      have ec := hcv _ rt
      subst ec
      obtain ⟨od, J⟩ := exc_inst I hpn hz hf hd
      exact PySem.W.kia_one (PySem.W.dl_kitx C) I.kIn J e (fun z => nomatch z) fun tk => ⟨.bl b, H, I.kept (t' := tk) fun _ _ z => z, rfl, q⟩
def dIsX (i : Nat) (tbl : Str → Option Bool) : DEnv → R PyData := fun δ => match excCls i δ with
  | some c => (match tbl c with
    | some b => .ok (.bool b)
    | none => .bad)
  | none => .bad
section
variable {X : Cx} {W : WX} {x z : Str} {p p1 p2 pos : Pos} {a : Addr} {oe : Obj} {rest : List (Addr × Obj)} {e : Expr} {es : List Expr}
/-- isinstance(e, C), C a class of the program or a built-in one -/
theorem dv_isX (i : Nat) {c : V} {cv : Value} {tbl : Str → Option Bool} (hpn : X.pn = (a, oe) :: rest) (hN : X.N[i]? = some x) (hv : Vis X.env.scope x) (hm : X.mg "isinstance" = none) (hc : PE X (.Name z p2) (tC c)) (hcv : ∀ u, RelV c u → u = cv)
    (ht : ∀ y b, tbl y = some b → ExcC X.K (He.ga X.K y) ∧ PySem.W.kitOne X.K (.ref (He.ga X.K y)) cv = some b) (hd : (x == ("__debug__" : Str)) = false := by decide) (hcd : (x == ("__classdict__" : Str)) = false := by decide) (hg : Gl X "isinstance" := by rfl)
    (h1 : starEach [.Name x p1, .Name z p2] X.env = (false, eval (.Name x p1) X.env) :: starEach [.Name z p2] X.env := by rfl) (h2 : starEach [.Name z p2] X.env = (false, eval (.Name z p2) X.env) :: starEach [] X.env := by rfl) (hpl : (backTo pos (starEach [.Name z p2] X.env)).any (·.1) = false := by rfl) :
    DV X W (.Call (.Name "isinstance" p) [.Name x p1, .Name z p2] [] pos) (dIsX i tbl) := by
  refine ⟨_, pe_callB (call_isX hpn) hg hm (by decide +kernel) (pa_cons (pe_var hN hv hd hcd) (pa_cons hc pa_nil h2) h1) (by decide) (by decide) h1 hpl, fun G H σ δ Q s r q => ?_⟩
  unfold dIsX at q
  cases hx : excCls i δ with
  | none => rw [hx] at q; exact q.elim
  | some y =>
    rw [hx] at q
    simp only at q
    cases hb : tbl y with
    | none => rw [hb] at q; exact q.elim
    | some b =>
      rw [hb] at q
      obtain ⟨dd, x, h3, h4, _, h5, h6, h7⟩ := excCls_at hpn r hx
      obtain ⟨t1, t2⟩ := ht y b hb
      exact ⟨_, h3, c, cv, b, _, dd, rfl, ⟨h6, h7, h5.there s⟩, t1, hcv, t2, q _ G H (Ext.refl s) (.bl b)⟩

/-! ### e.f -/
def tXfld (X : Cx) (a : Addr) (oe : Obj) (f : Str) (te : TE) : TE := fun σ H Q => te σ H fun x H1 => x = .ref a ∧ ∃ (D dd : Addr) (fs : List (Str × V)) (v : V), XfC X.K D ∧ PySem.W.findIn X.K (.ref D) f = some none ∧ Zc (.ref D) (some dd) oe ∧ (∃ vs, oe.data = .fields vs) ∧ H1 dd = some (.xd fs) ∧ fs.lookup f = some v ∧ Q v H1
theorem pe_xfld {te : TE} {f : Str} (hpn : X.pn = (a, oe) :: rest) (he : PE X e te) (hb : attributeBase e f X.env (eval e X.env) = eval e X.env := by rfl) : PE X (.Attribute e f pos) (tXfld X a oe f te) := by
  refine ⟨fun pins s σ H Q I h => ?_⟩
  refine attr_of hb (thn (he.run pins s σ H _ I h) fun u s1 hh => ?_)
  obtain ⟨x, H1, I1, rx, ex, D, dd, fs, v, T, hno, hz, ⟨vs, hd⟩, ea, l, q⟩ := hh
  subst ex
  obtain rfl : u = Value.ref a := rx
  obtain ⟨ha, _⟩ := I1.pin (a, oe) (List.mem_append_left _ (by rw [hpn]; exact List.mem_cons_self))
  have hx : ObjOk X.prog X.w H1 s1.heap dd (.xd fs) := I1.hok dd _ ea
  obtain ⟨mA, hns, hr⟩ := hx
  obtain ⟨od, ho, hl⟩ := lookIn_ns hns
  obtain ⟨u, hu, ru⟩ := RelO.some_of (v := v) (o := mA f) (by rw [← l]; exact hr f)
  have J : PySem.W.InstAt s1.heap a oe D (some od) := ⟨ha, hz.1, by unfold PySem.W.notCls; rw [hd] <;> rfl, by rw [hz.2]; exact ho⟩
  exact HandSPX.exc_get I1.kIn J T.ga T.gg T.exC (PySem.W.findObj_own T.hdC hno rfl (by rw [hl, hu])) (handed_of ru) ⟨v, H1, I1.tok _, ru, q⟩
def dFld (i : Nat) (f : Str) (tbl : Str → Bool) : DEnv → R PyData := fun δ => match δ[i]? with
  | some (some (.val (.dict [(.str c, .none), (.str g, e)]))) => if (tbl c && decide (g = f)) = true then .ok e else .bad
  | _ => .bad
theorem dv_fld (i : Nat) {f : Str} {tbl : Str → Bool} (hpn : X.pn = (a, oe) :: rest) (hN : X.N[i]? = some x) (hv : Vis X.env.scope x) (ht : ∀ y, tbl y = true → XfC X.K (He.ga X.K y) ∧ PySem.W.findIn X.K (.ref (He.ga X.K y)) f = some none)
    (hd : (x == ("__debug__" : Str)) = false := by decide) (hcd : (x == ("__classdict__" : Str)) = false := by decide) (hb : attributeBase (.Name x p1) f X.env (eval (.Name x p1) X.env) = eval (.Name x p1) X.env := by rfl) :
    DV X W (.Attribute (.Name x p1) f pos) (dFld i f tbl) := by
  refine ⟨_, pe_xfld hpn (pe_var hN hv hd hcd) hb, fun G H σ δ Q s r q => ?_⟩
  unfold dFld at q
  split at q
  · rename_i c g e hδ
    split at q
    · rename_i hc
      rw [Bool.and_eq_true] at hc
      have hg := of_decide_eq_true hc.2
      subst hg
      have hx : excCls i δ = some c := by unfold excCls; rw [hδ]
      obtain ⟨dd, x, h3, h4, h8, h5, h6, h7⟩ := excCls_at hpn r hx
      rw [hδ] at h8
      have h9 : PyData.dict [(.str c, .none), (.str g, e)] = excD x := by
        injection h8 with h8
        injection h8 with h8
        injection h8
      obtain ⟨xc, xf⟩ := x
      cases xf with
      | none =>
        unfold excD at h9
        simp at h9
      | some pr =>
        obtain ⟨f', e'⟩ := pr
        unfold excD at h9
        simp at h9
        obtain ⟨_, rfl, rfl⟩ := h9
        obtain ⟨b, v, e1, e2, e3⟩ := h5
        subst e1
        obtain ⟨t1, t2⟩ := ht c hc.1
        exact ⟨_, h3, rfl, _, b, _, v, t1, t2, h6, h7, s _ _ e2, by simp [List.lookup], q v G H (Ext.refl s) e3⟩
    · exact q.elim
  · exact q.elim
end
end DL
set_option Elab.async false
set_option linter.all false
set_option maxRecDepth 100000
set_option maxHeartbeats 4000000
set_option autoImplicit false
/-! DL12: a dict whose keys are tuples of ints, by data: d = {}, d[k] = True, list(d). -/
namespace DL
open PySem PySem.Spec L2
open PyProof.Rows hiding St
abbrev EntX := List Key × Addr × Value
/-- the dict at d with the entries xs -/
def dXo (P : Program) (w : World) (d : Addr) (xs : List EntX) : HO := .ext fun h => (d == sysModules) = false ∧ xs.length ≤ sizeLine ∧ (xs.map (·.1)).Nodup ∧ ∃ o es ep, h.get? d = some o ∧ o.ExactDict ∧ o.data = .dict es ep ∧ es.toList = xs.map (entryOfKey (tupleKind (mixKind P w)))
theorem dXo_ok {P : Program} {w : World} {H : Hp} {h : Heap} {d : Addr} {xs : List EntX} (hs : (d == sysModules) = false) (hz : xs.length ≤ sizeLine) (hn : (xs.map (·.1)).Nodup) (hd : ∃ o es ep, h.get? d = some o ∧ o.ExactDict ∧ o.data = .dict es ep ∧ es.toList = xs.map (entryOfKey (tupleKind (mixKind P w)))) : ObjOk P w H h d (dXo P w d xs) := by
  obtain ⟨o, es, ep, h1, h2, h3, h4⟩ := hd
  exact ⟨⟨hs, hz, hn, o, es, ep, h1, h2, h3, h4⟩, ⟨o, h1⟩, fun g1 g2 ⟨a1, a2, a3, o', es', ep', b1, b2, b3, b4⟩ k => ⟨a1, a2, a3, o', es', ep', k _ b1, b2, b3, b4⟩⟩
theorem dXo_at {P : Program} {w : World} {H : Hp} {h : Heap} {d : Addr} {xs : List EntX} (ok : HOk P w H h) (e : H d = some (dXo P w d xs)) : (d == sysModules) = false ∧ xs.length ≤ sizeLine ∧ (xs.map (·.1)).Nodup ∧ ∃ o es ep, h.get? d = some o ∧ o.ExactDict ∧ o.data = .dict es ep ∧ es.toList = xs.map (entryOfKey (tupleKind (mixKind P w))) := by
  have x : ObjOk P w H h d (.ext fun h => (d == sysModules) = false ∧ xs.length ≤ sizeLine ∧ (xs.map (·.1)).Nodup ∧ ∃ o es ep, h.get? d = some o ∧ o.ExactDict ∧ o.data = .dict es ep ∧ es.toList = xs.map (entryOfKey (tupleKind (mixKind P w)))) := ok d _ e
  exact x.1
theorem dXo_lst {P : Program} {w : World} {d : Addr} {xs : List EntX} {ys : List V} : dXo P w d xs ≠ .lst ys := fun z => by
  have z' : HO.ext _ = HO.lst ys := z
  cases z'
section
variable {X : Cx} {pos : Pos}
def tDX (P : Program) (w : World) : TE := fun _ H Q => ∀ p, H p = none → Q (.ref p) (upd H p (dXo P w p []))
theorem pe_dX : PE X (.Dict [] [] pos) (tDX X.prog X.w) := ⟨fun pins s σ H Q I h =>
  wpAny_Dict_empty ⟨.ref s.heap.objs.size, _, I.laid (a := s.heap.objs.size) (o := dXo X.prog X.w s.heap.objs.size []) (t' := s.toks) (fun _ _ q => Heap.get?_push_of_some _ q) (Nat.le_refl _) (by
    obtain ⟨z, y, xs, r, o, es, ep, h1, h2, h3, h4, h5⟩ := dt_empty (P := X.prog) (w := X.w) (H := H) s.heap I.big
    refine dXo_ok y (Nat.zero_le _) (by simp) ⟨o, es, ep, h1, h2, h3, ?_⟩
    cases r
    exact h4), rfl, h _ (I.hok.fresh (Nat.le_refl _))⟩⟩
theorem sqt_key {pins : List (Addr × Obj)} {σ : L2.St} {H : Hp} {s : Shared} {b : Addr} {ks : List Key} (I : Inv X pins σ H s) (h : SqT X.K H b (ks.map kV)) : (tupleKind (mixKind X.prog X.w)).is s.heap ks b := by
  obtain ⟨its, rv, ⟨o, h1, h2, n, h3⟩, _⟩ := I.tuple h
  exact ⟨o, its.toArray, n, h1, h2, h3, by simpa using items_are rv⟩
def KeysAt (K : PySem.W.Frag) (H : Hp) (xs : List EntX) : Prop := ∀ x ∈ xs, SqT K H x.2.1 (x.1.map kV)
def rSetX (P : Program) (w : World) (K : PySem.W.Frag) : TSet := fun o i v H Q => ∃ d xs ks b, o = .ref d ∧ i = .ref b ∧ v = .bl true ∧ H d = some (dXo P w d xs) ∧ KeysAt K H xs ∧ SqT K H b (ks.map kV) ∧ xs.length < sizeLine ∧ Q (upd H d (dXo P w d (storedH xs ks b (.bool true))))
theorem storedH_len {xs : List EntX} {ks : List Key} {b : Addr} {v : Value} : (storedH xs ks b v).length ≤ xs.length + 1 := by
  unfold storedH
  split <;> simp
theorem set_X (hu : X.A.units + 2 < cLine) : PSet X (rSetX X.prog X.w X.K) := by
  intro pins s σ H o i v ov iv u Q I ro ri rv h
  obtain ⟨d, xs, ks, b, rfl, rfl, rfl, hd, hk, hb, hz, q⟩ := h
  cases ro
  cases ri
  cases rv
  obtain ⟨a1, a2, a3, o, es, ep, b1, b2, b3, b4⟩ := dXo_at I.hok hd
  have dd : s.heap.DictOfH (tupleKind (mixKind X.prog X.w)) d xs := ⟨o, es, ep, b1, b2, b3, b4, fun x hx => sqt_key I (hk x hx), a3⟩
  refine wpAny_setItem_heap (hsz := a2) (show X.A.units + 1 < cLine by omega) (sqt_key I hb) dd fun h' dd' hs => ?_
  obtain ⟨o', es', ep', c1, c2, c3, c4, _, c6⟩ := dd'
  have hl := storedH_len (xs := xs) (ks := ks) (b := b) (v := .bool true)
  refine ⟨_, I.write (x := d) (e := d) (t' := s.toks + _) (by rw [hd]; exact True.intro) (.inl rfl) (fun c ob hc e => (hs.2 c hc).trans e) ⟨o', c1⟩ (dXo_ok a1 (by omega) c6 ⟨o', es', ep', c1, c2, c3, c4⟩), q⟩
def rListX (P : Program) (w : World) : List V → Hp → VK → Prop := fun vs H Q => ∃ d xs, vs = [V.ref d] ∧ H d = some (dXo P w d xs) ∧ ∀ p, H p = none → Q (.ref p) (upd H p (.lst (xs.map fun x => V.ref x.2.1)))
theorem call_list_X (hc : X.calm = true) : CallR X (.type "list") (rListX X.prog X.w) := by
  intro pins s σ H xs us Q I r h
  obtain ⟨d, ks, rfl, hd, q⟩ := h
  obtain ⟨u, rfl, rx⟩ := r.one
  cases rx
  obtain ⟨hs, hz0, hn, o, es, ep, ho, hx, hdt, he⟩ := dXo_at I.hok hd
  have l1 : es.size = ks.length := size_of_entries he
  refine PySem.W.kdl_call (kdl_raw hs hx hdt) (I.ok.hd hc) ho (by omega) fun h' tk acc' c' kp e it => ?_
  have ea : acc'.toList = ks.map fun x => Value.ref x.2.1 := by
    have hl : acc'.toList.length = ks.length := by rw [Array.length_toList, it.1]; exact l1
    apply List.ext_getElem?
    intro j
    rw [List.getElem?_map]
    cases hj : acc'.toList[j]? with
    | none =>
      have h1 := List.getElem?_eq_none_iff.mp hj
      rw [List.getElem?_eq_none (by omega)]
      all_goals rfl
    | some v =>
      obtain ⟨en, hen, hv⟩ := it.2 j v (by rw [← Array.getElem?_toList]; exact hj)
      have qe := entry_at he j
      rw [hen] at qe
      cases hb : ks[j]? with
      | none =>
        rw [hb] at qe
        exact nomatch (show some en = none from qe)
      | some b =>
        rw [hb] at qe
        have e2 : en = entryOfKey (tupleKind (mixKind X.prog X.w)) b := Option.some.inj qe
        rw [hv, e2]
        all_goals rfl
  have eb : acc'.toList = (ks.map fun x => x.2.1).map Value.ref := by rw [ea, List.map_map]; all_goals rfl
  have rv : Vals ((ks.map fun x => x.2.1).map V.ref) acc'.toList := by rw [eb]; exact vals_refs _
  have hz : (ks.map fun x => V.ref x.2.1).length ≤ sizeLine := by rw [List.length_map]; omega
  have em : (ks.map fun x => V.ref x.2.1) = (ks.map fun x => x.2.1).map V.ref := by rw [List.map_map]; rfl
  refine ⟨.ref s.heap.objs.size, _, I.laid (t' := tk) (o := .lst (ks.map fun x => V.ref x.2.1)) kp (Nat.le_refl _) ?_, rfl, q _ (I.hok.fresh (Nat.le_refl _))⟩
  exact ⟨hz, acc'.toList, c', by rw [em]; exact rv, by rw [Array.toArray_toList]; exact e⟩
end

/-! ### clauses put in order -/
def clD (c : List Int) : PyData := .tuple (c.map .int)
def clausesOf : List PyData → Option (List (List Int))
  | [] => some []
  | .tuple d :: ds => (match asInts d, clausesOf ds with
    | some c, some cs => some (c :: cs)
    | _, _ => none)
  | _ :: _ => none
theorem clausesOf_some : ∀ {ds : List PyData} {cs : List (List Int)}, clausesOf ds = some cs → ds = cs.map clD
  | [], cs, h => by cases h; rfl
  | .tuple d :: ds, cs, h => by
    unfold clausesOf at h
    split at h
    · rename_i c cs' h1 h2
      cases h
      rw [clausesOf_some h2, asInts_some h1]
      rfl
    · cases h
  | .none :: _, _, h => by cases h
  | .bool _ :: _, _, h => by cases h
  | .int _ :: _, _, h => by cases h
  | .str _ :: _, _, h => by cases h
  | .list _ :: _, _, h => by cases h
  | .dict _ :: _, _, h => by cases h
@[simp] theorem clausesOf_map : ∀ cs : List (List Int), clausesOf (cs.map clD) = some cs
  | [] => rfl
  | c :: cs => by
    show clausesOf (.tuple (c.map .int) :: cs.map clD) = _
    unfold clausesOf
    rw [asInts_map, clausesOf_map cs]
def addC (acc : List (List Int)) (c : List Int) : List (List Int) := if c ∈ acc then acc else acc ++ [c]
def dedupL (cs : List (List Int)) : List (List Int) := cs.foldl addC []
def keyC (c : List Int) : List Key := c.map Sum.inl
theorem keyC_inj {c e : List Int} (h : keyC c = keyC e) : c = e := by
  unfold keyC at h
  exact (List.map_inj_right (fun a b h => Sum.inl.inj h)).mp h
theorem keyC_kV (c : List Int) : (keyC c).map kV = c.map V.int := by
  unfold keyC
  rw [List.map_map]
  rfl
theorem storedH_keys {xs : List EntX} {us : List (List Int)} {c : List Int} {b : Addr} {v : Value} (h : xs.map (·.1) = us.map keyC) : (storedH xs (keyC c) b v).map (·.1) = (addC us c).map keyC := by
  have hm : ∀ {ys : List EntX} {vs : List (List Int)}, ys.map (·.1) = vs.map keyC → ((atKey ys (keyC c)).isSome = true ↔ c ∈ vs) := by
    intro ys
    induction ys with
    | nil =>
      intro vs e
      have : vs = [] := List.map_eq_nil_iff.mp e.symm
      subst this
      simp [atKey]
    | cons y ys ih =>
      intro vs e
      cases vs with
      | nil => simp at e
      | cons z vs =>
        rw [List.map_cons, List.map_cons] at e
        injection e with e1 e2
        by_cases hz : c = z
        · subst hz
          simp [atKey, e1]
        · have : ¬ y.1 = keyC c := fun z' => hz (keyC_inj (z'.symm.trans e1))
          have h2 := ih e2
          unfold atKey at h2 ⊢
          rw [List.find?_cons]
          simp only [this, decide_false]
          rw [h2, List.mem_cons]
          constructor
          · exact fun h => .inr h
          · rintro (h | h)
            · exact absurd h hz
            · exact h
  unfold storedH addC
  by_cases hc : c ∈ us
  · rw [if_pos ((hm h).mpr hc), if_pos hc, List.map_map, ← h]
    refine List.map_congr_left fun x _ => ?_
    show (putAt (keyC c) v x).1 = x.1
    unfold putAt
    split <;> rfl
  · rw [if_neg (fun z => hc ((hm h).mp z)), if_neg hc, List.map_append, List.map_append, h]
    rfl
theorem storedH_at {K : PySem.W.Frag} {H : Hp} {xs : List EntX} {ks : List Key} {b : Addr} {v : Value} (h : KeysAt K H xs) (hb : SqT K H b (ks.map kV)) : KeysAt K H (storedH xs ks b v) := by
  unfold storedH
  split
  · intro x hx
    obtain ⟨y, hy, rfl⟩ := List.mem_map.mp hx
    have := h y hy
    unfold putAt
    split
    · exact this
    · exact this
  · intro x hx
    rcases List.mem_append.mp hx with hx | hx
    · exact h x hx
    · rw [List.mem_singleton.mp hx]; exact hb
theorem keysAt_dp {K : PySem.W.Frag} {G : Hp} : ∀ {xs : List EntX} {us : List (List Int)}, KeysAt K G xs → xs.map (·.1) = us.map keyC → DpAll K G (xs.map fun x => V.ref x.2.1) (us.map clD)
  | [], us, _, e => by
    have : us = [] := List.map_eq_nil_iff.mp e.symm
    subst this
    exact .nil
  | x :: xs, [], _, e => by simp at e
  | x :: xs, u :: us, h, e => by
    rw [List.map_cons, List.map_cons] at e
    injection e with e1 e2
    have h1 := h x (List.mem_cons_self ..)
    rw [e1, keyC_kV] at h1
    exact .cons (.tup h1 (DpAll.map V.int PyData.int (fun i => .int i) u)) (keysAt_dp (fun y hy => h y (List.mem_cons_of_mem _ hy)) e2)
def dOC (g : PyData → R O) : DEnv → SO := fun δ => match δ with
  | [some (.val d), _, _] => (match seqD d with
    | .ok ds => (match clausesOf ds with
      | some cs => if cs.length < sizeLine then (match keysR g ((dedupL cs).map clD) with
        | some ks => if sortCond ks = true then .rt (.val (.tuple (sortBy ((dedupL cs).map clD) ks))) else .bad
        | none => .bad) else .bad
      | none => .bad)
    | _ => .bad)
  | _ => .bad
def rTupOf (K : PySem.W.Frag) : List V → Hp → VK → Prop := fun xs H Q => ∃ p ys, xs = [V.ref p] ∧ ((SqL K H p ys ∧ ∀ l, H l = none → Q (.ref l) (upd H l (.tup ys))) ∨ (SqT K H p ys ∧ Q (.ref p) H))
theorem addC_len (us : List (List Int)) (c : List Int) : (addC us c).length ≤ us.length + 1 := by
  unfold addC
  split <;> simp
theorem dedupL_len : ∀ (cs us : List (List Int)), (cs.foldl addC us).length ≤ us.length + cs.length
  | [], us => by simp
  | c :: cs, us => by
    have h1 := dedupL_len cs (addC us c)
    have h2 := addC_len us c
    rw [List.foldl_cons, List.length_cons]
    omega
theorem dss_oc {X : Cx} {W : WX} {s1 s2 s3 : Stmt} {g : PyData → R O} (p1 : PS X s1 (tAsg (tDX X.prog X.w) (gName 1))) (p2 : PS X s2 (tFor (iSeq X.K (tVar 0)) (gName 2) (tAsg (tC (.bl true)) (gSub (tVar 1) (tVar 2) (rSetX X.prog X.w X.K)))))
    (p3 : PS X s3 (tRet (tCB (rTupOf X.K) (tCons (tSortK X.K g (tCB (rListX X.prog X.w) (tCons (tVar 1) tNil))) tNil)))) : DSs X W [s1, s2, s3] (dOC g) := by
  refine ⟨_, pss_cons p1 (pss_cons p2 (pss_one p3)), fun F H σ δ D r q => ?_⟩
  unfold dOC at q
  split at q
  · rename_i d o1 o2
    split at q
    · rename_i ds hds
      split at q
      · rename_i cs hcs
        split at q
        · rename_i hz
          split at q
          · rename_i ks hk
            split at q
            · rename_i hc
              have ecs := clausesOf_some hcs
              obtain ⟨v, hv0, hsl⟩ := r.val 0 d rfl
              have hlen := r.len
              obtain ⟨σ0, σ1, σ2, rfl⟩ : ∃ a b c, σ = [a, b, c] := by
                match σ, hlen with
                | [a, b, c], _ => exact ⟨a, b, c, rfl⟩
              have e0 : σ0 = some v := by simpa using hv0
              subst e0
              have hdv : Dp X.K F v d := hsl.dp (by cases d <;> first | rfl | cases hds)
              intro p hp
              have Fp : F p = none := r.sub.free hp
              have hH1 : ∀ b o, H b = some o → (upd H p (dXo X.prog X.w p [])) b = some o := fun b o e => by rw [upd_ne (ne_of_none e hp)]; exact e
              have walk : ∃ J, Walk X.K J F ds ∧ ∀ (Rr : It → Hp → Prop) (H1 : Hp), Same F H1 → Rr J H1 → iSeq X.K (tVar 0) [some v, some (V.ref p), σ2] H1 Rr := by
                cases hdv with
                | lst h al =>
                  cases hds
                  exact ⟨_, walk_list h al, fun Rr H1 s1 q => ⟨_, rfl, _, rfl, .inl ⟨⟨_, s1.seq h⟩, q⟩⟩⟩
                | tup h al =>
                  cases hds
                  exact ⟨_, walk_tup h al, fun Rr H1 s1 q => ⟨_, rfl, _, rfl, .inr ⟨⟨_, Same.tupl s1 h⟩, q⟩⟩⟩
                | _ => cases hds
              obtain ⟨J, w, wk⟩ := walk
              show tFor (iSeq X.K (tVar 0)) (gName 2) (tAsg (tC (.bl true)) (gSub (tVar 1) (tVar 2) (rSetX X.prog X.w X.K))) _ [some v, some (V.ref p), σ2] (upd H p (dXo X.prog X.w p []))
              unfold tFor
              refine wk _ _ (r.sub.trans hH1) ?_
              refine ⟨fun k m σ' H' => m = ds.length - k ∧ k ≤ ds.length ∧ ∃ y xs, σ' = [some v, some (V.ref p), y] ∧ Same F H' ∧ Same H H' ∧ H' p = some (dXo X.prog X.w p xs) ∧ xs.map (·.1) = ((cs.take k).foldl addC []).map keyC ∧ KeysAt X.K F xs,
                ⟨_, rfl, Nat.zero_le _, σ2, [], rfl, r.sub.trans hH1, hH1, upd_same, rfl, fun x hx => by cases hx⟩, ?_⟩
              rintro k m σ' H' ⟨rfl, hkl, y, xs, rfl, sF, sH, hd', hxs, hka⟩
              have hlen2 : ds.length = cs.length := by rw [ecs, List.length_map]
              by_cases hlt : k < ds.length
              · have hkc : k < cs.length := by omega
                have hdk : ds[k]? = some (clD cs[k]) := by rw [ecs, List.getElem?_map, List.getElem?_eq_getElem hkc]; rfl
                obtain ⟨go, yl⟩ := w.go k _ H' sF hdk
                refine .inr ⟨go, fun σ3 H3 => k + 1 ≤ ds.length ∧ ∃ y xs, σ3 = [some v, some (V.ref p), y] ∧ Same F H3 ∧ Same H H3 ∧ H3 p = some (dXo X.prog X.w p xs) ∧ xs.map (·.1) = ((cs.take (k + 1)).foldl addC []).map keyC ∧ KeysAt X.K F xs, fun σ3 H3 h => ⟨ds.length - (k + 1), by omega, rfl, h⟩, fun x H2 yy => ?_⟩
                obtain ⟨rfl, dx⟩ := yl x H2 yy
                have hx : ∃ b, x = V.ref b ∧ SqT X.K F b (cs[k].map V.int) := by
                  unfold clD at dx
                  cases dx with
                  | tup h al =>
                    have := ints_vals al
                    subst this
                    exact ⟨_, rfl, h⟩
                obtain ⟨b, rfl, hb⟩ := hx
                have hb' : SqT X.K F b ((keyC cs[k]).map kV) := by rw [keyC_kV]; exact hb
                have hxl : xs.length < sizeLine := by
                  have h1 := congrArg List.length hxs
                  rw [List.length_map, List.length_map] at h1
                  have h2 := dedupL_len (cs.take k) []
                  rw [List.length_take] at h2
                  simp at h2
                  omega
                refine ⟨_, rfl, _, rfl, p, xs, keyC cs[k], b, rfl, rfl, rfl, hd', fun x hx => Same.tupl sF (hka x hx), Same.tupl sF hb', hxl, hlt, some (V.ref b), _, rfl, ?_, ?_, upd_same, ?_, storedH_at hka hb'⟩
                · exact fun c o e => by rw [upd_ne (ne_of_none e Fp)]; exact sF c o e
                · exact fun c o e => by rw [upd_ne (ne_of_none e hp)]; exact sH c o e
                · rw [storedH_keys hxs, List.take_succ_eq_append_getElem hkc, List.foldl_append]
                  rfl
              · have ek : k = ds.length := by omega
                subst ek
                refine .inl ⟨w.stop H' sF, ?_⟩
                rw [hlen2, List.take_length] at hxs
                -- return tuple(sorted(list(found), key=..))
                refine ⟨_, rfl, p, xs, rfl, hd', fun l hl => ?_⟩
                have Fl : F l = none := sF.free hl
                have sG : Same F (upd F l (.lst (xs.map fun x => V.ref x.2.1))) := upd_same_of Fl
                have sGH : Same (upd F l (.lst (xs.map fun x => V.ref x.2.1))) (upd H' l (.lst (xs.map fun x => V.ref x.2.1))) := fun c o e => by
                  by_cases hcl : c = l
                  · subst hcl; rw [upd_same] at e ⊢; exact e
                  · rw [upd_ne hcl] at e ⊢; exact sF c o e
                refine ⟨_, rfl, _, _, ks, sGH, .lst (SqL.of upd_same) (keysAt_dp (fun x hx => Same.tupl sG (hka x hx)) hxs), hk, hc, fun a ws G' H'' e hna hng hha al => ?_⟩
                refine ⟨a, ws, rfl, .inl ⟨SqL.of hha, fun z hzz => ?_⟩⟩
                have Gz : G' z = none := e.sub.free hzz
                have hHH : ∀ c o, H c = some o → H'' c = some o := fun c o ec => e.hh c o (by rw [upd_ne (ne_of_none (sH c o ec) hl)]; exact sH c o ec)
                refine q _ (upd G' z (.tup ws)) _ ⟨(sG.trans e.gg).trans (upd_same_of Gz), fun c o ec _ => ?_, fun c hcn => ?_, fun c hcf => hcf.elim⟩ (fun c o ec => ?_) (.tup (SqT.of upd_same) (al.same (upd_same_of Gz)))
                · rw [upd_ne (ne_of_none (hHH c o ec) hzz)]
                  exact hHH c o ec
                · have hnone : ∀ {c}, (upd H' l (.lst (xs.map fun x => V.ref x.2.1))) c = none → H c = none := fun {c} hn => by
                    cases hh : H c with
                    | none => rfl
                    | some o =>
                      rw [upd_ne (ne_of_none (sH c o hh) hl), sH c o hh] at hn
                      cases hn
                  by_cases hcz : c = z
                  · subst hcz
                    refine .inr (.inr ?_)
                    cases hh : H c with
                    | none => rfl
                    | some o => rw [hHH c o hh] at hzz; cases hzz
                  · rw [upd_ne hcz] at hcn
                    rcases e.dom c hcn with h1 | h1
                    · by_cases hcl : c = l
                      · subst hcl
                        refine .inr (.inr ?_)
                        cases hh : H c with
                        | none => rfl
                        | some o => rw [sH c o hh] at hl; cases hl
                      · rw [upd_ne hcl] at h1
                        exact .inl h1
                    · exact .inr (.inr (hnone h1))
                · by_cases hcz : c = z
                  · subst hcz; rw [upd_same] at ec ⊢; exact ec
                  · rw [upd_ne hcz] at ec ⊢; exact e.sub c o ec
            · exact q.elim
          · exact q.elim
        · exact q.elim
      · exact q.elim
    · exact q.elim
  · exact q.elim
end DL
set_option Elab.async false
set_option linter.all false
set_option maxRecDepth 100000
set_option maxHeartbeats 4000000
set_option autoImplicit false
/-! DL13: defs called within an except suite; small rules. -/
namespace DL
open PySem PySem.Spec L2
open PyProof.Rows hiding St
/-! ### defs within a suite -/
structure FnP (P : Program) (w : World) (K : PySem.W.Frag) (mg : Str → Option Value) (base : Heap) (CX : CXT) (k : Nat) (f : Addr) (fd : FuncData) (ps : List Str) (sp : Sp) : Prop where
  len : ∀ vs H Q E, sp vs H Q E → vs.length = ps.length
  run : ∀ (A : Around) (outer : List Env) (s : Shared) (H : Hp) (args : Args) (us : List Value) (vs : List V) (Q : VK) (E : XK) (p : Addr × Obj), L2H.RoomH k A → L2H.PinOk outer H s p → Env0 P w K mg base A outer s H → BindsTo s fd args (ps.zip us) → Vals vs us → sp vs H Q E →
    codeAny (model P w) A (.call (.ref f) args) (CR CX outer P w H s Q E) s
abbrev cxP (P : Program) (w : World) (K : PySem.W.Frag) (mg : Str → Option Value) (base : Heap) (N : List Str) (qual : Str) (st : Stmt) (f : Addr) (cdv : Value) (A : Around) (outer : List Env) (s : Shared) (H : Hp) (E : XK) (p : Addr × Obj) : Cx := L2H.cxH (L2.CX P w) P w K mg base N qual (defScope st) f cdv A outer s H E p
theorem fn_ofP {P : Program} {w : World} {K : PySem.W.Frag} {mg : Str → Option Value} {base : Heap} {x qual : Str} {st : Stmt} {f : Addr} {fd : FuncData} {N ps : List Str} {k : Nat} {sp : Sp} (F : FunD K x qual (defArgs st) (defBody st) (defScope st) [] [] f fd) (S : FnScope N ps (defScope st))
    (len : ∀ vs H Q E, sp vs H Q E → vs.length = ps.length)
    (hbody : ∀ (cdv : Value) (A : Around) (outer : List Env) (s : Shared) (H : Hp) (vs : List V) (Q : VK) (E : XK) (p : Addr × Obj), L2H.RoomH k (A.deeper (envOfC qual (defScope st) s.heap.objs.size f cdv)) → sp vs H Q E →
      ∃ t, PSs (cxP P w K mg base N qual st f cdv A outer s H E p) (defBody st) t ∧ t { nx := fun _ H' => Q .non H', rt := Q } (L2.start N vs) H) :
    FnP P w K mg base (L2.CX P w) (k + 1) f fd ps sp := by
  obtain ⟨oc, od, dV, kV, doc, pm, an, cdv, ct, osl, rfl, lk, hcd, _, _⟩ := F.ex
  refine ⟨len, fun A outer s H args us vs Q E p hr hpin e0 hb r hsp => ?_⟩
  have hl := len _ _ _ _ hsp
  have KX : K.In s.heap := e0.mod.kin.keeps fun b o e => (e0.bs b o e).1
  have lim : s.heap.NoLimit := e0.mod.nolimit.keeps fun b o e => (e0.bs b o e).1
  have hkind : ∀ y ∈ ps.zip us, (defScope st).names.lookup y.1 = some .local ∨ ((defScope st).names.lookup y.1 = some .cell ∧ ((cellsFrom (s.heap.objs.size + 1) (defScope st).names []).lookup y.1).isSome = true) := fun ⟨n, v⟩ hy => by
    rcases S.par n (List.of_mem_zip hy).1 with q | q
    · exact .inl q
    · exact .inr ⟨q, PySem.W.cellsFrom_some _ _ _ (.inl q)⟩
  refine codeAny_call_function hr.depth (KX _ _ lk) rfl S.co S.gen rfl (PySem.W.codeRec_of KX hcd) (hb _ _ _ _ ?_)
  refine wpAny_newFunctionEnv_cells S.kind hkind fun env he s1 x => ?_
  subst he
  refine ⟨lim.keeps x.toInCall.keep, codeAny_func ?_⟩
  obtain ⟨t, ht, hq⟩ := hbody cdv A outer s H vs Q E p (hr.deeper _) hsp
  have I : Inv (cxP P w K mg base N qual st f cdv A outer s H E p) [] (L2.start N vs) H s1 := L2H.inv_startH S hpin e0 hl r x
  refine wpAny_mono (ht.run [] s1 (L2.start N vs) H _ I hq) (fun fl s' hs => ?_) fun e s' hs => hs
  have fin : ∀ {σ' : L2.St} {H' : Hp} {v : V} {u : Value}, Inv (cxP P w K mg base N qual st f cdv A outer s H E p) [] σ' H' s' → RelV v u → Q v H' → CE outer P w H s Q u s' :=
    fun {σ' H' v u} J rv q => ⟨v, H', J.os, J.bare, J.base, J.hok, rv, q⟩
  cases fl with
  | ret u =>
    obtain ⟨v, σ', H', J, rv, q⟩ := hs
    exact fin J rv q
  | next =>
    obtain ⟨σ', H', J, q⟩ := hs
    exact fin (v := V.non) (u := Value.none) J rfl q
  | brk =>
    obtain ⟨_, _, _, q⟩ := hs
    exact False.elim q
  | cont =>
    obtain ⟨_, _, _, q⟩ := hs
    exact False.elim q
theorem run_fnP {X : Cx} {CX : CXT} {k : Nat} {f : Addr} {fd : FuncData} {ps : List Str} {sp : Sp} {E : L2.St → XK} {pins : List (Addr × Obj)} {σ : L2.St} {H : Hp} {s : Shared} {Q : VK} {us : List Value} {vs : List V} {p : Addr × Obj} {rest : List (Addr × Obj)} (F : FnP X.prog X.w X.K X.mg X.base CX k f fd ps sp) (hr : L2H.RoomH k X.A) (hpn : X.pn = p :: rest) (hb : Binds X.K fd ps []) (hx : PassesAt CX X σ (E σ))
    (I : Inv X pins σ H s) (r : Vals vs us) (h : sp vs H Q (E σ)) : wpAny (model X.prog X.w) X.A (call (.ref f) us) (EP X pins σ Q) X.xe s := by
  have hl : us.length = ps.length := by rw [← r.length]; exact F.len _ _ _ _ h
  have b := hb s us I.kIn (by rw [List.append_nil]; exact hl)
  rw [List.append_nil] at b
  have P1 := I.pin p (List.mem_append_left _ (by rw [hpn]; exact List.mem_cons_self))
  have hpin : L2H.PinOk X.stack H s p := ⟨P1.1, P1.2.1, fun hm => (List.mem_cons.mp (I.stkSub p.1 hm)).elim P1.2.2.1 P1.2.2.2.1, P1.2.2.2.2⟩
  refine wpAny_call (codeAny_mono (F.run X.A X.stack s H ⟨us, []⟩ us vs Q (E σ) p hr hpin I.env0 b r h) fun r s' hq => ?_)
  cases r with
  | error e => exact hx pins H s e s' I hq
  | ok fl =>
    cases fl with
    | ret u => exact I.after hq
    | next => exact False.elim hq
    | brk => exact False.elim hq
    | cont => exact False.elim hq
/-- a def, called within a suite -/
structure DfnP (P : Program) (w : World) (K : PySem.W.Frag) (mg : Str → Option Value) (base : Heap) (x : Str) (k n : Nat) (g : List PyData → R O) : Prop where
  ex : ∃ (f : Addr) (fd : FuncData) (ps : List Str), FnP P w K mg base (L2.CX P w) k f fd ps (spD K n g) ∧ mg x = some (.ref f) ∧ PySem.W.keepIn K (.ref f) = true ∧ Binds K fd ps []
section
variable {X : Cx} {W : WX} {x : Str} {p pos : Pos} {e : Expr} {es : List Expr} {k j n : Nat}
theorem do_fnP {g : List PyData → R O} {fa : DEnv → R (List PyData)} {pp : Addr × Obj} {rest : List (Addr × Obj)} (F : DfnP X.prog X.w X.K X.mg X.base x k n g) (tk : Takes X W) (hr : L2H.RoomH j X.A) (hpn : X.pn = pp :: rest) (hjk : k ≤ j) (hg : Gl X x)
    (ha : DA X W (e :: es) fa) (hc : CountA fa n) (hdb : (x == ("__debug__" : Str)) = false := by decide) (he : starEach (e :: es) X.env = (false, eval e X.env) :: starEach es X.env := by rfl) (hpl : (backTo pos (starEach es X.env)).any (·.1) = false := by rfl) :
    DO X W (.Call (.Name x p) (e :: es) [] pos) (dApp g fa) := by
  obtain ⟨f, fd, ps, F1, hm, hk, hb⟩ := F.ex
  obtain ⟨ta, pa, ia⟩ := ha
  refine ⟨tCallS (spD X.K n g) (WE W) ta, ⟨fun pins s σ H Q I h => ?_⟩, fun G H σ δ Q s rl q => ?_⟩
  · refine wpAny_Call_Name_kw (ld_glob I hg hm ?_ hdb)
    refine PySem.W.callWith_K (h₀ := X.base) I.ok.mod.kin hk (thn (pa.run pos pins s σ H _ I h) fun us s1 ⟨vs, H1, I1, r, q⟩ => ⟨I1.kIn, ?_⟩) he hpl
    exact run_fnP (E := WE W) F1 ⟨by have := hr.dp; omega, by have := hr.un; omega⟩ hpn hb (passAt tk σ) I1 r q
  · unfold dApp at q
    refine ia G H σ δ _ s rl ?_
    cases hf : fa δ with
    | ok xs =>
      rw [hf] at q
      intro vs G1 H1 e1 d1
      exact ⟨G1, xs, e1.sub, d1, hc δ xs hf, AftE.wof (fun _ _ _ h => h) (AftE.ext e1 q)⟩
    | ex x => rw [hf] at q; exact q
    | bad => rw [hf] at q; exact q.elim
end
/-- the entry of a def -/
theorem start_rel {K : PySem.W.Frag} {pn : List (Addr × Obj)} {G H : Hp} {vs : List V} {ds : List PyData} {N : List Str} (hs : Same G H) (al : DpAll K G vs ds) :
    Rel K pn G H (L2.start N vs) (ds.map (fun d => some (.val d)) ++ List.replicate (N.length - ds.length) none) ∧ ∀ b, ¬ Ow (L2.start N vs) (ds.map (fun d => some (.val d)) ++ List.replicate (N.length - ds.length) none) b := by
  have noown : ∀ (i : Nat) (es : List PyData), (ds.map (fun d => some (O.val d)) ++ List.replicate (N.length - ds.length) none)[i]? = some (some (.own es)) → False := fun i es h => by
    by_cases hi : i < ds.length
    · rw [List.getElem?_append_left (by simpa using hi), List.getElem?_map] at h
      rw [List.getElem?_eq_getElem hi] at h
      cases h
    · rw [List.getElem?_append_right (by simpa using hi), List.getElem?_replicate] at h
      split at h <;> cases h
  refine ⟨⟨hs, by unfold L2.start; simp [al.len], fun i d h => ?_, fun i es h => (noown i es h).elim, fun i j a h _ => ?_⟩, fun b ⟨i, es, h, _⟩ => noown i es h⟩
  · by_cases hi : i < ds.length
    · rw [List.getElem?_append_left (by simpa using hi), List.getElem?_map, List.getElem?_eq_getElem hi] at h
      cases h
      obtain ⟨v, h1, h2⟩ := al.get (List.getElem?_eq_getElem hi)
      refine ⟨v, ?_, .inl h2⟩
      unfold L2.start
      rw [List.getElem?_append_left (by rw [List.length_map, al.len]; exact hi), List.getElem?_map, h1]
      rfl
    · rw [List.getElem?_append_right (by simpa using hi), List.getElem?_replicate] at h
      split at h <;> cases h
  · obtain ⟨es, h, _⟩ := h
    exact (noown i es h).elim
theorem run_ends {K : PySem.W.Frag} {pn : List (Addr × Obj)} {G H : Hp} {vs : List V} {ds : List PyData} {N : List Str} {g : DEnv → SO} {Q : VK} {E : XK} (noO : ∀ b, ¬ Ow (L2.start N vs) (ds.map (fun d => some (O.val d)) ++ List.replicate (N.length - ds.length) none) b)
    (q : AftE K (fun c d _ H' => E c d H') [] G H Q (runD N.length g ds)) : AftS K pn (WofE E) G H (Ow (L2.start N vs) (ds.map (fun d => some (O.val d)) ++ List.replicate (N.length - ds.length) none)) { nx := fun _ H' => Q .non H', rt := Q } (g (ds.map (fun d => some (O.val d)) ++ List.replicate (N.length - ds.length) none)) := by
  have toExt : ∀ {F' H' : Hp} {O' : Addr → Prop}, Same F' H' → SExt G H (Ow (L2.start N vs) (ds.map (fun d => some (O.val d)) ++ List.replicate (N.length - ds.length) none)) F' H' O' → Ext G H F' H' := fun {F' H' O'} sb se =>
    ⟨se.ff, sb, fun b o e => se.hh b o e (noO b), fun b h => by
      rcases se.dom b h with z | z | z
      · exact .inl z
      · exact absurd z (noO b)
      · exact .inr z⟩
  unfold runD at q
  cases hg : g (ds.map (fun d => some (O.val d)) ++ List.replicate (N.length - ds.length) none) with
  | nx δ' =>
    rw [hg] at q
    intro σ' F' H' se r'
    exact q .non F' H' (toExt r'.sub se) .non
  | rt o =>
    rw [hg] at q
    cases o with
    | val d =>
      intro v F' H' se sb dv
      exact q v F' H' (toExt sb se) dv
    | own es =>
      intro a ws F' H' se sb hF hH dv
      refine q a ws F' H' (toExt sb se) ?_ hF hH dv
      rcases se.own a rfl with z | z
      · exact absurd z (noO a)
      · exact z
  | ex x δ' =>
    rw [hg] at q
    intro cls d σ' F' H' se r' z
    exact q cls d F' H' (toExt r'.sub se) z
  | bk _ => rw [hg] at q; exact q.elim
  | ct _ => rw [hg] at q; exact q.elim
  | bad => rw [hg] at q; exact q.elim
theorem mkDfnP {P : Program} {w : World} {K : PySem.W.Frag} {mg : Str → Option Value} {base : Heap} {x : Str} {st : Stmt} {f : Addr} {fd : FuncData} {N ps : List Str} {k n : Nat} {g : DEnv → SO} (F : FunD K x x (defArgs st) (defBody st) (defScope st) [] [] f fd) (hm : mg x = some (.ref f)) (S : FnScope N ps (defScope st)) (hn : ps.length = n)
    (hbd : ∀ (kV doc pm : Value) (an : Option Addr) (cdv ct : Value) (us : List Value), us.length = ps.length → bindArgs (PySem.W.fnOf x x (defArgs st) (defBody st) (defScope st) .none kV doc pm an cdv ct) ⟨us, []⟩ = pure (ps.zip us))
    (hb : ∀ (cdv : Value) (A : Around) (outer : List Env) (s : Shared) (H : Hp) (E : XK) (p : Addr × Obj), L2H.RoomH k (A.deeper (envOfC x (defScope st) s.heap.objs.size f cdv)) → Takes (cxP P w K mg base N x st f cdv A outer s H E p) (WofE E) →
      DSs (cxP P w K mg base N x st f cdv A outer s H E p) (WofE E) (defBody st) g) : DfnP P w K mg base x (k + 1) n (runD N.length g) := by
  refine ⟨f, fd, ps, fn_ofP F S (fun vs H Q E h => ?_) (fun cdv A outer s H vs Q E p hr h => ?_), hm, F.kp, F.bindsN hbd⟩
  · obtain ⟨G, ds, _, al, hl, _⟩ := h
    rw [al.len, hl, hn]
  · obtain ⟨G, ds, hs, al, hl, q⟩ := h
    obtain ⟨ts, pss, is⟩ := hb cdv A outer s H E p hr (takes_of rfl rfl rfl rfl)
    obtain ⟨rel, noO⟩ := start_rel (pn := (cxP P w K mg base N x st f cdv A outer s H E p).pn) (N := N) hs al
    exact ⟨ts, pss, is G H (L2.start N vs) _ _ rel (run_ends noO q)⟩
/-- a def that is never reached -/
theorem dfn_never {P : Program} {w : World} {K : PySem.W.Frag} {mg : Str → Option Value} {base : Heap} {x qual : Str} {st : Stmt} {f : Addr} {fd : FuncData} {ps : List Str} {n : Nat} (F : FunD K x qual (defArgs st) (defBody st) (defScope st) [] [] f fd) (hm : mg x = some (.ref f)) (hn : ps.length = n)
    (hbd : ∀ (kV doc pm : Value) (an : Option Addr) (cdv ct : Value) (us : List Value), us.length = ps.length → bindArgs (PySem.W.fnOf x qual (defArgs st) (defBody st) (defScope st) .none kV doc pm an cdv ct) ⟨us, []⟩ = pure (ps.zip us)) : Dfn P w K mg base x 0 n (fun _ => .bad) :=
  ⟨f, fd, ps, ⟨fun vs H Q E h => by obtain ⟨G, ds, _, al, hl, _⟩ := h; rw [al.len, hl, hn], fun A outer s H args us vs Q E _ _ _ _ h => by obtain ⟨_, _, _, _, _, q⟩ := h; exact q.elim⟩, hm, F.kp, F.bindsN hbd⟩
theorem Dfn.mono {P : Program} {w : World} {K : PySem.W.Frag} {mg : Str → Option Value} {base : Heap} {x : Str} {k j n : Nat} {g : List PyData → R O} (D : Dfn P w K mg base x k n g) (h : k ≤ j) : Dfn P w K mg base x j n g := by
  obtain ⟨f, fd, ps, F, a, b, c⟩ := D.ex
  exact ⟨f, fd, ps, F.mono h, a, b, c⟩

/-! ### sorted by keys -/
theorem room_in2 {A : Around} {k : Nat} (h : Room (k + 2) A) : Room k A.in1.in1 := (h.in1).in1
section
variable {X : Cx} {W : WX} {e : Expr} {p p2 kp pos : Pos} {fa : DEnv → R PyData} {x : Str} {j k : Nat}
theorem do_sortedAbs (hu : X.A.units + 130 < cLine) (hm : X.mg "sorted" = none) (hma : X.mg "abs" = none) (he : DV X W e fa) (hga : Gl X "abs" := by rfl) (hg : Gl X "sorted" := by rfl)
    (hst : backTo pos (starEach [e] X.env) = (false, eval e X.env) :: backTo pos (starEach [] X.env) := by rfl) (hpl : (backTo pos (starEach [e] X.env)).any (·.1) = false := by rfl) (hs1 : starEach [e] X.env = (false, eval e X.env) :: starEach [] X.env := by rfl)
    (hall : (backToKw pos (keywordEach [⟨some "key", .Name "abs" p2, kp⟩] X.env)).all (·.1.isSome) = true := by rfl) (hnone : (backToKw pos (keywordEach [⟨some "key", .Name "abs" p2, kp⟩] X.env)).any (·.1.isNone) = false := by rfl) (hks : (backToKw pos (keywordEach [⟨some "key", .Name "abs" p2, kp⟩] X.env)).filterMap (·.1) = [Str.ofString "key"] := by rfl) :
    DO X W (.Call (.Name "sorted" p) [e] [⟨some "key", .Name "abs" p2, kp⟩] pos) (dSortedK biAbs fa) :=
  do_sortedKey keyF_abs hu (fun a => ksk_t4 _ a) (fun pins s σ H Q I h => ld_blt I hga hma (by decide +kernel) h (by decide) (by decide)) hm he hg hst hpl hs1 hall hnone hks
theorem do_sortedDef {g : List PyData → R O} (D : Dfn X.prog X.w X.K X.mg X.base x k 1 g) (hr : Room j X.A) (hjk : k + 2 ≤ j) (hm : X.mg "sorted" = none) (he : DV X W e fa) (hgx : Gl X x) (hdb : (x == ("__debug__" : Str)) = false := by decide) (hg : Gl X "sorted" := by rfl)
    (hst : backTo pos (starEach [e] X.env) = (false, eval e X.env) :: backTo pos (starEach [] X.env) := by rfl) (hpl : (backTo pos (starEach [e] X.env)).any (·.1) = false := by rfl) (hs1 : starEach [e] X.env = (false, eval e X.env) :: starEach [] X.env := by rfl)
    (hall : (backToKw pos (keywordEach [⟨some "key", .Name x p2, kp⟩] X.env)).all (·.1.isSome) = true := by rfl) (hnone : (backToKw pos (keywordEach [⟨some "key", .Name x p2, kp⟩] X.env)).any (·.1.isNone) = false := by rfl) (hks : (backToKw pos (keywordEach [⟨some "key", .Name x p2, kp⟩] X.env)).filterMap (·.1) = [Str.ofString "key"] := by rfl) :
    DO X W (.Call (.Name "sorted" p) [e] [⟨some "key", .Name x p2, kp⟩] pos) (dSortedK (fun d => g [d]) fa) := by
  obtain ⟨f, fd, ps, F, hmx, hk, hb⟩ := D.ex
  exact do_sortedKey (keyF_def (x := x) F hb (room_in2 (hr.mono hjk))) (hu130 hr) (fun a => ksk_t1 _ a) (fun pins s σ H Q I h => ld_glob I hgx hmx h hdb) hm he hg hst hpl hs1 hall hnone hks
theorem pe_sortedDef {g : List PyData → R O} {te : TE} (D : Dfn X.prog X.w X.K X.mg X.base x k 1 g) (hr : Room j X.A) (hjk : k + 2 ≤ j) (hm : X.mg "sorted" = none) (he : PE X e te) (hgx : Gl X x) (hdb : (x == ("__debug__" : Str)) = false := by decide) (hg : Gl X "sorted" := by rfl)
    (hst : backTo pos (starEach [e] X.env) = (false, eval e X.env) :: backTo pos (starEach [] X.env) := by rfl) (hpl : (backTo pos (starEach [e] X.env)).any (·.1) = false := by rfl) (hs1 : starEach [e] X.env = (false, eval e X.env) :: starEach [] X.env := by rfl)
    (hall : (backToKw pos (keywordEach [⟨some "key", .Name x p2, kp⟩] X.env)).all (·.1.isSome) = true := by rfl) (hnone : (backToKw pos (keywordEach [⟨some "key", .Name x p2, kp⟩] X.env)).any (·.1.isNone) = false := by rfl) (hks : (backToKw pos (keywordEach [⟨some "key", .Name x p2, kp⟩] X.env)).filterMap (·.1) = [Str.ofString "key"] := by rfl) :
    PE X (.Call (.Name "sorted" p) [e] [⟨some "key", .Name x p2, kp⟩] pos) (tSortK X.K (fun d => g [d]) te) := by
  obtain ⟨f, fd, ps, F, hmx, hk, hb⟩ := D.ex
  exact pe_sortedKey (keyF_def (x := x) F hb (room_in2 (hr.mono hjk))) (hu130 hr) (fun a => ksk_t1 _ a) (fun pins s σ H Q I h => ld_glob I hgx hmx h hdb) hm he hg hst hpl hs1 hall hnone hks
/-- a module's constant: an int -/
theorem dv_globI {i : Int} {t : Tok} (hm : X.mg x = some (.int i t)) (hg : Gl X x) (hdb : (x == ("__debug__" : Str)) = false := by decide) : DV X W (.Name x pos) (dC (.int i)) :=
  ⟨_, pe_glob (v := .int i) hg hm ⟨t, rfl⟩ hdb, fun G H σ δ Q s r q => q _ G H (Ext.refl s) (.int i)⟩
end
end DL
set_option Elab.async false
set_option linter.all false
set_option maxRecDepth 100000
set_option maxHeartbeats 4000000
set_option autoImplicit false
/-! DL14: tables of exception classes; room. -/
namespace DL
open PySem PySem.Spec L2
open PyProof.Rows hiding St
def tblF (l : List (Str × Bool)) : Str → Option Bool := fun y => l.lookup y
def tblM (l : List Str) : Str → Bool := fun y => decide (y ∈ l)
theorem tblF_mem : ∀ {l : List (Str × Bool)} {y : Str} {b : Bool}, tblF l y = some b → (y, b) ∈ l
  | [], _, _, h => by cases h
  | (z, c) :: l, y, b, h => by
    unfold tblF at h
    rw [List.lookup_cons] at h
    cases hz : (y == z) with
    | true =>
      rw [hz] at h
      have e : y = z := by simpa using hz
      cases h
      rw [e]
      exact List.mem_cons_self
    | false =>
      rw [hz] at h
      exact List.mem_cons_of_mem _ (tblF_mem (l := l) h)
def IsTbl (K : PySem.W.Frag) (l : List (Str × Bool)) (cv : Value) : Prop := ∀ y b, tblF l y = some b → ExcC K (He.ga K y) ∧ PySem.W.kitOne K (.ref (He.ga K y)) cv = some b
def ExmTbl (K : PySem.W.Frag) (l : List (Str × Bool)) (c : Value) : Prop := ∀ y b, tblF l y = some b → PySem.W.exmOne K (.ref (He.ga K y)) c = some b
def FldTbl (K : PySem.W.Frag) (l : List Str) (f : Str) : Prop := ∀ y, tblM l y = true → XfC K (He.ga K y) ∧ PySem.W.findIn K (.ref (He.ga K y)) f = some none
theorem hu2 {A : Around} {k : Nat} (h : Room k A) : A.units + 2 < cLine := by have := h.un; omega
theorem hu64P {A : Around} {k : Nat} (h : L2H.RoomH k A) : A.units + 64 < cLine := by have := h.un; omega
theorem hu65P {A : Around} {k : Nat} (h : L2H.RoomH k A) : A.units + 65 < cLine := by have := h.un; omega
theorem roomP {A : Around} {k : Nat} {e : Option Value} (h : Room k A) : L2H.RoomH k (A.mark e) := ⟨h.dp, h.un⟩
end DL
set_option Elab.async false
set_option linter.all false
set_option maxRecDepth 100000
set_option maxHeartbeats 4000000
set_option autoImplicit false
/-! DL15: the head's facts: own exception classes beside the defs; the end with the script's bits. -/
namespace DL
open PySem PySem.Spec L2
open PyProof.Rows hiding St
/-! ### what the head is asked -/
def asX (g : Addr → Option Obj) : Nat → List Addr
  | 0 => [mainGlobals, PySem.cStatics]
  | n + 1 => He.growD g (asX g n)
/-- the text of a class's __init__ -/
structure SupD where
  x : Str
  f : Str
  qual : Str
  txt : Str
  j : Nat
  p1 : Pos
  p2 : Pos
  r0 : Pos
  r1 : Pos
  r2 : Pos
  r3 : Pos
  r4 : Pos
  r5 : Pos
  q1 : Pos
  q2 : Pos
  q3 : Pos
  q4 : Pos
abbrev FnS : Type := Option (Str × Str × Arguments × FuncBody × Scope × Addr × List Str × Value × Addr)
def fnS (K : PySem.W.Frag) (x : Str) : FnS := match K.lookup (He.ma K (He.ga K x) "__init__") with
  | some ⟨_, _, .func fd, _⟩ => some (fd.name, fd.qualname, fd.params, fd.body, fd.scope, fd.globals, fd.closure.map (·.1), fd.defaults, fd.builtins)
  | _ => none
def SupD.val (d : SupD) : FnS := some (("__init__" : Str), d.qual, PySem.SupX.iA d.f d.p1 d.p2, .stmts (PySem.SupX.iB d.f d.txt d.j d.r0 d.r1 d.r2 d.r3 d.r4 d.r5 d.q1 d.q2 d.q3 d.q4), PySem.SupX.iS d.f, mainGlobals, [("__class__" : Str)], .none, builtinsNs)
def supFn (P : Program) (K : PySem.W.Frag) (C fI : Addr) : Bool := match K.lookup fI with
  | some ⟨_, _, .func fd, _⟩ => (match fd.closure, fd.code with
    | [(_, cc)], .ref cda => PySem.W.codeIn K (.ref cda) fd.qualname && ((match K.lookup cda with
      | some ⟨_, _, .fields vs, _⟩ => (match (vs[2]? : Option Value) with
        | some (.str file _) => P.main.file == file
        | _ => false)
      | _ => false) && (match K.lookup cc with
      | some ⟨_, _, .cell (some (.ref D)), _⟩ => decide (D = C)
      | _ => false))
    | _, _ => false)
  | _ => false
def supCls (K : PySem.W.Frag) (C : Addr) : Bool := match K.lookup C with
  | some ⟨.type t, _, .cls cd, sl⟩ => (match cd.mro, sl.toList with
    | .ref C' :: bm, [_, _, _, _, some (.builtin n), _] => decide (t = "type") && (decide (C' = C) && (decide (n = "ValueError.__new__") && (!cd.hasDel && (cd.hasDict && (PySem.HandSPX.refsVE bm && He.eqO (PySem.W.alongIn K "__init__" bm) (some (some (.builtin "ValueError.__init__"))))))))
    | _, _ => false)
  | _ => false
def supB (P : Program) (K : PySem.W.Frag) (d : SupD) : Bool :=
  supFn P K (He.ga K d.x) (He.ma K (He.ga K d.x) "__init__") && (supCls K (He.ga K d.x) && (He.eqO (PySem.W.nsIn K mainGlobals d.x) (some (some (.ref (He.ga K d.x)))) && (He.eqO (PySem.W.findIn K (.ref (He.ga K d.x)) "__setattr__") (some (some (.builtin "object.__setattr__"))) &&
  (He.eqO (PySem.W.findIn K (.ref (He.ga K d.x)) d.f) (some none) && (He.eqO (PySem.W.findIn K (.ref (He.ga K d.x)) "__init__") (some (some (.ref (He.ma K (He.ga K d.x) "__init__")))) && (decide (PySem.W.typeIn K (.ref (He.ma K (He.ga K d.x) "__init__")) = some (.type "function")) &&
  (PySem.W.keepIn K (.ref (He.ga K d.x)) && (decide (PySem.W.subIn K (.ref (He.ga K d.x)) (.type "BaseException") = some true) && (decide (PySem.W.subIn K (.ref (He.ga K d.x)) (.type "ValueError") = some true) && (decide (PySem.W.typeIn K (.ref (He.ga K d.x)) = some (.type "type")) &&
  (He.eqO (PySem.W.nsIn K PySem.cStatics "thirdparty.any") (some none) && (He.eqO (PySem.W.nsIn K mainGlobals "super") (some none) && !(P.main.scope.names.lookup ("super" : Str)).isSome))))))))))))
theorem sup_ok {P : Program} {K : PySem.W.Frag} {h : Heap} {mg : Str → Option Value} {d : SupD} (X : K.In h) (G : h.Ns mainGlobals mg) (e : fnS K d.x = d.val) (c : supB P K d = true) (hn : PySem.SupX.NmOk d.f) (hev : PySem.SupX.SupEv d.txt d.j d.r0 d.r1 d.r2 d.r3 d.r4) : SupC P K mg d.x d.f := by
  unfold supB at c
  obtain ⟨c1, c⟩ := He.ba c
  obtain ⟨c2, c⟩ := He.ba c
  obtain ⟨c3, c⟩ := He.ba c
  obtain ⟨c4, c⟩ := He.ba c
  obtain ⟨c5, c⟩ := He.ba c
  obtain ⟨c6, c⟩ := He.ba c
  obtain ⟨c7, c⟩ := He.ba c
  obtain ⟨c8, c⟩ := He.ba c
  obtain ⟨c9, c⟩ := He.ba c
  obtain ⟨c10, c⟩ := He.ba c
  obtain ⟨c11, c⟩ := He.ba c
  obtain ⟨c12, c⟩ := He.ba c
  obtain ⟨c13, c14⟩ := He.ba c
  refine ⟨PySem.W.mg_of X G (He.eqO_ok c3), ?_⟩
  unfold fnS at e
  unfold supFn at c1
  split at c1
  · rename_i oc od fd osl hf
    rw [hf] at e
    split at c1
    · rename_i n cc cda hcl hco
      obtain ⟨k1, k⟩ := He.ba c1
      obtain ⟨k2, k3⟩ := He.ba k
      obtain ⟨n1, n2, n3, n4, n5, n6, n7, n8, n9, n10, n11, n12, n13, n14, n15⟩ := fd
      have e2 : (some (n1, n2, n3, n4, n5, n6, n7.map (·.1), n8, n15) : FnS) = some (("__init__" : Str), d.qual, PySem.SupX.iA d.f d.p1 d.p2, .stmts (PySem.SupX.iB d.f d.txt d.j d.r0 d.r1 d.r2 d.r3 d.r4 d.r5 d.q1 d.q2 d.q3 d.q4), PySem.SupX.iS d.f, mainGlobals, [("__class__" : Str)], .none, builtinsNs) := e
      simp only [Option.some.injEq, Prod.mk.injEq] at e2
      obtain ⟨h1, h2, h3, h4, h5, h6, h7, h8, h9⟩ := e2
      dsimp only at hcl hco k1
      subst hcl hco h1 h2 h3 h4 h5 h6 h8 h9
      have hnm : n = ("__class__" : Str) := by simpa using h7
      subst hnm
      refine ⟨He.ma K (He.ga K d.x) "__init__", cc, cda, ?_⟩
      refine ⟨?_, He.eqO_ok c4, He.eqO_ok c5, He.eqO_ok c6, of_decide_eq_true c7, c8, of_decide_eq_true c9, of_decide_eq_true c10, of_decide_eq_true c11,
        ⟨oc, od, _, d.txt, d.j, _, n9, n10, n11, n12, n14, osl, d.p1, d.p2, d.r0, d.r1, d.r2, d.r3, d.r4, d.r5, d.q1, d.q2, d.q3, d.q4, hf, k1, rfl, hev⟩, ?_, ?_, He.eqO_ok c12, hn, He.eqO_ok c13, by simpa using c14⟩
      · unfold supCls at c2
        split at c2
        · rename_i t dd cd sl ho
          split at c2
          · rename_i C' bm k0 k1' k2' k3' n' k5 hm hs
            obtain ⟨m1, m⟩ := He.ba c2
            obtain ⟨m2, m⟩ := He.ba m
            obtain ⟨m3, m⟩ := He.ba m
            obtain ⟨m4, m⟩ := He.ba m
            obtain ⟨m5, m⟩ := He.ba m
            obtain ⟨m6, m7⟩ := He.ba m
            have m1 := of_decide_eq_true m1
            have m2 := of_decide_eq_true m2
            have m3 := of_decide_eq_true m3
            obtain ⟨nm, bs, mro, ns, qn, hd, sn, sub, ab, col, del⟩ := cd
            dsimp only at hm m4 m5
            have m4 : del = false := by simpa using m4
            subst hm m1 m2 m3 m4 m5
            have hsl : sl = #[k0, k1', k2', k3', some (.builtin "ValueError.__new__"), k5] := by
              obtain ⟨l⟩ := sl
              simp only at hs
              rw [hs]
            subst hsl
            exact ⟨nm, qn, ns, bs, bm, sn, sub, ab, col, dd, k0, k1', k2', k3', k5, ho, m6, He.eqO_ok m7⟩
          · cases c2
        · cases c2
      · split at k2
        · rename_i a1 a2 vs a3 hv
          split at k2
          · rename_i file tf hvs
            exact ⟨_, _, vs, _, file, tf, hv, hvs, k2⟩
          · cases k2
        · cases k2
      · split at k3
        · rename_i a1 a2 D a3 hv
          have := of_decide_eq_true k3
          subst this
          exact ⟨_, _, _, hv⟩
        · cases k3
    · cases c1
  · cases c1
/-- a class in a table: one's own by name, a built-in one -/
inductive CV where
  | own (x : Str)
  | bi (n : String)
def CV.v (K : PySem.W.Frag) : CV → Value
  | .own x => .ref (He.ga K x)
  | .bi n => .type n
def excCB (K : PySem.W.Frag) (D : Addr) : Bool := He.eqO (PySem.W.findIn K (.ref D) "__getattribute__") (some (some (.builtin "BaseException.__getattribute__"))) && (He.eqO (PySem.W.findIn K (.ref D) "__getattr__") (some none) && (decide (PySem.W.subIn K (.ref D) (.type "BaseException") = some true) && (PySem.W.hasDictIn K D &&
  (He.eqO (PySem.W.findIn K (.ref D) "__class__") (some (some (.builtin "object.__class__"))) && (He.eqO (PySem.W.specialIn K (.builtin "object.__class__") "__get__") (some (some (.builtin "getset_descriptor.__get__"))) && (decide (PySem.W.takesIn K (.builtin "object.__class__") = some true) && decide (PySem.W.mroIn K D (.type "object") = some true)))))))
theorem excCB_ok {K : PySem.W.Frag} {D : Addr} (c : excCB K D = true) : ExcC K D := by
  obtain ⟨c1, c⟩ := He.ba c
  obtain ⟨c2, c⟩ := He.ba c
  obtain ⟨c3, c⟩ := He.ba c
  obtain ⟨c4, c⟩ := He.ba c
  obtain ⟨c5, c⟩ := He.ba c
  obtain ⟨c6, c⟩ := He.ba c
  obtain ⟨c7, c8⟩ := He.ba c
  exact ⟨He.eqO_ok c1, He.eqO_ok c2, of_decide_eq_true c3, c4, He.eqO_ok c5, He.eqO_ok c6, of_decide_eq_true c7, of_decide_eq_true c8⟩
inductive FX where
  | isT (l : List (Str × Bool)) (c : CV)
  | exm (l : List (Str × Bool)) (c : Str)
  | fld (l : List Str) (f : Str)
def FX.ok (K : PySem.W.Frag) : FX → Bool
  | .isT l c => l.all fun p => excCB K (He.ga K p.1) && decide (PySem.W.kitOne K (.ref (He.ga K p.1)) (c.v K) = some p.2)
  | .exm l c => l.all fun p => decide (PySem.W.exmOne K (.ref (He.ga K p.1)) (.ref (He.ga K c)) = some p.2)
  | .fld l f => l.all fun y => xfB K (He.ga K y) && He.eqO (PySem.W.findIn K (.ref (He.ga K y)) f) (some none)
theorem isT_ok {K : PySem.W.Frag} {l : List (Str × Bool)} {c : CV} (h : (FX.isT l c).ok K = true) : IsTbl K l (c.v K) := fun y b hy => by
  obtain ⟨h1, h2⟩ := He.ba (List.all_eq_true.mp h _ (tblF_mem hy))
  exact ⟨excCB_ok h1, of_decide_eq_true h2⟩
theorem exmT_ok {K : PySem.W.Frag} {l : List (Str × Bool)} {c : Str} (h : (FX.exm l c).ok K = true) : ExmTbl K l (.ref (He.ga K c)) := fun y b hy => of_decide_eq_true (List.all_eq_true.mp h _ (tblF_mem hy))
theorem fldT_ok {K : PySem.W.Frag} {l : List Str} {f : Str} (h : (FX.fld l f).ok K = true) : FldTbl K l f := fun y hy => by
  obtain ⟨h1, h2⟩ := He.ba (List.all_eq_true.mp h y (of_decide_eq_true hy))
  exact ⟨xfB_ok h1, He.eqO_ok h2⟩
/-! ### the Hook -/
abbrev AlX : Type := He.AlD × (Bool × List FnS)
def obsX (P : Program) (fa : List He.Fa) (fn : List He.DefD) (fs : List SupD) (fx : List FX) (K : PySem.W.Frag) : AlX := (He.obsD fa fn K, ((fs.all fun d => supB P K d) && fx.all fun d => d.ok K, fs.map fun d => fnS K d.x))
def valX (fn : List He.DefD) (fs : List SupD) : AlX := (He.valD fn, (true, fs.map SupD.val))
def obsXG (n : Nat) (P : Program) (fa : List He.Fa) (fn : List He.DefD) (fs : List SupD) (fx : List FX) (g : Addr → Option Obj) : AlX := obsX P fa fn fs fx (He.frG g (asX g n))
def SaysX (P : Program) (fa : List He.Fa) (fn : List He.DefD) (fs : List SupD) (fx : List FX) (K : PySem.W.Frag) : Prop := obsX P fa fn fs fx K = valX fn fs
def hookX (n : Nat) (P : Program) (fa : List He.Fa) (fn : List He.DefD) (fs : List SupD) (fx : List FX) : PySem.W.Hook where
  α := AlX
  obs := fun s => obsXG n P fa fn fs fx s.heap.get?
  val := fun _ => valX fn fs
  says := fun _ h => ∃ K : PySem.W.Frag, K.In h ∧ SaysX P fa fn fs fx K
  of := fun _ _ e => ⟨_, He.frG_in, e⟩
  keeps := fun _ _ _ ⟨K, hK, c⟩ k => ⟨K, PySem.W.Frag.In.keeps hK k, c⟩
theorem obsXG_eq {n : Nat} {P : Program} {fa : List He.Fa} {fn : List He.DefD} {fs : List SupD} {fx : List FX} {g : Addr → Option Obj} {s : Shared} (h : ∀ a, g a = s.heap.get? a) : obsXG n P fa fn fs fx g = (hookX n P fa fn fs fx).obs s := by
  have e : g = s.heap.get? := funext h
  rw [e] <;> rfl
section
variable {P : Program} {fa : List He.Fa} {fn : List He.DefD} {fs : List SupD} {fx : List FX} {K : PySem.W.Frag}
theorem SaysX.d (c : SaysX P fa fn fs fx K) : He.SaysD fa fn K := congrArg (fun z : AlX => z.1) c
theorem SaysX.xs (c : SaysX P fa fn fs fx K) (i : Nat) {d : FX} (h : fx[i]? = some d) : d.ok K = true := by
  have c1 : ((fs.all fun d => supB P K d) && fx.all fun d => d.ok K) = true := congrArg (fun z : AlX => z.2.1) c
  exact List.all_eq_true.mp (He.ba c1).2 d (List.mem_of_getElem? h)
theorem SaysX.sup (c : SaysX P fa fn fs fx K) (i : Nat) {d : SupD} (h : fs[i]? = some d) {hp : Heap} {mg : Str → Option Value} (X : K.In hp) (G : hp.Ns mainGlobals mg) (hn : PySem.SupX.NmOk d.f) (hev : PySem.SupX.SupEv d.txt d.j d.r0 d.r1 d.r2 d.r3 d.r4) : SupC P K mg d.x d.f := by
  have c1 : ((fs.all fun d => supB P K d) && fx.all fun d => d.ok K) = true := congrArg (fun z : AlX => z.2.1) c
  have c2 : fs.map (fun d => fnS K d.x) = fs.map SupD.val := congrArg (fun z : AlX => z.2.2) c
  have e2 : (fs.map fun d => fnS K d.x)[i]? = (fs.map SupD.val)[i]? := by rw [c2]
  rw [List.getElem?_map, List.getElem?_map, h] at e2
  exact sup_ok X G (Option.some.inj e2) (List.all_eq_true.mp (He.ba c1).1 d (List.mem_of_getElem? h)) hn hev
end
/-! ### the end -/
theorem walk_EB {l : PySem.W.OpenLaw} {n k : Nat} {q : Program} {loose : List Str} {XP : (Str → Option Value) → Heap → Prop} {YP : World → Heap → Prop} {d : DefRec} {x : Str}
    (hn : l.most = some n) (hn2 : n ≤ sizeLine) (hdf : d.params.defaults = []) (hr : Room k callerA)
    (F : ∀ (w : World) (mg : Str → Option Value) (fa : Addr) (h : Heap), YP w h → h.Ns mainGlobals mg → mg d.name = some (.ref fa) →
      ∃ (K : PySem.W.Frag) (fd : FuncData) (sp : Sp), K.In h ∧ (∀ (s : Shared) (u : Value), BindsTo s fd ⟨[u], []⟩ [(x, u)]) ∧
        (∀ (H : Hp) (a : Addr) (ns : List Int), ns.length ≤ n → (∀ z ∈ ns, Builtin.Int.intBits z ≤ 1048576) → Only H → SqL K H a (ns.map V.int) → sp [.ref a] H (fun v _ => v = .bl true) fun _ _ _ => False) ∧
        ∀ base : Heap, K.In base → base.Ns mainGlobals mg → FnOk l.prog w K mg base (L2.CX l.prog w) k fa fd [x] sp) :
    PySem.W.WalkO q loose XP YP l.row.toRowW d [] (fun f vs => PySem.call f vs) := by
  refine Att.attach_callB hn hdf fun w s₀ s₁ mg mb fa o pm cd doc a vs ns G Y ho hd hcd hmg hobj hints hlen hbits hg => ?_
  obtain ⟨K, fd, sp, KX, hb, hsp, hF⟩ := F w mg fa _ Y G.T.g hmg
  exact law_call KX G.T.g G.T.b G.T.builtins G.T.nolimit hg hobj hints (Nat.le_trans hlen hn2) hr hF hb (fun H hO hS => hsp H a ns hlen hbits hO hS) fun H e s' h => by
    obtain ⟨_, _, _, _, _, _, _, _, _, _, _, _, q⟩ := h
    exact q
/-- a law's promise by data -/
theorem law_sp {K : PySem.W.Frag} {g : List PyData → R O} {n : Nat} (hg : ∀ ns : List Int, ns.length ≤ n → (∀ z ∈ ns, Builtin.Int.intBits z ≤ 1048576) → g [.list (ns.map .int)] = .ok (.val (.bool true))) (H : Hp) (a : Addr) (ns : List Int) (hn : ns.length ≤ n) (hb : ∀ z ∈ ns, Builtin.Int.intBits z ≤ 1048576) (hS : SqL K H a (ns.map V.int)) :
    spD K 1 g [.ref a] H (fun v _ => v = .bl true) fun _ _ _ => False := by
  refine ⟨H, [.list (ns.map .int)], Same.refl _, .cons (.lst hS (DpAll.map V.int PyData.int (fun i => .int i) ns)) .nil, rfl, ?_⟩
  rw [hg ns hn hb]
  intro v G' H' e d
  cases d
  rfl
end DL
set_option Elab.async false
set_option linter.all false
set_option maxRecDepth 100000
set_option maxHeartbeats 4000000
set_option autoImplicit false
/-! DM: tools for the mathematics: loops, comprehensions, shapes, comparisons. -/
namespace DL
open PySem PySem.Spec L2
open PyProof.Rows hiding St
@[simp] theorem isDict_none : isDict .none = false := id rfl
@[simp] theorem isDict_bool (b : Bool) : isDict (.bool b) = false := id rfl
@[simp] theorem isDict_int (i : Int) : isDict (.int i) = false := id rfl
@[simp] theorem isDict_str (x : Str) : isDict (.str x) = false := id rfl
@[simp] theorem isDict_list (l : List PyData) : isDict (.list l) = false := id rfl
@[simp] theorem isDict_tuple (l : List PyData) : isDict (.tuple l) = false := id rfl
/-! ### loops -/
theorem loopS_out {set : PyData → DEnv → Option DEnv} {g : DEnv → SO} (I : Nat → DEnv → Prop) (Out : SO → Prop) : ∀ (ds : List PyData) (n : Nat) (δ : DEnv),
    (∀ k d δ, ds[k]? = some d → I (n + k) δ → ∃ δ1, set d δ = some δ1 ∧ (match g δ1 with
      | .nx δ2 => I (n + k + 1) δ2
      | .ct δ2 => I (n + k + 1) δ2
      | .bk δ2 => Out (.nx δ2)
      | o => Out o)) → (∀ δ, I (n + ds.length) δ → Out (.nx δ)) → I n δ → Out (loopS set g ds δ)
  | [], n, δ, _, he, h0 => he δ h0
  | d :: ds, n, δ, hs, he, h0 => by
    obtain ⟨δ1, h1, h2⟩ := hs 0 d δ rfl h0
    unfold loopS
    rw [h1]
    simp only
    have rec_ : ∀ δ2, I (n + 1) δ2 → Out (loopS set g ds δ2) := fun δ2 h => loopS_out I Out ds (n + 1) δ2 (fun k e δ hk hI => by
      have := hs (k + 1) e δ (by simpa using hk) (by rw [show n + (k + 1) = n + 1 + k by omega]; exact hI)
      rw [show n + (k + 1) + 1 = n + 1 + k + 1 by omega] at this
      exact this) (fun δ h => he δ (by rw [List.length_cons, show n + (ds.length + 1) = n + 1 + ds.length by omega]; exact h)) h
    cases hg : g δ1 with
    | nx δ2 => rw [hg] at h2; exact rec_ δ2 h2
    | ct δ2 => rw [hg] at h2; exact rec_ δ2 h2
    | bk δ2 => rw [hg] at h2; exact h2
    | rt o => rw [hg] at h2; exact h2
    | ex x δ2 => rw [hg] at h2; exact h2
    | bad => rw [hg] at h2; exact h2
/-- a loop that runs through -/
theorem loopS_thru {set : PyData → DEnv → Option DEnv} {g : DEnv → SO} (I : Nat → DEnv → Prop) {ds : List PyData} {δ : DEnv}
    (hs : ∀ k d δ, ds[k]? = some d → I k δ → ∃ δ1, set d δ = some δ1 ∧ ∃ δ2, (g δ1 = .nx δ2 ∨ g δ1 = .ct δ2) ∧ I (k + 1) δ2) (h0 : I 0 δ) : ∃ δ', loopS set g ds δ = .nx δ' ∧ I ds.length δ' := by
  have := loopS_out (set := set) (g := g) I (fun o => ∃ δ', o = .nx δ' ∧ I ds.length δ') ds 0 δ (fun k d δ hk hI => by
    rw [Nat.zero_add] at hI ⊢
    obtain ⟨δ1, h1, δ2, h2, h3⟩ := hs k d δ hk hI
    refine ⟨δ1, h1, ?_⟩
    rcases h2 with h2 | h2 <;> rw [h2] <;> exact h3) (fun δ h => ⟨δ, rfl, by rw [Nat.zero_add] at h; exact h⟩) h0
  exact this
/-! ### statements -/
theorem exE_ok {ms : List Nat} {f : DEnv → R O} {δ : DEnv} {o : O} (h : f δ = .ok o) (hf : o.flat = true) : exE ms f δ = .ok (o, δ) := exE_flat h hf
@[simp] theorem O.flat_val (d : PyData) : (O.val d).flat = DL.flat d := id rfl
@[simp] theorem O.flat_own (ds : List PyData) : (O.own ds).flat = DL.flatAll ds := id rfl
theorem exT_ok {f : DEnv → R Bool} {δ : DEnv} {b : Bool} (h : f δ = .ok b) : exT f δ = .ok b := by
  unfold exT
  rw [h]
theorem dSet_ok {i : Nat} {ms : List Nat} {f : DEnv → R O} {δ : DEnv} {o : O} (h : f δ = .ok o) (hf : o.flat = true) (hi : i < δ.length) : dSet i ms f δ = .nx (δ.set i (some o)) := by
  unfold dSet
  rw [exE_ok h hf]
  simp only
  rw [if_pos hi]
theorem dRet_ok {f : DEnv → R O} {δ : DEnv} {o : O} (h : f δ = .ok o) : dRet f δ = .rt o := by
  unfold dRet
  rw [h]
theorem dIfS_ok {c : DEnv → R Bool} {g1 g2 : DEnv → SO} {δ : DEnv} {b : Bool} (h : c δ = .ok b) : dIfS c g1 g2 δ = if b = true then g1 δ else g2 δ := by
  unfold dIfS
  rw [exT_ok h]
theorem dFor_ok {ms : List Nat} {f : DEnv → R O} {set : PyData → DEnv → Option DEnv} {g : DEnv → SO} {δ : DEnv} {o : O} {ds : List PyData} (h : f δ = .ok o) (hf : o.flat = true) (hd : seqD o.data = .ok ds) : dFor ms f set g δ = loopS set g ds δ := by
  unfold dFor
  rw [exE_ok h hf]
  simp only
  rw [hd]
theorem dForR_ok {f : DEnv → R (List PyData)} {set : PyData → DEnv → Option DEnv} {g : DEnv → SO} {δ : DEnv} {ds : List PyData} (h : f δ = .ok ds) : dForR f set g δ = loopS set g ds δ := by
  unfold dForR exI
  rw [h]
theorem dAppend_ok {i : Nat} {ms : List Nat} {f : DEnv → R O} {δ : DEnv} {o : O} {ds : List PyData} (hi : δ[i]? = some (some (.own ds))) (h : f δ = .ok o) (hf : o.flat = true) (hl : ds.length < sizeLine) : dAppend i ms f δ = .nx (δ.set i (some (.own (ds ++ [o.data])))) := by
  unfold dAppend exD
  rw [hi, exE_ok h hf]
  simp only [R.map_ok]
  rw [hi]
  simp only
  rw [if_pos hl]
theorem seqS_nx {g1 g2 : DEnv → SO} {δ δ' : DEnv} (h : g1 δ = .nx δ') : seqS g1 g2 δ = g2 δ' := by
  unfold seqS
  rw [h]
theorem seqS_rt {g1 g2 : DEnv → SO} {δ : DEnv} {o : O} (h : g1 δ = .rt o) : seqS g1 g2 δ = .rt o := by
  unfold seqS
  rw [h]
theorem runD_rt {m : Nat} {g : DEnv → SO} {ds : List PyData} {o : O} (h : g (ds.map (fun d => some (.val d)) ++ List.replicate (m - ds.length) none) = .rt o) : runD m g ds = .ok o := by
  unfold runD
  rw [h]
/-! ### comprehensions -/
theorem compL_map {i : Nat} {e : DEnv → R PyData} {δ : DEnv} {α : Type} (enc : α → PyData) (f : α → PyData) : ∀ (l : List α), (∀ a ∈ l, e (δ.set i (some (.val (enc a)))) = .ok (f a)) → compL i dYes e δ (l.map enc) = .ok (l.map f)
  | [], _ => rfl
  | a :: l, h => by
    rw [List.map_cons]
    unfold compL
    simp only [dYes, if_true]
    rw [h a (List.mem_cons_self ..), compL_map enc f l (fun b hb => h b (List.mem_cons_of_mem _ hb))]
    rfl
theorem compL_filter {i : Nat} {c : DEnv → R Bool} {e : DEnv → R PyData} {δ : DEnv} {α : Type} (enc : α → PyData) (f : α → PyData) (p : α → Bool) : ∀ (l : List α), (∀ a ∈ l, c (δ.set i (some (.val (enc a)))) = .ok (p a) ∧ (p a = true → e (δ.set i (some (.val (enc a)))) = .ok (f a))) → compL i c e δ (l.map enc) = .ok ((l.filter p).map f)
  | [], _ => rfl
  | a :: l, h => by
    rw [List.map_cons]
    unfold compL
    obtain ⟨h1, h2⟩ := h a (List.mem_cons_self ..)
    have ih := compL_filter (c := c) (e := e) (δ := δ) (i := i) enc f p l (fun b hb => h b (List.mem_cons_of_mem _ hb))
    rw [h1]
    simp only
    cases hp : p a with
    | true =>
      rw [if_pos rfl, h2 hp, ih, List.filter_cons_of_pos hp]
      rfl
    | false =>
      rw [if_neg (by simp), ih, List.filter_cons_of_neg (by simp [hp])]
theorem dComp_map {i : Nat} {fi : DEnv → R (List PyData)} {e : DEnv → R PyData} {δ : DEnv} {α : Type} (enc : α → PyData) (f : α → PyData) (l : List α) (hi : fi δ = .ok (l.map enc)) (hl : l.length ≤ sizeLine) (h : ∀ a ∈ l, e (δ.set i (some (.val (enc a)))) = .ok (f a)) : dComp i fi dYes e δ = .ok (.own (l.map f)) := by
  unfold dComp
  rw [hi]
  simp only [R.bind_ok, List.length_map]
  rw [if_pos hl, compL_map enc f l h]
  rfl
theorem dComp_filter {i : Nat} {fi : DEnv → R (List PyData)} {c : DEnv → R Bool} {e : DEnv → R PyData} {δ : DEnv} {α : Type} (enc : α → PyData) (f : α → PyData) (p : α → Bool) (l : List α) (hi : fi δ = .ok (l.map enc)) (hl : l.length ≤ sizeLine)
    (h : ∀ a ∈ l, c (δ.set i (some (.val (enc a)))) = .ok (p a) ∧ (p a = true → e (δ.set i (some (.val (enc a)))) = .ok (f a))) : dComp i fi c e δ = .ok (.own ((l.filter p).map f)) := by
  unfold dComp
  rw [hi]
  simp only [R.bind_ok, List.length_map]
  rw [if_pos hl, compL_filter enc f p l h]
  rfl
/-! ### ranges -/
theorem rangeL_map (lo c : Int) (n : Nat) : rangeL lo c n = ((List.range n).map fun (k : Nat) => lo + (k : Int) * c).map .int := by
  unfold rangeL
  rw [List.map_map]
  rfl
theorem small62_of {i : Int} (h1 : -4611686018427387904 ≤ i) (h2 : i < 4611686018427387904) : small62 i = true := by
  unfold small62
  rw [decide_eq_true_eq]
  constructor <;> omega
/-! ### shapes -/
@[simp] theorem shaped_none : SeqAt.shaped .none = true := by decide
@[simp] theorem shaped_bool (b : Bool) : SeqAt.shaped (.bool b) = true := by cases b <;> decide
@[simp] theorem shaped_int (i : Int) : SeqAt.shaped (.int i) = true := by unfold SeqAt.shaped; simp [PyData.canLay0, PyData.depth]
theorem lay_ints : ∀ c : List Int, PyData.canLayAll0 (c.map .int) = true
  | [] => by simp [PyData.canLayAll0]
  | x :: c => by
    show PyData.canLayAll0 (.int x :: c.map .int) = true
    simp [PyData.canLayAll0, PyData.canLay0, lay_ints c]
theorem depth_clD (c : List Int) : (clD c).depth = 1 := by
  unfold clD
  rw [PyData.depth, PySem.W.depth_ints]
@[simp] theorem shaped_clD (c : List Int) : SeqAt.shaped (clD c) = true := by
  unfold SeqAt.shaped
  rw [depth_clD]
  unfold clD
  simp [PyData.canLay0, lay_ints]
theorem eqvAll_ints : ∀ c d : List Int, PyData.eqvAll (c.map .int) (d.map .int) = decide (c = d)
  | [], [] => by simp [PyData.eqvAll]
  | [], _ :: _ => by simp [PyData.eqvAll]
  | _ :: _, [] => by simp [PyData.eqvAll]
  | x :: c, y :: d => by
    show PyData.eqvAll (.int x :: c.map .int) (.int y :: d.map .int) = _
    rw [PyData.eqvAll, eqvAll_ints c d, PyData.eqv]
    by_cases h1 : x = y <;> by_cases h2 : c = d <;> simp [h1, h2]
@[simp] theorem eqv_clD (c d : List Int) : PyData.eqv (clD c) (clD d) = decide (c = d) := by
  unfold clD
  rw [PyData.eqv, eqvAll_ints]
@[simp] theorem eqv_int (i j : Int) : PyData.eqv (.int i) (.int j) = decide (i = j) := by
  rw [PyData.eqv]
  by_cases h : i = j <;> simp [h]
@[simp] theorem eqv_str (i j : Str) : PyData.eqv (.str i) (.str j) = (i == j) := by rw [PyData.eqv]
@[simp] theorem flat_clD (c : List Int) : flat (clD c) = true := by unfold clD; simp
@[simp] theorem flatAll_clD (cs : List (List Int)) : flatAll (cs.map clD) = true := flatAll_map _ flat_clD cs
@[simp] theorem isDict_clD (c : List Int) : isDict (clD c) = false := id rfl
theorem lay_clauses : ∀ cs : List (List Int), PyData.canLayAll0 (cs.map clD) = true
  | [] => by simp [PyData.canLayAll0]
  | c :: cs => by
    show PyData.canLayAll0 (clD c :: cs.map clD) = true
    have h : PyData.canLay0 (clD c) = true := by unfold clD; simp [PyData.canLay0, lay_ints]
    simp [PyData.canLayAll0, h, lay_clauses cs]
theorem depth_clauses : ∀ cs : List (List Int), PyData.depthAll (cs.map clD) ≤ 1
  | [] => by simp [PyData.depthAll]
  | c :: cs => by
    show PyData.depthAll (clD c :: cs.map clD) ≤ 1
    rw [PyData.depthAll, depth_clD]
    have := depth_clauses cs
    omega
/-! ### places -/
/-! ### symbolic steps -/
section
variable {α : Type} {δ : DEnv} {f g : DEnv → R PyData} {fo : DEnv → R O} {fb gb : DEnv → R Bool} {fl : DEnv → R (List PyData)} {g1 g2 : DEnv → SO} {i j : Nat} {ms : List Nat} {d : PyData}
@[simp] theorem ap_seqS : seqS g1 g2 δ = (match g1 δ with | .nx δ' => g2 δ' | o => o) := id rfl
@[simp] theorem ap_dVar : dVar i δ = (match δ[i]? with | some (some o) => if isDict o.data = true then .bad else .ok o.data | _ => .bad) := id rfl
@[simp] theorem ap_dC : dC d δ = .ok d := id rfl
@[simp] theorem ap_dV : dV fo δ = (fo δ).map O.data := id rfl
@[simp] theorem ap_dO : dO f δ = (f δ).map O.val := id rfl
@[simp] theorem ap_dBin {h : PyData → PyData → R O} : dBin h f g δ = (f δ).bind fun x => (g δ).bind fun y => h x y := id rfl
@[simp] theorem ap_dCmp {h : PyData → PyData → R Bool} : dCmp h f g δ = (f δ).bind fun x => (g δ).bind fun y => h x y := id rfl
@[simp] theorem ap_dBl : dBl fb δ = (fb δ).map .bool := id rfl
@[simp] theorem ap_dNil : dNil δ = .ok [] := id rfl
@[simp] theorem ap_dCons : dCons f fl δ = (f δ).bind fun x => (fl δ).bind fun xs => .ok (x :: xs) := id rfl
@[simp] theorem ap_dTup : dTup fl δ = (fl δ).map .tuple := id rfl
@[simp] theorem ap_dLst : dLst fl δ = (fl δ).map .own := id rfl
@[simp] theorem ap_dApp {h : List PyData → R α} : dApp h fl δ = (fl δ).bind h := id rfl
@[simp] theorem ap_dIx : dIx f g δ = (f δ).bind fun x => (g δ).bind fun y => opIx x y := id rfl
@[simp] theorem ap_dNoPart : dNoPart δ = .ok none := id rfl
@[simp] theorem ap_dPart : dPart f δ = (f δ).bind fun x => (match x with | .int i => .ok (some i) | _ => .bad) := id rfl
@[simp] theorem ap_dCut {a b : DEnv → R (Option Int)} : dCut f a b δ = (f δ).bind fun x => (a δ).bind fun lo => (b δ).bind fun hi => opCut x lo hi := id rfl
@[simp] theorem ap_dIsTrue : dIsTrue f δ = (f δ).bind asBool := id rfl
@[simp] theorem ap_dNotB : dNotB fb δ = (fb δ).map (!·) := id rfl
@[simp] theorem ap_dAnd : dAnd fb gb δ = (fb δ).bind fun x => if x = true then gb δ else .ok false := id rfl
@[simp] theorem ap_dOr : dOr fb gb δ = (fb δ).bind fun x => if x = true then .ok true else gb δ := id rfl
@[simp] theorem ap_dAndV : dAndV fb g δ = (fb δ).bind fun x => if x = true then g δ else .ok (.bool false) := id rfl
@[simp] theorem ap_dOrV : dOrV fb g δ = (fb δ).bind fun x => if x = true then .ok (.bool true) else g δ := id rfl
@[simp] theorem ap_dNotV : dNotV f δ = (f δ).bind fun x => (match x with | .bool b => .ok (.bool (!b)) | _ => .bad) := id rfl
@[simp] theorem ap_dNeg : dNeg f δ = (f δ).bind fun x => (match x with | .int i => .ok (.int (-i)) | _ => .bad) := id rfl
@[simp] theorem ap_dIf {h k : DEnv → R α} : dIf fb h k δ = (fb δ).bind fun x => if x = true then h δ else k δ := id rfl
@[simp] theorem ap_dIsi {T : String} : dIsi T f δ = (f δ).map fun d => .bool (isiD T d) := id rfl
@[simp] theorem ap_dSortedK {h : PyData → R O} : dSortedK h f δ = (f δ).bind (opSortK h) := id rfl
@[simp] theorem ap_dSeqI : dSeqI f δ = (f δ).bind seqD := id rfl
@[simp] theorem ap_dRngI {h : List PyData → R (List PyData)} : dRngI h fl δ = (fl δ).bind h := id rfl
@[simp] theorem ap_dNx : dNx δ = .nx δ := id rfl
@[simp] theorem ap_dBk : dBk δ = .bk δ := id rfl
@[simp] theorem ap_dCt : dCt δ = .ct δ := id rfl
@[simp] theorem ap_dRetN : dRetN δ = .rt (.val .none) := id rfl
@[simp] theorem ap_dSet : dSet i ms fo δ = (match exE ms fo δ with | .ok (o, δ') => if i < δ'.length then .nx (δ'.set i (some o)) else .bad | .ex x => .ex x δ | .bad => .bad) := id rfl
@[simp] theorem ap_exE : exE ms fo δ = (match fo δ with
  | .ok o => if o.flat = true then .ok (o, δ) else (match fo (vis ms δ) with | .ok o' => .ok (o', frz ms δ) | _ => .bad)
  | .ex x => if x.flat = true then .ex x else .bad
  | .bad => .bad) := id rfl
@[simp] theorem ap_exT : exT fb δ = (match fb δ with | .ok b => .ok b | .ex x => if x.flat = true then .ex x else .bad | .bad => .bad) := id rfl
@[simp] theorem ap_exI : exI fl δ = (match fl δ with | .ok ds => .ok ds | .ex x => if x.flat = true then .ex x else .bad | .bad => .bad) := id rfl
@[simp] theorem ap_dRet : dRet fo δ = (match fo δ with | .ok o => .rt o | .ex x => if x.flat = true then .ex x δ else .bad | .bad => .bad) := id rfl
@[simp] theorem ap_dRetV : dRetV i δ = (match δ[i]? with | some (some o) => if isDict o.data = true then .bad else .rt o | _ => .bad) := id rfl
@[simp] theorem ap_dIfS : dIfS fb g1 g2 δ = (match exT fb δ with | .ok b => if b = true then g1 δ else g2 δ | .ex x => .ex x δ | .bad => .bad) := id rfl
@[simp] theorem ap_dFor {s : PyData → DEnv → Option DEnv} : dFor ms fo s g1 δ = (match exE ms fo δ with | .ok (o, δ') => (match seqD o.data with | .ok ds => loopS s g1 ds δ' | _ => .bad) | .ex x => .ex x δ | .bad => .bad) := id rfl
@[simp] theorem ap_dForR {s : PyData → DEnv → Option DEnv} : dForR fl s g1 δ = (match exI fl δ with | .ok ds => loopS s g1 ds δ | .ex x => .ex x δ | .bad => .bad) := id rfl
@[simp] theorem ap_exD : exD ms fo δ = (exE ms fo δ).map fun q => (q.1.data, q.2) := id rfl
@[simp] theorem ap_dAppend : dAppend i ms fo δ = (match δ[i]? with
  | some (some (.own _)) => (match exD ms fo δ with
    | .ok (d, δ') => (match δ'[i]? with | some (some (.own ds)) => if ds.length < sizeLine then .nx (δ'.set i (some (.own (ds ++ [d])))) else .bad | _ => .bad)
    | .ex x => .ex x δ
    | .bad => .bad)
  | _ => .bad) := id rfl
@[simp] theorem ap_dStore : dStore i ms fo g δ = (match exD ms fo δ with
  | .ok (d, δ') => (match δ'[i]? with
    | some (some (.own ds)) => (match g δ' with
      | .ok (.int k) => (match ixN ds.length k with | some j => .nx (δ'.set i (some (.own (ds.set j d)))) | none => .bad)
      | _ => .bad)
    | _ => .bad)
  | .ex x => .ex x δ
  | .bad => .bad) := id rfl
@[simp] theorem ap_sName : sName i d δ = if i < δ.length then some (δ.set i (some (.val d))) else none := id rfl
@[simp] theorem ap_runD {m : Nat} {ds : List PyData} : runD m g1 ds = (match g1 (ds.map (fun d => some (.val d)) ++ List.replicate (m - ds.length) none) with | .nx _ => .ok (.val .none) | .rt o => .ok o | .ex x _ => .ex x | _ => .bad) := id rfl
end
section
variable {C : Int → Int → Bool} {g : Int → Int → Int} {h : Int → Int → Bool} {i j : Int} {k : PyData → R O} {k2 : PyData → PyData → R O} {d e : PyData} {ds es : List PyData}
@[simp] theorem ev_opInt : opInt C g (.int i) (.int j) = if C i j = true then .ok (.val (.int (g i j))) else .bad := id rfl
@[simp] theorem ev_opInt0 : opInt0 g (.int i) (.int j) = .ok (.val (.int (g i j))) := id rfl
@[simp] theorem ev_opIB : opIB h (.int i) (.int j) = .ok (h i j) := id rfl
@[simp] theorem ev_addI : opAdd (.int i) (.int j) = .ok (.val (.int (i + j))) := id rfl
@[simp] theorem ev_addL : opAdd (.list ds) (.list es) = if ds.length + es.length ≤ sizeLine then .ok (.own (ds ++ es)) else .bad := id rfl
@[simp] theorem ev_addT : opAdd (.tuple ds) (.tuple es) = if ds.length + es.length ≤ sizeLine then .ok (.val (.tuple (ds ++ es))) else .bad := id rfl
@[simp] theorem ev_ixL : opIx (.list ds) (.int i) = (match atI ds i with | some x => .ok x | none => .bad) := id rfl
@[simp] theorem ev_ixT : opIx (.tuple ds) (.int i) = (match atI ds i with | some x => .ok x | none => .bad) := id rfl
@[simp] theorem ev_cutL {lo hi : Option Int} : opCut (.list ds) lo hi = .ok (.own (cutD ds lo hi)) := id rfl
@[simp] theorem ev_cutT {lo hi : Option Int} : opCut (.tuple ds) lo hi = .ok (.val (.tuple (cutD ds lo hi))) := id rfl
@[simp] theorem ev_lenL : biLen [.list ds] = .ok (.val (.int ds.length)) := id rfl
@[simp] theorem ev_lenT : biLen [.tuple ds] = .ok (.val (.int ds.length)) := id rfl
@[simp] theorem ev_bi1 : bi1 k [d] = k d := id rfl
@[simp] theorem ev_bi2 : bi2 k2 [d, e] = k2 d e := id rfl
@[simp] theorem ev_abs : biAbs (.int i) = .ok (.val (.int (if i < 0 then -i else i))) := id rfl
@[simp] theorem ev_intI : biInt (.int i) = .ok (.val (.int i)) := id rfl
@[simp] theorem ev_intB {b : Bool} : biInt (.bool b) = .ok (.val (.int (if b then 1 else 0))) := id rfl
@[simp] theorem ev_max : biMax (.int i) (.int j) = .ok (.val (.int (if j > i then j else i))) := id rfl
@[simp] theorem ev_min : biMin (.int i) (.int j) = .ok (.val (.int (if j < i then j else i))) := id rfl
@[simp] theorem ev_sum {ns : List Int} : biSum (.list (ns.map .int)) = .ok (.val (.int ns.sum)) := by simp [biSum]
@[simp] theorem ev_any {ns : List Bool} : biAny (.list (ns.map .bool)) = .ok (.val (.bool (ns.any id))) := by simp [biAny]
@[simp] theorem ev_all {ns : List Bool} : biAll (.list (ns.map .bool)) = .ok (.val (.bool (ns.all id))) := by simp [biAll]
@[simp] theorem ev_listL : biList (.list ds) = .ok (.own ds) := id rfl
@[simp] theorem ev_listT : biList (.tuple ds) = .ok (.own ds) := id rfl
@[simp] theorem ev_tupL : biTuple (.list ds) = .ok (.val (.tuple ds)) := id rfl
@[simp] theorem ev_tupT : biTuple (.tuple ds) = .ok (.val (.tuple ds)) := id rfl
@[simp] theorem ev_asBool {b : Bool} : asBool (.bool b) = .ok b := id rfl
@[simp] theorem ev_eqI : opEq (.int i) (.int j) = .ok (decide (i = j)) := by simp [opEq]
@[simp] theorem ev_neI : opNe (.int i) (.int j) = .ok (!decide (i = j)) := by simp [opNe]
@[simp] theorem ev_eqC {c c' : List Int} : opEq (clD c) (clD c') = .ok (decide (c = c')) := by simp [opEq]
@[simp] theorem ev_neC {c c' : List Int} : opNe (clD c) (clD c') = .ok (!decide (c = c')) := by simp [opNe]
@[simp] theorem ev_seqL : seqD (.list ds) = .ok ds := id rfl
@[simp] theorem ev_seqT : seqD (.tuple ds) = .ok ds := id rfl
@[simp] theorem ev_rng1 : rng1 [.int j] = if small62 j = true then .ok (rangeL 0 1 j.toNat) else .bad := id rfl
@[simp] theorem ev_rng2 : rng2 [.int i, .int j] = if (small62 i && small62 j) = true then .ok (rangeL i 1 (j - i).toNat) else .bad := id rfl
@[simp] theorem cMod_of (hj : 0 < j) : cMod i j = true := by simp [cMod, hj]
@[simp] theorem cShr_of (hj : 0 ≤ j) : cShr i j = true := by simp [cShr, hj]
theorem cDiv_of (hj : 0 < j) (hs : j < 340282366920938463463374607431768211456) : cDiv i j = true := by
  unfold cDiv
  rw [decide_eq_true_eq]
  refine ⟨hj, ?_⟩
  have h : j.natAbs < 2 ^ 128 := by omega
  have := (Nat.log2_lt (by omega)).mpr h
  omega
theorem cMul_of {m n : Nat} (h1 : Builtin.Int.intBits i ≤ m) (h2 : Builtin.Int.intBits j ≤ n) (h3 : m + n ≤ 134217728) : cMul i j = true := by
  unfold cMul
  rw [decide_eq_true_eq]
  omega
theorem bits_of {m : Nat} (h : i.natAbs < 2 ^ m) : Builtin.Int.intBits i ≤ m := PySem.intBits_le_iff.mpr h
theorem cMul_small (h1 : -18446744073709551616 < i) (h2 : i < 18446744073709551616) (h3 : -18446744073709551616 < j) (h4 : j < 18446744073709551616) : cMul i j = true :=
  cMul_of (m := 64) (n := 64) (bits_of (by omega)) (bits_of (by omega)) (by omega)
end

/-! ### loops by a state -/
/-- one turn -/
def stepS (set : PyData → DEnv → Option DEnv) (g : DEnv → SO) (d : PyData) (δ : DEnv) : SO := match set d δ with
  | none => .bad
  | some δ1 => (match g δ1 with
    | .ct δ2 => .nx δ2
    | o => o)
theorem loopS_encR {α : Type} {set : PyData → DEnv → Option DEnv} {g : DEnv → SO} {ds : List PyData} {a0 : α} (enc : α → DEnv) (P : Nat → α → Prop) (R : O → Prop)
    (hs : ∀ k d a, ds[k]? = some d → P k a → (∃ a', stepS set g d (enc a) = .nx (enc a') ∧ P (k + 1) a') ∨ ∃ o, stepS set g d (enc a) = .rt o ∧ R o) (h0 : P 0 a0) :
    (∃ a', loopS set g ds (enc a0) = .nx (enc a') ∧ P ds.length a') ∨ ∃ o, loopS set g ds (enc a0) = .rt o ∧ R o := by
  refine loopS_out (fun k δ => ∃ a, δ = enc a ∧ P k a) (fun r => (∃ a', r = .nx (enc a') ∧ P ds.length a') ∨ ∃ o, r = .rt o ∧ R o) ds 0 (enc a0) (fun k d δ hk ⟨a, e, hp⟩ => ?_) (fun δ ⟨a, e, hp⟩ => ?_) ⟨a0, rfl, h0⟩
  · subst e
    rw [Nat.zero_add] at hp ⊢
    have key := hs k d a hk hp
    unfold stepS at key
    cases hset : set d (enc a) with
    | none =>
      rw [hset] at key
      rcases key with ⟨_, h, _⟩ | ⟨_, h, _⟩ <;> cases h
    | some δ1 =>
      rw [hset] at key
      refine ⟨δ1, rfl, ?_⟩
      simp only at key
      cases hg : g δ1 with
      | nx δ2 =>
        rw [hg] at key
        rcases key with ⟨a', h, hp'⟩ | ⟨_, h, _⟩
        · cases h; exact ⟨a', rfl, hp'⟩
        · cases h
      | ct δ2 =>
        rw [hg] at key
        rcases key with ⟨a', h, hp'⟩ | ⟨_, h, _⟩
        · cases h; exact ⟨a', rfl, hp'⟩
        · cases h
      | rt o =>
        rw [hg] at key
        rcases key with ⟨_, h, _⟩ | ⟨o', h, hr⟩
        · cases h
        · cases h; exact .inr ⟨_, rfl, hr⟩
      | bk δ2 => rw [hg] at key; rcases key with ⟨_, h, _⟩ | ⟨_, h, _⟩ <;> cases h
      | ex x δ2 => rw [hg] at key; rcases key with ⟨_, h, _⟩ | ⟨_, h, _⟩ <;> cases h
      | bad => rw [hg] at key; rcases key with ⟨_, h, _⟩ | ⟨_, h, _⟩ <;> cases h
  · rw [Nat.zero_add] at hp
    exact .inl ⟨a, by rw [e], hp⟩
theorem loopS_enc {α : Type} {set : PyData → DEnv → Option DEnv} {g : DEnv → SO} {ds : List PyData} {a0 : α} (enc : α → DEnv) (P : Nat → α → Prop)
    (hs : ∀ k d a, ds[k]? = some d → P k a → ∃ a', stepS set g d (enc a) = .nx (enc a') ∧ P (k + 1) a') (h0 : P 0 a0) : ∃ a', loopS set g ds (enc a0) = .nx (enc a') ∧ P ds.length a' := by
  rcases loopS_encR (set := set) (g := g) (ds := ds) enc P (fun _ => False) (fun k d a hk hp => .inl (hs k d a hk hp)) h0 with h | ⟨_, _, h⟩
  · exact h
  · exact h.elim
@[simp] theorem ap_stepS {set : PyData → DEnv → Option DEnv} {g : DEnv → SO} {d : PyData} {δ : DEnv} : stepS set g d δ = (match set d δ with | none => .bad | some δ1 => (match g δ1 with | .ct δ2 => .nx δ2 | o => o)) := id rfl
end DL
set_option Elab.async false
set_option linter.all false
set_option maxRecDepth 100000
set_option maxHeartbeats 4000000
set_option autoImplicit false
namespace LC
open PySem PySem.Spec L2 DL
open PyProof.Rows hiding St
def b_literal_key : DEnv → SO :=
    (seqS (dIfS (dCmp opLt (dVar 0) (dC (.int 0))) (dRet (dBin opSub (dC (.int 1)) (dV (dBin opMul (dC (.int 2)) (dVar 0))))) dNx)
    (dRet (dBin opMul (dC (.int 2)) (dVar 0))))
def f_literal_key : List PyData → R O := runD 1 b_literal_key
def b_clause_key : DEnv → SO :=
    (dRet (dO (dTup (dCons (dV (dApp biLen (dCons (dVar 0) dNil))) (dCons (dV (dApp (bi1 biTuple) (dCons (dV (dComp 1 (dSeqI (dVar 0)) dYes (dV (dApp f_literal_key (dCons (dVar 1) dNil))))) dNil))) dNil)))))
def f_clause_key : List PyData → R O := runD 2 b_clause_key
def f_ordered_clauses : List PyData → R O := runD 3 (dOC (fun d => f_clause_key [d]))

def b_law_number : DEnv → SO :=
    (seqS (dSet 2 [0, 1] (dBin opAdd (dV (dBin opMul (dV (dApp (bi1 biSum) (dCons (dVar 0) dNil))) (dC (.int 31)))) (dV (dBin opMul (dC (.int 1000003)) (dV (dBin opAdd (dVar 1) (dC (.int 1))))))))
    (seqS (dIfS (dCmp opLt (dVar 1) (dV (dApp biLen (dCons (dVar 0) dNil)))) (dSet 2 [0, 1] (dO (dIx (dVar 0) (dVar 1)))) dNx)
    (dRet (dApp (bi1 biAbs) (dCons (dVar 2) dNil)))))
def f_law_number : List PyData → R O := runD 3 b_law_number
def b_law_draws : DEnv → SO :=
    (seqS (dSet 4 [0, 1] (dApp f_law_number (dCons (dVar 0) (dCons (dVar 1) dNil))))
    (seqS (dSet 5 [] (dLst dNil))
    (seqS (dIfS (dCmp opGe (dVar 4) (dV (dBin opPow (dC (.int 10)) (dC (.int 18))))) (seqS (dSet 4 [4] (dBin opSub (dVar 4) (dV (dBin opPow (dC (.int 10)) (dC (.int 18))))))
    (seqS (dForR (dRngI rng1 (dCons (dVar 2) dNil)) (sName 6) (seqS (dAppend 5 [3, 4] (dBin opMod (dVar 4) (dVar 3)))
    (dSet 4 [3, 4] (dBin opDiv (dVar 4) (dVar 3)))))
    (dRetV 5))) dNx)
    (seqS (dSet 7 [4] (dBin opAdd (dV (dBin opMod (dVar 4) (dC (.int 2147483647)))) (dC (.int 1))))
    (seqS (dForR (dRngI rng1 (dCons (dVar 2) dNil)) (sName 6) (seqS (dSet 7 [6, 7] (dBin opMod (dV (dBin opAdd (dV (dBin opAdd (dV (dBin opMul (dVar 7) (dC (.int 48271)))) (dV (dBin opMul (dC (.int 11)) (dVar 6))))) (dC (.int 7)))) (dC (.int 2147483647))))
    (seqS (dSet 8 [6, 7] (dBin opMod (dV (dBin opAdd (dV (dBin opAdd (dV (dBin opMul (dVar 7) (dVar 7))) (dV (dBin opMul (dC (.int 69621)) (dVar 6))))) (dC (.int 5)))) (dC (.int 2147483629))))
    (dAppend 5 [3, 8] (dBin opMod (dV (dBin opDiv (dVar 8) (dC (.int 64)))) (dVar 3))))))
    (dRetV 5))))))
def f_law_draws : List PyData → R O := runD 9 b_law_draws
def b_law_place : DEnv → SO :=
    (dRet (dO (dIx (dV (dLst (dCons (dC (.int 1)) (dCons (dC (.int 3)) (dCons (dC (.int 9)) (dCons (dC (.int 27)) (dCons (dC (.int 81)) (dCons (dC (.int 243)) (dCons (dC (.int 729)) (dCons (dC (.int 2187)) (dCons (dC (.int 6561)) dNil))))))))))) (dV (dBin opSub (dVar 0) (dC (.int 1)))))))
def f_law_place : List PyData → R O := runD 1 b_law_place
def b_law_clause : DEnv → SO :=
    (seqS (dSet 2 [] (dLst dNil))
    (seqS (dForR (dRngI rng2 (dCons (dC (.int 1)) (dCons (dV (dBin opAdd (dVar 0) (dC (.int 1)))) dNil))) (sName 3) (seqS (dSet 4 [1, 3] (dBin opMod (dV (dBin opDiv (dVar 1) (dV (dApp f_law_place (dCons (dVar 3) dNil))))) (dC (.int 3))))
    (seqS (dIfS (dCmp opEq (dVar 4) (dC (.int 1))) (dAppend 2 [3] (dBin opSub (dC (.int 0)) (dVar 3))) dNx)
    (dIfS (dCmp opEq (dVar 4) (dC (.int 2))) (dAppend 2 [3] (dO (dVar 3))) dNx))))
    (dRet (dApp (bi1 biTuple) (dCons (dVar 2) dNil)))))
def f_law_clause : List PyData → R O := runD 5 b_law_clause
def b_law_key : DEnv → SO :=
    (dRet (dO (dTup (dCons (dV (dApp biLen (dCons (dVar 0) dNil))) (dCons (dV (dComp 1 (dSeqI (dVar 0)) dYes (dV (dBin opAdd (dV (dBin opMul (dC (.int 2)) (dV (dApp (bi1 biAbs) (dCons (dVar 1) dNil))))) (dV (dApp (bi1 biInt) (dCons (dBl (dCmp opLt (dVar 1) (dC (.int 0)))) dNil))))))) dNil)))))
def f_law_key : List PyData → R O := runD 2 b_law_key
def b_law_formula : DEnv → SO :=
    (seqS (dSet 2 [] (dLst dNil))
    (seqS (dFor [1] (dSortedK (fun d => f_law_key [d]) (dVar 1)) (sName 3) (dIfS (dOr (dCmp opEq (dV (dApp biLen (dCons (dVar 2) dNil))) (dC (.int 0))) (dCmp opNe (dIx (dVar 2) (dV (dBin opSub (dV (dApp biLen (dCons (dVar 2) dNil))) (dC (.int 1))))) (dVar 3))) (dAppend 2 [3] (dO (dVar 3))) dNx))
    (dRet (dO (dTup (dCons (dVar 0) (dCons (dV (dApp (bi1 biTuple) (dCons (dVar 2) dNil))) dNil)))))))
def f_law_formula : List PyData → R O := runD 4 b_law_formula
def b_law_random : DEnv → SO :=
    (seqS (dSet 4 [0, 1, 2, 3] (dApp f_law_draws (dCons (dVar 0) (dCons (dVar 1) (dCons (dV (dBin opAdd (dVar 3) (dC (.int 1)))) (dCons (dV (dApp f_law_place (dCons (dV (dBin opAdd (dVar 2) (dC (.int 1)))) dNil))) dNil))))))
    (seqS (dSet 5 [] (dLst dNil))
    (seqS (dFor [4] (dCut (dVar 4) (dPart (dC (.int 1))) dNoPart) (sName 6) (dIfS (dOr (dCmp opGt (dVar 6) (dC (.int 0))) (dOr (dCmp opEq (dVar 2) (dC (.int 0))) (dCmp opEq (dV (dBin opMod (dIx (dVar 4) (dC (.int 0))) (dC (.int 5)))) (dC (.int 0))))) (dAppend 5 [2, 6] (dApp f_law_clause (dCons (dVar 2) (dCons (dVar 6) dNil)))) dNx))
    (dRet (dApp f_law_formula (dCons (dVar 2) (dCons (dVar 5) dNil)))))))
def f_law_random : List PyData → R O := runD 7 b_law_random
def b_law_same (rec : List PyData → R O) : DEnv → SO :=
    (seqS (dIfS (dOr (dIsTrue (dIsi "bool" (dVar 1))) (dIsTrue (dIsi "bool" (dVar 0)))) (dRet (dO (dAndV (dIsTrue (dIsi "bool" (dVar 1))) (dAndV (dIsTrue (dIsi "bool" (dVar 0))) (dBl (dCmp opEq (dVar 0) (dVar 1))))))) dNx)
    (seqS (dIfS (dOr (dCmp opIs (dVar 1) (dC .none)) (dIsTrue (dIsi "int" (dVar 1)))) (dRet (dO (dAndV (dIsTrue (dBl (dCmp opEq (dVar 0) (dVar 1)))) (dOrV (dIsTrue (dBl (dCmp opIs (dVar 1) (dC .none)))) (dIsi "int" (dVar 0)))))) dNx)
    (seqS (dIfS (dIsTrue (dIsi "str" (dVar 1))) (dRet (dO (dAndV (dIsTrue (dIsi "str" (dVar 0))) (dBl (dCmp opEq (dVar 0) (dVar 1)))))) dNx)
    (seqS (dIfS (dOr (dCmp opNe (dIsi "list" (dVar 1)) (dIsi "list" (dVar 0))) (dCmp opNe (dIsi "tuple" (dVar 1)) (dIsi "tuple" (dVar 0)))) (dRet (dO (dC (.bool false)))) dNx)
    (seqS (dIfS (dCmp opNe (dV (dApp biLen (dCons (dVar 0) dNil))) (dV (dApp biLen (dCons (dVar 1) dNil)))) (dRet (dO (dC (.bool false)))) dNx)
    (seqS (dForR (dRngI rng1 (dCons (dV (dApp biLen (dCons (dVar 1) dNil))) dNil)) (sName 2) (dIfS (dNotB (dIsTrue (dV (dApp rec (dCons (dIx (dVar 0) (dVar 2)) (dCons (dIx (dVar 1) (dVar 2)) dNil)))))) (dRet (dO (dC (.bool false)))) dNx))
    (dRet (dO (dC (.bool true))))))))))
def f_law_same_ : Nat → List PyData → R O
  | 0 => fun _ => .bad
  | k + 1 => runD 3 (b_law_same (f_law_same_ k))
abbrev f_law_same : List PyData → R O := f_law_same_ 8
def b_law_sameP : DEnv → SO :=
    (seqS (dIfS (dOr (dIsTrue (dIsi "bool" (dVar 1))) (dIsTrue (dIsi "bool" (dVar 0)))) (dRet (dO (dAndV (dIsTrue (dIsi "bool" (dVar 1))) (dAndV (dIsTrue (dIsi "bool" (dVar 0))) (dBl (dCmp opEq (dVar 0) (dVar 1))))))) dNx)
    (seqS (dIfS (dOr (dCmp opIs (dVar 1) (dC .none)) (dIsTrue (dIsi "int" (dVar 1)))) (dRet (dO (dAndV (dIsTrue (dBl (dCmp opEq (dVar 0) (dVar 1)))) (dOrV (dIsTrue (dBl (dCmp opIs (dVar 1) (dC .none)))) (dIsi "int" (dVar 0)))))) dNx)
    (seqS (dIfS (dIsTrue (dIsi "str" (dVar 1))) (dRet (dO (dAndV (dIsTrue (dIsi "str" (dVar 0))) (dBl (dCmp opEq (dVar 0) (dVar 1)))))) dNx)
    dBad)))
def f_law_sameP : List PyData → R O := runD 3 b_law_sameP
end LC
set_option Elab.async false
set_option linter.all false
set_option maxRecDepth 100000
set_option maxHeartbeats 4000000
set_option autoImplicit false
/-! LCM: what the shared defs compute. -/
namespace LC
open PySem PySem.Spec L2 DL
open PyProof.Rows hiding St
/-! ### numbers of the script -/
def numAt (ns : List Int) (k : Nat) : Int := if h : k < ns.length then (if ns[k] < 0 then -ns[k] else ns[k]) else (if ns.sum * 31 + 1000003 * (k + 1) < 0 then -(ns.sum * 31 + 1000003 * (k + 1)) else ns.sum * 31 + 1000003 * (k + 1))
theorem number_eq {ns : List Int} {k : Nat} (hs : Builtin.Int.intBits ns.sum ≤ 2000000) (hk : k < 1000) : f_law_number [.list (ns.map .int), .int k] = .ok (.val (.int (numAt ns k))) := by
  have h1 : cMul ns.sum 31 = true := cMul_of hs (bits_of (m := 5) (by decide)) (by omega)
  have h2 : cMul 1000003 ((k : Int) + 1) = true := cMul_small (by omega) (by omega) (by omega) (by omega)
  unfold f_law_number b_law_number numAt
  by_cases hlt : k < ns.length
  · have h3 : atI (ns.map PyData.int) (k : Int) = some (.int ns[k]) := L2.atI_nat (by rw [List.getElem?_map, List.getElem?_eq_getElem hlt]; rfl)
    simp [h1, h2, hlt, h3]
  · simp [h1, h2, hlt]

def Within (many : Int) (ds : List Int) : Prop := ∀ d ∈ ds, 0 ≤ d ∧ d < many
theorem within_snoc {many d : Int} {ds : List Int} (h : Within many ds) (h1 : 0 ≤ d) (h2 : d < many) : Within many (ds ++ [d]) := fun e he => by
  rcases List.mem_append.mp he with he | he
  · exact h e he
  · rw [List.mem_singleton.mp he]; exact ⟨h1, h2⟩
theorem sz : sizeLine = 16777216 := by decide
/-- one turn of the second loop, its numbers open -/
def drawB (c1 c2 c3 c4 c5 c6 c7 c8 : Int) : DEnv → SO :=
  (seqS (dSet 7 [6, 7] (dBin opMod (dV (dBin opAdd (dV (dBin opAdd (dV (dBin opMul (dVar 7) (dC (.int c1)))) (dV (dBin opMul (dC (.int c2)) (dVar 6))))) (dC (.int c3)))) (dC (.int c4))))
    (seqS (dSet 8 [6, 7] (dBin opMod (dV (dBin opAdd (dV (dBin opAdd (dV (dBin opMul (dVar 7) (dVar 7))) (dV (dBin opMul (dC (.int c5)) (dVar 6))))) (dC (.int c6)))) (dC (.int c7))))
    (dAppend 5 [3, 8] (dBin opMod (dV (dBin opDiv (dVar 8) (dC (.int c8)))) (dVar 3)))))
theorem drawB_turn {c1 c2 c3 c4 c5 c6 c7 c8 : Int} {o0 o1 o2 o4 : Option O} {many m t u v : Int} {l : List Int} {x y : Option O}
    (h1 : cMul m c1 = true) (h2 : cMul c2 t = true) (h4 : cMod (m * c1 + c2 * t + c3) c4 = true) (hu : (m * c1 + c2 * t + c3) % c4 = u)
    (h5 : cMul u u = true) (h6 : cMul c5 t = true) (h7 : cMod (u * u + c5 * t + c6) c7 = true) (hv : (u * u + c5 * t + c6) % c7 = v)
    (h8 : cDiv v c8 = true) (h9 : cMod (v / c8) many = true) (hl : l.length < sizeLine) :
    stepS (sName 6) (drawB c1 c2 c3 c4 c5 c6 c7 c8) (.int t) [o0, o1, o2, some (.val (.int many)), o4, some (.own (l.map .int)), x, some (.val (.int m)), y]
      = .nx [o0, o1, o2, some (.val (.int many)), o4, some (.own ((l ++ [v / c8 % many]).map .int)), some (.val (.int t)), some (.val (.int u)), some (.val (.int v))] := by
  unfold drawB
  simp [h1, h2, h4, hu, h5, h6, h7, hv, h8, h9, hl]
theorem draws_eq {ns : List Int} {k count : Nat} {many : Int} (hs : Builtin.Int.intBits ns.sum ≤ 2000000) (hk : k < 1000) (hc : count ≤ 1000000) (h1 : 0 < many) (h2 : many < 340282366920938463463374607431768211456) :
    ∃ ds : List Int, f_law_draws [.list (ns.map .int), .int k, .int count, .int many] = .ok (.own (ds.map .int)) ∧ ds.length = count ∧ Within many ds := by
  have hsm : small62 (count : Int) = true := small62_of (by omega) (by omega)
  have hp : cPow 10 18 = true := by decide
  have hdv : ∀ i, cDiv i many = true := fun i => cDiv_of h1 h2
  have hd64 : ∀ i, cDiv i 64 = true := fun i => cDiv_of (by omega) (by omega)
  have sz := sz
  unfold f_law_draws b_law_draws
  by_cases hn : 1000000000000000000 ≤ numAt ns k
  · simp [number_eq hs hk, hp, hsm, hn]
    generalize hL : loopS _ _ _ _ = r
    have key : ∃ a : Int × List Int × Option O, r = .nx [some (.val (.list (ns.map .int))), some (.val (.int k)), some (.val (.int count)), some (.val (.int many)), some (.val (.int a.1)), some (.own (a.2.1.map .int)), a.2.2, none, none] ∧ (a.2.1.length = (rangeL 0 1 count).length ∧ Within many a.2.1) := by
      rw [← hL]
      refine loopS_enc (a0 := (numAt ns k - 1000000000000000000, [], none)) (fun a : Int × List Int × Option O => [some (.val (.list (ns.map .int))), some (.val (.int k)), some (.val (.int count)), some (.val (.int many)), some (.val (.int a.1)), some (.own (a.2.1.map .int)), a.2.2, none, none])
        (fun j a => a.2.1.length = j ∧ Within many a.2.1) (fun j d a hd ⟨hl, hw⟩ => ?_) ⟨rfl, fun d hd => by cases hd⟩
      obtain ⟨hj, rfl⟩ := rangeL_get hd
      have hlt : a.2.1.length < sizeLine := by omega
      refine ⟨(a.1 / many, a.2.1 ++ [a.1 % many], some (.val (.int (0 + (j : Int) * 1)))), ?_, by simp [hl], within_snoc hw (Int.emod_nonneg _ (by omega)) (Int.emod_lt_of_pos _ h1)⟩
      simp [hlt, h1, hdv]
    obtain ⟨⟨n, ds, x⟩, rfl, hl, hw⟩ := key
    refine ⟨ds, by simp, by simpa using hl, hw⟩
  · simp [number_eq hs hk, hp, hsm, hn]
    generalize hL : loopS _ _ _ _ = r
    have key : ∃ a : Int × List Int × Option O × Option O, r = .nx [some (.val (.list (ns.map .int))), some (.val (.int k)), some (.val (.int count)), some (.val (.int many)), some (.val (.int (numAt ns k))), some (.own (a.2.1.map .int)), a.2.2.1, some (.val (.int a.1)), a.2.2.2] ∧ (a.2.1.length = (rangeL 0 1 count).length ∧ Within many a.2.1 ∧ 0 ≤ a.1 ∧ a.1 ≤ 2147483647) := by
      rw [← hL]
      refine loopS_enc (a0 := (numAt ns k % 2147483647 + 1, [], none, none)) (fun a : Int × List Int × Option O × Option O => [some (.val (.list (ns.map .int))), some (.val (.int k)), some (.val (.int count)), some (.val (.int many)), some (.val (.int (numAt ns k))), some (.own (a.2.1.map .int)), a.2.2.1, some (.val (.int a.1)), a.2.2.2])
        (fun j a => a.2.1.length = j ∧ Within many a.2.1 ∧ 0 ≤ a.1 ∧ a.1 ≤ 2147483647) (fun j d a hd ⟨hl, hw, m0, m1⟩ => ?_) ⟨rfl, (fun d hd => by cases hd), by omega, by omega⟩
      obtain ⟨hj, rfl⟩ := rangeL_get hd
      have hlt : a.2.1.length < sizeLine := by omega
      obtain ⟨m, l, x, y⟩ := a
      simp only at hl hw m0 m1 hlt
      have hj' : j < 1000000 := by omega
      obtain ⟨t, ht⟩ : ∃ t : Int, 0 + (j : Int) * 1 = t := ⟨_, rfl⟩
      rw [ht]
      have t0 : 0 ≤ t := by omega
      have t1 : t < 1000000 := by omega
      obtain ⟨u, hu⟩ : ∃ u : Int, (m * 48271 + 11 * t + 7) % 2147483647 = u := ⟨_, rfl⟩
      have hu0 : 0 ≤ u := hu ▸ Int.emod_nonneg _ (by omega)
      have hu1 : u < 2147483647 := hu ▸ Int.emod_lt_of_pos _ (by omega)
      obtain ⟨v, hv⟩ : ∃ v : Int, (u * u + 69621 * t + 5) % 2147483629 = v := ⟨_, rfl⟩
      have turn := drawB_turn (o0 := some (.val (.list (ns.map .int)))) (o1 := some (.val (.int k))) (o2 := some (.val (.int count))) (o4 := some (.val (.int (numAt ns k)))) (many := many) (m := m) (t := t) (l := l) (x := x) (y := y)
          (cMul_small (j := 48271) (by omega) (by omega) (by omega) (by omega)) (cMul_small (i := 11) (by omega) (by omega) (by omega) (by omega)) (c3 := 7) (cMod_of (j := 2147483647) (by omega)) hu
          (cMul_small (by omega) (by omega) (by omega) (by omega)) (cMul_small (i := 69621) (by omega) (by omega) (by omega) (by omega)) (c6 := 5) (cMod_of (j := 2147483629) (by omega)) hv (cDiv_of (j := 64) (by omega) (by omega)) (cMod_of h1) hlt
      exact ⟨(u, l ++ [v / 64 % many], some (.val (.int t)), some (.val (.int v))), turn,
        by simp [hl], within_snoc hw (Int.emod_nonneg _ (by omega)) (Int.emod_lt_of_pos _ h1), hu0, Int.le_of_lt hu1⟩
    obtain ⟨⟨n, ds, x, y⟩, rfl, hl, hw, _⟩ := key
    refine ⟨ds, by simp, by simpa using hl, hw⟩
end LC
set_option Elab.async false
set_option linter.all false
set_option maxRecDepth 100000
set_option maxHeartbeats 4000000
set_option autoImplicit false
/-! LCN: what the shared defs compute, on. -/
namespace LC
open PySem PySem.Spec L2 DL
open PyProof.Rows hiding St
/-! ### the same -/
def tt : R O := .ok (.val (.bool true))
theorem same_int (k : Nat) (i : Int) : f_law_same_ (k + 1) [.int i, .int i] = tt := by
  unfold f_law_same_ b_law_same tt
  simp [isiD, tyN, opIs]
theorem same_str (k : Nat) {x : Str} (hx : PyData.strOk x = true) : f_law_same_ (k + 1) [.str x, .str x] = tt := by
  unfold f_law_same_ b_law_same tt
  have h : SeqAt.shaped (.str x) = true := by unfold SeqAt.shaped; simp [PyData.canLay0, PyData.depth, hx]
  simp [isiD, tyN, opIs, opEq, h]
theorem same_bool (k : Nat) (b : Bool) : f_law_same_ (k + 1) [.bool b, .bool b] = tt := by
  unfold f_law_same_ b_law_same tt
  simp [isiD, tyN, opIs, opEq, PyData.eqv]
theorem same_none (k : Nat) : f_law_same_ (k + 1) [.none, .none] = tt := by
  unfold f_law_same_ b_law_same tt
  simp [isiD, tyN, opIs, opEq, PyData.eqv]
theorem same_tuple {k : Nat} {ds : List PyData} (hl : ds.length ≤ sizeLine) (h : ∀ d ∈ ds, f_law_same_ k [d, d] = tt) : f_law_same_ (k + 1) [.tuple ds, .tuple ds] = tt := by
  have hsm : small62 (ds.length : Int) = true := by rw [sz] at hl; exact small62_of (by omega) (by omega)
  unfold f_law_same_ b_law_same
  simp [isiD, tyN, opIs, opEq, opNe, PyData.eqv, hsm]
  generalize hL : loopS _ _ _ _ = r
  have key : ∃ a : Option O, r = .nx [some (.val (.tuple ds)), some (.val (.tuple ds)), a] ∧ True := by
    rw [← hL]
    refine loopS_enc (a0 := none) (fun a : Option O => [some (.val (.tuple ds)), some (.val (.tuple ds)), a]) (fun _ _ => True) (fun j d a hd _ => ?_) trivial
    obtain ⟨hj, rfl⟩ := rangeL_get hd
    have hat : atI ds (j : Int) = some ds[j] := L2.atI_nat (List.getElem?_eq_getElem hj)
    have hr := h ds[j] (List.getElem_mem hj)
    unfold tt at hr
    refine ⟨some (.val (.int j)), ?_, trivial⟩
    simp [hat, hr]
  obtain ⟨a, rfl, -⟩ := key
  rfl
theorem same_list {k : Nat} {ds : List PyData} (hl : ds.length ≤ sizeLine) (h : ∀ d ∈ ds, f_law_same_ k [d, d] = tt) : f_law_same_ (k + 1) [.list ds, .list ds] = tt := by
  have hsm : small62 (ds.length : Int) = true := by rw [sz] at hl; exact small62_of (by omega) (by omega)
  unfold f_law_same_ b_law_same
  simp [isiD, tyN, opIs, opEq, opNe, PyData.eqv, hsm]
  generalize hL : loopS _ _ _ _ = r
  have key : ∃ a : Option O, r = .nx [some (.val (.list ds)), some (.val (.list ds)), a] ∧ True := by
    rw [← hL]
    refine loopS_enc (a0 := none) (fun a : Option O => [some (.val (.list ds)), some (.val (.list ds)), a]) (fun _ _ => True) (fun j d a hd _ => ?_) trivial
    obtain ⟨hj, rfl⟩ := rangeL_get hd
    have hat : atI ds (j : Int) = some ds[j] := L2.atI_nat (List.getElem?_eq_getElem hj)
    have hr := h ds[j] (List.getElem_mem hj)
    unfold tt at hr
    refine ⟨some (.val (.int j)), ?_, trivial⟩
    simp [hat, hr]
  obtain ⟨a, rfl, -⟩ := key
  rfl
theorem same_clD {k : Nat} {c : List Int} (hl : c.length ≤ sizeLine) : f_law_same_ (k + 2) [clD c, clD c] = tt :=
  same_tuple (by simpa using hl) fun d hd => by
    obtain ⟨i, _, rfl⟩ := List.mem_map.mp hd
    exact same_int k i
/-- a formula as data -/
def frm (n : Int) (cs : List (List Int)) : PyData := .tuple [.int n, .tuple (cs.map clD)]
theorem same_frm {k : Nat} {n : Int} {cs : List (List Int)} (hl : cs.length ≤ sizeLine) (h : ∀ c ∈ cs, c.length ≤ sizeLine) : f_law_same_ (k + 4) [frm n cs, frm n cs] = tt :=
  same_tuple (by simp [sz]) fun d hd => by
    simp only [List.mem_cons, List.mem_nil_iff, or_false] at hd
    rcases hd with rfl | rfl
    · exact same_int _ _
    · refine same_tuple (by simpa using hl) fun d hd => ?_
      obtain ⟨c, hc, rfl⟩ := List.mem_map.mp hd
      exact same_clD (h c hc)
theorem sameP_int (i : Int) : f_law_sameP [.int i, .int i] = tt := by
  unfold f_law_sameP b_law_sameP tt
  simp [isiD, tyN, opIs]
/-! ### places and clauses by number -/
theorem place_eq {v : Nat} (h1 : 1 ≤ v) (h2 : v ≤ 9) : f_law_place [.int v] = .ok (.val (.int (3 ^ (v - 1) : Nat))) := by
  have : v = 1 ∨ v = 2 ∨ v = 3 ∨ v = 4 ∨ v = 5 ∨ v = 6 ∨ v = 7 ∨ v = 8 ∨ v = 9 := by omega
  rcases this with rfl | rfl | rfl | rfl | rfl | rfl | rfl | rfl | rfl <;> exact id rfl
def litOf (code v : Nat) : List Int := if code / 3 ^ (v - 1) % 3 = 1 then [-(v : Int)] else if code / 3 ^ (v - 1) % 3 = 2 then [(v : Int)] else []
def clauseOf (n code : Nat) : List Int := (List.range n).flatMap fun i => litOf code (i + 1)
theorem clauseOf_succ (n code : Nat) : clauseOf (n + 1) code = clauseOf n code ++ litOf code (n + 1) := by
  unfold clauseOf
  rw [List.range_succ, List.flatMap_append]
  simp
theorem litOf_len (code v : Nat) : (litOf code v).length ≤ 1 := by
  unfold litOf
  split
  · exact Nat.le_refl 1
  · split
    · exact Nat.le_refl 1
    · exact Nat.zero_le _
theorem clauseOf_len (n code : Nat) : (clauseOf n code).length ≤ n := by
  induction n with
  | zero => exact Nat.le_refl _
  | succ n ih =>
    rw [clauseOf_succ, List.length_append]
    have := litOf_len code (n + 1)
    omega
theorem clauseOf_abs {n code : Nat} {x : Int} (h : x ∈ clauseOf n code) : 1 ≤ x.natAbs ∧ x.natAbs ≤ n := by
  unfold clauseOf at h
  obtain ⟨i, hi, hx⟩ := List.mem_flatMap.mp h
  have := List.mem_range.mp hi
  unfold litOf at hx
  split at hx
  · rw [List.mem_singleton.mp hx]; omega
  · split at hx
    · rw [List.mem_singleton.mp hx]; omega
    · cases hx
def clauseB : DEnv → SO := (seqS (dSet 4 [1, 3] (dBin opMod (dV (dBin opDiv (dVar 1) (dV (dApp f_law_place (dCons (dVar 3) dNil))))) (dC (.int 3))))
    (seqS (dIfS (dCmp opEq (dVar 4) (dC (.int 1))) (dAppend 2 [3] (dBin opSub (dC (.int 0)) (dVar 3))) dNx)
    (dIfS (dCmp opEq (dVar 4) (dC (.int 2))) (dAppend 2 [3] (dO (dVar 3))) dNx)))
theorem clause_turn {o0 x y : Option O} {code t q w : Int} {l : List Int} (hp : f_law_place [.int t] = .ok (.val (.int q))) (hd : cDiv code q = true) (hw : code / q % 3 = w) (hl : l.length < sizeLine) :
    stepS (sName 3) clauseB (.int t) [o0, some (.val (.int code)), some (.own (l.map .int)), x, y] = .nx [o0, some (.val (.int code)), some (.own ((l ++ (if w = 1 then [-t] else if w = 2 then [t] else [])).map .int)), some (.val (.int t)), some (.val (.int w))] := by
  unfold clauseB
  by_cases h1 : w = 1
  · subst h1; simp [hp, hd, hw, hl]
  · by_cases h2 : w = 2
    · subst h2; simp [hp, hd, hw, hl]
    · simp [hp, hd, hw, hl, h1, h2]
theorem clause_eq {n code : Nat} (hn : n ≤ 9) : f_law_clause [.int n, .int code] = .ok (.val (clD (clauseOf n code))) := by
  have s1 : small62 ((n : Int) + 1) = true := small62_of (by omega) (by omega)
  have s2 : small62 1 = true := by decide
  have e : ((n : Int) + 1 - 1).toNat = n := by omega
  unfold f_law_clause b_law_clause
  simp [s1, s2, e]
  generalize hL : loopS _ _ _ _ = r
  have key : ∃ a : List Int × Option O × Option O, r = .nx [some (.val (.int n)), some (.val (.int code)), some (.own (a.1.map .int)), a.2.1, a.2.2] ∧ a.1 = clauseOf (rangeL 1 1 n).length code := by
    rw [← hL]
    refine loopS_enc (a0 := ([], none, none)) (fun a : List Int × Option O × Option O => [some (.val (.int n)), some (.val (.int code)), some (.own (a.1.map .int)), a.2.1, a.2.2]) (fun j a => a.1 = clauseOf j code) (fun j d a hd hP => ?_) rfl
    obtain ⟨hj, rfl⟩ := rangeL_get hd
    obtain ⟨l, x, y⟩ := a
    simp only at hP
    subst hP
    have hlen := clauseOf_len j code
    have hsz : (clauseOf j code).length < sizeLine := by rw [sz]; omega
    have ev : (1 : Int) + (j : Int) * 1 = ((j + 1 : Nat) : Int) := by omega
    rw [ev]
    have hp := place_eq (v := j + 1) (by omega) (by omega)
    have hpw : 0 < 3 ^ (j + 1 - 1) := Nat.pow_pos (by omega)
    have hpw2 : 3 ^ (j + 1 - 1) ≤ 3 ^ 9 := Nat.pow_le_pow_right (by omega) (by omega)
    have hdv : cDiv (code : Int) ((3 ^ (j + 1 - 1) : Nat) : Int) = true := cDiv_of (by omega) (by omega)
    have hm : (code : Int) / ((3 ^ (j + 1 - 1) : Nat) : Int) % 3 = ((code / 3 ^ (j + 1 - 1) % 3 : Nat) : Int) := by simp
    have turn := clause_turn (o0 := some (.val (.int n))) (x := x) (y := y) hp hdv hm hsz
    refine ⟨(clauseOf (j + 1) code, some (.val (.int ((j + 1 : Nat) : Int))), some (.val (.int ((code / 3 ^ (j + 1 - 1) % 3 : Nat) : Int)))), ?_, rfl⟩
    rw [clauseOf_succ]
    unfold litOf
    have e1 : ((code / 3 ^ (j + 1 - 1) % 3 : Nat) : Int) = 1 ↔ code / 3 ^ (j + 1 - 1) % 3 = 1 := by omega
    have e2 : ((code / 3 ^ (j + 1 - 1) % 3 : Nat) : Int) = 2 ↔ code / 3 ^ (j + 1 - 1) % 3 = 2 := by omega
    simp only [e1, e2] at turn
    exact turn
  obtain ⟨⟨l, x, y⟩, rfl, hl⟩ := key
  simp only [rangeL_length] at hl
  subst hl
  simp [clD]
end LC
set_option Elab.async false
set_option linter.all false
set_option maxRecDepth 100000
set_option maxHeartbeats 4000000
set_option autoImplicit false
/-! LCO: keys, order, formulas. -/
namespace LC
open PySem PySem.Spec L2 DL
open PyProof.Rows hiding St
def litKey (x : Int) : Int := 2 * (if x < 0 then -x else x) + (if x < 0 then 1 else 0)
theorem litKey_inj {x y : Int} (h : litKey x = litKey y) : x = y := by
  unfold litKey at h
  split at h <;> split at h <;> omega
def ckL (c : List Int) : PyData := .tuple [.int c.length, .list ((c.map litKey).map .int)]
def ckT (c : List Int) : PyData := .tuple [.int c.length, .tuple ((c.map litKey).map .int)]
def Small (c : List Int) : Prop := c.length ≤ sizeLine ∧ ∀ x ∈ c, -1000000 < x ∧ x < 1000000
theorem key_eq {c : List Int} (h : Small c) : f_law_key [clD c] = .ok (.val (ckL c)) := by
  have hc : dComp 1 (dSeqI (dVar 0)) dYes (dV (dBin opAdd (dV (dBin opMul (dC (.int 2)) (dV (dApp (bi1 biAbs) (dCons (dVar 1) dNil))))) (dV (dApp (bi1 biInt) (dCons (dBl (dCmp opLt (dVar 1) (dC (.int 0)))) dNil))))) [some (.val (clD c)), none] = .ok (.own (c.map fun x => .int (litKey x))) := by
    refine dComp_map .int _ c (by simp [clD]) h.1 fun x hx => ?_
    have hx' := h.2 x hx
    have hm : cMul 2 (if x < 0 then -x else x) = true := by split <;> exact cMul_small (by omega) (by omega) (by omega) (by omega)
    have hi : (if decide (x < 0) = true then (1 : Int) else 0) = if x < 0 then 1 else 0 := by simp
    unfold litKey
    simp [hm]
  unfold f_law_key b_law_key ckL
  simp [hc]
  simp [clD]
theorem lit_eq {x : Int} (h : -1000000 < x ∧ x < 1000000) : f_literal_key [.int x] = .ok (.val (.int (litKey x))) := by
  have hm : cMul 2 x = true := cMul_small (by omega) (by omega) (by omega) (by omega)
  unfold f_literal_key b_literal_key litKey
  by_cases hx : x < 0
  · simp [hm, hx]
    omega
  · simp [hm, hx]
theorem ckey_eq {c : List Int} (h : Small c) : f_clause_key [clD c] = .ok (.val (ckT c)) := by
  have hc : dComp 1 (dSeqI (dVar 0)) dYes (dV (dApp f_literal_key (dCons (dVar 1) dNil))) [some (.val (clD c)), none] = .ok (.own (c.map fun x => .int (litKey x))) := by
    refine dComp_map .int _ c (by simp [clD]) h.1 fun x hx => ?_
    simp [lit_eq (h.2 x hx)]
  unfold f_clause_key b_clause_key ckT
  simp [hc]
  simp [clD]
/-! ### the order -/
open PySem.W in
theorem toks_ck (c : List Int) : keyToks (ckT c) = keyToks (ckL c) := by simp [ckL, ckT, keyToks, keyToksAll]
def cle : List Int → List Int → Bool := PySem.W.dataLe false ckL
theorem cle_T : PySem.W.dataLe false ckT = cle := by
  unfold cle PySem.W.dataLe
  simp only [toks_ck]
theorem cle_total : PySem.W.TotalLe cle := by
  unfold cle PySem.W.dataLe
  exact PySem.W.sortLe_total _ _ _
theorem alike_ck (a b : List Int) : PySem.W.alike (ckL a) (ckL b) = true := by simp [ckL, PySem.W.alike, PySem.W.alikeAll, PySem.W.alike_ints, -List.map_map]
theorem alike_ckT (a b : List Int) : PySem.W.alike (ckT a) (ckT b) = true := by simp [ckT, PySem.W.alike, PySem.W.alikeAll, PySem.W.alike_ints, -List.map_map]
theorem lt_ck (a b : List Int) : PySem.W.dataLt (ckL a) (ckL b) = decide (a.length < b.length ∨ (a.length = b.length ∧ a.map litKey < b.map litKey)) := by
  unfold ckL
  rw [PySem.W.dataLt_pair (by simp [PySem.W.alike]) (by simp [PySem.W.alike, PySem.W.alike_ints, -List.map_map]), PySem.W.dataLt_int, PySem.W.dataLt_list]
  have hr := PySem.W.dataLt_ints (a.map litKey) (b.map litKey)
  unfold PySem.W.rowLt at hr
  rw [hr]
  have hq : PyData.eqv (.list ((a.map litKey).map .int)) (.list ((b.map litKey).map .int)) = decide (a.map litKey = b.map litKey) := by rw [PyData.eqv, eqvAll_ints]
  rw [hq, eqv_int]
  by_cases h1 : (a.length : Int) = b.length
  · have h1' : a.length = b.length := by omega
    by_cases h2 : a.map litKey = b.map litKey
    · simp [h1', h2]
    · simp [h1', h2]
  · have h1' : a.length ≠ b.length := by omega
    simp [h1, h1']
theorem cle_anti {a b : List Int} (h1 : cle a b = true) (h2 : cle b a = true) : a = b := by
  have h1 : (!PySem.W.dataLt (ckL b) (ckL a)) = true := h1
  have h2 : (!PySem.W.dataLt (ckL a) (ckL b)) = true := h2
  rw [lt_ck] at h1 h2
  simp only [Bool.not_eq_true', decide_eq_false_iff_not, not_or, not_and] at h1 h2
  have hl : a.length = b.length := by omega
  have hk : a.map litKey = b.map litKey := List.le_antisymm (List.not_lt.mp (h1.2 hl.symm)) (List.not_lt.mp (h2.2 hl))
  exact List.map_inj_right (fun x y h => litKey_inj h) |>.mp hk
theorem keysR_map {g : PyData → R O} {k : List Int → PyData} : ∀ {cs : List (List Int)}, (∀ c ∈ cs, g (clD c) = .ok (.val (k c))) → keysR g (cs.map clD) = some (cs.map k)
  | [], _ => rfl
  | c :: cs, h => by
    show keysR g (clD c :: cs.map clD) = _
    unfold keysR
    rw [h c (List.mem_cons_self ..)]
    simp only
    rw [keysR_map fun d hd => h d (List.mem_cons_of_mem _ hd)]
    rfl
theorem sortCond_of {k : List Int → PyData} (ha : ∀ a b, PySem.W.alike (k a) (k b) = true) (ht : ∀ a, ∃ x xs, k a = .tuple (x :: xs)) (hd : ∀ a, (k a).depth ≤ 64) {cs : List (List Int)} (hl : cs.length ≤ sizeLine) : sortCond (cs.map k) = true := by
  unfold sortCond
  simp only [Bool.and_eq_true, decide_eq_true_eq, List.length_map]
  refine ⟨⟨⟨?_, ?_⟩, ?_⟩, hl⟩
  · unfold alikes
    rw [List.all_eq_true]
    intro x hx
    obtain ⟨a, _, rfl⟩ := List.mem_map.mp hx
    rw [List.all_eq_true]
    intro y hy
    obtain ⟨b, _, rfl⟩ := List.mem_map.mp hy
    exact ha a b
  · unfold sortables
    rw [Bool.or_eq_true]
    left
    rw [List.all_eq_true]
    intro x hx
    obtain ⟨a, _, rfl⟩ := List.mem_map.mp hx
    obtain ⟨y, ys, e⟩ := ht a
    rw [e]
  · rw [List.all_eq_true]
    intro x hx
    obtain ⟨a, _, rfl⟩ := List.mem_map.mp hx
    exact decide_eq_true (hd a)
theorem depth_ckL (a : List Int) : (ckL a).depth ≤ 64 := by
  unfold ckL
  simp [PyData.depth, PyData.depthAll, PySem.W.depth_ints, -List.map_map]
theorem depth_ckT (a : List Int) : (ckT a).depth ≤ 64 := by
  unfold ckT
  simp [PyData.depth, PyData.depthAll, PySem.W.depth_ints, -List.map_map]
theorem sortBy_map (k : List Int → PyData) (cs : List (List Int)) : sortBy (cs.map clD) (cs.map k) = (cs.mergeSort (PySem.W.dataLe false k)).map clD := by
  unfold sortBy
  have hz : (cs.map clD).zip (cs.map k) = cs.map fun c => (clD c, k c) := by
    induction cs with
    | nil => rfl
    | cons c cs ih => simp [ih]
  rw [hz, ← PySem.W.sort_maps (fun c => (clD c, k c)) (r := PySem.W.dataLe false k) (fun a _ b _ => rfl), List.map_map]
  rfl
theorem sortK_eq {cs : List (List Int)} (hs : ∀ c ∈ cs, Small c) (hl : cs.length ≤ sizeLine) : opSortK (fun d => f_law_key [d]) (.list (cs.map clD)) = .ok (.own ((cs.mergeSort cle).map clD)) := by
  unfold opSortK
  simp only
  rw [keysR_map (k := ckL) fun c hc => key_eq (hs c hc)]
  simp only
  rw [if_pos (sortCond_of alike_ck (fun a => ⟨_, _, rfl⟩) depth_ckL hl), sortBy_map]
  rfl
/-! ### each once -/
theorem dedup_mem {x : List Int} : ∀ {cs us : List (List Int)}, x ∈ cs.foldl addC us ↔ x ∈ us ∨ x ∈ cs
  | [], us => by simp
  | c :: cs, us => by
    rw [List.foldl_cons, dedup_mem]
    unfold addC
    split
    · rename_i h
      simp only [List.mem_cons]
      constructor
      · rintro (h1 | h1)
        · exact .inl h1
        · exact .inr (.inr h1)
      · rintro (h1 | rfl | h1)
        · exact .inl h1
        · exact .inl h
        · exact .inr h1
    · simp only [List.mem_append, List.mem_cons, List.mem_nil_iff, or_false, or_assoc]
theorem dedup_nodup : ∀ {cs us : List (List Int)}, us.Nodup → (cs.foldl addC us).Nodup
  | [], us, h => h
  | c :: cs, us, h => by
    rw [List.foldl_cons]
    refine dedup_nodup ?_
    unfold addC
    split
    · exact h
    · rename_i hn
      refine List.nodup_append.mpr ⟨h, by simp, fun a ha b hb e => ?_⟩
      rw [List.mem_singleton.mp hb] at e
      exact hn (e ▸ ha)
theorem dedup_sub : ∀ {cs us : List (List Int)}, (cs.foldl addC us).Sublist (us ++ cs)
  | [], us => by simp
  | c :: cs, us => by
    rw [List.foldl_cons]
    refine (dedup_sub (cs := cs)).trans ?_
    unfold addC
    split
    · exact List.Sublist.append (List.Sublist.refl _) (List.sublist_cons_self ..)
    · simp
def canon (cs : List (List Int)) : List (List Int) := (dedupL cs).mergeSort cle
theorem canon_mem {cs : List (List Int)} {x : List Int} : x ∈ canon cs ↔ x ∈ cs := by
  unfold canon dedupL
  rw [(List.mergeSort_perm _ _).mem_iff, dedup_mem]
  simp
theorem canon_nodup (cs : List (List Int)) : (canon cs).Nodup := (List.mergeSort_perm _ _).nodup_iff.mpr (dedup_nodup (by simp))
theorem canon_len (cs : List (List Int)) : (canon cs).length ≤ cs.length := by
  unfold canon dedupL
  rw [List.length_mergeSort]
  have := (dedup_sub (cs := cs) (us := [])).length_le
  simpa using this
theorem canon_sorted (cs : List (List Int)) : (canon cs).Pairwise (fun a b => cle a b = true) := PySem.W.sort_pairwise cle_total _
theorem rank_eq (c a : List Int) : PySem.W.sameRank cle c a = decide (a = c) := by
  unfold PySem.W.sameRank
  by_cases h : a = c
  · subst h; simp [cle_total.refl]
  · rw [decide_eq_false h, Bool.and_eq_false_iff]
    cases h1 : cle c a with
    | false => exact .inl rfl
    | true =>
      cases h2 : cle a c with
      | false => exact .inr rfl
      | true => exact absurd (cle_anti h2 h1) h
theorem filter_rank {c : List Int} : ∀ {m : List (List Int)}, m.Nodup → m.filter (PySem.W.sameRank cle c) = if c ∈ m then [c] else []
  | [], _ => by simp
  | a :: m, h => by
    have hn := List.nodup_cons.mp h
    rw [List.filter_cons, rank_eq, filter_rank hn.2]
    by_cases e : a = c
    · subst e; simp [hn.1]
    · have e' : ¬ c = a := fun z => e z.symm
      simp [e, e']
theorem same_list_of {m n : List (List Int)} (h1 : m.Pairwise (fun a b => cle a b = true)) (h2 : n.Pairwise (fun a b => cle a b = true)) (d1 : m.Nodup) (d2 : n.Nodup) (h : ∀ c, c ∈ m ↔ c ∈ n) : m = n :=
  PySem.W.sort_one cle_total m n h1 h2 fun c => by rw [filter_rank d1, filter_rank d2]; simp [h c]
theorem canon_congr {cs ds : List (List Int)} (h : ∀ c, c ∈ cs ↔ c ∈ ds) : canon cs = canon ds :=
  same_list_of (canon_sorted _) (canon_sorted _) (canon_nodup _) (canon_nodup _) fun c => by rw [canon_mem, canon_mem, h c]
def addA (acc : List (List Int)) (c : List Int) : List (List Int) := if acc = [] ∨ acc.getLast? ≠ some c then acc ++ [c] else acc
theorem addA_eq {us : List (List Int)} {c : List Int} (h : (us ++ [c]).Pairwise (fun a b => cle a b = true)) : addA us c = addC us c := by
  unfold addA addC
  by_cases hm : c ∈ us
  · rw [if_pos hm, if_neg]
    intro hz
    have hne : us ≠ [] := List.ne_nil_of_mem hm
    rcases hz with hz | hz
    · exact hne hz
    · apply hz
      rw [List.getLast?_eq_some_getLast hne]
      have hp := List.pairwise_append.mp h
      have h1 : cle (us.getLast hne) c = true := hp.2.2 _ (List.getLast_mem hne) c (by simp)
      have h2 : cle c (us.getLast hne) = true := by
        have e := List.dropLast_concat_getLast hne
        have hp1 := hp.1
        rw [← e] at hp1 hm
        rcases List.mem_append.mp hm with hm | hm
        · exact (List.pairwise_append.mp hp1).2.2 c hm _ (by simp)
        · rw [← List.mem_singleton.mp hm]; exact cle_total.refl _
      rw [cle_anti h1 h2]
  · rw [if_neg hm, if_pos]
    by_cases hne : us = []
    · exact .inl hne
    · refine .inr fun hz => hm ?_
      rw [List.getLast?_eq_some_getLast hne] at hz
      rw [← Option.some.inj hz]
      exact List.getLast_mem hne
theorem adj_eq : ∀ {cs us : List (List Int)}, (us ++ cs).Pairwise (fun a b => cle a b = true) → cs.foldl addA us = cs.foldl addC us
  | [], us, _ => rfl
  | c :: cs, us, h => by
    rw [List.foldl_cons, List.foldl_cons]
    have h1 : (us ++ [c]).Pairwise (fun a b => cle a b = true) := h.sublist (List.Sublist.append (List.Sublist.refl _) (by simp))
    rw [addA_eq h1]
    refine adj_eq ?_
    unfold addC
    split
    · exact h.sublist (List.Sublist.append (List.Sublist.refl _) (List.sublist_cons_self ..))
    · simpa using h
theorem adj_canon (cs : List (List Int)) : (cs.mergeSort cle).foldl addA [] = canon cs := by
  have hs : (cs.mergeSort cle).Pairwise (fun a b => cle a b = true) := PySem.W.sort_pairwise cle_total _
  rw [adj_eq (by simpa using hs)]
  refine same_list_of ?_ (canon_sorted _) (dedup_nodup (by simp)) (canon_nodup _) fun c => ?_
  · exact hs.sublist (by simpa using dedup_sub (cs := cs.mergeSort cle) (us := []))
  · rw [canon_mem, dedup_mem, (List.mergeSort_perm _ _).mem_iff]
    simp
theorem ordered_eq {cs : List (List Int)} (hs : ∀ c ∈ cs, Small c) (hl : cs.length < sizeLine) : f_ordered_clauses [.list (cs.map clD)] = .ok (.val (.tuple ((canon cs).map clD))) := by
  have hd : (dedupL cs).length ≤ sizeLine := by
    have := (dedup_sub (cs := cs) (us := [])).length_le
    simp only [List.nil_append] at this
    unfold dedupL
    omega
  have hk : keysR (fun d => f_clause_key [d]) ((dedupL cs).map clD) = some ((dedupL cs).map ckT) := keysR_map fun c hc => ckey_eq (hs c (by
    unfold dedupL at hc
    rw [dedup_mem] at hc
    simpa using hc))
  have hc := sortCond_of (k := ckT) alike_ckT (fun a => ⟨_, _, rfl⟩) depth_ckT hd
  unfold f_ordered_clauses
  simp [dOC, hl, hk, hc, sortBy_map, cle_T]
  rfl
theorem formula_eq {n : Int} {cs : List (List Int)} (hs : ∀ c ∈ cs, Small c) (hl : cs.length < sizeLine) : f_law_formula [.int n, .list (cs.map clD)] = .ok (.val (frm n (canon cs))) := by
  have hk := sortK_eq hs (Nat.le_of_lt hl)
  have hml : (cs.mergeSort cle).length = cs.length := List.length_mergeSort _
  rw [← adj_canon]
  generalize cs.mergeSort cle = ms at hk hml
  unfold f_law_formula b_law_formula
  simp [hk]
  generalize hL : loopS _ _ _ _ = r
  have key : ∃ a : List (List Int) × Option O, r = .nx [some (.val (.int n)), some (.val (.list (cs.map clD))), some (.own (a.1.map clD)), a.2] ∧ (a.1 = (ms.take (ms.map clD).length).foldl addA [] ∧ a.1.length ≤ (ms.map clD).length) := by
    rw [← hL]
    refine loopS_enc (a0 := ([], none)) (fun a : List (List Int) × Option O => [some (.val (.int n)), some (.val (.list (cs.map clD))), some (.own (a.1.map clD)), a.2]) (fun j a => a.1 = (ms.take j).foldl addA [] ∧ a.1.length ≤ j) (fun j d a hd hP => ?_) ⟨rfl, Nat.le_refl _⟩
    obtain ⟨l, x⟩ := a
    simp only at hP
    rw [List.getElem?_map] at hd
    obtain ⟨c, hc, rfl⟩ := Option.map_eq_some_iff.mp hd
    have hj : j < ms.length := (List.getElem?_eq_some_iff.mp hc).1
    have hsz : l.length < sizeLine := by omega
    refine ⟨(addA l c, some (.val (clD c))), ?_, ?_, ?_⟩
    · unfold addA
      by_cases hz : l = []
      · subst hz
        simp
        simp [sz]
      · have hpos : 0 < l.length := List.length_pos_iff.mpr hz
        have hpos' : l.length ≠ 0 := by omega
        have hat : atI (l.map clD) ((l.length : Int) - 1) = some (clD (l.getLast hz)) := by
          rw [show (l.length : Int) - 1 = ((l.length - 1 : Nat) : Int) by omega]
          refine L2.atI_nat ?_
          rw [List.getElem?_map, List.getElem?_eq_getElem (by omega), List.getLast_eq_getElem]
          rfl
        rw [List.getLast?_eq_some_getLast hz]
        by_cases he : l.getLast hz = c
        · simp [hz, hat, he, hpos']
        · simp [hz, hat, he, hpos', hsz]
    · simp only
      rw [List.take_succ, hc, hP.1]
      simp
    · simp only
      unfold addA
      split
      · simp; omega
      · omega
  obtain ⟨⟨l, x⟩, rfl, h1, -⟩ := key
  simp only [List.length_map, List.take_length] at h1
  subst h1
  simp [frm]
end LC
set_option Elab.async false
set_option linter.all false
set_option maxRecDepth 100000
set_option maxHeartbeats 4000000
set_option autoImplicit false
/-! LCP: random formulas. -/
namespace LC
open PySem PySem.Spec L2 DL
open PyProof.Rows hiding St cutD
/-- a clause over the variables 1 to n -/
def Cl (n : Nat) (c : List Int) : Prop := c.length ≤ n ∧ ∀ x ∈ c, 1 ≤ x.natAbs ∧ x.natAbs ≤ n
theorem cl_clause (n code : Nat) : Cl n (clauseOf n code) := ⟨clauseOf_len n code, fun _ h => clauseOf_abs h⟩
theorem Cl.small {n : Nat} {c : List Int} (h : Cl n c) (hn : n ≤ 1000) : Small c := ⟨by have := h.1; rw [sz]; omega, fun x hx => by have := h.2 x hx; omega⟩
theorem cutD_map {α β : Type} (f : α → β) (l : List α) (lo hi : Option Int) : cutD (l.map f) lo hi = (cutD l lo hi).map f := by
  unfold DL.cutD
  simp [List.map_drop, List.map_take]
theorem cutD_mem {α : Type} {l : List α} {lo hi : Option Int} {x : α} (h : x ∈ cutD l lo hi) : x ∈ l := by
  unfold DL.cutD at h
  exact List.mem_of_mem_drop (List.mem_of_mem_take h)
theorem cutD_len {α : Type} (l : List α) (lo hi : Option Int) : (cutD l lo hi).length ≤ l.length := by
  unfold DL.cutD
  simp
  omega
theorem cut1_len {α : Type} (l : List α) : (cutD l (some 1) none).length = l.length - 1 := by
  unfold DL.cutD HT.sIx
  simp
  omega
def randB : DEnv → SO := (dIfS (dOr (dCmp opGt (dVar 6) (dC (.int 0))) (dOr (dCmp opEq (dVar 2) (dC (.int 0))) (dCmp opEq (dV (dBin opMod (dIx (dVar 4) (dC (.int 0))) (dC (.int 5)))) (dC (.int 0))))) (dAppend 5 [2, 6] (dApp f_law_clause (dCons (dVar 2) (dCons (dVar 6) dNil)))) dNx)
theorem rand_turn {o0 o1 o3 x : Option O} {n z d0 : Int} {ds : List Int} {l : List (List Int)} {c : List Int} (hat : atI (ds.map PyData.int) 0 = some (.int d0)) (hcl : f_law_clause [.int n, .int z] = .ok (.val (clD c))) (hl : l.length < sizeLine) :
    ∃ b : Bool, stepS (sName 6) randB (.int z) [o0, o1, some (.val (.int n)), o3, some (.own (ds.map .int)), some (.own (l.map clD)), x] = .nx [o0, o1, some (.val (.int n)), o3, some (.own (ds.map .int)), some (.own ((if b = true then l ++ [c] else l).map clD)), some (.val (.int z))] := by
  unfold randB
  by_cases h1 : 0 < z
  · refine ⟨true, ?_⟩
    simp [h1, hcl, hl]
  · by_cases h2 : n = 0
    · refine ⟨true, ?_⟩
      subst h2
      simp [h1, hcl, hl]
    · by_cases h3 : d0 % 5 = 0
      · refine ⟨true, ?_⟩
        simp [h1, h2, h3, hat, hcl, hl]
      · refine ⟨false, ?_⟩
        simp [h1, h2, h3, hat, hcl, hl]
theorem random_eq {ns : List Int} {k n cnt : Nat} (hs : Builtin.Int.intBits ns.sum ≤ 2000000) (hk : k < 1000) (hn : n ≤ 8) (hc : cnt ≤ 1000) :
    ∃ cs : List (List Int), f_law_random [.list (ns.map .int), .int k, .int n, .int cnt] = .ok (.val (frm n (canon cs))) ∧ cs.length ≤ cnt ∧ ∀ c ∈ cs, Cl n c := by
  have hpl := place_eq (v := n + 1) (by omega) (by omega)
  have hq : 3 ^ (n + 1 - 1) ≤ 3 ^ 8 := Nat.pow_le_pow_right (by omega) (by omega)
  have hq0 : 0 < 3 ^ (n + 1 - 1) := Nat.pow_pos (by omega)
  generalize (3 ^ (n + 1 - 1) : Nat) = q at hpl hq hq0
  obtain ⟨ds, hds, hdl, hdw⟩ := draws_eq (ns := ns) (k := k) (count := cnt + 1) (many := (q : Int)) hs hk (by omega) (by omega) (by omega)
  rw [show ((n + 1 : Nat) : Int) = (n : Int) + 1 by omega] at hpl
  rw [show ((cnt + 1 : Nat) : Int) = (cnt : Int) + 1 by omega] at hds
  have h0 : 0 < ds.length := by omega
  have hat : atI (ds.map PyData.int) 0 = some (.int ds[0]) := L2.atI_nat (j := 0) (by rw [List.getElem?_map, List.getElem?_eq_getElem h0]; rfl)
  unfold f_law_random b_law_random
  simp [hpl, hds, cutD_map]
  generalize hL : loopS _ _ _ _ = r
  have key : ∃ a : List (List Int) × Option O, r = .nx [some (.val (.list (ns.map .int))), some (.val (.int k)), some (.val (.int n)), some (.val (.int cnt)), some (.own (ds.map .int)), some (.own (a.1.map clD)), a.2] ∧ (a.1.length ≤ ((cutD ds (some 1) none).map PyData.int).length ∧ ∀ c ∈ a.1, Cl n c) := by
    rw [← hL]
    refine loopS_enc (a0 := ([], none)) (fun a : List (List Int) × Option O => [some (.val (.list (ns.map .int))), some (.val (.int k)), some (.val (.int n)), some (.val (.int cnt)), some (.own (ds.map .int)), some (.own (a.1.map clD)), a.2]) (fun j a => a.1.length ≤ j ∧ ∀ c ∈ a.1, Cl n c) (fun j d a hd hP => ?_) ⟨Nat.le_refl _, fun c h => by cases h⟩
    obtain ⟨l, x⟩ := a
    simp only at hP
    rw [List.getElem?_map] at hd
    obtain ⟨z, hz, rfl⟩ := Option.map_eq_some_iff.mp hd
    have hzl := (List.getElem?_eq_some_iff.mp hz).1
    rw [cut1_len] at hzl
    have hzw := hdw z (cutD_mem (List.mem_of_getElem? hz))
    obtain ⟨code, rfl⟩ : ∃ code : Nat, z = code := ⟨z.toNat, by omega⟩
    have hcl := clause_eq (n := n) (code := code) (by omega)
    have hsz : l.length < sizeLine := by rw [sz]; omega
    obtain ⟨b, turn⟩ := rand_turn (o0 := some (.val (.list (ns.map .int)))) (o1 := some (.val (.int k))) (o3 := some (.val (.int cnt))) (x := x) hat hcl hsz
    refine ⟨(if b = true then l ++ [clauseOf n code] else l, some (.val (.int code))), turn, ?_, fun c hc => ?_⟩
    · cases b
      · exact Nat.le_succ_of_le hP.1
      · simp only [if_true, List.length_append, List.length_cons, List.length_nil]; omega
    · cases b
      · exact hP.2 c hc
      · rcases List.mem_append.mp hc with hc | hc
        · exact hP.2 c hc
        · rw [List.mem_singleton.mp hc]; exact cl_clause n code
  obtain ⟨⟨l, x⟩, rfl, h1, h2⟩ := key
  rw [List.length_map, cut1_len] at h1
  refine ⟨l, ?_, by simp only at h1; omega, h2⟩
  have hf := formula_eq (n := n) (cs := l) (fun c hc => (h2 c hc).small (by omega)) (by rw [sz]; simp only at h1; omega)
  simp only
  simp [hf]
/-! ### formulas as data -/
@[simp] theorem ix_frm0 {n : Int} {l : List (List Int)} : opIx (frm n l) (.int 0) = .ok (.int n) := id rfl
@[simp] theorem ix_frm1 {n : Int} {l : List (List Int)} : opIx (frm n l) (.int 1) = .ok (.tuple (l.map clD)) := id rfl
@[simp] theorem isDict_frm {n : Int} {l : List (List Int)} : isDict (frm n l) = false := id rfl
@[simp] theorem flat_frm {n : Int} {l : List (List Int)} : flat (frm n l) = true := by unfold frm; simp
/-! ### clauses by number are apart -/
theorem lit_mem {code v : Nat} {x : Int} (h : x ∈ litOf code v) : x.natAbs = v := by
  unfold litOf at h
  split at h
  · rw [List.mem_singleton.mp h]; omega
  · split at h
    · rw [List.mem_singleton.mp h]; omega
    · cases h
theorem mem_clause {n code i : Nat} (hi : i < n) {x : Int} (hx : x.natAbs = i + 1) : x ∈ clauseOf n code ↔ x ∈ litOf code (i + 1) := by
  unfold clauseOf
  rw [List.mem_flatMap]
  constructor
  · rintro ⟨j, _, h⟩
    have := lit_mem h
    have e : j = i := by omega
    exact e ▸ h
  · exact fun h => ⟨i, List.mem_range.mpr hi, h⟩
theorem neg_mem {code v : Nat} (hv : 0 < v) : -(v : Int) ∈ litOf code v ↔ code / 3 ^ (v - 1) % 3 = 1 := by
  unfold litOf
  split
  · rename_i h; simp [h]
  · rename_i h
    split
    · simp only [List.mem_singleton]; constructor
      · intro z; omega
      · intro z; omega
    · simp [h]
theorem pos_mem {code v : Nat} (hv : 0 < v) : (v : Int) ∈ litOf code v ↔ code / 3 ^ (v - 1) % 3 = 2 := by
  unfold litOf
  split
  · rename_i h
    simp only [List.mem_singleton]; constructor
    · intro z; omega
    · intro z; omega
  · rename_i h
    split
    · rename_i h2; simp [h2]
    · rename_i h2; simp [h2]
theorem digit_eq {n a b : Nat} (h : clauseOf n a = clauseOf n b) {i : Nat} (hi : i < n) : a / 3 ^ i % 3 = b / 3 ^ i % 3 := by
  have h1 : (a / 3 ^ i % 3 = 1) ↔ b / 3 ^ i % 3 = 1 := by
    have ha := (mem_clause (code := a) hi (x := -((i + 1 : Nat) : Int)) (by omega)).trans (neg_mem (by omega))
    have hb := (mem_clause (code := b) hi (x := -((i + 1 : Nat) : Int)) (by omega)).trans (neg_mem (by omega))
    rw [h] at ha
    exact ha.symm.trans hb
  have h2 : (a / 3 ^ i % 3 = 2) ↔ b / 3 ^ i % 3 = 2 := by
    have ha := (mem_clause (code := a) hi (x := ((i + 1 : Nat) : Int)) (by omega)).trans (pos_mem (by omega))
    have hb := (mem_clause (code := b) hi (x := ((i + 1 : Nat) : Int)) (by omega)).trans (pos_mem (by omega))
    rw [h] at ha
    exact ha.symm.trans hb
  have := Nat.mod_lt (a / 3 ^ i) (show 0 < 3 by omega)
  have := Nat.mod_lt (b / 3 ^ i) (show 0 < 3 by omega)
  generalize a / 3 ^ i % 3 = p at *
  generalize b / 3 ^ i % 3 = q at *
  omega
theorem clause_mod {n a b : Nat} (h : clauseOf n a = clauseOf n b) : ∀ k, k ≤ n → a % 3 ^ k = b % 3 ^ k
  | 0, _ => by simp [Nat.mod_one]
  | k + 1, hk => by rw [Nat.mod_pow_succ, Nat.mod_pow_succ, clause_mod h k (by omega), digit_eq h (by omega)]
theorem clause_inj {n a b : Nat} (ha : a < 3 ^ n) (hb : b < 3 ^ n) (h : clauseOf n a = clauseOf n b) : a = b := by
  have := clause_mod h n (Nat.le_refl _)
  rwa [Nat.mod_eq_of_lt ha, Nat.mod_eq_of_lt hb] at this
theorem dedup_id : ∀ {cs us : List (List Int)}, (us ++ cs).Nodup → cs.foldl addC us = us ++ cs
  | [], us, _ => by simp
  | c :: cs, us, h => by
    rw [List.foldl_cons]
    have hn : c ∉ us := fun z => (List.nodup_append.mp h).2.2 c z c (List.mem_cons_self ..) rfl
    have e : addC us c = us ++ [c] := by unfold addC; rw [if_neg hn]
    rw [e, dedup_id (by simpa using h)]
    simp
theorem canon_len_of {cs : List (List Int)} (h : cs.Nodup) : (canon cs).length = cs.length := by
  unfold canon dedupL
  rw [List.length_mergeSort, dedup_id (us := []) (by simpa using h)]
  simp
/-- the clauses numbered lo, lo + 1, .. -/
def clFrom (n lo m : Nat) : List (List Int) := (List.range m).map fun k => clauseOf n (lo + k)
theorem clFrom_mem {n lo m : Nat} {c : List Int} : c ∈ clFrom n lo m ↔ ∃ k, lo ≤ k ∧ k < lo + m ∧ clauseOf n k = c := by
  unfold clFrom
  rw [List.mem_map]
  constructor
  · rintro ⟨k, hk, rfl⟩
    have := List.mem_range.mp hk
    exact ⟨lo + k, by omega, by omega, rfl⟩
  · rintro ⟨k, h1, h2, rfl⟩
    exact ⟨k - lo, List.mem_range.mpr (by omega), by rw [show lo + (k - lo) = k by omega]⟩
theorem clFrom_cl {n lo m : Nat} {c : List Int} (h : c ∈ clFrom n lo m) : Cl n c := by
  obtain ⟨k, _, _, rfl⟩ := clFrom_mem.mp h
  exact cl_clause n k
theorem clFrom_len (n lo m : Nat) : (clFrom n lo m).length = m := by simp [clFrom]
theorem clFrom_nodup {n lo m : Nat} (h : lo + m ≤ 3 ^ n) : (clFrom n lo m).Nodup := by
  unfold clFrom List.Nodup
  rw [List.pairwise_map]
  refine List.Pairwise.imp_of_mem ?_ (List.nodup_range (n := m))
  intro a b ha hb hne e
  have := List.mem_range.mp ha
  have := List.mem_range.mp hb
  have := clause_inj (by omega) (by omega) e
  exact hne (by omega)
end LC
set_option Elab.async false
set_option linter.all false
set_option maxRecDepth 100000
set_option maxHeartbeats 4000000
set_option autoImplicit false
namespace LK71
open PySem PySem.Spec L2 DL LC
open PyProof.Rows hiding St
abbrev top (i : Nat) : Stmt := PySem.Challenge.pw_liarsbooks_k71_union_and_blames.main.body.getD i (.Pass ⟨0, 0, 0, 0⟩)
/-- what the written part says -/
structure Tx (P : Program) (K : PySem.W.Frag) (mg : Str → Option Value) : Prop where
  c_MAX_CLAUSES : ∃ t, mg "MAX_CLAUSES" = some (.int 300 t)
  e_TooManyClauses : SupC P K mg "TooManyClauses" "count"
  f_count_TooManyClauses : FldTbl K ["TooManyClauses"] "count"
  g_BadCount : mg "BadCount" = some (.ref (He.ga K "BadCount"))
  g_BadLiteral : mg "BadLiteral" = some (.ref (He.ga K "BadLiteral"))
  g_FormulaError : mg "FormulaError" = some (.ref (He.ga K "FormulaError"))
  g_RepeatedVariable : mg "RepeatedVariable" = some (.ref (He.ga K "RepeatedVariable"))
  g_TooManyClauses : mg "TooManyClauses" = some (.ref (He.ga K "TooManyClauses"))
  k_BadCount_TooManyClauses : IsTbl K [("TooManyClauses", false)] (.ref (He.ga K "BadCount"))
  k_BadLiteral_TooManyClauses : IsTbl K [("TooManyClauses", false)] (.ref (He.ga K "BadLiteral"))
  k_FormulaError_TooManyClauses : IsTbl K [("TooManyClauses", true)] (.ref (He.ga K "FormulaError"))
  k_RepeatedVariable_TooManyClauses : IsTbl K [("TooManyClauses", false)] (.ref (He.ga K "RepeatedVariable"))
  k_ValueError_TooManyClauses : IsTbl K [("TooManyClauses", true)] (.type "ValueError")
  n_ValueError : mg "ValueError" = none
  n_abs : mg "abs" = none
  n_bool : mg "bool" = none
  n_int : mg "int" = none
  n_isinstance : mg "isinstance" = none
  n_len : mg "len" = none
  n_list : mg "list" = none
  n_max : mg "max" = none
  n_range : mg "range" = none
  n_sorted : mg "sorted" = none
  n_str : mg "str" = none
  n_sum : mg "sum" = none
  n_tuple : mg "tuple" = none
  x_TooManyClauses_TooManyClauses : ExmTbl K [("TooManyClauses", true)] (.ref (He.ga K "TooManyClauses"))
variable {P : Program} {w : World} {K : PySem.W.Frag} {mg : Str → Option Value} {base : Heap}
abbrev s_literal_key : Stmt := top 8
theorem sc_literal_key : FnScope ["literal"] ["literal"] (defScope s_literal_key) := ⟨rfl, rfl, rfl, by decide +kernel, rfl, by decide +kernel, by decide +kernel⟩
theorem ok_literal_key {f : Addr} {fd : FuncData} (T : Tx P K mg) (F : FunD K "literal_key" "literal_key" (defArgs s_literal_key) (defBody s_literal_key) (defScope s_literal_key) [] [] f fd) (hm : mg "literal_key" = some (.ref f)) : Dfn P w K mg base "literal_key" 1 1 f_literal_key := by
  refine mkDfn F hm sc_literal_key rfl (fun _ _ _ _ _ _ us hl => match us, hl with | [_], _ => rfl) (fun cdv A outer s H E hr tk => ?_)
  have nd := sc_literal_key.nd
  have hu := hr.units
  have hu1 := hu65 hr
  exact (dss_cons (ds_if (dt_cmp ob_lt (dv_var 0) dv_int) (dss_one (ds_ret (do_bin od_sub dv_int (DO.v (do_bin od_mul dv_int (dv_var 0)))))) dss_nil)
    (dss_one (ds_ret (do_bin od_mul dv_int (dv_var 0)))))
abbrev s_clause_key : Stmt := top 9
theorem sc_clause_key : FnScope ["clause", "literal"] ["clause"] (defScope s_clause_key) := ⟨rfl, rfl, rfl, by decide +kernel, rfl, by decide +kernel, by decide +kernel⟩
theorem ok_clause_key {f : Addr} {fd : FuncData} (T : Tx P K mg) (D_literal_key : Dfn P w K mg base "literal_key" 1 1 f_literal_key) (F : FunD K "clause_key" "clause_key" (defArgs s_clause_key) (defBody s_clause_key) (defScope s_clause_key) [] [] f fd) (hm : mg "clause_key" = some (.ref f)) : Dfn P w K mg base "clause_key" 2 1 f_clause_key := by
  refine mkDfn F hm sc_clause_key rfl (fun _ _ _ _ _ _ us hl => match us, hl with | [_], _ => rfl) (fun cdv A outer s H E hr tk => ?_)
  have nd := sc_clause_key.nd
  have hu := hr.units
  have hu1 := hu65 hr
  exact (dss_one (ds_ret (DV.o (dv_tup (da_cons (DO.v (do_callB cd_len rfl T.n_len (by decide +kernel) (da_cons (dv_var 0) da_nil))) (da_cons (DO.v (do_callTy cd_tuple rfl T.n_tuple (by decide +kernel) (da_cons (DO.v (do_lc0 1 rfl nd (di_seq (dv_var 0)) (blkOk_by rfl) (fun _ _ _ _ _ => pg_name (i := 1) nd rfl (Or.inl rfl)) (fun _ _ _ _ _ => (DO.v (do_fn D_literal_key takesF hr (by decide) rfl (da_cons (dv_var 1) da_nil) (count_cons count_nil)))))) da_nil))) da_nil)) (count_cons (count_cons count_nil)) (by decide)))))
abbrev s_ordered_clauses : Stmt := top 12
theorem sc_ordered_clauses : FnScope ["clauses", "found", "clause"] ["clauses"] (defScope s_ordered_clauses) := ⟨rfl, rfl, rfl, by decide +kernel, rfl, by decide +kernel, by decide +kernel⟩
theorem ok_ordered_clauses {f : Addr} {fd : FuncData} (T : Tx P K mg) (D_clause_key : Dfn P w K mg base "clause_key" 2 1 f_clause_key) (F : FunD K "ordered_clauses" "ordered_clauses" (defArgs s_ordered_clauses) (defBody s_ordered_clauses) (defScope s_ordered_clauses) [] [] f fd) (hm : mg "ordered_clauses" = some (.ref f)) : Dfn P w K mg base "ordered_clauses" 5 1 f_ordered_clauses := by
  refine mkDfn F hm sc_ordered_clauses rfl (fun _ _ _ _ _ _ us hl => match us, hl with | [_], _ => rfl) (fun cdv A outer s H E hr tk => ?_)
  have nd := sc_ordered_clauses.nd
  have hu1 := hu65 hr
  exact dss_oc (ps_set (i := 1) nd rfl (Or.inl rfl) pe_dX) (ps_for (passes_of rfl) rfl (pi_seq (pe_var (i := 0) rfl (Or.inl rfl) (by decide) (by decide))) (pg_name (i := 2) nd rfl (Or.inl rfl)) (pss_one (ps_asg pe_bl (pg_sub (pe_var (i := 1) rfl (Or.inl rfl) (by decide) (by decide)) (pe_var (i := 2) rfl (Or.inl rfl) (by decide) (by decide)) (set_X (hu2 hr))))))
    (ps_ret (pe_callTy call_tuple_of rfl T.n_tuple (by decide +kernel) (pa_cons (pe_sortedDef D_clause_key hr (by decide) T.n_sorted (pe_callTy (call_list_X rfl) rfl T.n_list (by decide +kernel) (pa_cons (pe_var (i := 1) rfl (Or.inl rfl) (by decide) (by decide)) pa_nil)) rfl) pa_nil)))
def b_union : DEnv → SO :=
    (seqS (dSet 2 [0, 1] (dApp f_ordered_clauses (dCons (dV (dBin opAdd (dV (dApp (bi1 biList) (dCons (dIx (dVar 0) (dC (.int 1))) dNil))) (dV (dApp (bi1 biList) (dCons (dIx (dVar 1) (dC (.int 1))) dNil))))) dNil)))
    (seqS (dIfS (dCmp opGt (dV (dApp biLen (dCons (dVar 2) dNil))) (dC (.int 300))) (dRaise "TooManyClauses" "count" (dV (dApp biLen (dCons (dVar 2) dNil)))) dNx)
    (dRet (dO (dTup (dCons (dIx (dVar 0) (dC (.int 0))) (dCons (dVar 2) dNil)))))))
def f_union : List PyData → R O := runD 3 b_union
abbrev s_union : Stmt := top 14
theorem sc_union : FnScope ["left", "right", "clauses"] ["left", "right"] (defScope s_union) := ⟨rfl, rfl, rfl, by decide +kernel, rfl, by decide +kernel, by decide +kernel⟩
theorem ok_union {f : Addr} {fd : FuncData} (T : Tx P K mg) (D_ordered_clauses : Dfn P w K mg base "ordered_clauses" 5 1 f_ordered_clauses) (F : FunD K "union" "union" (defArgs s_union) (defBody s_union) (defScope s_union) [] [] f fd) (hm : mg "union" = some (.ref f)) : Dfn P w K mg base "union" 6 2 f_union := by
  obtain ⟨t_MAX_CLAUSES, hc_MAX_CLAUSES⟩ := T.c_MAX_CLAUSES
  refine mkDfn F hm sc_union rfl (fun _ _ _ _ _ _ us hl => match us, hl with | [_, _], _ => rfl) (fun cdv A outer s H E hr tk => ?_)
  have nd := sc_union.nd
  have hu := hr.units
  have hu1 := hu65 hr
  exact (dss_cons (ds_set (i := 2) (ms := [0, 1]) nd (do_fn D_ordered_clauses tk hr (by decide) rfl (da_cons (DO.v (do_bin od_add (DO.v (do_callTy cd_list rfl T.n_list (by decide +kernel) (da_cons (dv_ix (dv_var 0) dv_int (fun _ _ => rfl)) da_nil))) (DO.v (do_callTy cd_list rfl T.n_list (by decide +kernel) (da_cons (dv_ix (dv_var 1) dv_int (fun _ _ => rfl)) da_nil))))) da_nil) (count_cons count_nil)))
    (dss_cons (ds_if (dt_cmp ob_gt (DO.v (do_callB cd_len rfl T.n_len (by decide +kernel) (da_cons (dv_var 2) da_nil))) (dv_globI hc_MAX_CLAUSES rfl)) (dss_one (ds_raise rfl T.e_TooManyClauses hr tk (DO.v (do_callB cd_len rfl T.n_len (by decide +kernel) (da_cons (dv_var 2) da_nil))) rfl)) dss_nil)
    (dss_one (ds_ret (DV.o (dv_tup (da_cons (dv_ix (dv_var 0) dv_int (fun _ _ => rfl)) (da_cons (dv_var 2) da_nil)) (count_cons (count_cons count_nil)) (by decide)))))))
def b_any_side : DEnv → SO :=
    (seqS (dIfS (dCmp opEq (dVar 1) (dVar 0)) (dRetV 0) dNx)
    (dRetV 2))
def f_any_side : List PyData → R O := runD 3 b_any_side
abbrev s_any_side : Stmt := top 15
theorem sc_any_side : FnScope ["side", "one", "other"] ["side", "one", "other"] (defScope s_any_side) := ⟨rfl, rfl, rfl, by decide +kernel, rfl, by decide +kernel, by decide +kernel⟩
theorem ok_any_side {f : Addr} {fd : FuncData} (T : Tx P K mg) (F : FunD K "any_side" "any_side" (defArgs s_any_side) (defBody s_any_side) (defScope s_any_side) [] [] f fd) (hm : mg "any_side" = some (.ref f)) : Dfn P w K mg base "any_side" 1 3 f_any_side := by
  refine mkDfn F hm sc_any_side rfl (fun _ _ _ _ _ _ us hl => match us, hl with | [_, _, _], _ => rfl) (fun cdv A outer s H E hr tk => ?_)
  have nd := sc_any_side.nd
  have hu := hr.units
  have hu1 := hu65 hr
  exact (dss_cons (ds_if (dt_cmp (ob_eq hu) (dv_var 1) (dv_var 0)) (dss_one (ds_retV 0)) dss_nil)
    (dss_one (ds_retV 2)))
def b_gate_side : DEnv → SO :=
    (seqS (dIfS (dCmp opEq (dIx (dVar 0) (dC (.int 0))) (dC (.str "any_left"))) (dRet (dApp f_any_side (dCons (dC (.str "left")) (dCons (dIx (dVar 1) (dIx (dVar 0) (dC (.int 1)))) (dCons (dIx (dVar 1) (dIx (dVar 0) (dC (.int 2)))) dNil))))) dNx)
    (seqS (dIfS (dCmp opEq (dIx (dVar 0) (dC (.int 0))) (dC (.str "any_right"))) (dRet (dApp f_any_side (dCons (dC (.str "right")) (dCons (dIx (dVar 1) (dIx (dVar 0) (dC (.int 1)))) (dCons (dIx (dVar 1) (dIx (dVar 0) (dC (.int 2)))) dNil))))) dNx)
    (seqS (dIfS (dCmp opEq (dIx (dVar 0) (dC (.int 0))) (dC (.str "if"))) (seqS (dIfS (dCmp opEq (dV (dBin opAnd (dV (dBin opShr (dVar 2) (dV (dBin opSub (dIx (dVar 0) (dC (.int 1))) (dC (.int 1)))))) (dC (.int 1)))) (dC (.int 1))) (dRet (dO (dIx (dVar 1) (dIx (dVar 0) (dC (.int 2)))))) dNx)
    (dRet (dO (dIx (dVar 1) (dIx (dVar 0) (dC (.int 3))))))) dNx)
    (seqS (dIfS (dCmp opEq (dIx (dVar 0) (dC (.int 0))) (dC (.str "same"))) (dRet (dO (dIx (dVar 1) (dIx (dVar 0) (dC (.int 1)))))) dNx)
    (dRet (dO (dIx (dVar 0) (dC (.int 0)))))))))
def f_gate_side : List PyData → R O := runD 3 b_gate_side
abbrev s_gate_side : Stmt := top 16
theorem sc_gate_side : FnScope ["gate", "sides", "mask"] ["gate", "sides", "mask"] (defScope s_gate_side) := ⟨rfl, rfl, rfl, by decide +kernel, rfl, by decide +kernel, by decide +kernel⟩
theorem ok_gate_side {f : Addr} {fd : FuncData} (T : Tx P K mg) (D_any_side : Dfn P w K mg base "any_side" 1 3 f_any_side) (F : FunD K "gate_side" "gate_side" (defArgs s_gate_side) (defBody s_gate_side) (defScope s_gate_side) [] [] f fd) (hm : mg "gate_side" = some (.ref f)) : Dfn P w K mg base "gate_side" 2 3 f_gate_side := by
  refine mkDfn F hm sc_gate_side rfl (fun _ _ _ _ _ _ us hl => match us, hl with | [_, _, _], _ => rfl) (fun cdv A outer s H E hr tk => ?_)
  have nd := sc_gate_side.nd
  have hu := hr.units
  have hu1 := hu65 hr
  exact (dss_cons (ds_if (dt_cmp (ob_eq hu) (dv_ix (dv_var 0) dv_int (fun _ _ => rfl)) dv_str) (dss_one (ds_ret (do_fn D_any_side tk hr (by decide) rfl (da_cons dv_str (da_cons (dv_ix (dv_var 1) (dv_ix (dv_var 0) dv_int (fun _ _ => rfl)) (fun _ _ => rfl)) (da_cons (dv_ix (dv_var 1) (dv_ix (dv_var 0) dv_int (fun _ _ => rfl)) (fun _ _ => rfl)) da_nil))) (count_cons (count_cons (count_cons count_nil)))))) dss_nil)
    (dss_cons (ds_if (dt_cmp (ob_eq hu) (dv_ix (dv_var 0) dv_int (fun _ _ => rfl)) dv_str) (dss_one (ds_ret (do_fn D_any_side tk hr (by decide) rfl (da_cons dv_str (da_cons (dv_ix (dv_var 1) (dv_ix (dv_var 0) dv_int (fun _ _ => rfl)) (fun _ _ => rfl)) (da_cons (dv_ix (dv_var 1) (dv_ix (dv_var 0) dv_int (fun _ _ => rfl)) (fun _ _ => rfl)) da_nil))) (count_cons (count_cons (count_cons count_nil)))))) dss_nil)
    (dss_cons (ds_if (dt_cmp (ob_eq hu) (dv_ix (dv_var 0) dv_int (fun _ _ => rfl)) dv_str) (dss_cons (ds_if (dt_cmp (ob_eq hu) (DO.v (do_bin od_and (DO.v (do_bin od_shr (dv_var 2) (DO.v (do_bin od_sub (dv_ix (dv_var 0) dv_int (fun _ _ => rfl)) dv_int)))) dv_int)) dv_int) (dss_one (ds_ret (DV.o (dv_ix (dv_var 1) (dv_ix (dv_var 0) dv_int (fun _ _ => rfl)) (fun _ _ => rfl))))) dss_nil)
    (dss_one (ds_ret (DV.o (dv_ix (dv_var 1) (dv_ix (dv_var 0) dv_int (fun _ _ => rfl)) (fun _ _ => rfl)))))) dss_nil)
    (dss_cons (ds_if (dt_cmp (ob_eq hu) (dv_ix (dv_var 0) dv_int (fun _ _ => rfl)) dv_str) (dss_one (ds_ret (DV.o (dv_ix (dv_var 1) (dv_ix (dv_var 0) dv_int (fun _ _ => rfl)) (fun _ _ => rfl))))) dss_nil)
    (dss_one (ds_ret (DV.o (dv_ix (dv_var 0) dv_int (fun _ _ => rfl)))))))))
def b_blames : DEnv → SO :=
    (seqS (dSet 2 [] (dLst dNil))
    (seqS (dFor [0] (dO (dVar 0)) (sName 3) (dAppend 2 [1, 2, 3] (dApp f_gate_side (dCons (dVar 3) (dCons (dVar 2) (dCons (dVar 1) dNil))))))
    (dRet (dO (dIx (dVar 2) (dV (dBin opSub (dV (dApp biLen (dCons (dVar 2) dNil))) (dC (.int 1)))))))))
def f_blames : List PyData → R O := runD 4 b_blames
abbrev s_blames : Stmt := top 17
theorem sc_blames : FnScope ["gates", "mask", "sides", "gate"] ["gates", "mask"] (defScope s_blames) := ⟨rfl, rfl, rfl, by decide +kernel, rfl, by decide +kernel, by decide +kernel⟩
theorem ok_blames {f : Addr} {fd : FuncData} (T : Tx P K mg) (D_gate_side : Dfn P w K mg base "gate_side" 2 3 f_gate_side) (F : FunD K "blames" "blames" (defArgs s_blames) (defBody s_blames) (defScope s_blames) [] [] f fd) (hm : mg "blames" = some (.ref f)) : Dfn P w K mg base "blames" 3 2 f_blames := by
  refine mkDfn F hm sc_blames rfl (fun _ _ _ _ _ _ us hl => match us, hl with | [_, _], _ => rfl) (fun cdv A outer s H E hr tk => ?_)
  have nd := sc_blames.nd
  have hu := hr.units
  have hu1 := hu65 hr
  exact (dss_cons (ds_set (i := 2) (ms := []) nd (do_lst da_nil count_nil (by decide)))
    (dss_cons (ds_for (ms := [0]) (passes_of rfl) rfl (DV.o (dv_var 0)) (dg_name (i := 3) nd) (dss_one (ds_append (i := 2) (ms := [1, 2, 3]) (do_fn D_gate_side tk hr (by decide) rfl (da_cons (dv_var 3) (da_cons (dv_var 2) (da_cons (dv_var 1) da_nil))) (count_cons (count_cons (count_cons count_nil)))))))
    (dss_one (ds_ret (DV.o (dv_ix (dv_var 2) (DO.v (do_bin od_sub (DO.v (do_callB cd_len rfl T.n_len (by decide +kernel) (da_cons (dv_var 2) da_nil))) dv_int)) (fun _ _ => rfl)))))))
abbrev s_law_number : Stmt := top 19
theorem sc_law_number : FnScope ["script", "k", "number"] ["script", "k"] (defScope s_law_number) := ⟨rfl, rfl, rfl, by decide +kernel, rfl, by decide +kernel, by decide +kernel⟩
theorem ok_law_number {f : Addr} {fd : FuncData} (T : Tx P K mg) (F : FunD K "_law_number" "_law_number" (defArgs s_law_number) (defBody s_law_number) (defScope s_law_number) [] [] f fd) (hm : mg "_law_number" = some (.ref f)) : Dfn P w K mg base "_law_number" 1 2 f_law_number := by
  refine mkDfn F hm sc_law_number rfl (fun _ _ _ _ _ _ us hl => match us, hl with | [_, _], _ => rfl) (fun cdv A outer s H E hr tk => ?_)
  have nd := sc_law_number.nd
  have hu := hr.units
  have hu1 := hu65 hr
  exact (dss_cons (ds_set (i := 2) (ms := [0, 1]) nd (do_bin od_add (DO.v (do_bin od_mul (DO.v (do_callB (cd_sum rfl) rfl T.n_sum (by decide +kernel) (da_cons (dv_var 0) da_nil))) dv_int)) (DO.v (do_bin od_mul dv_int (DO.v (do_bin od_add (dv_var 1) dv_int))))))
    (dss_cons (ds_if (dt_cmp ob_lt (dv_var 1) (DO.v (do_callB cd_len rfl T.n_len (by decide +kernel) (da_cons (dv_var 0) da_nil)))) (dss_one (ds_set (i := 2) (ms := [0, 1]) nd (DV.o (dv_ix (dv_var 0) (dv_var 1) (fun _ _ => rfl))))) dss_nil)
    (dss_one (ds_ret (do_callB cd_abs rfl T.n_abs (by decide +kernel) (da_cons (dv_var 2) da_nil))))))
abbrev s_law_draws : Stmt := top 20
theorem sc_law_draws : FnScope ["script", "k", "count", "many", "number", "found", "at", "mixed", "other"] ["script", "k", "count", "many"] (defScope s_law_draws) := ⟨rfl, rfl, rfl, by decide +kernel, rfl, by decide +kernel, by decide +kernel⟩
theorem ok_law_draws {f : Addr} {fd : FuncData} (T : Tx P K mg) (D_law_number : Dfn P w K mg base "_law_number" 1 2 f_law_number) (F : FunD K "_law_draws" "_law_draws" (defArgs s_law_draws) (defBody s_law_draws) (defScope s_law_draws) [] [] f fd) (hm : mg "_law_draws" = some (.ref f)) : Dfn P w K mg base "_law_draws" 2 4 f_law_draws := by
  refine mkDfn F hm sc_law_draws rfl (fun _ _ _ _ _ _ us hl => match us, hl with | [_, _, _, _], _ => rfl) (fun cdv A outer s H E hr tk => ?_)
  have nd := sc_law_draws.nd
  have hu := hr.units
  have hu1 := hu65 hr
  exact (dss_cons (ds_set (i := 4) (ms := [0, 1]) nd (do_fn D_law_number tk hr (by decide) rfl (da_cons (dv_var 0) (da_cons (dv_var 1) da_nil)) (count_cons (count_cons count_nil))))
    (dss_cons (ds_set (i := 5) (ms := []) nd (do_lst da_nil count_nil (by decide)))
    (dss_cons (ds_if (dt_cmp ob_ge (dv_var 4) (DO.v (do_bin od_pow dv_int dv_int))) (dss_cons (ds_set (i := 4) (ms := [4]) nd (do_bin od_sub (dv_var 4) (DO.v (do_bin od_pow dv_int dv_int))))
    (dss_cons (ds_forR (passes_of rfl) rfl (dr_range1 T.n_range (da_cons (dv_var 2) da_nil)) (dg_name (i := 6) nd) (dss_cons (ds_append (i := 5) (ms := [3, 4]) (do_bin od_mod (dv_var 4) (dv_var 3)))
    (dss_one (ds_set (i := 4) (ms := [3, 4]) nd (do_bin od_div (dv_var 4) (dv_var 3))))))
    (dss_one (ds_retV 5)))) dss_nil)
    (dss_cons (ds_set (i := 7) (ms := [4]) nd (do_bin od_add (DO.v (do_bin od_mod (dv_var 4) dv_int)) dv_int))
    (dss_cons (ds_forR (passes_of rfl) rfl (dr_range1 T.n_range (da_cons (dv_var 2) da_nil)) (dg_name (i := 6) nd) (dss_cons (ds_set (i := 7) (ms := [6, 7]) nd (do_bin od_mod (DO.v (do_bin od_add (DO.v (do_bin od_add (DO.v (do_bin od_mul (dv_var 7) dv_int)) (DO.v (do_bin od_mul dv_int (dv_var 6))))) dv_int)) dv_int))
    (dss_cons (ds_set (i := 8) (ms := [6, 7]) nd (do_bin od_mod (DO.v (do_bin od_add (DO.v (do_bin od_add (DO.v (do_bin od_mul (dv_var 7) (dv_var 7))) (DO.v (do_bin od_mul dv_int (dv_var 6))))) dv_int)) dv_int))
    (dss_one (ds_append (i := 5) (ms := [3, 8]) (do_bin od_mod (DO.v (do_bin od_div (dv_var 8) dv_int)) (dv_var 3)))))))
    (dss_one (ds_retV 5)))))))
abbrev s_law_place : Stmt := top 21
theorem sc_law_place : FnScope ["v"] ["v"] (defScope s_law_place) := ⟨rfl, rfl, rfl, by decide +kernel, rfl, by decide +kernel, by decide +kernel⟩
theorem ok_law_place {f : Addr} {fd : FuncData} (T : Tx P K mg) (F : FunD K "_law_place" "_law_place" (defArgs s_law_place) (defBody s_law_place) (defScope s_law_place) [] [] f fd) (hm : mg "_law_place" = some (.ref f)) : Dfn P w K mg base "_law_place" 1 1 f_law_place := by
  refine mkDfn F hm sc_law_place rfl (fun _ _ _ _ _ _ us hl => match us, hl with | [_], _ => rfl) (fun cdv A outer s H E hr tk => ?_)
  have nd := sc_law_place.nd
  have hu := hr.units
  have hu1 := hu65 hr
  exact (dss_one (ds_ret (DV.o (dv_ix (DO.v (do_lst (da_cons dv_int (da_cons dv_int (da_cons dv_int (da_cons dv_int (da_cons dv_int (da_cons dv_int (da_cons dv_int (da_cons dv_int (da_cons dv_int da_nil))))))))) (count_cons (count_cons (count_cons (count_cons (count_cons (count_cons (count_cons (count_cons (count_cons count_nil))))))))) (by decide))) (DO.v (do_bin od_sub (dv_var 0) dv_int)) (fun _ _ => rfl)))))
abbrev s_law_clause : Stmt := top 22
theorem sc_law_clause : FnScope ["n", "code", "clause", "v", "digit"] ["n", "code"] (defScope s_law_clause) := ⟨rfl, rfl, rfl, by decide +kernel, rfl, by decide +kernel, by decide +kernel⟩
theorem ok_law_clause {f : Addr} {fd : FuncData} (T : Tx P K mg) (D_law_place : Dfn P w K mg base "_law_place" 1 1 f_law_place) (F : FunD K "_law_clause" "_law_clause" (defArgs s_law_clause) (defBody s_law_clause) (defScope s_law_clause) [] [] f fd) (hm : mg "_law_clause" = some (.ref f)) : Dfn P w K mg base "_law_clause" 2 2 f_law_clause := by
  refine mkDfn F hm sc_law_clause rfl (fun _ _ _ _ _ _ us hl => match us, hl with | [_, _], _ => rfl) (fun cdv A outer s H E hr tk => ?_)
  have nd := sc_law_clause.nd
  have hu := hr.units
  have hu1 := hu65 hr
  exact (dss_cons (ds_set (i := 2) (ms := []) nd (do_lst da_nil count_nil (by decide)))
    (dss_cons (ds_forR (passes_of rfl) rfl (dr_range2 T.n_range (da_cons dv_int (da_cons (DO.v (do_bin od_add (dv_var 0) dv_int)) da_nil))) (dg_name (i := 3) nd) (dss_cons (ds_set (i := 4) (ms := [1, 3]) nd (do_bin od_mod (DO.v (do_bin od_div (dv_var 1) (DO.v (do_fn D_law_place tk hr (by decide) rfl (da_cons (dv_var 3) da_nil) (count_cons count_nil))))) dv_int))
    (dss_cons (ds_if (dt_cmp (ob_eq hu) (dv_var 4) dv_int) (dss_one (ds_append (i := 2) (ms := [3]) (do_bin od_sub dv_int (dv_var 3)))) dss_nil)
    (dss_one (ds_if (dt_cmp (ob_eq hu) (dv_var 4) dv_int) (dss_one (ds_append (i := 2) (ms := [3]) (DV.o (dv_var 3)))) dss_nil)))))
    (dss_one (ds_ret (do_callTy cd_tuple rfl T.n_tuple (by decide +kernel) (da_cons (dv_var 2) da_nil))))))
abbrev s_law_key : Stmt := top 23
theorem sc_law_key : FnScope ["clause", "x"] ["clause"] (defScope s_law_key) := ⟨rfl, rfl, rfl, by decide +kernel, rfl, by decide +kernel, by decide +kernel⟩
theorem ok_law_key {f : Addr} {fd : FuncData} (T : Tx P K mg) (F : FunD K "_law_key" "_law_key" (defArgs s_law_key) (defBody s_law_key) (defScope s_law_key) [] [] f fd) (hm : mg "_law_key" = some (.ref f)) : Dfn P w K mg base "_law_key" 1 1 f_law_key := by
  refine mkDfn F hm sc_law_key rfl (fun _ _ _ _ _ _ us hl => match us, hl with | [_], _ => rfl) (fun cdv A outer s H E hr tk => ?_)
  have nd := sc_law_key.nd
  have hu := hr.units
  have hu1 := hu65 hr
  exact (dss_one (ds_ret (DV.o (dv_tup (da_cons (DO.v (do_callB cd_len rfl T.n_len (by decide +kernel) (da_cons (dv_var 0) da_nil))) (da_cons (DO.v (do_lc0 1 rfl nd (di_seq (dv_var 0)) (blkOk_by rfl) (fun _ _ _ _ _ => pg_name (i := 1) nd rfl (Or.inl rfl)) (fun _ _ _ _ _ => (DO.v (do_bin od_add (DO.v (do_bin od_mul dv_int (DO.v (do_callB cd_abs rfl T.n_abs (by decide +kernel) (da_cons (dv_var 1) da_nil))))) (DO.v (do_callTy cd_int rfl T.n_int (by decide +kernel) (da_cons (dv_cmp ob_lt (dv_var 1) dv_int) da_nil)))))))) da_nil)) (count_cons (count_cons count_nil)) (by decide)))))
abbrev s_law_formula : Stmt := top 24
theorem sc_law_formula : FnScope ["n", "clauses", "found", "clause"] ["n", "clauses"] (defScope s_law_formula) := ⟨rfl, rfl, rfl, by decide +kernel, rfl, by decide +kernel, by decide +kernel⟩
theorem ok_law_formula {f : Addr} {fd : FuncData} (T : Tx P K mg) (D_law_key : Dfn P w K mg base "_law_key" 1 1 f_law_key) (F : FunD K "_law_formula" "_law_formula" (defArgs s_law_formula) (defBody s_law_formula) (defScope s_law_formula) [] [] f fd) (hm : mg "_law_formula" = some (.ref f)) : Dfn P w K mg base "_law_formula" 4 2 f_law_formula := by
  refine mkDfn F hm sc_law_formula rfl (fun _ _ _ _ _ _ us hl => match us, hl with | [_, _], _ => rfl) (fun cdv A outer s H E hr tk => ?_)
  have nd := sc_law_formula.nd
  have hu := hr.units
  have hu1 := hu65 hr
  exact (dss_cons (ds_set (i := 2) (ms := []) nd (do_lst da_nil count_nil (by decide)))
    (dss_cons (ds_for (ms := [1]) (passes_of rfl) rfl (do_sortedDef D_law_key hr (by decide) T.n_sorted (dv_var 1) rfl) (dg_name (i := 3) nd) (dss_one (ds_if (DW.t (dw_or (dt_cmp (ob_eq hu) (DO.v (do_callB cd_len rfl T.n_len (by decide +kernel) (da_cons (dv_var 2) da_nil))) dv_int) (dw_or1 (dt_cmp (ob_ne hu) (dv_ix (dv_var 2) (DO.v (do_bin od_sub (DO.v (do_callB cd_len rfl T.n_len (by decide +kernel) (da_cons (dv_var 2) da_nil))) dv_int)) (fun _ _ => rfl)) (dv_var 3))))) (dss_one (ds_append (i := 2) (ms := [3]) (DV.o (dv_var 3)))) dss_nil)))
    (dss_one (ds_ret (DV.o (dv_tup (da_cons (dv_var 0) (da_cons (DO.v (do_callTy cd_tuple rfl T.n_tuple (by decide +kernel) (da_cons (dv_var 2) da_nil))) da_nil)) (count_cons (count_cons count_nil)) (by decide)))))))
abbrev s_law_random : Stmt := top 25
theorem sc_law_random : FnScope ["script", "k", "n", "count", "codes", "clauses", "code"] ["script", "k", "n", "count"] (defScope s_law_random) := ⟨rfl, rfl, rfl, by decide +kernel, rfl, by decide +kernel, by decide +kernel⟩
theorem ok_law_random {f : Addr} {fd : FuncData} (T : Tx P K mg) (D_law_draws : Dfn P w K mg base "_law_draws" 2 4 f_law_draws) (D_law_place : Dfn P w K mg base "_law_place" 1 1 f_law_place) (D_law_clause : Dfn P w K mg base "_law_clause" 2 2 f_law_clause) (D_law_formula : Dfn P w K mg base "_law_formula" 4 2 f_law_formula) (F : FunD K "_law_random" "_law_random" (defArgs s_law_random) (defBody s_law_random) (defScope s_law_random) [] [] f fd) (hm : mg "_law_random" = some (.ref f)) : Dfn P w K mg base "_law_random" 5 4 f_law_random := by
  refine mkDfn F hm sc_law_random rfl (fun _ _ _ _ _ _ us hl => match us, hl with | [_, _, _, _], _ => rfl) (fun cdv A outer s H E hr tk => ?_)
  have nd := sc_law_random.nd
  have hu := hr.units
  have hu1 := hu65 hr
  exact (dss_cons (ds_set (i := 4) (ms := [0, 1, 2, 3]) nd (do_fn D_law_draws tk hr (by decide) rfl (da_cons (dv_var 0) (da_cons (dv_var 1) (da_cons (DO.v (do_bin od_add (dv_var 3) dv_int)) (da_cons (DO.v (do_fn D_law_place tk hr (by decide) rfl (da_cons (DO.v (do_bin od_add (dv_var 2) dv_int)) da_nil) (count_cons count_nil))) da_nil)))) (count_cons (count_cons (count_cons (count_cons count_nil))))))
    (dss_cons (ds_set (i := 5) (ms := []) nd (do_lst da_nil count_nil (by decide)))
    (dss_cons (ds_for (ms := [4]) (passes_of rfl) rfl (do_cut (dv_var 4) (dp_some dv_int) dp_none) (dg_name (i := 6) nd) (dss_one (ds_if (DW.t (dw_or (dt_cmp ob_gt (dv_var 6) dv_int) (dw_or (dt_cmp (ob_eq hu) (dv_var 2) dv_int) (dw_or1 (dt_cmp (ob_eq hu) (DO.v (do_bin od_mod (dv_ix (dv_var 4) dv_int (fun _ _ => rfl)) dv_int)) dv_int))))) (dss_one (ds_append (i := 5) (ms := [2, 6]) (do_fn D_law_clause tk hr (by decide) rfl (da_cons (dv_var 2) (da_cons (dv_var 6) da_nil)) (count_cons (count_cons count_nil))))) dss_nil)))
    (dss_one (ds_ret (do_fn D_law_formula tk hr (by decide) rfl (da_cons (dv_var 2) (da_cons (dv_var 5) da_nil)) (count_cons (count_cons count_nil))))))))
abbrev s_law_same : Stmt := top 26
theorem sc_law_same : FnScope ["told", "due", "k"] ["told", "due"] (defScope s_law_same) := ⟨rfl, rfl, rfl, by decide +kernel, rfl, by decide +kernel, by decide +kernel⟩
theorem ok_law_same {f : Addr} {fd : FuncData} (T : Tx P K mg) (F : FunD K "_law_same" "_law_same" (defArgs s_law_same) (defBody s_law_same) (defScope s_law_same) [] [] f fd) (hm : mg "_law_same" = some (.ref f)) : ∀ k, Dfn P w K mg base "_law_same" k 2 (f_law_same_ k)
  | 0 => dfn_never F hm (ps := ["told", "due"]) rfl (fun _ _ _ _ _ _ us hl => match us, hl with | [_, _], _ => rfl)
  | k + 1 => by
    have D_law_same := ok_law_same T F hm k
    refine mkDfn F hm sc_law_same rfl (fun _ _ _ _ _ _ us hl => match us, hl with | [_, _], _ => rfl) (fun cdv A outer s H E hr tk => ?_)
    have nd := sc_law_same.nd
    have hu := hr.units
    have hu1 := hu65 hr
    exact (dss_cons (ds_if (DW.t (dw_or (dt_val (dv_isi (T := "bool") (dv_var 1) rfl T.n_isinstance (by decide +kernel) rfl T.n_bool (by decide +kernel) (isi_ok (by decide +kernel)))) (dw_or1 (dt_val (dv_isi (T := "bool") (dv_var 0) rfl T.n_isinstance (by decide +kernel) rfl T.n_bool (by decide +kernel) (isi_ok (by decide +kernel))))))) (dss_one (ds_ret (DV.o (dv_and (dv_isi (T := "bool") (dv_var 1) rfl T.n_isinstance (by decide +kernel) rfl T.n_bool (by decide +kernel) (isi_ok (by decide +kernel))) (dv_and (dv_isi (T := "bool") (dv_var 0) rfl T.n_isinstance (by decide +kernel) rfl T.n_bool (by decide +kernel) (isi_ok (by decide +kernel))) (dv_one (dv_cmp (ob_eq hu) (dv_var 0) (dv_var 1)))))))) dss_nil)
    (dss_cons (ds_if (DW.t (dw_or (dt_cmp ob_is (dv_var 1) dv_non) (dw_or1 (dt_val (dv_isi (T := "int") (dv_var 1) rfl T.n_isinstance (by decide +kernel) rfl T.n_int (by decide +kernel) (isi_ok (by decide +kernel))))))) (dss_one (ds_ret (DV.o (dv_and (dv_cmp (ob_eq hu) (dv_var 0) (dv_var 1)) (dv_one (dv_or (dv_cmp ob_is (dv_var 1) dv_non) (dv_one (dv_isi (T := "int") (dv_var 0) rfl T.n_isinstance (by decide +kernel) rfl T.n_int (by decide +kernel) (isi_ok (by decide +kernel)))))))))) dss_nil)
    (dss_cons (ds_if (dt_val (dv_isi (T := "str") (dv_var 1) rfl T.n_isinstance (by decide +kernel) rfl T.n_str (by decide +kernel) (isi_ok (by decide +kernel)))) (dss_one (ds_ret (DV.o (dv_and (dv_isi (T := "str") (dv_var 0) rfl T.n_isinstance (by decide +kernel) rfl T.n_str (by decide +kernel) (isi_ok (by decide +kernel))) (dv_one (dv_cmp (ob_eq hu) (dv_var 0) (dv_var 1))))))) dss_nil)
    (dss_cons (ds_if (DW.t (dw_or (dt_cmp (ob_ne hu) (dv_isi (T := "list") (dv_var 1) rfl T.n_isinstance (by decide +kernel) rfl T.n_list (by decide +kernel) (isi_ok (by decide +kernel))) (dv_isi (T := "list") (dv_var 0) rfl T.n_isinstance (by decide +kernel) rfl T.n_list (by decide +kernel) (isi_ok (by decide +kernel)))) (dw_or1 (dt_cmp (ob_ne hu) (dv_isi (T := "tuple") (dv_var 1) rfl T.n_isinstance (by decide +kernel) rfl T.n_tuple (by decide +kernel) (isi_ok (by decide +kernel))) (dv_isi (T := "tuple") (dv_var 0) rfl T.n_isinstance (by decide +kernel) rfl T.n_tuple (by decide +kernel) (isi_ok (by decide +kernel))))))) (dss_one (ds_ret (DV.o dv_bl))) dss_nil)
    (dss_cons (ds_if (dt_cmp (ob_ne hu) (DO.v (do_callB cd_len rfl T.n_len (by decide +kernel) (da_cons (dv_var 0) da_nil))) (DO.v (do_callB cd_len rfl T.n_len (by decide +kernel) (da_cons (dv_var 1) da_nil)))) (dss_one (ds_ret (DV.o dv_bl))) dss_nil)
    (dss_cons (ds_forR (passes_of rfl) rfl (dr_range1 T.n_range (da_cons (DO.v (do_callB cd_len rfl T.n_len (by decide +kernel) (da_cons (dv_var 1) da_nil))) da_nil)) (dg_name (i := 2) nd) (dss_one (ds_if (dt_not (dt_val (DO.v (do_fn D_law_same tk hr (Nat.le_refl _) rfl (da_cons (dv_ix (dv_var 0) (dv_var 2) (fun _ _ => rfl)) (da_cons (dv_ix (dv_var 1) (dv_var 2) (fun _ _ => rfl)) da_nil)) (count_cons (count_cons count_nil)))))) (dss_one (ds_ret (DV.o dv_bl))) dss_nil)))
    (dss_one (ds_ret (DV.o dv_bl)))))))))
theorem ok_law_sameP {f : Addr} {fd : FuncData} (T : Tx P K mg) (F : FunD K "_law_same" "_law_same" (defArgs s_law_same) (defBody s_law_same) (defScope s_law_same) [] [] f fd) (hm : mg "_law_same" = some (.ref f)) : DfnP P w K mg base "_law_same" 1 2 f_law_sameP := by
  refine mkDfnP F hm sc_law_same rfl (fun _ _ _ _ _ _ us hl => match us, hl with | [_, _], _ => rfl) (fun cdv A outer s H E p hr tk => ?_)
  have nd := sc_law_same.nd
  have hu := hu64P hr
  have hu1 := hu65P hr
  exact (dss_cons (ds_if (DW.t (dw_or (dt_val (dv_isi (T := "bool") (dv_var 1) rfl T.n_isinstance (by decide +kernel) rfl T.n_bool (by decide +kernel) (isi_ok (by decide +kernel)))) (dw_or1 (dt_val (dv_isi (T := "bool") (dv_var 0) rfl T.n_isinstance (by decide +kernel) rfl T.n_bool (by decide +kernel) (isi_ok (by decide +kernel))))))) (dss_one (ds_ret (DV.o (dv_and (dv_isi (T := "bool") (dv_var 1) rfl T.n_isinstance (by decide +kernel) rfl T.n_bool (by decide +kernel) (isi_ok (by decide +kernel))) (dv_and (dv_isi (T := "bool") (dv_var 0) rfl T.n_isinstance (by decide +kernel) rfl T.n_bool (by decide +kernel) (isi_ok (by decide +kernel))) (dv_one (dv_cmp (ob_eq hu) (dv_var 0) (dv_var 1)))))))) dss_nil)
    (dss_cons (ds_if (DW.t (dw_or (dt_cmp ob_is (dv_var 1) dv_non) (dw_or1 (dt_val (dv_isi (T := "int") (dv_var 1) rfl T.n_isinstance (by decide +kernel) rfl T.n_int (by decide +kernel) (isi_ok (by decide +kernel))))))) (dss_one (ds_ret (DV.o (dv_and (dv_cmp (ob_eq hu) (dv_var 0) (dv_var 1)) (dv_one (dv_or (dv_cmp ob_is (dv_var 1) dv_non) (dv_one (dv_isi (T := "int") (dv_var 0) rfl T.n_isinstance (by decide +kernel) rfl T.n_int (by decide +kernel) (isi_ok (by decide +kernel)))))))))) dss_nil)
    (dss_cons (ds_if (dt_val (dv_isi (T := "str") (dv_var 1) rfl T.n_isinstance (by decide +kernel) rfl T.n_str (by decide +kernel) (isi_ok (by decide +kernel)))) (dss_one (ds_ret (DV.o (dv_and (dv_isi (T := "str") (dv_var 0) rfl T.n_isinstance (by decide +kernel) rfl T.n_str (by decide +kernel) (isi_ok (by decide +kernel))) (dv_one (dv_cmp (ob_eq hu) (dv_var 0) (dv_var 1))))))) dss_nil)
    dss_never)))
def b_law_says : DEnv → SO :=
    (seqS (dSet 2 [] (dLst dNil))
    (seqS (dFor [0] (dO (dVar 0)) (sName 3) (seqS (dSet 4 [3] (dO (dIx (dVar 3) (dC (.int 0)))))
    (seqS (dIfS (dCmp opEq (dIx (dVar 3) (dC (.int 0))) (dC (.str "any_left"))) (dSet 4 [2, 3] (dO (dIx (dV (dLst (dCons (dC (.str "right")) (dCons (dC (.str "left")) dNil)))) (dV (dApp (bi1 biInt) (dCons (dBl (dCmp opIn (dC (.str "left")) (dTup (dCons (dIx (dVar 2) (dIx (dVar 3) (dC (.int 1)))) (dCons (dIx (dVar 2) (dIx (dVar 3) (dC (.int 2)))) dNil))))) dNil)))))) dNx)
    (seqS (dIfS (dCmp opEq (dIx (dVar 3) (dC (.int 0))) (dC (.str "any_right"))) (dSet 4 [2, 3] (dO (dIx (dV (dLst (dCons (dC (.str "left")) (dCons (dC (.str "right")) dNil)))) (dV (dApp (bi1 biInt) (dCons (dBl (dCmp opIn (dC (.str "right")) (dTup (dCons (dIx (dVar 2) (dIx (dVar 3) (dC (.int 1)))) (dCons (dIx (dVar 2) (dIx (dVar 3) (dC (.int 2)))) dNil))))) dNil)))))) dNx)
    (seqS (dIfS (dCmp opEq (dIx (dVar 3) (dC (.int 0))) (dC (.str "if"))) (dSet 4 [1, 2, 3] (dO (dIx (dVar 2) (dIx (dVar 3) (dV (dBin opSub (dC (.int 3)) (dV (dBin opAnd (dV (dBin opShr (dVar 1) (dV (dBin opSub (dIx (dVar 3) (dC (.int 1))) (dC (.int 1)))))) (dC (.int 1)))))))))) dNx)
    (seqS (dIfS (dCmp opEq (dIx (dVar 3) (dC (.int 0))) (dC (.str "same"))) (dSet 4 [2, 3] (dO (dIx (dVar 2) (dIx (dVar 3) (dC (.int 1)))))) dNx)
    (dAppend 2 [4] (dO (dVar 4)))))))))
    (dRet (dO (dIx (dVar 2) (dV (dBin opSub (dV (dApp biLen (dCons (dVar 2) dNil))) (dC (.int 1)))))))))
def f_law_says : List PyData → R O := runD 5 b_law_says
abbrev s_law_says : Stmt := top 27
theorem sc_law_says : FnScope ["gates", "mask", "sides", "gate", "told"] ["gates", "mask"] (defScope s_law_says) := ⟨rfl, rfl, rfl, by decide +kernel, rfl, by decide +kernel, by decide +kernel⟩
theorem ok_law_says {f : Addr} {fd : FuncData} (T : Tx P K mg) (F : FunD K "_law_says" "_law_says" (defArgs s_law_says) (defBody s_law_says) (defScope s_law_says) [] [] f fd) (hm : mg "_law_says" = some (.ref f)) : Dfn P w K mg base "_law_says" 1 2 f_law_says := by
  refine mkDfn F hm sc_law_says rfl (fun _ _ _ _ _ _ us hl => match us, hl with | [_, _], _ => rfl) (fun cdv A outer s H E hr tk => ?_)
  have nd := sc_law_says.nd
  have hu := hr.units
  have hu1 := hu65 hr
  exact (dss_cons (ds_set (i := 2) (ms := []) nd (do_lst da_nil count_nil (by decide)))
    (dss_cons (ds_for (ms := [0]) (passes_of rfl) rfl (DV.o (dv_var 0)) (dg_name (i := 3) nd) (dss_cons (ds_set (i := 4) (ms := [3]) nd (DV.o (dv_ix (dv_var 3) dv_int (fun _ _ => rfl))))
    (dss_cons (ds_if (dt_cmp (ob_eq hu) (dv_ix (dv_var 3) dv_int (fun _ _ => rfl)) dv_str) (dss_one (ds_set (i := 4) (ms := [2, 3]) nd (DV.o (dv_ix (DO.v (do_lst (da_cons dv_str (da_cons dv_str da_nil)) (count_cons (count_cons count_nil)) (by decide))) (DO.v (do_callTy cd_int rfl T.n_int (by decide +kernel) (da_cons (dv_cmp (ob_in hu1) dv_str (dv_tup (da_cons (dv_ix (dv_var 2) (dv_ix (dv_var 3) dv_int (fun _ _ => rfl)) (fun _ _ => rfl)) (da_cons (dv_ix (dv_var 2) (dv_ix (dv_var 3) dv_int (fun _ _ => rfl)) (fun _ _ => rfl)) da_nil)) (count_cons (count_cons count_nil)) (by decide)) rfl) da_nil))) (fun _ _ => rfl))))) dss_nil)
    (dss_cons (ds_if (dt_cmp (ob_eq hu) (dv_ix (dv_var 3) dv_int (fun _ _ => rfl)) dv_str) (dss_one (ds_set (i := 4) (ms := [2, 3]) nd (DV.o (dv_ix (DO.v (do_lst (da_cons dv_str (da_cons dv_str da_nil)) (count_cons (count_cons count_nil)) (by decide))) (DO.v (do_callTy cd_int rfl T.n_int (by decide +kernel) (da_cons (dv_cmp (ob_in hu1) dv_str (dv_tup (da_cons (dv_ix (dv_var 2) (dv_ix (dv_var 3) dv_int (fun _ _ => rfl)) (fun _ _ => rfl)) (da_cons (dv_ix (dv_var 2) (dv_ix (dv_var 3) dv_int (fun _ _ => rfl)) (fun _ _ => rfl)) da_nil)) (count_cons (count_cons count_nil)) (by decide)) rfl) da_nil))) (fun _ _ => rfl))))) dss_nil)
    (dss_cons (ds_if (dt_cmp (ob_eq hu) (dv_ix (dv_var 3) dv_int (fun _ _ => rfl)) dv_str) (dss_one (ds_set (i := 4) (ms := [1, 2, 3]) nd (DV.o (dv_ix (dv_var 2) (dv_ix (dv_var 3) (DO.v (do_bin od_sub dv_int (DO.v (do_bin od_and (DO.v (do_bin od_shr (dv_var 1) (DO.v (do_bin od_sub (dv_ix (dv_var 3) dv_int (fun _ _ => rfl)) dv_int)))) dv_int)))) (fun _ _ => rfl)) (fun _ _ => rfl))))) dss_nil)
    (dss_cons (ds_if (dt_cmp (ob_eq hu) (dv_ix (dv_var 3) dv_int (fun _ _ => rfl)) dv_str) (dss_one (ds_set (i := 4) (ms := [2, 3]) nd (DV.o (dv_ix (dv_var 2) (dv_ix (dv_var 3) dv_int (fun _ _ => rfl)) (fun _ _ => rfl))))) dss_nil)
    (dss_one (ds_append (i := 2) (ms := [4]) (DV.o (dv_var 4))))))))))
    (dss_one (ds_ret (DV.o (dv_ix (dv_var 2) (DO.v (do_bin od_sub (DO.v (do_callB cd_len rfl T.n_len (by decide +kernel) (da_cons (dv_var 2) da_nil))) dv_int)) (fun _ _ => rfl)))))))
def b_law_gates : DEnv → SO :=
    (seqS (dSet 2 [] (dLst dNil))
    (seqS (dForR (dRngI rng1 (dCons (dV (dApp biLen (dCons (dVar 1) dNil))) dNil)) (sName 3) (seqS (dSet 4 [1, 3] (dBin opDiv (dIx (dVar 1) (dVar 3)) (dC (.int 64))))
    (seqS (dSet 5 [3, 4] (dO (dTup (dCons (dV (dBin opMod (dVar 4) (dV (dApp (bi2 biMax) (dCons (dC (.int 1)) (dCons (dVar 3) dNil)))))) (dCons (dV (dBin opMod (dV (dBin opDiv (dVar 4) (dC (.int 32)))) (dV (dApp (bi2 biMax) (dCons (dC (.int 1)) (dCons (dVar 3) dNil)))))) dNil)))))
    (seqS (dSet 6 [1, 3] (dBin opMod (dV (dBin opMod (dIx (dVar 1) (dVar 3)) (dC (.int 64)))) (dC (.int 8))))
    (seqS (dIfS (dCmp opEq (dVar 3) (dC (.int 0))) (dSet 6 [6] (dBin opMod (dVar 6) (dC (.int 2)))) dNx)
    (seqS (dIfS (dAnd (dCmp opEq (dVar 0) (dC (.int 0))) (dCmp opGt (dVar 6) (dC (.int 5)))) (dSet 6 [] (dO (dC (.int 5)))) dNx)
    (dIfS (dCmp opLt (dVar 6) (dC (.int 2))) (dAppend 2 [6] (dO (dTup (dCons (dIx (dV (dLst (dCons (dC (.str "left")) (dCons (dC (.str "right")) dNil)))) (dVar 6)) dNil)))) (dIfS (dCmp opLt (dVar 6) (dC (.int 4))) (dAppend 2 [5, 6] (dO (dTup (dCons (dIx (dV (dLst (dCons (dC (.str "any_left")) (dCons (dC (.str "any_right")) dNil)))) (dV (dBin opSub (dVar 6) (dC (.int 2))))) (dCons (dIx (dVar 5) (dC (.int 0))) (dCons (dIx (dVar 5) (dC (.int 1))) dNil)))))) (dIfS (dCmp opEq (dVar 6) (dC (.int 5))) (dAppend 2 [5] (dO (dTup (dCons (dC (.str "same")) (dCons (dIx (dVar 5) (dC (.int 0))) dNil))))) (dIfS (dCmp opEq (dVar 6) (dC (.int 4))) (dAppend 2 [4, 5] (dO (dTup (dCons (dIx (dV (dLst (dCons (dC (.str "any_right")) (dCons (dC (.str "any_left")) dNil)))) (dV (dBin opMod (dV (dBin opDiv (dVar 4) (dC (.int 1024)))) (dC (.int 2))))) (dCons (dIx (dVar 5) (dC (.int 1))) (dCons (dIx (dVar 5) (dC (.int 0))) dNil)))))) (dAppend 2 [0, 4, 5] (dO (dTup (dCons (dC (.str "if")) (dCons (dV (dBin opAdd (dC (.int 1)) (dV (dBin opMod (dV (dBin opDiv (dVar 4) (dC (.int 1024)))) (dVar 0))))) (dCons (dIx (dVar 5) (dC (.int 0))) (dCons (dIx (dVar 5) (dC (.int 1))) dNil)))))))))))))))))
    (dRetV 2)))
def f_law_gates : List PyData → R O := runD 7 b_law_gates
abbrev s_law_gates : Stmt := top 28
theorem sc_law_gates : FnScope ["n", "draws", "gates", "at", "draw", "pair", "kind"] ["n", "draws"] (defScope s_law_gates) := ⟨rfl, rfl, rfl, by decide +kernel, rfl, by decide +kernel, by decide +kernel⟩
theorem ok_law_gates {f : Addr} {fd : FuncData} (T : Tx P K mg) (F : FunD K "_law_gates" "_law_gates" (defArgs s_law_gates) (defBody s_law_gates) (defScope s_law_gates) [] [] f fd) (hm : mg "_law_gates" = some (.ref f)) : Dfn P w K mg base "_law_gates" 1 2 f_law_gates := by
  refine mkDfn F hm sc_law_gates rfl (fun _ _ _ _ _ _ us hl => match us, hl with | [_, _], _ => rfl) (fun cdv A outer s H E hr tk => ?_)
  have nd := sc_law_gates.nd
  have hu := hr.units
  have hu1 := hu65 hr
  exact (dss_cons (ds_set (i := 2) (ms := []) nd (do_lst da_nil count_nil (by decide)))
    (dss_cons (ds_forR (passes_of rfl) rfl (dr_range1 T.n_range (da_cons (DO.v (do_callB cd_len rfl T.n_len (by decide +kernel) (da_cons (dv_var 1) da_nil))) da_nil)) (dg_name (i := 3) nd) (dss_cons (ds_set (i := 4) (ms := [1, 3]) nd (do_bin od_div (dv_ix (dv_var 1) (dv_var 3) (fun _ _ => rfl)) dv_int))
    (dss_cons (ds_set (i := 5) (ms := [3, 4]) nd (DV.o (dv_tup (da_cons (DO.v (do_bin od_mod (dv_var 4) (DO.v (do_callB (cd_max2 rfl) rfl T.n_max (by decide +kernel) (da_cons dv_int (da_cons (dv_var 3) da_nil)))))) (da_cons (DO.v (do_bin od_mod (DO.v (do_bin od_div (dv_var 4) dv_int)) (DO.v (do_callB (cd_max2 rfl) rfl T.n_max (by decide +kernel) (da_cons dv_int (da_cons (dv_var 3) da_nil)))))) da_nil)) (count_cons (count_cons count_nil)) (by decide))))
    (dss_cons (ds_set (i := 6) (ms := [1, 3]) nd (do_bin od_mod (DO.v (do_bin od_mod (dv_ix (dv_var 1) (dv_var 3) (fun _ _ => rfl)) dv_int)) dv_int))
    (dss_cons (ds_if (dt_cmp (ob_eq hu) (dv_var 3) dv_int) (dss_one (ds_set (i := 6) (ms := [6]) nd (do_bin od_mod (dv_var 6) dv_int))) dss_nil)
    (dss_cons (ds_if (DW.t (dw_and (dt_cmp (ob_eq hu) (dv_var 0) dv_int) (dw_and1 (dt_cmp ob_gt (dv_var 6) dv_int)))) (dss_one (ds_set (i := 6) (ms := []) nd (DV.o dv_int))) dss_nil)
    (dss_one (ds_if (dt_cmp ob_lt (dv_var 6) dv_int) (dss_one (ds_append (i := 2) (ms := [6]) (DV.o (dv_tup (da_cons (dv_ix (DO.v (do_lst (da_cons dv_str (da_cons dv_str da_nil)) (count_cons (count_cons count_nil)) (by decide))) (dv_var 6) (fun _ _ => rfl)) da_nil) (count_cons count_nil) (by decide))))) (dss_one (ds_if (dt_cmp ob_lt (dv_var 6) dv_int) (dss_one (ds_append (i := 2) (ms := [5, 6]) (DV.o (dv_tup (da_cons (dv_ix (DO.v (do_lst (da_cons dv_str (da_cons dv_str da_nil)) (count_cons (count_cons count_nil)) (by decide))) (DO.v (do_bin od_sub (dv_var 6) dv_int)) (fun _ _ => rfl)) (da_cons (dv_ix (dv_var 5) dv_int (fun _ _ => rfl)) (da_cons (dv_ix (dv_var 5) dv_int (fun _ _ => rfl)) da_nil))) (count_cons (count_cons (count_cons count_nil))) (by decide))))) (dss_one (ds_if (dt_cmp (ob_eq hu) (dv_var 6) dv_int) (dss_one (ds_append (i := 2) (ms := [5]) (DV.o (dv_tup (da_cons dv_str (da_cons (dv_ix (dv_var 5) dv_int (fun _ _ => rfl)) da_nil)) (count_cons (count_cons count_nil)) (by decide))))) (dss_one (ds_if (dt_cmp (ob_eq hu) (dv_var 6) dv_int) (dss_one (ds_append (i := 2) (ms := [4, 5]) (DV.o (dv_tup (da_cons (dv_ix (DO.v (do_lst (da_cons dv_str (da_cons dv_str da_nil)) (count_cons (count_cons count_nil)) (by decide))) (DO.v (do_bin od_mod (DO.v (do_bin od_div (dv_var 4) dv_int)) dv_int)) (fun _ _ => rfl)) (da_cons (dv_ix (dv_var 5) dv_int (fun _ _ => rfl)) (da_cons (dv_ix (dv_var 5) dv_int (fun _ _ => rfl)) da_nil))) (count_cons (count_cons (count_cons count_nil))) (by decide))))) (dss_one (ds_append (i := 2) (ms := [0, 4, 5]) (DV.o (dv_tup (da_cons dv_str (da_cons (DO.v (do_bin od_add dv_int (DO.v (do_bin od_mod (DO.v (do_bin od_div (dv_var 4) dv_int)) (dv_var 0))))) (da_cons (dv_ix (dv_var 5) dv_int (fun _ _ => rfl)) (da_cons (dv_ix (dv_var 5) dv_int (fun _ _ => rfl)) da_nil)))) (count_cons (count_cons (count_cons (count_cons count_nil)))) (by decide)))))))))))))))))))
    (dss_one (ds_retV 2))))
def b_law_great : DEnv → SO :=
    (seqS (dSet 1 [0] (dO (dIx (dV (dLst (dCons (dC (.int 300)) (dCons (dC (.int 301)) (dCons (dC (.int 299)) (dCons (dC (.int 300)) (dCons (dC (.int 301)) (dCons (dV (dBin opAdd (dC (.int 298)) (dV (dBin opMod (dV (dBin opDiv (dIx (dVar 0) (dC (.int 0))) (dC (.int 8)))) (dC (.int 33)))))) dNil)))))))) (dV (dBin opMod (dIx (dVar 0) (dC (.int 0))) (dC (.int 6)))))))
    (seqS (dSet 2 [0, 1] (dBin opAdd (dV (dApp (bi2 biMax) (dCons (dC (.int 1)) (dCons (dV (dBin opSub (dVar 1) (dC (.int 299)))) dNil)))) (dV (dBin opMod (dIx (dVar 0) (dC (.int 1))) (dC (.int 90))))))
    (seqS (dSet 3 [0, 2, 5] (dComp 5 (dRngI rng2 (dCons (dC (.int 1)) (dCons (dV (dBin opAdd (dVar 2) (dV (dBin opMod (dIx (dVar 0) (dC (.int 2))) (dC (.int 50)))))) dNil))) dYes (dV (dApp f_law_clause (dCons (dC (.int 8)) (dCons (dVar 5) dNil))))))
    (seqS (dSet 4 [1, 2, 5] (dComp 5 (dRngI rng2 (dCons (dVar 2) (dCons (dV (dBin opAdd (dVar 1) (dC (.int 1)))) dNil))) dYes (dV (dApp f_law_clause (dCons (dC (.int 8)) (dCons (dVar 5) dNil))))))
    (seqS (dIfS (dCmp opEq (dV (dBin opMod (dIx (dVar 0) (dC (.int 3))) (dC (.int 2)))) (dC (.int 0))) (dRet (dLst (dCons (dV (dApp f_law_formula (dCons (dC (.int 8)) (dCons (dVar 3) dNil)))) (dCons (dV (dApp f_law_formula (dCons (dC (.int 8)) (dCons (dVar 4) dNil)))) (dCons (dVar 1) dNil))))) dNx)
    (dRet (dLst (dCons (dV (dApp f_law_formula (dCons (dC (.int 8)) (dCons (dVar 4) dNil)))) (dCons (dV (dApp f_law_formula (dCons (dC (.int 8)) (dCons (dVar 3) dNil)))) (dCons (dVar 1) dNil))))))))))
def f_law_great : List PyData → R O := runD 6 b_law_great
abbrev s_law_great : Stmt := top 29
theorem sc_law_great : FnScope ["draws", "count", "start", "first", "second", "code"] ["draws"] (defScope s_law_great) := ⟨rfl, rfl, rfl, by decide +kernel, rfl, by decide +kernel, by decide +kernel⟩
theorem ok_law_great {f : Addr} {fd : FuncData} (T : Tx P K mg) (D_law_clause : Dfn P w K mg base "_law_clause" 2 2 f_law_clause) (D_law_formula : Dfn P w K mg base "_law_formula" 4 2 f_law_formula) (F : FunD K "_law_great" "_law_great" (defArgs s_law_great) (defBody s_law_great) (defScope s_law_great) [] [] f fd) (hm : mg "_law_great" = some (.ref f)) : Dfn P w K mg base "_law_great" 5 1 f_law_great := by
  refine mkDfn F hm sc_law_great rfl (fun _ _ _ _ _ _ us hl => match us, hl with | [_], _ => rfl) (fun cdv A outer s H E hr tk => ?_)
  have nd := sc_law_great.nd
  have hu := hr.units
  have hu1 := hu65 hr
  exact (dss_cons (ds_set (i := 1) (ms := [0]) nd (DV.o (dv_ix (DO.v (do_lst (da_cons dv_int (da_cons dv_int (da_cons dv_int (da_cons dv_int (da_cons dv_int (da_cons (DO.v (do_bin od_add dv_int (DO.v (do_bin od_mod (DO.v (do_bin od_div (dv_ix (dv_var 0) dv_int (fun _ _ => rfl)) dv_int)) dv_int)))) da_nil)))))) (count_cons (count_cons (count_cons (count_cons (count_cons (count_cons count_nil)))))) (by decide))) (DO.v (do_bin od_mod (dv_ix (dv_var 0) dv_int (fun _ _ => rfl)) dv_int)) (fun _ _ => rfl))))
    (dss_cons (ds_set (i := 2) (ms := [0, 1]) nd (do_bin od_add (DO.v (do_callB (cd_max2 rfl) rfl T.n_max (by decide +kernel) (da_cons dv_int (da_cons (DO.v (do_bin od_sub (dv_var 1) dv_int)) da_nil)))) (DO.v (do_bin od_mod (dv_ix (dv_var 0) dv_int (fun _ _ => rfl)) dv_int))))
    (dss_cons (ds_setLc0 (j := 3) 5 (ms := [0, 2, 5]) rfl nd rfl rfl (sw_true rfl rfl rfl (by decide +kernel)) (DR.i (dr_range2 T.n_range (da_cons dv_int (da_cons (DO.v (do_bin od_add (dv_var 2) (DO.v (do_bin od_mod (dv_ix (dv_var 0) dv_int (fun _ _ => rfl)) dv_int)))) da_nil)))) (blkOk_by rfl) (fun _ _ _ _ _ => pg_name (i := 5) nd rfl (Or.inl rfl)) (fun _ _ _ _ _ => (DO.v (do_fn D_law_clause takesF hr (by decide) rfl (da_cons dv_int (da_cons (dv_var 5) da_nil)) (count_cons (count_cons count_nil))))))
    (dss_cons (ds_setLc0 (j := 4) 5 (ms := [1, 2, 5]) rfl nd rfl rfl (sw_true rfl rfl rfl (by decide +kernel)) (DR.i (dr_range2 T.n_range (da_cons (dv_var 2) (da_cons (DO.v (do_bin od_add (dv_var 1) dv_int)) da_nil)))) (blkOk_by rfl) (fun _ _ _ _ _ => pg_name (i := 5) nd rfl (Or.inl rfl)) (fun _ _ _ _ _ => (DO.v (do_fn D_law_clause takesF hr (by decide) rfl (da_cons dv_int (da_cons (dv_var 5) da_nil)) (count_cons (count_cons count_nil))))))
    (dss_cons (ds_if (dt_cmp (ob_eq hu) (DO.v (do_bin od_mod (dv_ix (dv_var 0) dv_int (fun _ _ => rfl)) dv_int)) dv_int) (dss_one (ds_ret (do_lst (da_cons (DO.v (do_fn D_law_formula tk hr (by decide) rfl (da_cons dv_int (da_cons (dv_var 3) da_nil)) (count_cons (count_cons count_nil)))) (da_cons (DO.v (do_fn D_law_formula tk hr (by decide) rfl (da_cons dv_int (da_cons (dv_var 4) da_nil)) (count_cons (count_cons count_nil)))) (da_cons (dv_var 1) da_nil))) (count_cons (count_cons (count_cons count_nil))) (by decide)))) dss_nil)
    (dss_one (ds_ret (do_lst (da_cons (DO.v (do_fn D_law_formula tk hr (by decide) rfl (da_cons dv_int (da_cons (dv_var 4) da_nil)) (count_cons (count_cons count_nil)))) (da_cons (DO.v (do_fn D_law_formula tk hr (by decide) rfl (da_cons dv_int (da_cons (dv_var 3) da_nil)) (count_cons (count_cons count_nil)))) (da_cons (dv_var 1) da_nil))) (count_cons (count_cons (count_cons count_nil))) (by decide)))))))))
def b_law_union_ok : DEnv → SO :=
    (seqS (dTry (tblF [("TooManyClauses", true)]) 4 (dSet 3 [0, 1] (dApp f_union (dCons (dVar 0) (dCons (dVar 1) dNil))))
    (seqS (dIfS (dOr (dIsTrue (dIsX 4 (tblF [("TooManyClauses", false)]))) (dOr (dIsTrue (dIsX 4 (tblF [("TooManyClauses", false)]))) (dIsTrue (dIsX 4 (tblF [("TooManyClauses", false)]))))) (dRet (dO (dC (.bool false)))) dNx)
    (dRet (dO (dAndV (dIsTrue (dBl (dCmp opGt (dVar 2) (dC (.int 300))))) (dAndV (dIsTrue (dV (dApp f_law_sameP (dCons (dFld 4 "count" (tblM ["TooManyClauses"])) (dCons (dVar 2) dNil))))) (dAndV (dIsTrue (dIsX 4 (tblF [("TooManyClauses", true)]))) (dIsX 4 (tblF [("TooManyClauses", true)])))))))))
    (dRet (dO (dAndV (dIsTrue (dBl (dCmp opLe (dVar 2) (dC (.int 300))))) (dV (dApp f_law_same (dCons (dVar 3) (dCons (dV (dApp f_law_formula (dCons (dIx (dVar 0) (dC (.int 0))) (dCons (dV (dBin opAdd (dV (dApp (bi1 biList) (dCons (dIx (dVar 0) (dC (.int 1))) dNil))) (dV (dApp (bi1 biList) (dCons (dIx (dVar 1) (dC (.int 1))) dNil))))) dNil)))) dNil))))))))
def f_law_union_ok : List PyData → R O := runD 5 b_law_union_ok
abbrev s_law_union_ok : Stmt := top 30
theorem sc_law_union_ok : FnScope ["left", "right", "count", "told", "e"] ["left", "right", "count"] (defScope s_law_union_ok) := ⟨rfl, rfl, rfl, by decide +kernel, rfl, by decide +kernel, by decide +kernel⟩
theorem ok_law_union_ok {f : Addr} {fd : FuncData} (T : Tx P K mg) (D_union : Dfn P w K mg base "union" 6 2 f_union) (D_law_sameP : DfnP P w K mg base "_law_same" 1 2 f_law_sameP) (D_law_same : Dfn P w K mg base "_law_same" 8 2 f_law_same) (D_law_formula : Dfn P w K mg base "_law_formula" 4 2 f_law_formula) (F : FunD K "_law_union_ok" "_law_union_ok" (defArgs s_law_union_ok) (defBody s_law_union_ok) (defScope s_law_union_ok) [] [] f fd) (hm : mg "_law_union_ok" = some (.ref f)) : Dfn P w K mg base "_law_union_ok" 9 3 f_law_union_ok := by
  refine mkDfn F hm sc_law_union_ok rfl (fun _ _ _ _ _ _ us hl => match us, hl with | [_, _, _], _ => rfl) (fun cdv A outer s H E hr tk => ?_)
  have nd := sc_law_union_ok.nd
  have hu := hr.units
  have hu1 := hu65 hr
  exact (dss_cons (ds_try (i := 4) (isx := tblF [("TooManyClauses", true)]) rfl rfl nd rfl rfl ⟨rfl, by decide, Or.inl T.g_TooManyClauses⟩ tk T.x_TooManyClauses_TooManyClauses (fun W pn xe tk _ => (dss_one (ds_set (i := 3) (ms := [0, 1]) nd (do_fn D_union tk hr (by decide) rfl (da_cons (dv_var 0) (da_cons (dv_var 1) da_nil)) (count_cons (count_cons count_nil))))))
    (fun a oe cls d pn hz hf => (dss_cons (ds_if (DW.t (dw_or (dt_val (dv_isX 4 (tbl := tblF [("TooManyClauses", false)]) rfl rfl (Or.inl rfl) T.n_isinstance (pe_glob (v := .ref (He.ga _ "BadCount")) rfl T.g_BadCount rfl) (fun _ h => h) T.k_BadCount_TooManyClauses)) (dw_or (dt_val (dv_isX 4 (tbl := tblF [("TooManyClauses", false)]) rfl rfl (Or.inl rfl) T.n_isinstance (pe_glob (v := .ref (He.ga _ "BadLiteral")) rfl T.g_BadLiteral rfl) (fun _ h => h) T.k_BadLiteral_TooManyClauses)) (dw_or1 (dt_val (dv_isX 4 (tbl := tblF [("TooManyClauses", false)]) rfl rfl (Or.inl rfl) T.n_isinstance (pe_glob (v := .ref (He.ga _ "RepeatedVariable")) rfl T.g_RepeatedVariable rfl) (fun _ h => h) T.k_RepeatedVariable_TooManyClauses)))))) (dss_one (ds_ret (DV.o dv_bl))) dss_nil)
    (dss_one (ds_ret (DV.o (dv_and (dv_cmp ob_gt (dv_var 2) dv_int) (dv_and (DO.v (do_fnP D_law_sameP takesF (roomP hr) rfl (by decide) rfl (da_cons (dv_fld 4 (tbl := tblM ["TooManyClauses"]) rfl rfl (Or.inl rfl) T.f_count_TooManyClauses) (da_cons (dv_var 2) da_nil)) (count_cons (count_cons count_nil)))) (dv_and (dv_isX 4 (tbl := tblF [("TooManyClauses", true)]) rfl rfl (Or.inl rfl) T.n_isinstance (pe_glob (v := .ref (He.ga _ "FormulaError")) rfl T.g_FormulaError rfl) (fun _ h => h) T.k_FormulaError_TooManyClauses) (dv_one (dv_isX 4 (tbl := tblF [("TooManyClauses", true)]) rfl rfl (Or.inl rfl) T.n_isinstance (pe_bltn (v := .ty "ValueError") rfl T.n_ValueError (by decide +kernel) rfl) (fun _ h => h) T.k_ValueError_TooManyClauses)))))))))))
    (dss_one (ds_ret (DV.o (dv_and (dv_cmp ob_le (dv_var 2) dv_int) (dv_one (DO.v (do_fn D_law_same tk hr (by decide) rfl (da_cons (dv_var 3) (da_cons (DO.v (do_fn D_law_formula tk hr (by decide) rfl (da_cons (dv_ix (dv_var 0) dv_int (fun _ _ => rfl)) (da_cons (DO.v (do_bin od_add (DO.v (do_callTy cd_list rfl T.n_list (by decide +kernel) (da_cons (dv_ix (dv_var 0) dv_int (fun _ _ => rfl)) da_nil))) (DO.v (do_callTy cd_list rfl T.n_list (by decide +kernel) (da_cons (dv_ix (dv_var 1) dv_int (fun _ _ => rfl)) da_nil))))) da_nil)) (count_cons (count_cons count_nil)))) da_nil)) (count_cons (count_cons count_nil))))))))))
def b_law : DEnv → SO :=
    (seqS (dSet 1 [0] (dApp f_law_number (dCons (dVar 0) (dCons (dC (.int 0)) dNil))))
    (seqS (dSet 2 [1] (dO (dIx (dV (dLst (dCons (dC (.int 3)) (dCons (dC (.int 2)) (dCons (dC (.int 4)) (dCons (dC (.int 3)) (dCons (dC (.int 5)) (dCons (dC (.int 1)) (dCons (dC (.int 8)) (dCons (dC (.int 0)) dNil)))))))))) (dV (dBin opMod (dVar 1) (dC (.int 8)))))))
    (seqS (dSet 3 [0] (dApp f_law_draws (dCons (dVar 0) (dCons (dC (.int 1)) (dCons (dC (.int 4)) (dCons (dV (dBin opShl (dC (.int 1)) (dC (.int 20)))) dNil))))))
    (seqS (dSet 4 [0, 2, 3] (dApp f_law_random (dCons (dVar 0) (dCons (dC (.int 2)) (dCons (dVar 2) (dCons (dV (dBin opMod (dIx (dVar 3) (dC (.int 0))) (dC (.int 7)))) dNil))))))
    (seqS (dSet 5 [0, 2, 3] (dApp f_law_random (dCons (dVar 0) (dCons (dC (.int 3)) (dCons (dVar 2) (dCons (dV (dBin opMod (dIx (dVar 3) (dC (.int 1))) (dC (.int 7)))) dNil))))))
    (seqS (dSet 5 [2, 3, 4, 5] (dApp f_law_formula (dCons (dVar 2) (dCons (dV (dBin opAdd (dV (dApp (bi1 biList) (dCons (dIx (dVar 5) (dC (.int 1))) dNil))) (dV (dApp (bi1 biList) (dCons (dV (dCut (dIx (dVar 4) (dC (.int 1))) dNoPart (dPart (dV (dBin opMod (dIx (dVar 3) (dC (.int 2))) (dC (.int 3))))))) dNil))))) dNil))))
    (seqS (dIfS (dNotB (dIsTrue (dV (dApp f_law_union_ok (dCons (dVar 4) (dCons (dVar 5) (dCons (dV (dApp biLen (dCons (dIx (dV (dApp f_law_formula (dCons (dVar 2) (dCons (dV (dBin opAdd (dV (dApp (bi1 biList) (dCons (dIx (dVar 4) (dC (.int 1))) dNil))) (dV (dApp (bi1 biList) (dCons (dIx (dVar 5) (dC (.int 1))) dNil))))) dNil)))) (dC (.int 1))) dNil))) dNil))))))) (dRet (dO (dC (.bool false)))) dNx)
    (seqS (dIfS (dCmp opEq (dV (dBin opMod (dV (dBin opDiv (dVar 1) (dC (.int 8)))) (dC (.int 16)))) (dC (.int 5))) (seqS (dSet 6 [0] (dApp f_law_great (dCons (dV (dApp f_law_draws (dCons (dVar 0) (dCons (dC (.int 4)) (dCons (dC (.int 4)) (dCons (dV (dBin opShl (dC (.int 1)) (dC (.int 20)))) dNil)))))) dNil)))
    (dIfS (dOr (dNotB (dIsTrue (dV (dApp f_law_union_ok (dCons (dIx (dVar 6) (dC (.int 0))) (dCons (dIx (dVar 6) (dC (.int 1))) (dCons (dIx (dVar 6) (dC (.int 2))) dNil))))))) (dNotB (dIsTrue (dV (dApp f_law_union_ok (dCons (dIx (dVar 6) (dC (.int 0))) (dCons (dIx (dVar 6) (dC (.int 0))) (dCons (dV (dApp biLen (dCons (dIx (dIx (dVar 6) (dC (.int 0))) (dC (.int 1))) dNil))) dNil)))))))) (dRet (dO (dC (.bool false)))) dNx)) dNx)
    (seqS (dSet 7 [0, 2, 3] (dApp f_law_gates (dCons (dVar 2) (dCons (dV (dApp f_law_draws (dCons (dVar 0) (dCons (dC (.int 5)) (dCons (dV (dBin opAdd (dC (.int 1)) (dV (dBin opMod (dIx (dVar 3) (dC (.int 3))) (dC (.int 20)))))) (dCons (dV (dBin opShl (dC (.int 1)) (dC (.int 20)))) dNil)))))) dNil))))
    (seqS (dSet 8 [7] (dApp (bi1 biList) (dCons (dVar 7) dNil)))
    (seqS (dSet 9 [2, 10] (dComp 10 (dRngI rng1 (dCons (dV (dBin opShl (dC (.int 1)) (dVar 2))) dNil)) dYes (dVar 10)))
    (seqS (dIfS (dCmp opGt (dVar 2) (dC (.int 3))) (dSet 9 [0, 2] (dApp f_law_draws (dCons (dVar 0) (dCons (dC (.int 6)) (dCons (dC (.int 10)) (dCons (dV (dBin opShl (dC (.int 1)) (dVar 2))) dNil)))))) dNx)
    (seqS (dFor [9] (dBin opAdd (dVar 9) (dV (dCut (dVar 9) dNoPart (dPart (dC (.int 2)))))) (sName 10) (dIfS (dNotB (dIsTrue (dV (dApp f_law_same (dCons (dV (dApp f_blames (dCons (dVar 8) (dCons (dVar 10) dNil)))) (dCons (dV (dApp f_law_says (dCons (dVar 7) (dCons (dVar 10) dNil)))) dNil)))))) (dRet (dO (dC (.bool false)))) dNx))
    (dRet (dO (dBl (dCmp opEq (dVar 8) (dVar 7))))))))))))))))))
def f_law : List PyData → R O := runD 11 b_law
abbrev s_law : Stmt := top 31
theorem sc_law : FnScope ["script", "number", "n", "draws", "left", "right", "made", "gates", "given", "masks", "mask"] ["script"] (defScope s_law) := ⟨rfl, rfl, rfl, by decide +kernel, rfl, by decide +kernel, by decide +kernel⟩
theorem ok_law {f : Addr} {fd : FuncData} (T : Tx P K mg) (D_law_number : Dfn P w K mg base "_law_number" 1 2 f_law_number) (D_law_draws : Dfn P w K mg base "_law_draws" 2 4 f_law_draws) (D_law_random : Dfn P w K mg base "_law_random" 5 4 f_law_random) (D_law_formula : Dfn P w K mg base "_law_formula" 4 2 f_law_formula) (D_law_union_ok : Dfn P w K mg base "_law_union_ok" 9 3 f_law_union_ok) (D_law_great : Dfn P w K mg base "_law_great" 5 1 f_law_great) (D_law_gates : Dfn P w K mg base "_law_gates" 1 2 f_law_gates) (D_law_same : Dfn P w K mg base "_law_same" 8 2 f_law_same) (D_blames : Dfn P w K mg base "blames" 3 2 f_blames) (D_law_says : Dfn P w K mg base "_law_says" 1 2 f_law_says) (F : FunD K "law" "law" (defArgs s_law) (defBody s_law) (defScope s_law) [] [] f fd) : FnOk P w K mg base (L2.CX P w) 10 f fd ["script"] (spD K 1 f_law) := by
  refine okD F sc_law rfl (fun cdv A outer s H E hr tk => ?_)
  have nd := sc_law.nd
  have hu := hr.units
  have hu1 := hu65 hr
  exact (dss_cons (ds_set (i := 1) (ms := [0]) nd (do_fn D_law_number tk hr (by decide) rfl (da_cons (dv_var 0) (da_cons dv_int da_nil)) (count_cons (count_cons count_nil))))
    (dss_cons (ds_set (i := 2) (ms := [1]) nd (DV.o (dv_ix (DO.v (do_lst (da_cons dv_int (da_cons dv_int (da_cons dv_int (da_cons dv_int (da_cons dv_int (da_cons dv_int (da_cons dv_int (da_cons dv_int da_nil)))))))) (count_cons (count_cons (count_cons (count_cons (count_cons (count_cons (count_cons (count_cons count_nil)))))))) (by decide))) (DO.v (do_bin od_mod (dv_var 1) dv_int)) (fun _ _ => rfl))))
    (dss_cons (ds_set (i := 3) (ms := [0]) nd (do_fn D_law_draws tk hr (by decide) rfl (da_cons (dv_var 0) (da_cons dv_int (da_cons dv_int (da_cons (DO.v (do_bin od_shl dv_int dv_int)) da_nil)))) (count_cons (count_cons (count_cons (count_cons count_nil))))))
    (dss_cons (ds_set (i := 4) (ms := [0, 2, 3]) nd (do_fn D_law_random tk hr (by decide) rfl (da_cons (dv_var 0) (da_cons dv_int (da_cons (dv_var 2) (da_cons (DO.v (do_bin od_mod (dv_ix (dv_var 3) dv_int (fun _ _ => rfl)) dv_int)) da_nil)))) (count_cons (count_cons (count_cons (count_cons count_nil))))))
    (dss_cons (ds_set (i := 5) (ms := [0, 2, 3]) nd (do_fn D_law_random tk hr (by decide) rfl (da_cons (dv_var 0) (da_cons dv_int (da_cons (dv_var 2) (da_cons (DO.v (do_bin od_mod (dv_ix (dv_var 3) dv_int (fun _ _ => rfl)) dv_int)) da_nil)))) (count_cons (count_cons (count_cons (count_cons count_nil))))))
    (dss_cons (ds_set (i := 5) (ms := [2, 3, 4, 5]) nd (do_fn D_law_formula tk hr (by decide) rfl (da_cons (dv_var 2) (da_cons (DO.v (do_bin od_add (DO.v (do_callTy cd_list rfl T.n_list (by decide +kernel) (da_cons (dv_ix (dv_var 5) dv_int (fun _ _ => rfl)) da_nil))) (DO.v (do_callTy cd_list rfl T.n_list (by decide +kernel) (da_cons (DO.v (do_cut (dv_ix (dv_var 4) dv_int (fun _ _ => rfl)) dp_none (dp_some (DO.v (do_bin od_mod (dv_ix (dv_var 3) dv_int (fun _ _ => rfl)) dv_int))))) da_nil))))) da_nil)) (count_cons (count_cons count_nil))))
    (dss_cons (ds_if (dt_not (dt_val (DO.v (do_fn D_law_union_ok tk hr (by decide) rfl (da_cons (dv_var 4) (da_cons (dv_var 5) (da_cons (DO.v (do_callB cd_len rfl T.n_len (by decide +kernel) (da_cons (dv_ix (DO.v (do_fn D_law_formula tk hr (by decide) rfl (da_cons (dv_var 2) (da_cons (DO.v (do_bin od_add (DO.v (do_callTy cd_list rfl T.n_list (by decide +kernel) (da_cons (dv_ix (dv_var 4) dv_int (fun _ _ => rfl)) da_nil))) (DO.v (do_callTy cd_list rfl T.n_list (by decide +kernel) (da_cons (dv_ix (dv_var 5) dv_int (fun _ _ => rfl)) da_nil))))) da_nil)) (count_cons (count_cons count_nil)))) dv_int (fun _ _ => rfl)) da_nil))) da_nil))) (count_cons (count_cons (count_cons count_nil))))))) (dss_one (ds_ret (DV.o dv_bl))) dss_nil)
    (dss_cons (ds_if (dt_cmp (ob_eq hu) (DO.v (do_bin od_mod (DO.v (do_bin od_div (dv_var 1) dv_int)) dv_int)) dv_int) (dss_cons (ds_set (i := 6) (ms := [0]) nd (do_fn D_law_great tk hr (by decide) rfl (da_cons (DO.v (do_fn D_law_draws tk hr (by decide) rfl (da_cons (dv_var 0) (da_cons dv_int (da_cons dv_int (da_cons (DO.v (do_bin od_shl dv_int dv_int)) da_nil)))) (count_cons (count_cons (count_cons (count_cons count_nil)))))) da_nil) (count_cons count_nil)))
    (dss_one (ds_if (DW.t (dw_or (dt_not (dt_val (DO.v (do_fn D_law_union_ok tk hr (by decide) rfl (da_cons (dv_ix (dv_var 6) dv_int (fun _ _ => rfl)) (da_cons (dv_ix (dv_var 6) dv_int (fun _ _ => rfl)) (da_cons (dv_ix (dv_var 6) dv_int (fun _ _ => rfl)) da_nil))) (count_cons (count_cons (count_cons count_nil))))))) (dw_or1 (dt_not (dt_val (DO.v (do_fn D_law_union_ok tk hr (by decide) rfl (da_cons (dv_ix (dv_var 6) dv_int (fun _ _ => rfl)) (da_cons (dv_ix (dv_var 6) dv_int (fun _ _ => rfl)) (da_cons (DO.v (do_callB cd_len rfl T.n_len (by decide +kernel) (da_cons (dv_ix (dv_ix (dv_var 6) dv_int (fun _ _ => rfl)) dv_int (fun _ _ => rfl)) da_nil))) da_nil))) (count_cons (count_cons (count_cons count_nil)))))))))) (dss_one (ds_ret (DV.o dv_bl))) dss_nil))) dss_nil)
    (dss_cons (ds_set (i := 7) (ms := [0, 2, 3]) nd (do_fn D_law_gates tk hr (by decide) rfl (da_cons (dv_var 2) (da_cons (DO.v (do_fn D_law_draws tk hr (by decide) rfl (da_cons (dv_var 0) (da_cons dv_int (da_cons (DO.v (do_bin od_add dv_int (DO.v (do_bin od_mod (dv_ix (dv_var 3) dv_int (fun _ _ => rfl)) dv_int)))) (da_cons (DO.v (do_bin od_shl dv_int dv_int)) da_nil)))) (count_cons (count_cons (count_cons (count_cons count_nil)))))) da_nil)) (count_cons (count_cons count_nil))))
    (dss_cons (ds_set (i := 8) (ms := [7]) nd (do_callTy cd_list rfl T.n_list (by decide +kernel) (da_cons (dv_var 7) da_nil)))
    (dss_cons (ds_setLc0 (j := 9) 10 (ms := [2, 10]) rfl nd rfl rfl (sw_true rfl rfl rfl (by decide +kernel)) (DR.i (dr_range1 T.n_range (da_cons (DO.v (do_bin od_shl dv_int (dv_var 2))) da_nil))) (blkOk_by rfl) (fun _ _ _ _ _ => pg_name (i := 10) nd rfl (Or.inl rfl)) (fun _ _ _ _ _ => (dv_var 10)))
    (dss_cons (ds_if (dt_cmp ob_gt (dv_var 2) dv_int) (dss_one (ds_set (i := 9) (ms := [0, 2]) nd (do_fn D_law_draws tk hr (by decide) rfl (da_cons (dv_var 0) (da_cons dv_int (da_cons dv_int (da_cons (DO.v (do_bin od_shl dv_int (dv_var 2))) da_nil)))) (count_cons (count_cons (count_cons (count_cons count_nil))))))) dss_nil)
    (dss_cons (ds_for (ms := [9]) (passes_of rfl) rfl (do_bin od_add (dv_var 9) (DO.v (do_cut (dv_var 9) dp_none (dp_some dv_int)))) (dg_name (i := 10) nd) (dss_one (ds_if (dt_not (dt_val (DO.v (do_fn D_law_same tk hr (by decide) rfl (da_cons (DO.v (do_fn D_blames tk hr (by decide) rfl (da_cons (dv_var 8) (da_cons (dv_var 10) da_nil)) (count_cons (count_cons count_nil)))) (da_cons (DO.v (do_fn D_law_says tk hr (by decide) rfl (da_cons (dv_var 7) (da_cons (dv_var 10) da_nil)) (count_cons (count_cons count_nil)))) da_nil)) (count_cons (count_cons count_nil)))))) (dss_one (ds_ret (DV.o dv_bl))) dss_nil)))
    (dss_one (ds_ret (DV.o (dv_cmp (ob_eq hu) (dv_var 8) (dv_var 7))))))))))))))))))
end LK71
set_option Elab.async false
set_option linter.all false
set_option maxRecDepth 100000
set_option maxHeartbeats 4000000
set_option autoImplicit false
namespace LK71
open PySem PySem.Spec L2 DL LC
open PyProof.Rows hiding St cutD
theorem opEq_str {x y : Str} {b : Bool} (h1 : SeqAt.shaped (.str x) = true) (h2 : SeqAt.shaped (.str y) = true) (h : (x == y) = b) : opEq (.str x) (.str y) = .ok b := by
  unfold opEq
  rw [h1, h2, eqv_str, h]
  rfl
@[simp] theorem q_left_left : opEq (.str (Str.ofString "left")) (.str (Str.ofString "left")) = .ok true := opEq_str (by decide +kernel) (by decide +kernel) (by decide +kernel)
@[simp] theorem q_left_right : opEq (.str (Str.ofString "left")) (.str (Str.ofString "right")) = .ok false := opEq_str (by decide +kernel) (by decide +kernel) (by decide +kernel)
@[simp] theorem q_left_aleft : opEq (.str (Str.ofString "left")) (.str (Str.ofString "any_left")) = .ok false := opEq_str (by decide +kernel) (by decide +kernel) (by decide +kernel)
@[simp] theorem q_left_aright : opEq (.str (Str.ofString "left")) (.str (Str.ofString "any_right")) = .ok false := opEq_str (by decide +kernel) (by decide +kernel) (by decide +kernel)
@[simp] theorem q_left_iff : opEq (.str (Str.ofString "left")) (.str (Str.ofString "if")) = .ok false := opEq_str (by decide +kernel) (by decide +kernel) (by decide +kernel)
@[simp] theorem q_left_same : opEq (.str (Str.ofString "left")) (.str (Str.ofString "same")) = .ok false := opEq_str (by decide +kernel) (by decide +kernel) (by decide +kernel)
@[simp] theorem q_right_left : opEq (.str (Str.ofString "right")) (.str (Str.ofString "left")) = .ok false := opEq_str (by decide +kernel) (by decide +kernel) (by decide +kernel)
@[simp] theorem q_right_right : opEq (.str (Str.ofString "right")) (.str (Str.ofString "right")) = .ok true := opEq_str (by decide +kernel) (by decide +kernel) (by decide +kernel)
@[simp] theorem q_right_aleft : opEq (.str (Str.ofString "right")) (.str (Str.ofString "any_left")) = .ok false := opEq_str (by decide +kernel) (by decide +kernel) (by decide +kernel)
@[simp] theorem q_right_aright : opEq (.str (Str.ofString "right")) (.str (Str.ofString "any_right")) = .ok false := opEq_str (by decide +kernel) (by decide +kernel) (by decide +kernel)
@[simp] theorem q_right_iff : opEq (.str (Str.ofString "right")) (.str (Str.ofString "if")) = .ok false := opEq_str (by decide +kernel) (by decide +kernel) (by decide +kernel)
@[simp] theorem q_right_same : opEq (.str (Str.ofString "right")) (.str (Str.ofString "same")) = .ok false := opEq_str (by decide +kernel) (by decide +kernel) (by decide +kernel)
@[simp] theorem q_aleft_left : opEq (.str (Str.ofString "any_left")) (.str (Str.ofString "left")) = .ok false := opEq_str (by decide +kernel) (by decide +kernel) (by decide +kernel)
@[simp] theorem q_aleft_right : opEq (.str (Str.ofString "any_left")) (.str (Str.ofString "right")) = .ok false := opEq_str (by decide +kernel) (by decide +kernel) (by decide +kernel)
@[simp] theorem q_aleft_aleft : opEq (.str (Str.ofString "any_left")) (.str (Str.ofString "any_left")) = .ok true := opEq_str (by decide +kernel) (by decide +kernel) (by decide +kernel)
@[simp] theorem q_aleft_aright : opEq (.str (Str.ofString "any_left")) (.str (Str.ofString "any_right")) = .ok false := opEq_str (by decide +kernel) (by decide +kernel) (by decide +kernel)
@[simp] theorem q_aleft_iff : opEq (.str (Str.ofString "any_left")) (.str (Str.ofString "if")) = .ok false := opEq_str (by decide +kernel) (by decide +kernel) (by decide +kernel)
@[simp] theorem q_aleft_same : opEq (.str (Str.ofString "any_left")) (.str (Str.ofString "same")) = .ok false := opEq_str (by decide +kernel) (by decide +kernel) (by decide +kernel)
@[simp] theorem q_aright_left : opEq (.str (Str.ofString "any_right")) (.str (Str.ofString "left")) = .ok false := opEq_str (by decide +kernel) (by decide +kernel) (by decide +kernel)
@[simp] theorem q_aright_right : opEq (.str (Str.ofString "any_right")) (.str (Str.ofString "right")) = .ok false := opEq_str (by decide +kernel) (by decide +kernel) (by decide +kernel)
@[simp] theorem q_aright_aleft : opEq (.str (Str.ofString "any_right")) (.str (Str.ofString "any_left")) = .ok false := opEq_str (by decide +kernel) (by decide +kernel) (by decide +kernel)
@[simp] theorem q_aright_aright : opEq (.str (Str.ofString "any_right")) (.str (Str.ofString "any_right")) = .ok true := opEq_str (by decide +kernel) (by decide +kernel) (by decide +kernel)
@[simp] theorem q_aright_iff : opEq (.str (Str.ofString "any_right")) (.str (Str.ofString "if")) = .ok false := opEq_str (by decide +kernel) (by decide +kernel) (by decide +kernel)
@[simp] theorem q_aright_same : opEq (.str (Str.ofString "any_right")) (.str (Str.ofString "same")) = .ok false := opEq_str (by decide +kernel) (by decide +kernel) (by decide +kernel)
@[simp] theorem q_iff_left : opEq (.str (Str.ofString "if")) (.str (Str.ofString "left")) = .ok false := opEq_str (by decide +kernel) (by decide +kernel) (by decide +kernel)
@[simp] theorem q_iff_right : opEq (.str (Str.ofString "if")) (.str (Str.ofString "right")) = .ok false := opEq_str (by decide +kernel) (by decide +kernel) (by decide +kernel)
@[simp] theorem q_iff_aleft : opEq (.str (Str.ofString "if")) (.str (Str.ofString "any_left")) = .ok false := opEq_str (by decide +kernel) (by decide +kernel) (by decide +kernel)
@[simp] theorem q_iff_aright : opEq (.str (Str.ofString "if")) (.str (Str.ofString "any_right")) = .ok false := opEq_str (by decide +kernel) (by decide +kernel) (by decide +kernel)
@[simp] theorem q_iff_iff : opEq (.str (Str.ofString "if")) (.str (Str.ofString "if")) = .ok true := opEq_str (by decide +kernel) (by decide +kernel) (by decide +kernel)
@[simp] theorem q_iff_same : opEq (.str (Str.ofString "if")) (.str (Str.ofString "same")) = .ok false := opEq_str (by decide +kernel) (by decide +kernel) (by decide +kernel)
@[simp] theorem q_same_left : opEq (.str (Str.ofString "same")) (.str (Str.ofString "left")) = .ok false := opEq_str (by decide +kernel) (by decide +kernel) (by decide +kernel)
@[simp] theorem q_same_right : opEq (.str (Str.ofString "same")) (.str (Str.ofString "right")) = .ok false := opEq_str (by decide +kernel) (by decide +kernel) (by decide +kernel)
@[simp] theorem q_same_aleft : opEq (.str (Str.ofString "same")) (.str (Str.ofString "any_left")) = .ok false := opEq_str (by decide +kernel) (by decide +kernel) (by decide +kernel)
@[simp] theorem q_same_aright : opEq (.str (Str.ofString "same")) (.str (Str.ofString "any_right")) = .ok false := opEq_str (by decide +kernel) (by decide +kernel) (by decide +kernel)
@[simp] theorem q_same_iff : opEq (.str (Str.ofString "same")) (.str (Str.ofString "if")) = .ok false := opEq_str (by decide +kernel) (by decide +kernel) (by decide +kernel)
@[simp] theorem q_same_same : opEq (.str (Str.ofString "same")) (.str (Str.ofString "same")) = .ok true := opEq_str (by decide +kernel) (by decide +kernel) (by decide +kernel)
section
variable {a b c d : PyData}
@[simp] theorem at1_0 : atI [a] 0 = some a := id rfl
@[simp] theorem at2_0 : atI [a, b] 0 = some a := id rfl
@[simp] theorem at2_1 : atI [a, b] 1 = some b := id rfl
@[simp] theorem at3_0 : atI [a, b, c] 0 = some a := id rfl
@[simp] theorem at3_1 : atI [a, b, c] 1 = some b := id rfl
@[simp] theorem at3_2 : atI [a, b, c] 2 = some c := id rfl
@[simp] theorem at4_0 : atI [a, b, c, d] 0 = some a := id rfl
@[simp] theorem at4_1 : atI [a, b, c, d] 1 = some b := id rfl
@[simp] theorem at4_2 : atI [a, b, c, d] 2 = some c := id rfl
@[simp] theorem at4_3 : atI [a, b, c, d] 3 = some d := id rfl
end
/-- a gate -/
inductive Gt where
  | lf
  | rt
  | al (i j : Nat)
  | ar (i j : Nat)
  | sm (i : Nat)
  | ite (v : Int) (i j : Nat)
def encG : Gt → PyData
  | .lf => .tuple [.str (Str.ofString "left")]
  | .rt => .tuple [.str (Str.ofString "right")]
  | .al i j => .tuple [.str (Str.ofString "any_left"), .int i, .int j]
  | .ar i j => .tuple [.str (Str.ofString "any_right"), .int i, .int j]
  | .sm i => .tuple [.str (Str.ofString "same"), .int i]
  | .ite v i j => .tuple [.str (Str.ofString "if"), .int v, .int i, .int j]
/-- its wires come from before -/
def Wf (t : Nat) : Gt → Prop
  | .lf => True
  | .rt => True
  | .al i j => i < t ∧ j < t
  | .ar i j => i < t ∧ j < t
  | .sm i => i < t
  | .ite v i j => 1 ≤ v ∧ i < t ∧ j < t
def sideD (b : Bool) : PyData := .str (if b = true then Str.ofString "right" else Str.ofString "left")
@[simp] theorem isDict_side (b : Bool) : isDict (sideD b) = false := id rfl
@[simp] theorem flat_side (b : Bool) : flat (sideD b) = true := by unfold sideD; simp
@[simp] theorem flatAll_side (l : List Bool) : flatAll (l.map sideD) = true := flatAll_map _ flat_side l
@[simp] theorem isDict_enc (g : Gt) : isDict (encG g) = false := by cases g <;> exact id rfl
@[simp] theorem flat_enc (g : Gt) : flat (encG g) = true := by cases g <;> simp [encG]
@[simp] theorem flatAll_enc (l : List Gt) : flatAll (l.map encG) = true := flatAll_map _ flat_enc l
theorem sideF : sideD false = .str (Str.ofString "left") := rfl
theorem sideT : sideD true = .str (Str.ofString "right") := rfl
@[simp] theorem eq_side (a b : Bool) : opEq (sideD a) (sideD b) = .ok (a == b) := by cases a <;> cases b <;> simp [sideD]
theorem in_side (x a b : Bool) : opIn (sideD x) (.tuple [sideD a, sideD b]) = .ok (a == x || b == x) := by
  have h : ∀ x a b : Bool, (SeqAt.shaped (sideD x) && SeqAt.shaped (.tuple [sideD a, sideD b])) = true := by decide +kernel
  have h2 : ∀ x a : Bool, PyData.eqv (sideD a) (sideD x) = (a == x) := by intro x a; cases x <;> cases a <;> (unfold sideD; rw [eqv_str]; decide +kernel)
  show (if (SeqAt.shaped (sideD x) && SeqAt.shaped (.tuple [sideD a, sideD b])) = true then R.ok ([sideD a, sideD b].any fun z => PyData.eqv z (sideD x)) else .bad) = _
  rw [if_pos (h x a b)]
  simp [h2]
def ev (g : Gt) (ss : List Bool) (m : Int) : Bool := match g with
  | .lf => false
  | .rt => true
  | .al i j => ss.getD i false && ss.getD j false
  | .ar i j => ss.getD i false || ss.getD j false
  | .sm i => ss.getD i false
  | .ite v i j => if m / 2 ^ (v.toNat - 1) % 2 = 1 then ss.getD i false else ss.getD j false
theorem at_side {ss : List Bool} {i : Nat} (h : i < ss.length) : atI (ss.map sideD) (i : Int) = some (sideD (ss.getD i false)) := L2.atI_nat (by
  rw [List.getElem?_map, List.getElem?_eq_getElem h, List.getD_eq_getElem?_getD, List.getElem?_eq_getElem h]
  rfl)
theorem any_side_eq (x a b : Bool) : f_any_side [sideD x, sideD a, sideD b] = .ok (.val (sideD (if a = x then x else b))) := by
  unfold f_any_side b_any_side
  cases x <;> cases a <;> cases b <;> simp
theorem gate_side_eq {g : Gt} {ss : List Bool} {m : Int} (h : Wf ss.length g) : f_gate_side [encG g, .list (ss.map sideD), .int m] = .ok (.val (sideD (ev g ss m))) := by
  unfold f_gate_side b_gate_side
  cases g with
  | lf => simp [encG, ev, sideF]
  | rt => simp [encG, ev, sideT]
  | al i j =>
    have h1 := at_side h.1
    have h2 := at_side h.2
    have hs := any_side_eq false (ss.getD i false) (ss.getD j false)
    rw [sideF] at hs
    unfold ev
    simp only
    generalize ss.getD i false = a at *
    generalize ss.getD j false = b at *
    simp [encG, h1, h2, hs]
  | ar i j =>
    have h1 := at_side h.1
    have h2 := at_side h.2
    have hs := any_side_eq true (ss.getD i false) (ss.getD j false)
    rw [sideT] at hs
    unfold ev
    simp only
    generalize ss.getD i false = a at *
    generalize ss.getD j false = b at *
    simp [encG, h1, h2, hs]
  | sm i =>
    have h1 := at_side h
    unfold ev
    simp only
    generalize ss.getD i false = a at *
    simp [encG, h1]
  | ite v i j =>
    have h1 := at_side h.2.1
    have h2 := at_side h.2.2
    have hv : (0 : Int) ≤ v - 1 := by have := h.1; omega
    have hv' : cShr m (v - 1) = true := cShr_of hv
    unfold ev
    simp only
    generalize ss.getD i false = a at *
    generalize ss.getD j false = b at *
    by_cases he : m / 2 ^ (v.toNat - 1) % 2 = 1
    · simp [encG, h1, h2, hv', bitAnd_m1, he]
    · simp [encG, h1, h2, hv', bitAnd_m1, he]
/-! ### the two readings of a list of gates -/
def evs (m : Int) (ss : List Bool) (g : Gt) : List Bool := ss ++ [ev g ss m]
def evAll (m : Int) (gs : List Gt) : List Bool := gs.foldl (evs m) []
def WfAll (gs : List Gt) : Prop := ∀ k g, gs[k]? = some g → Wf k g
theorem evAll_take {m : Int} {gs : List Gt} {k : Nat} {g : Gt} (h : gs[k]? = some g) : evAll m (gs.take (k + 1)) = evs m (evAll m (gs.take k)) g := by
  unfold evAll
  rw [List.take_succ, h]
  simp
theorem evAll_len (m : Int) (gs : List Gt) : (evAll m gs).length = gs.length := by
  have : ∀ (gs : List Gt) (ss : List Bool), (gs.foldl (evs m) ss).length = ss.length + gs.length := by
    intro gs
    induction gs with
    | nil => intro ss; simp
    | cons g gs ih => intro ss; rw [List.foldl_cons, ih]; simp [evs]; omega
  have h := this gs []
  simpa [evAll] using h
theorem at_last {ss : List Bool} (h : ss ≠ []) : atI (ss.map sideD) ((ss.length : Int) - 1) = some (sideD (ss.getLast h)) := by
  have hp : 0 < ss.length := List.length_pos_iff.mpr h
  rw [show (ss.length : Int) - 1 = ((ss.length - 1 : Nat) : Int) by omega]
  refine L2.atI_nat ?_
  rw [List.getElem?_map, List.getElem?_eq_getElem (by omega), List.getLast_eq_getElem]
  rfl
theorem blames_eq {gs : List Gt} {m : Int} (hw : WfAll gs) (hz : gs.length ≤ 1000) (hne : evAll m gs ≠ []) : f_blames [.list (gs.map encG), .int m] = .ok (.val (sideD ((evAll m gs).getLast hne))) := by
  unfold f_blames b_blames
  simp [vis, frz]
  generalize hL : loopS _ _ _ _ = r
  have key : ∃ a : List Bool × Option O, r = .nx [some (.val (.list (gs.map encG))), some (.val (.int m)), some (.own (a.1.map sideD)), a.2] ∧ a.1 = evAll m (gs.take (gs.map encG).length) := by
    rw [← hL]
    refine loopS_enc (a0 := ([], none)) (fun a : List Bool × Option O => [some (.val (.list (gs.map encG))), some (.val (.int m)), some (.own (a.1.map sideD)), a.2]) (fun j a => a.1 = evAll m (gs.take j)) (fun j d a hd hP => ?_) rfl
    obtain ⟨ss, x⟩ := a
    simp only at hP
    rw [List.getElem?_map] at hd
    obtain ⟨g, hg, rfl⟩ := Option.map_eq_some_iff.mp hd
    have hj : j < gs.length := (List.getElem?_eq_some_iff.mp hg).1
    have hl : ss.length = j := by rw [hP, evAll_len, List.length_take]; omega
    have hgs := gate_side_eq (m := m) (ss := ss) (hl ▸ hw j g hg)
    have hsz : ss.length < sizeLine := by rw [sz]; omega
    refine ⟨(evs m ss g, some (.val (encG g))), ?_, by rw [evAll_take hg, hP]⟩
    unfold evs
    simp [hgs, hsz]
  obtain ⟨⟨ss, x⟩, rfl, hl⟩ := key
  simp only [List.length_map, List.take_length] at hl
  subst hl
  simp [at_last hne]
def saysB : DEnv → SO := (seqS (dSet 4 [3] (dO (dIx (dVar 3) (dC (.int 0)))))
    (seqS (dIfS (dCmp opEq (dIx (dVar 3) (dC (.int 0))) (dC (.str "any_left"))) (dSet 4 [2, 3] (dO (dIx (dV (dLst (dCons (dC (.str "right")) (dCons (dC (.str "left")) dNil)))) (dV (dApp (bi1 biInt) (dCons (dBl (dCmp opIn (dC (.str "left")) (dTup (dCons (dIx (dVar 2) (dIx (dVar 3) (dC (.int 1)))) (dCons (dIx (dVar 2) (dIx (dVar 3) (dC (.int 2)))) dNil))))) dNil)))))) dNx)
    (seqS (dIfS (dCmp opEq (dIx (dVar 3) (dC (.int 0))) (dC (.str "any_right"))) (dSet 4 [2, 3] (dO (dIx (dV (dLst (dCons (dC (.str "left")) (dCons (dC (.str "right")) dNil)))) (dV (dApp (bi1 biInt) (dCons (dBl (dCmp opIn (dC (.str "right")) (dTup (dCons (dIx (dVar 2) (dIx (dVar 3) (dC (.int 1)))) (dCons (dIx (dVar 2) (dIx (dVar 3) (dC (.int 2)))) dNil))))) dNil)))))) dNx)
    (seqS (dIfS (dCmp opEq (dIx (dVar 3) (dC (.int 0))) (dC (.str "if"))) (dSet 4 [1, 2, 3] (dO (dIx (dVar 2) (dIx (dVar 3) (dV (dBin opSub (dC (.int 3)) (dV (dBin opAnd (dV (dBin opShr (dVar 1) (dV (dBin opSub (dIx (dVar 3) (dC (.int 1))) (dC (.int 1)))))) (dC (.int 1)))))))))) dNx)
    (seqS (dIfS (dCmp opEq (dIx (dVar 3) (dC (.int 0))) (dC (.str "same"))) (dSet 4 [2, 3] (dO (dIx (dVar 2) (dIx (dVar 3) (dC (.int 1)))))) dNx)
    (dAppend 2 [4] (dO (dVar 4))))))))
theorem says_turn {o0 x y : Option O} {g : Gt} {ss : List Bool} {m : Int} (h : Wf ss.length g) (hl : ss.length < sizeLine) :
    stepS (sName 3) saysB (encG g) [o0, some (.val (.int m)), some (.own (ss.map sideD)), x, y] = .nx [o0, some (.val (.int m)), some (.own ((evs m ss g).map sideD)), some (.val (encG g)), some (.val (sideD (ev g ss m)))] := by
  unfold saysB evs
  cases g with
  | lf => simp [encG, ev, sideF, hl]
  | rt => simp [encG, ev, sideT, hl]
  | al i j =>
    have h1 := at_side h.1
    have h2 := at_side h.2
    have hs := in_side false (ss.getD i false) (ss.getD j false)
    unfold ev
    simp only
    generalize ss.getD i false = a at *
    generalize ss.getD j false = b at *
    simp [encG, h1, h2, sideF] at hs ⊢
    simp only [hs]
    cases a <;> cases b <;> simp [hl, sideF, sideT]
  | ar i j =>
    have h1 := at_side h.1
    have h2 := at_side h.2
    have hs := in_side true (ss.getD i false) (ss.getD j false)
    unfold ev
    simp only
    generalize ss.getD i false = a at *
    generalize ss.getD j false = b at *
    simp [encG, h1, h2, sideT] at hs ⊢
    simp only [hs]
    cases a <;> cases b <;> simp [hl, sideF, sideT]
  | sm i =>
    have h1 := at_side h
    unfold ev
    simp only
    generalize ss.getD i false = a at *
    simp [encG, h1, hl]
  | ite v i j =>
    have h1 := at_side h.2.1
    have h2 := at_side h.2.2
    have hv : (0 : Int) ≤ v - 1 := by have := h.1; omega
    have hv' : cShr m (v - 1) = true := cShr_of hv
    unfold ev
    simp only
    generalize ss.getD i false = a at *
    generalize ss.getD j false = b at *
    have he := Int.emod_two_eq (m / 2 ^ (v.toNat - 1))
    rcases he with he | he
    · simp [encG, h1, h2, hv', bitAnd_m1, he, hl]
    · simp [encG, h1, h2, hv', bitAnd_m1, he, hl]
theorem says_eq {gs : List Gt} {m : Int} (hw : WfAll gs) (hz : gs.length ≤ 1000) (hne : evAll m gs ≠ []) : f_law_says [.list (gs.map encG), .int m] = .ok (.val (sideD ((evAll m gs).getLast hne))) := by
  unfold f_law_says b_law_says
  simp [vis, frz]
  generalize hL : loopS _ _ _ _ = r
  have key : ∃ a : List Bool × Option O × Option O, r = .nx [some (.val (.list (gs.map encG))), some (.val (.int m)), some (.own (a.1.map sideD)), a.2.1, a.2.2] ∧ a.1 = evAll m (gs.take (gs.map encG).length) := by
    rw [← hL]
    refine loopS_enc (a0 := ([], none, none)) (fun a : List Bool × Option O × Option O => [some (.val (.list (gs.map encG))), some (.val (.int m)), some (.own (a.1.map sideD)), a.2.1, a.2.2]) (fun j a => a.1 = evAll m (gs.take j)) (fun j d a hd hP => ?_) rfl
    obtain ⟨ss, x, y⟩ := a
    simp only at hP
    rw [List.getElem?_map] at hd
    obtain ⟨g, hg, rfl⟩ := Option.map_eq_some_iff.mp hd
    have hj : j < gs.length := (List.getElem?_eq_some_iff.mp hg).1
    have hl : ss.length = j := by rw [hP, evAll_len, List.length_take]; omega
    have hsz : ss.length < sizeLine := by rw [sz]; omega
    exact ⟨(evs m ss g, some (.val (encG g)), some (.val (sideD (ev g ss m)))), says_turn (hl ▸ hw j g hg) hsz, by rw [evAll_take hg, hP]⟩
  obtain ⟨⟨ss, x, y⟩, rfl, hl⟩ := key
  simp only [List.length_map, List.take_length] at hl
  subst hl
  simp [at_last hne]
end LK71
set_option Elab.async false
set_option linter.all false
set_option maxRecDepth 100000
set_option maxHeartbeats 4000000
set_option autoImplicit false
namespace LK71
open PySem PySem.Spec L2 DL LC
open PyProof.Rows hiding St cutD
def gatesB : DEnv → SO := (seqS (dSet 4 [1, 3] (dBin opDiv (dIx (dVar 1) (dVar 3)) (dC (.int 64))))
    (seqS (dSet 5 [3, 4] (dO (dTup (dCons (dV (dBin opMod (dVar 4) (dV (dApp (bi2 biMax) (dCons (dC (.int 1)) (dCons (dVar 3) dNil)))))) (dCons (dV (dBin opMod (dV (dBin opDiv (dVar 4) (dC (.int 32)))) (dV (dApp (bi2 biMax) (dCons (dC (.int 1)) (dCons (dVar 3) dNil)))))) dNil)))))
    (seqS (dSet 6 [1, 3] (dBin opMod (dV (dBin opMod (dIx (dVar 1) (dVar 3)) (dC (.int 64)))) (dC (.int 8))))
    (seqS (dIfS (dCmp opEq (dVar 3) (dC (.int 0))) (dSet 6 [6] (dBin opMod (dVar 6) (dC (.int 2)))) dNx)
    (seqS (dIfS (dAnd (dCmp opEq (dVar 0) (dC (.int 0))) (dCmp opGt (dVar 6) (dC (.int 5)))) (dSet 6 [] (dO (dC (.int 5)))) dNx)
    (dIfS (dCmp opLt (dVar 6) (dC (.int 2))) (dAppend 2 [6] (dO (dTup (dCons (dIx (dV (dLst (dCons (dC (.str "left")) (dCons (dC (.str "right")) dNil)))) (dVar 6)) dNil)))) (dIfS (dCmp opLt (dVar 6) (dC (.int 4))) (dAppend 2 [5, 6] (dO (dTup (dCons (dIx (dV (dLst (dCons (dC (.str "any_left")) (dCons (dC (.str "any_right")) dNil)))) (dV (dBin opSub (dVar 6) (dC (.int 2))))) (dCons (dIx (dVar 5) (dC (.int 0))) (dCons (dIx (dVar 5) (dC (.int 1))) dNil)))))) (dIfS (dCmp opEq (dVar 6) (dC (.int 5))) (dAppend 2 [5] (dO (dTup (dCons (dC (.str "same")) (dCons (dIx (dVar 5) (dC (.int 0))) dNil))))) (dIfS (dCmp opEq (dVar 6) (dC (.int 4))) (dAppend 2 [4, 5] (dO (dTup (dCons (dIx (dV (dLst (dCons (dC (.str "any_right")) (dCons (dC (.str "any_left")) dNil)))) (dV (dBin opMod (dV (dBin opDiv (dVar 4) (dC (.int 1024)))) (dC (.int 2))))) (dCons (dIx (dVar 5) (dC (.int 1))) (dCons (dIx (dVar 5) (dC (.int 0))) dNil)))))) (dAppend 2 [0, 4, 5] (dO (dTup (dCons (dC (.str "if")) (dCons (dV (dBin opAdd (dC (.int 1)) (dV (dBin opMod (dV (dBin opDiv (dVar 4) (dC (.int 1024)))) (dVar 0))))) (dCons (dIx (dVar 5) (dC (.int 0))) (dCons (dIx (dVar 5) (dC (.int 1))) dNil))))))))))))))))
/-- the gate of a word -/
def gateOf (k e f : Int) (a b : Nat) : Gt := if k = 0 then .lf else if k = 1 then .rt else if k = 2 then .al a b else if k = 3 then .ar a b else if k = 5 then .sm a else if k = 4 then (if e = 0 then .ar b a else .al b a) else .ite (1 + f) a b
theorem gates_turn {x3 x4 x5 x6 : Option O} {n t x w q k e f k2 : Int} {W : List PyData} {gs : List Gt} {a b : Nat} (hn : 0 ≤ n) (hx : atI W t = some (.int x)) (hw : x / 64 = w) (hq : (if 1 < t then t else 1) = q) (hq0 : 0 < q)
    (ha : w % q = a) (hb : w / 32 % q = b) (hk : x % 64 % 8 = k) (he : w / 1024 % 2 = e) (hf : w / 1024 % n = f)
    (hk2 : k2 = if n = 0 ∧ 5 < (if t = 0 then k % 2 else k) then 5 else (if t = 0 then k % 2 else k)) (hl : gs.length < sizeLine) :
    stepS (sName 3) gatesB (.int t) [some (.val (.int n)), some (.val (.list W)), some (.own (gs.map encG)), x3, x4, x5, x6]
      = .nx [some (.val (.int n)), some (.val (.list W)), some (.own ((gs ++ [gateOf k2 e f a b]).map encG)), some (.val (.int t)), some (.val (.int w)), some (.val (.tuple [.int a, .int b])), some (.val (.int k2))] := by
  have d1 : cDiv x 64 = true := cDiv_of (by omega) (by omega)
  have d2 : cDiv w 32 = true := cDiv_of (by omega) (by omega)
  have d3 : cDiv w 1024 = true := cDiv_of (by omega) (by omega)
  have k0 : 0 ≤ k := by omega
  have k8 : k < 8 := by omega
  have hm : (if t > 1 then t else 1) = q := hq
  have m1 : ∀ i, cMod i q = true := fun i => cMod_of hq0
  obtain ⟨k1, hk1⟩ : ∃ k1, (if t = 0 then k % 2 else k) = k1 := ⟨_, rfl⟩
  rw [hk1] at hk2
  have b0 : 0 ≤ k1 ∧ k1 < 8 := by rw [← hk1]; split <;> omega
  have e2 : e = 0 ∨ e = 1 := by omega
  unfold gatesB
  by_cases ht : t = 0
  · subst ht
    simp only [if_true] at hk1
    have hg : ¬ 5 < k1 := by omega
    have hk2' : k2 = k1 := by rw [hk2, if_neg (fun z => hg z.2)]
    subst hk2'
    have hkk : k2 = 0 ∨ k2 = 1 := by omega
    have q1 : q = 1 := by simpa using hq.symm
    subst q1
    have a0 : a = 0 := by omega
    have b0' : b = 0 := by omega
    subst a0 b0'
    by_cases hn0 : n = 0
    · rcases hkk with rfl | rfl <;> simp [hx, hw, hm, ha, hb, hk, d1, d2, m1, hk1, hn0, gateOf, encG, hl]
    · rcases hkk with rfl | rfl <;> simp [hx, hw, hm, ha, hb, hk, d1, d2, m1, hk1, hn0, gateOf, encG, hl]
  · have hm' : (if 1 < t then t else 1) = q := hq
    rw [if_neg ht] at hk1
    subst hk1
    have hk' : k = 0 ∨ k = 1 ∨ k = 2 ∨ k = 3 ∨ k = 4 ∨ k = 5 ∨ k = 6 ∨ k = 7 := by omega
    by_cases hn0 : n = 0
    · subst hn0
      rcases hk' with rfl | rfl | rfl | rfl | rfl | rfl | rfl | rfl
      · subst hk2; simp [hx, hw, hm', ha, hb, hk, d1, d2, m1, ht, gateOf, encG, hl]
      · subst hk2; simp [hx, hw, hm', ha, hb, hk, d1, d2, m1, ht, gateOf, encG, hl]
      · subst hk2; simp [hx, hw, hm', ha, hb, hk, d1, d2, m1, ht, gateOf, encG, hl]
      · subst hk2; simp [hx, hw, hm', ha, hb, hk, d1, d2, m1, ht, gateOf, encG, hl]
      · subst hk2
        rcases e2 with rfl | rfl
        · simp [hx, hw, hm', ha, hb, hk, d1, d2, d3, m1, ht, gateOf, encG, hl, he]
        · simp [hx, hw, hm', ha, hb, hk, d1, d2, d3, m1, ht, gateOf, encG, hl, he]
      · subst hk2; simp [hx, hw, hm', ha, hb, hk, d1, d2, m1, ht, gateOf, encG, hl]
      · subst hk2; simp [hx, hw, hm', ha, hb, hk, d1, d2, m1, ht, gateOf, encG, hl]
      · subst hk2; simp [hx, hw, hm', ha, hb, hk, d1, d2, m1, ht, gateOf, encG, hl]
    · have mn : cMod (w / 1024) n = true := cMod_of (by omega)
      have hk2' : k2 = k := by rw [hk2, if_neg (fun z => hn0 z.1)]
      subst hk2'
      rcases hk' with rfl | rfl | rfl | rfl | rfl | rfl | rfl | rfl
      · simp [hx, hw, hm', ha, hb, hk, d1, d2, m1, ht, gateOf, encG, hl, hn0]
      · simp [hx, hw, hm', ha, hb, hk, d1, d2, m1, ht, gateOf, encG, hl, hn0]
      · simp [hx, hw, hm', ha, hb, hk, d1, d2, m1, ht, gateOf, encG, hl, hn0]
      · simp [hx, hw, hm', ha, hb, hk, d1, d2, m1, ht, gateOf, encG, hl, hn0]
      · rcases e2 with rfl | rfl
        · simp [hx, hw, hm', ha, hb, hk, d1, d2, d3, m1, ht, gateOf, encG, hl, he, hn0]
        · simp [hx, hw, hm', ha, hb, hk, d1, d2, d3, m1, ht, gateOf, encG, hl, he, hn0]
      · simp [hx, hw, hm', ha, hb, hk, d1, d2, m1, ht, gateOf, encG, hl, hn0]
      · simp [hx, hw, hm', ha, hb, hk, d1, d2, d3, m1, mn, ht, gateOf, encG, hl, hn0, hf]
      · simp [hx, hw, hm', ha, hb, hk, d1, d2, d3, m1, mn, ht, gateOf, encG, hl, hn0, hf]
theorem wf_gateOf {k e f : Int} {t a b : Nat} (h0 : t = 0 → k = 0 ∨ k = 1) (ha : 0 < t → a < t) (hb : 0 < t → b < t) (hf : 0 ≤ f ∨ k = 0 ∨ k = 1 ∨ k = 2 ∨ k = 3 ∨ k = 4 ∨ k = 5) : Wf t (gateOf k e f a b) := by
  unfold gateOf
  by_cases ht : t = 0
  · rcases h0 ht with rfl | rfl <;> exact True.intro
  · have ha' := ha (by omega)
    have hb' := hb (by omega)
    repeat' split
    all_goals simp only [Wf]
    all_goals omega
theorem wf_snoc {gs : List Gt} {g : Gt} (h : WfAll gs) (hg : Wf gs.length g) : WfAll (gs ++ [g]) := fun k x hk => by
  by_cases hlt : k < gs.length
  · rw [List.getElem?_append_left hlt] at hk
    exact h k x hk
  · rw [List.getElem?_append_right (by omega)] at hk
    have e : k = gs.length := by
      have := (List.getElem?_eq_some_iff.mp hk).1
      simp at this
      omega
    subst e
    simp at hk
    exact hk ▸ hg
theorem gates_eq {n : Nat} {many : Int} {ds : List Int} (hw : Within many ds) (hz : ds.length ≤ 1000) : ∃ gs : List Gt, f_law_gates [.int n, .list (ds.map .int)] = .ok (.own (gs.map encG)) ∧ gs.length = ds.length ∧ WfAll gs := by
  have hsm : small62 (ds.length : Int) = true := small62_of (by omega) (by omega)
  unfold f_law_gates b_law_gates
  simp [hsm]
  generalize hL : loopS _ _ _ _ = r
  have key : ∃ a : List Gt × Option O × Option O × Option O × Option O, r = .nx [some (.val (.int n)), some (.val (.list (ds.map .int))), some (.own (a.1.map encG)), a.2.1, a.2.2.1, a.2.2.2.1, a.2.2.2.2] ∧ (a.1.length = (rangeL 0 1 ds.length).length ∧ WfAll a.1) := by
    rw [← hL]
    refine loopS_enc (a0 := ([], none, none, none, none)) (fun a : List Gt × Option O × Option O × Option O × Option O => [some (.val (.int n)), some (.val (.list (ds.map .int))), some (.own (a.1.map encG)), a.2.1, a.2.2.1, a.2.2.2.1, a.2.2.2.2])
      (fun j a => a.1.length = j ∧ WfAll a.1) (fun j d a hd hP => ?_) ⟨rfl, fun k g h => by cases h⟩
    obtain ⟨gs, x3, x4, x5, x6⟩ := a
    simp only at hP
    obtain ⟨hj, rfl⟩ := rangeL_get hd
    obtain ⟨hl, hwf⟩ := hP
    have hsz : gs.length < sizeLine := by rw [sz]; omega
    have hat : atI (ds.map PyData.int) (0 + (j : Int) * 1) = some (.int ds[j]) := by
      rw [show 0 + (j : Int) * 1 = ((j : Nat) : Int) by omega]
      exact L2.atI_nat (by rw [List.getElem?_map, List.getElem?_eq_getElem hj]; rfl)
    have hd0 := hw ds[j] (List.getElem_mem hj)
    generalize ds[j] = x at hat hd0
    obtain ⟨t, ht⟩ : ∃ t : Int, 0 + (j : Int) * 1 = t := ⟨_, rfl⟩
    rw [ht] at hat ⊢
    obtain ⟨w, hw'⟩ : ∃ w, x / 64 = w := ⟨_, rfl⟩
    have w0 : 0 ≤ w := by omega
    obtain ⟨q, hq⟩ : ∃ q, (if 1 < t then t else 1) = q := ⟨_, rfl⟩
    have q0 : 0 < q := by rw [← hq]; split <;> omega
    have qt : 0 < j → q = j := fun z => by rw [← hq]; split <;> omega
    have a0 := Int.emod_nonneg w (show q ≠ 0 by omega)
    have a1 := Int.emod_lt_of_pos w q0
    have b0 := Int.emod_nonneg (w / 32) (show q ≠ 0 by omega)
    have b1 := Int.emod_lt_of_pos (w / 32) q0
    obtain ⟨a, ha⟩ : ∃ a : Nat, w % q = a := ⟨(w % q).toNat, by omega⟩
    obtain ⟨b, hb⟩ : ∃ b : Nat, w / 32 % q = b := ⟨(w / 32 % q).toNat, by omega⟩
    obtain ⟨k, hk⟩ : ∃ k, x % 64 % 8 = k := ⟨_, rfl⟩
    obtain ⟨e, he⟩ : ∃ e, w / 1024 % 2 = e := ⟨_, rfl⟩
    obtain ⟨f, hf⟩ : ∃ f, w / 1024 % (n : Int) = f := ⟨_, rfl⟩
    obtain ⟨k2, hk2⟩ : ∃ k2, k2 = if (n : Int) = 0 ∧ 5 < (if t = 0 then k % 2 else k) then 5 else (if t = 0 then k % 2 else k) := ⟨_, rfl⟩
    have turn := gates_turn (x3 := x3) (x4 := x4) (x5 := x5) (x6 := x6) (n := n) (gs := gs) (by omega) hat hw' hq q0 ha hb hk he hf hk2 hsz
    refine ⟨(gs ++ [gateOf k2 e f a b], _, _, _, _), turn, by simp [hl], wf_snoc hwf (hl ▸ wf_gateOf (fun z => ?_) (fun z => ?_) (fun z => ?_) ?_)⟩
    · rw [if_pos (show t = 0 by omega)] at hk2
      have : ¬ ((n : Int) = 0 ∧ 5 < k % 2) := by omega
      rw [if_neg this] at hk2
      omega
    · have := qt z; omega
    · have := qt z; omega
    · by_cases hn : (n : Int) = 0
      · right
        split at hk2 <;> split at hk2 <;> omega
      · left
        rw [← hf]
        exact Int.emod_nonneg _ hn
  obtain ⟨⟨gs, x3, x4, x5, x6⟩, rfl, hl, hwf⟩ := key
  refine ⟨gs, by simp, by simpa using hl, hwf⟩
end LK71
set_option Elab.async false
set_option linter.all false
set_option maxRecDepth 100000
set_option maxHeartbeats 4000000
set_option autoImplicit false
namespace LK71
open PySem PySem.Spec L2 DL LC
open PyProof.Rows hiding St cutD
theorem union_eq {n : Int} {l r : List (List Int)} (hl : ∀ c ∈ l, Small c) (hr : ∀ c ∈ r, Small c) (hz : l.length + r.length < sizeLine) :
    f_union [frm n l, frm n r] = if (300 : Int) < (((canon (l ++ r)).length : Nat) : Int) then .ex ⟨"TooManyClauses", some ("count", .int (canon (l ++ r)).length)⟩ else .ok (.val (frm n (canon (l ++ r)))) := by
  have ho := ordered_eq (cs := l ++ r) (fun c hc => (List.mem_append.mp hc).elim (hl c) (hr c)) (by simpa using hz)
  rw [List.map_append] at ho
  have hz' : l.length + r.length ≤ sizeLine := Nat.le_of_lt hz
  unfold f_union b_union
  by_cases h : (300 : Int) < (((canon (l ++ r)).length : Nat) : Int)
  · simp [ho, hz', h, dRaise]
  · simp [ho, hz', h]
    simp [frm]
theorem union_ok_eq {n : Int} {l r : List (List Int)} (hl : ∀ c ∈ l, Small c) (hr : ∀ c ∈ r, Small c) (hz : l.length + r.length < sizeLine) :
    f_law_union_ok [frm n l, frm n r, .int (canon (l ++ r)).length] = tt := by
  have hu := union_eq (n := n) hl hr hz
  have hf := formula_eq (n := n) (cs := l ++ r) (fun c hc => (List.mem_append.mp hc).elim (hl c) (hr c)) (by simpa using hz)
  rw [List.map_append] at hf
  have hz' : l.length + r.length ≤ sizeLine := Nat.le_of_lt hz
  have hlen := canon_len (l ++ r)
  rw [List.length_append] at hlen
  have hsm : f_law_same_ 8 [frm n (canon (l ++ r)), frm n (canon (l ++ r))] = tt := same_frm (k := 4) (by omega) fun c hc => by
    rw [canon_mem] at hc
    exact ((List.mem_append.mp hc).elim (hl c) (hr c)).1
  have hsp := sameP_int ((canon (l ++ r)).length : Int)
  unfold tt at hsm hsp
  unfold f_law_union_ok b_law_union_ok tt
  by_cases h : (300 : Int) < (((canon (l ++ r)).length : Nat) : Int)
  · have h' : ¬ (((canon (l ++ r)).length : Nat) : Int) ≤ 300 := by omega
    simp [dTry, noDict, catchS, emptyAt, unsetS, hu, h, h', dIsX, excCls, excD, dFld, tblF, tblM, hsp, Ex.flat]
  · have h' : (((canon (l ++ r)).length : Nat) : Int) ≤ 300 := by omega
    simp [dTry, noDict, catchS, hu, h, h', hf, hz', hsm]
/-! ### the great formulas -/
theorem comp_eq {f1 f2 : DEnv → R PyData} {δ : DEnv} {lo m : Nat} {t : Int} (h1 : f1 δ = .ok (.int lo)) (h2 : f2 δ = .ok (.int t)) (ht : t = (lo : Int) + m) (hz : δ.length = 6) (hlo : lo ≤ 1000) (hm : m ≤ 1000) :
    dComp 5 (dRngI rng2 (dCons f1 (dCons f2 dNil))) dYes (dV (dApp f_law_clause (dCons (dC (.int 8)) (dCons (dVar 5) dNil)))) δ = .ok (.own ((clFrom 8 lo m).map clD)) := by
  subst ht
  have s1 : small62 (lo : Int) = true := small62_of (by omega) (by omega)
  have s2 : small62 ((lo : Int) + m) = true := small62_of (by omega) (by omega)
  have e : ((lo : Int) + m - lo).toNat = m := by omega
  unfold clFrom
  rw [List.map_map]
  refine dComp_map (fun k : Nat => .int ((lo : Int) + (k : Int))) _ (List.range m) ?_ (by rw [sz]; simp; omega) fun k hk => ?_
  · simp [h1, h2, s1, s2, e, rangeL]
  · have hcl := clause_eq (n := 8) (code := lo + k) (by omega)
    rw [show ((lo + k : Nat) : Int) = (lo : Int) + k by omega, show ((8 : Nat) : Int) = 8 from rfl] at hcl
    match δ, hz with
    | [_, _, _, _, _, _], _ => simp [hcl]
theorem great_count {w0 : Int} (h0 : 0 ≤ w0) : ∃ cnt : Nat, 298 ≤ cnt ∧ cnt ≤ 330 ∧ atI [PyData.int 300, .int 301, .int 299, .int 300, .int 301, .int (298 + w0 / 8 % 33)] (w0 % 6) = some (.int cnt) := by
  have h1 : 0 ≤ w0 / 8 % 33 := Int.emod_nonneg _ (by omega)
  have h2 : w0 / 8 % 33 < 33 := Int.emod_lt_of_pos _ (by omega)
  generalize w0 / 8 % 33 = e at h1 h2
  have h : w0 % 6 = 0 ∨ w0 % 6 = 1 ∨ w0 % 6 = 2 ∨ w0 % 6 = 3 ∨ w0 % 6 = 4 ∨ w0 % 6 = 5 := by omega
  rcases h with h | h | h | h | h | h <;> rw [h]
  · exact ⟨300, by omega, by omega, rfl⟩
  · exact ⟨301, by omega, by omega, rfl⟩
  · exact ⟨299, by omega, by omega, rfl⟩
  · exact ⟨300, by omega, by omega, rfl⟩
  · exact ⟨301, by omega, by omega, rfl⟩
  · refine ⟨(298 + e).toNat, by omega, by omega, ?_⟩
    rw [show (((298 + e).toNat : Nat) : Int) = 298 + e by omega]
    rfl
theorem great_eq {w0 w1 w2 w3 : Int} (h0 : 0 ≤ w0) (h1 : 0 ≤ w1) (h2 : 0 ≤ w2) :
    ∃ l r : List (List Int), f_law_great [.list [.int w0, .int w1, .int w2, .int w3]] = .ok (.own [frm 8 l, frm 8 r, .int (canon (l ++ r)).length]) ∧ (∀ c ∈ l, Small c) ∧ (∀ c ∈ r, Small c) ∧ l.length + l.length < sizeLine ∧ l.length + r.length < sizeLine ∧ canon (l ++ l) = l := by
  obtain ⟨cnt, c1, c2, hat⟩ := great_count h0
  obtain ⟨s, hs⟩ : ∃ s : Nat, (if (cnt : Int) - 299 > 1 then (cnt : Int) - 299 else 1) + w1 % 90 = s := ⟨((if (cnt : Int) - 299 > 1 then (cnt : Int) - 299 else 1) + w1 % 90).toNat, by split <;> omega⟩
  have s1 : 1 ≤ s ∧ s ≤ (if (cnt : Int) - 299 > 1 then (cnt : Int) - 299 else 1) + 89 := by split at hs <;> split <;> omega
  have s2 : s + 49 ≤ cnt := by have := s1.2; split at this <;> omega
  obtain ⟨p, hp⟩ : ∃ p : Nat, w2 % 50 = p := ⟨(w2 % 50).toNat, by omega⟩
  have p1 : p < 50 := by omega
  have cA := fun (δ : DEnv) (f1 f2 : DEnv → R PyData) (e1 : f1 δ = .ok (.int (1 : Nat))) (e2 : f2 δ = .ok (.int ((s : Int) + p))) (hz : δ.length = 6) => comp_eq (m := s + p - 1) e1 e2 (by omega) hz (by omega) (by omega)
  have cB := fun (δ : DEnv) (f1 f2 : DEnv → R PyData) (e1 : f1 δ = .ok (.int s)) (e2 : f2 δ = .ok (.int ((cnt : Int) + 1))) (hz : δ.length = 6) => comp_eq (m := cnt + 1 - s) e1 e2 (by omega) hz (by omega) (by omega)
  have fA := formula_eq (n := 8) (cs := clFrom 8 1 (s + p - 1)) (fun c hc => (clFrom_cl hc).small (by omega)) (by rw [sz, clFrom_len]; omega)
  have fB := formula_eq (n := 8) (cs := clFrom 8 s (cnt + 1 - s)) (fun c hc => (clFrom_cl hc).small (by omega)) (by rw [sz, clFrom_len]; omega)
  have lA := canon_len (clFrom 8 1 (s + p - 1))
  have lB := canon_len (clFrom 8 s (cnt + 1 - s))
  rw [clFrom_len] at lA lB
  have hAB : ∀ c, c ∈ clFrom 8 1 (s + p - 1) ∨ c ∈ clFrom 8 s (cnt + 1 - s) ↔ c ∈ clFrom 8 1 cnt := fun c => by
    rw [clFrom_mem, clFrom_mem, clFrom_mem]
    constructor
    · rintro (⟨k, a, b, e⟩ | ⟨k, a, b, e⟩)
      · exact ⟨k, by omega, by omega, e⟩
      · exact ⟨k, by omega, by omega, e⟩
    · rintro ⟨k, a, b, e⟩
      by_cases hk : k < s
      · exact .inl ⟨k, by omega, by omega, e⟩
      · exact .inr ⟨k, by omega, by omega, e⟩
  have hcnt : (canon (clFrom 8 1 cnt)).length = cnt := by rw [canon_len_of (clFrom_nodup (by omega)), clFrom_len]
  have uAB : canon (canon (clFrom 8 1 (s + p - 1)) ++ canon (clFrom 8 s (cnt + 1 - s))) = canon (clFrom 8 1 cnt) := canon_congr fun c => by rw [List.mem_append, canon_mem, canon_mem, hAB]
  have uBA : canon (canon (clFrom 8 s (cnt + 1 - s)) ++ canon (clFrom 8 1 (s + p - 1))) = canon (clFrom 8 1 cnt) := canon_congr fun c => by rw [List.mem_append, canon_mem, canon_mem, or_comm, hAB]
  have uu : ∀ cs : List (List Int), canon (canon cs ++ canon cs) = canon cs := fun cs => canon_congr fun c => by rw [List.mem_append, canon_mem, or_self]
  have smA : ∀ c ∈ canon (clFrom 8 1 (s + p - 1)), Small c := fun c hc => (clFrom_cl (canon_mem.mp hc)).small (by omega)
  have smB : ∀ c ∈ canon (clFrom 8 s (cnt + 1 - s)), Small c := fun c hc => (clFrom_cl (canon_mem.mp hc)).small (by omega)
  have a0 : atI [PyData.int w0, .int w1, .int w2, .int w3] 0 = some (.int w0) := rfl
  have a1 : atI [PyData.int w0, .int w1, .int w2, .int w3] 1 = some (.int w1) := rfl
  have a2 : atI [PyData.int w0, .int w1, .int w2, .int w3] 2 = some (.int w2) := rfl
  have a3 : atI [PyData.int w0, .int w1, .int w2, .int w3] 3 = some (.int w3) := rfl
  have cA' := cA [some (.val (.list [PyData.int w0, .int w1, .int w2, .int w3])), some (.val (.int cnt)), some (.val (.int s)), none, none, none] (dC (.int 1)) (dV (dBin opAdd (dVar 2) (dV (dBin opMod (dIx (dVar 0) (dC (.int 2))) (dC (.int 50)))))) rfl (by simp [a2, hp]) rfl
  have cB' := cB [some (.val (.list [PyData.int w0, .int w1, .int w2, .int w3])), some (.val (.int cnt)), some (.val (.int s)), some (.own ((clFrom 8 1 (s + p - 1)).map clD)), none, none] (dVar 2) (dV (dBin opAdd (dVar 1) (dC (.int 1)))) (by simp) (by simp) rfl
  have hdv : cDiv w0 8 = true := cDiv_of (by omega) (by omega)
  simp only [gt_iff_lt] at hs
  by_cases hw : w3 % 2 = 0
  · refine ⟨_, _, ?_, smA, smB, by rw [sz]; omega, by rw [sz]; omega, uu _⟩
    rw [uAB, hcnt]
    unfold f_law_great b_law_great
    simp [a0, a1, a2, a3, hdv, hat, hs, cA', cB', hw, fA, fB]
  · refine ⟨_, _, ?_, smB, smA, by rw [sz]; omega, by rw [sz]; omega, uu _⟩
    rw [uBA, hcnt]
    unfold f_law_great b_law_great
    simp [a0, a1, a2, a3, hdv, hat, hs, cA', cB', hw, fA, fB]
/-! ### the law -/
theorem natAbs_sum {B : Nat} : ∀ {l : List Int}, (∀ z ∈ l, z.natAbs < B) → l.sum.natAbs ≤ l.length * B
  | [], _ => by simp
  | x :: l, h => by
    have h1 := h x (List.mem_cons_self ..)
    have h2 := natAbs_sum fun z hz => h z (List.mem_cons_of_mem _ hz)
    rw [List.sum_cons, List.length_cons, Nat.succ_mul]
    have := Int.natAbs_add_le x l.sum
    omega
theorem sum_bits {m : Nat} {l : List Int} (hl : l.length ≤ 63) (h : ∀ z ∈ l, Builtin.Int.intBits z ≤ m) : Builtin.Int.intBits l.sum ≤ m + 6 := by
  refine PySem.intBits_le_iff.mpr ?_
  have h1 := natAbs_sum fun z hz => PySem.intBits_le_iff.mp (h z hz)
  have h2 : l.length * 2 ^ m ≤ 63 * 2 ^ m := Nat.mul_le_mul_right _ hl
  have h3 : 0 < 2 ^ m := Nat.pow_pos (by omega)
  rw [Nat.pow_add]
  omega
theorem lay_gates : ∀ gs : List Gt, PyData.canLayAll0 (gs.map encG) = true
  | [] => by simp [PyData.canLayAll0]
  | g :: gs => by
    show PyData.canLayAll0 (encG g :: gs.map encG) = true
    have s1 : PyData.strOk (Str.ofString "left") = true := by decide +kernel
    have s2 : PyData.strOk (Str.ofString "right") = true := by decide +kernel
    have s3 : PyData.strOk (Str.ofString "any_left") = true := by decide +kernel
    have s4 : PyData.strOk (Str.ofString "any_right") = true := by decide +kernel
    have s5 : PyData.strOk (Str.ofString "same") = true := by decide +kernel
    have s6 : PyData.strOk (Str.ofString "if") = true := by decide +kernel
    have h : PyData.canLay0 (encG g) = true := by cases g <;> simp [encG, PyData.canLay0, PyData.canLayAll0, s1, s2, s3, s4, s5, s6]
    simp [PyData.canLayAll0, h, lay_gates gs]
theorem depth_gates : ∀ gs : List Gt, PyData.depthAll (gs.map encG) ≤ 1
  | [] => by simp [PyData.depthAll]
  | g :: gs => by
    show PyData.depthAll (encG g :: gs.map encG) ≤ 1
    have h : (encG g).depth ≤ 1 := by cases g <;> simp [encG, PyData.depth, PyData.depthAll]
    have := depth_gates gs
    simp only [PyData.depthAll]
    omega
theorem eq_gates (gs : List Gt) : opEq (.list (gs.map encG)) (.list (gs.map encG)) = .ok true := by
  have hl : PyData.canLay0 (.list (gs.map encG)) = true := by simp [PyData.canLay0, lay_gates]
  have hs : SeqAt.shaped (.list (gs.map encG)) = true := by
    have := depth_gates gs
    unfold SeqAt.shaped
    simp [hl, PyData.depth]
    omega
  unfold opEq
  rw [hs, PySem.SeqAt.eqv_refl _ hl]
  rfl
theorem same_side (b : Bool) : f_law_same_ 8 [sideD b, sideD b] = tt := same_str 7 (by cases b <;> decide +kernel)
theorem law_n {m0 : Int} : ∃ n : Nat, n ≤ 8 ∧ atI [PyData.int 3, .int 2, .int 4, .int 3, .int 5, .int 1, .int 8, .int 0] (m0 % 8) = some (.int n) := by
  have h : m0 % 8 = 0 ∨ m0 % 8 = 1 ∨ m0 % 8 = 2 ∨ m0 % 8 = 3 ∨ m0 % 8 = 4 ∨ m0 % 8 = 5 ∨ m0 % 8 = 6 ∨ m0 % 8 = 7 := by omega
  rcases h with h | h | h | h | h | h | h | h <;> rw [h]
  · exact ⟨3, by omega, rfl⟩
  · exact ⟨2, by omega, rfl⟩
  · exact ⟨4, by omega, rfl⟩
  · exact ⟨3, by omega, rfl⟩
  · exact ⟨5, by omega, rfl⟩
  · exact ⟨1, by omega, rfl⟩
  · exact ⟨8, by omega, rfl⟩
  · exact ⟨0, by omega, rfl⟩
theorem ints_four {ds : List Int} (h : ds.length = 4) : ∃ a b c d, ds = [a, b, c, d] := by
  match ds, h with
  | [a, b, c, d], _ => exact ⟨a, b, c, d, rfl⟩
/-- four draws below 2 ** 20 -/
theorem four_eq {ns : List Int} {k : Nat} (hs : Builtin.Int.intBits ns.sum ≤ 2000000) (hk : k < 1000) : ∃ a b c d : Int, f_law_draws [.list (ns.map .int), .int k, .int 4, .int 1048576] = .ok (.own [.int a, .int b, .int c, .int d]) ∧ 0 ≤ a ∧ 0 ≤ b ∧ 0 ≤ c ∧ 0 ≤ d := by
  obtain ⟨ds, h1, h2, h3⟩ := draws_eq (ns := ns) (k := k) (count := 4) (many := 1048576) hs hk (by omega) (by omega) (by omega)
  obtain ⟨a, b, c, d, rfl⟩ := ints_four h2
  exact ⟨a, b, c, d, h1, (h3 a (by simp)).1, (h3 b (by simp)).1, (h3 c (by simp)).1, (h3 d (by simp)).1⟩
theorem shl20 : cShl 1 20 = true := by decide
theorem two20 : (1 : Int) * 2 ^ (20 : Int).toNat = 1048576 := by decide
theorem small_canon {n : Nat} {cs : List (List Int)} (hn : n ≤ 1000) (h : ∀ c ∈ cs, Cl n c) : ∀ c ∈ canon cs, Small c := fun c hc => (h c (canon_mem.mp hc)).small hn
theorem law_true (ns : List Int) (h : ns.length ≤ 63) (hb : ∀ z ∈ ns, Builtin.Int.intBits z ≤ 1048576) : f_law [.list (ns.map .int)] = .ok (.val (.bool true)) := by
  have hs : Builtin.Int.intBits ns.sum ≤ 2000000 := Nat.le_trans (sum_bits h hb) (by omega)
  have hm0 : f_law_number [.list (ns.map .int), .int 0] = .ok (.val (.int (numAt ns 0))) := number_eq (k := 0) hs (by omega)
  generalize numAt ns 0 = m0 at hm0
  obtain ⟨n, hn8, hn⟩ := law_n (m0 := m0)
  obtain ⟨w0, w1, w2, w3, hws, p0, p1, p2, p3⟩ := four_eq (ns := ns) (k := 1) hs (by omega)
  obtain ⟨u0, u1, u2, u3, hus, v0, v1, v2, v3⟩ := four_eq (ns := ns) (k := 4) hs (by omega)
  obtain ⟨ca, hca⟩ : ∃ c : Nat, w0 % 7 = c := ⟨(w0 % 7).toNat, by omega⟩
  obtain ⟨cb, hcb⟩ : ∃ c : Nat, w1 % 7 = c := ⟨(w1 % 7).toNat, by omega⟩
  obtain ⟨A, hA, lA, kA⟩ := random_eq (ns := ns) (k := 2) (n := n) (cnt := ca) hs (by omega) hn8 (by omega)
  obtain ⟨B, hB, lB, kB⟩ := random_eq (ns := ns) (k := 3) (n := n) (cnt := cb) hs (by omega) hn8 (by omega)
  have lA' := canon_len A
  have lB' := canon_len B
  have sA := small_canon (by omega) kA
  have sB := small_canon (by omega) kB
  generalize canon A = FA at *
  generalize canon B = FB at *
  obtain ⟨C, hC⟩ : ∃ C : List (List Int), cutD FA none (some (w2 % 3)) = C := ⟨_, rfl⟩
  have hCl : C.length ≤ FA.length := hC ▸ cutD_len _ _ _
  have sC : ∀ c ∈ C, Small c := fun c hc => sA c (by rw [← hC] at hc; exact cutD_mem hc)
  have sBC : ∀ c ∈ FB ++ C, Small c := fun c hc => (List.mem_append.mp hc).elim (sB c) (sC c)
  have fBC := formula_eq (n := n) (cs := FB ++ C) sBC (by rw [sz, List.length_append]; omega)
  have lBC := canon_len (FB ++ C)
  rw [List.length_append] at lBC
  have sD : ∀ c ∈ canon (FB ++ C), Small c := fun c hc => sBC c (canon_mem.mp hc)
  rw [List.map_append] at fBC
  have hBC : FB.length + C.length ≤ sizeLine := by rw [sz]; omega
  generalize canon (FB ++ C) = FD at *
  have fAD := formula_eq (n := n) (cs := FA ++ FD) (fun c hc => (List.mem_append.mp hc).elim (sA c) (sD c)) (by rw [sz, List.length_append]; omega)
  rw [List.map_append] at fAD
  have hAD : FA.length + FD.length ≤ sizeLine := by rw [sz]; omega
  have uAD := union_ok_eq (n := n) sA sD (by rw [sz]; omega)
  unfold tt at uAD
  have hd8 : cDiv m0 8 = true := cDiv_of (by omega) (by omega)
  have st0 : (dSet 1 [0] (dApp f_law_number (dCons (dVar 0) (dCons (dC (.int 0)) dNil)))) [some (.val (.list (ns.map .int))), none, none, none, none, none, none, none, none, none, none] = .nx [some (.val (.list (ns.map .int))), some (.val (.int m0)), none, none, none, none, none, none, none, none, none] := by
    simp [hm0]
  have st1 : (dSet 2 [1] (dO (dIx (dV (dLst (dCons (dC (.int 3)) (dCons (dC (.int 2)) (dCons (dC (.int 4)) (dCons (dC (.int 3)) (dCons (dC (.int 5)) (dCons (dC (.int 1)) (dCons (dC (.int 8)) (dCons (dC (.int 0)) dNil)))))))))) (dV (dBin opMod (dVar 1) (dC (.int 8))))))) [some (.val (.list (ns.map .int))), some (.val (.int m0)), none, none, none, none, none, none, none, none, none] = .nx [some (.val (.list (ns.map .int))), some (.val (.int m0)), some (.val (.int n)), none, none, none, none, none, none, none, none] := by
    simp [hn]
  have st2 : (dSet 3 [0] (dApp f_law_draws (dCons (dVar 0) (dCons (dC (.int 1)) (dCons (dC (.int 4)) (dCons (dV (dBin opShl (dC (.int 1)) (dC (.int 20)))) dNil)))))) [some (.val (.list (ns.map .int))), some (.val (.int m0)), some (.val (.int n)), none, none, none, none, none, none, none, none] = .nx [some (.val (.list (ns.map .int))), some (.val (.int m0)), some (.val (.int n)), some (.own [.int w0, .int w1, .int w2, .int w3]), none, none, none, none, none, none, none] := by
    have hws' : f_law_draws [.list (ns.map .int), .int 1, .int 4, .int 1048576] = .ok (.own [.int w0, .int w1, .int w2, .int w3]) := hws
    simp [hws', shl20]
  have st3 : (dSet 4 [0, 2, 3] (dApp f_law_random (dCons (dVar 0) (dCons (dC (.int 2)) (dCons (dVar 2) (dCons (dV (dBin opMod (dIx (dVar 3) (dC (.int 0))) (dC (.int 7)))) dNil)))))) [some (.val (.list (ns.map .int))), some (.val (.int m0)), some (.val (.int n)), some (.own [.int w0, .int w1, .int w2, .int w3]), none, none, none, none, none, none, none] = .nx [some (.val (.list (ns.map .int))), some (.val (.int m0)), some (.val (.int n)), some (.own [.int w0, .int w1, .int w2, .int w3]), some (.val (frm n FA)), none, none, none, none, none, none] := by
    have hA' : f_law_random [.list (ns.map .int), .int 2, .int n, .int ca] = .ok (.val (frm n FA)) := hA
    simp [hca, hA']
  have st4 : (dSet 5 [0, 2, 3] (dApp f_law_random (dCons (dVar 0) (dCons (dC (.int 3)) (dCons (dVar 2) (dCons (dV (dBin opMod (dIx (dVar 3) (dC (.int 1))) (dC (.int 7)))) dNil)))))) [some (.val (.list (ns.map .int))), some (.val (.int m0)), some (.val (.int n)), some (.own [.int w0, .int w1, .int w2, .int w3]), some (.val (frm n FA)), none, none, none, none, none, none] = .nx [some (.val (.list (ns.map .int))), some (.val (.int m0)), some (.val (.int n)), some (.own [.int w0, .int w1, .int w2, .int w3]), some (.val (frm n FA)), some (.val (frm n FB)), none, none, none, none, none] := by
    have hB' : f_law_random [.list (ns.map .int), .int 3, .int n, .int cb] = .ok (.val (frm n FB)) := hB
    simp [hcb, hB']
  have st5 : (dSet 5 [2, 3, 4, 5] (dApp f_law_formula (dCons (dVar 2) (dCons (dV (dBin opAdd (dV (dApp (bi1 biList) (dCons (dIx (dVar 5) (dC (.int 1))) dNil))) (dV (dApp (bi1 biList) (dCons (dV (dCut (dIx (dVar 4) (dC (.int 1))) dNoPart (dPart (dV (dBin opMod (dIx (dVar 3) (dC (.int 2))) (dC (.int 3))))))) dNil))))) dNil)))) [some (.val (.list (ns.map .int))), some (.val (.int m0)), some (.val (.int n)), some (.own [.int w0, .int w1, .int w2, .int w3]), some (.val (frm n FA)), some (.val (frm n FB)), none, none, none, none, none] = .nx [some (.val (.list (ns.map .int))), some (.val (.int m0)), some (.val (.int n)), some (.own [.int w0, .int w1, .int w2, .int w3]), some (.val (frm n FA)), some (.val (frm n FD)), none, none, none, none, none] := by
    simp [cutD_map, hC, hBC, fBC]
  have st6 : (dIfS (dNotB (dIsTrue (dV (dApp f_law_union_ok (dCons (dVar 4) (dCons (dVar 5) (dCons (dV (dApp biLen (dCons (dIx (dV (dApp f_law_formula (dCons (dVar 2) (dCons (dV (dBin opAdd (dV (dApp (bi1 biList) (dCons (dIx (dVar 4) (dC (.int 1))) dNil))) (dV (dApp (bi1 biList) (dCons (dIx (dVar 5) (dC (.int 1))) dNil))))) dNil)))) (dC (.int 1))) dNil))) dNil))))))) (dRet (dO (dC (.bool false)))) dNx) [some (.val (.list (ns.map .int))), some (.val (.int m0)), some (.val (.int n)), some (.own [.int w0, .int w1, .int w2, .int w3]), some (.val (frm n FA)), some (.val (frm n FD)), none, none, none, none, none] = .nx [some (.val (.list (ns.map .int))), some (.val (.int m0)), some (.val (.int n)), some (.own [.int w0, .int w1, .int w2, .int w3]), some (.val (frm n FA)), some (.val (frm n FD)), none, none, none, none, none] := by
    simp [hAD, fAD, uAD]
  have st7 : ∃ o6, (dIfS (dCmp opEq (dV (dBin opMod (dV (dBin opDiv (dVar 1) (dC (.int 8)))) (dC (.int 16)))) (dC (.int 5))) (seqS (dSet 6 [0] (dApp f_law_great (dCons (dV (dApp f_law_draws (dCons (dVar 0) (dCons (dC (.int 4)) (dCons (dC (.int 4)) (dCons (dV (dBin opShl (dC (.int 1)) (dC (.int 20)))) dNil)))))) dNil))) (dIfS (dOr (dNotB (dIsTrue (dV (dApp f_law_union_ok (dCons (dIx (dVar 6) (dC (.int 0))) (dCons (dIx (dVar 6) (dC (.int 1))) (dCons (dIx (dVar 6) (dC (.int 2))) dNil))))))) (dNotB (dIsTrue (dV (dApp f_law_union_ok (dCons (dIx (dVar 6) (dC (.int 0))) (dCons (dIx (dVar 6) (dC (.int 0))) (dCons (dV (dApp biLen (dCons (dIx (dIx (dVar 6) (dC (.int 0))) (dC (.int 1))) dNil))) dNil)))))))) (dRet (dO (dC (.bool false)))) dNx)) dNx) [some (.val (.list (ns.map .int))), some (.val (.int m0)), some (.val (.int n)), some (.own [.int w0, .int w1, .int w2, .int w3]), some (.val (frm n FA)), some (.val (frm n FD)), none, none, none, none, none] = .nx [some (.val (.list (ns.map .int))), some (.val (.int m0)), some (.val (.int n)), some (.own [.int w0, .int w1, .int w2, .int w3]), some (.val (frm n FA)), some (.val (frm n FD)), o6, none, none, none, none] := by
    by_cases h5 : m0 / 8 % 16 = 5
    · have hus' : f_law_draws [.list (ns.map .int), .int 4, .int 4, .int 1048576] = .ok (.own [.int u0, .int u1, .int u2, .int u3]) := hus
      obtain ⟨l, r, hg, sl, sr, zl, zr, hll⟩ := great_eq (w3 := u3) v0 v1 v2
      have u1 := union_ok_eq (n := 8) sl sr zr
      have u2 := union_ok_eq (n := 8) sl sl zl
      rw [hll] at u2
      unfold tt at u1 u2
      have g1 : ∀ {a b c : PyData}, opIx (.list [a, b, c]) (.int 0) = .ok a := rfl
      exact ⟨some (.own [frm 8 l, frm 8 r, .int (canon (l ++ r)).length]), by simp [hd8, h5, hus', shl20, hg, u1, u2]⟩
    · exact ⟨none, by simp [hd8, h5]⟩
  obtain ⟨o6, st7⟩ := st7
  have st8 : ∃ gs : List Gt, ((dSet 7 [0, 2, 3] (dApp f_law_gates (dCons (dVar 2) (dCons (dV (dApp f_law_draws (dCons (dVar 0) (dCons (dC (.int 5)) (dCons (dV (dBin opAdd (dC (.int 1)) (dV (dBin opMod (dIx (dVar 3) (dC (.int 3))) (dC (.int 20)))))) (dCons (dV (dBin opShl (dC (.int 1)) (dC (.int 20)))) dNil)))))) dNil)))) [some (.val (.list (ns.map .int))), some (.val (.int m0)), some (.val (.int n)), some (.own [.int w0, .int w1, .int w2, .int w3]), some (.val (frm n FA)), some (.val (frm n FD)), o6, none, none, none, none] = .nx [some (.val (.list (ns.map .int))), some (.val (.int m0)), some (.val (.int n)), some (.own [.int w0, .int w1, .int w2, .int w3]), some (.val (frm n FA)), some (.val (frm n FD)), o6, some (.own (gs.map encG)), none, none, none]) ∧ 0 < gs.length ∧ gs.length ≤ 1000 ∧ WfAll gs := by
    obtain ⟨cw, hcw⟩ : ∃ c : Nat, 1 + w3 % 20 = c := ⟨(1 + w3 % 20).toNat, by omega⟩
    obtain ⟨ds, hds, dl, dw⟩ := draws_eq (ns := ns) (k := 5) (count := cw) (many := 1048576) hs (by omega) (by omega) (by omega) (by omega)
    obtain ⟨gs, hgs, gl, gw⟩ := gates_eq (n := n) dw (by omega)
    have hds' : f_law_draws [.list (ns.map .int), .int 5, .int cw, .int 1048576] = .ok (.own (ds.map .int)) := hds
    refine ⟨gs, ?_, by omega, by omega, gw⟩
    simp [hcw, hds', shl20, hgs]
  obtain ⟨gs, st8, g0, g1, gw⟩ := st8
  have st9 : (dSet 8 [7] (dApp (bi1 biList) (dCons (dVar 7) dNil))) [some (.val (.list (ns.map .int))), some (.val (.int m0)), some (.val (.int n)), some (.own [.int w0, .int w1, .int w2, .int w3]), some (.val (frm n FA)), some (.val (frm n FD)), o6, some (.own (gs.map encG)), none, none, none] = .nx [some (.val (.list (ns.map .int))), some (.val (.int m0)), some (.val (.int n)), some (.own [.int w0, .int w1, .int w2, .int w3]), some (.val (frm n FA)), some (.val (frm n FD)), o6, some (.own (gs.map encG)), some (.own (gs.map encG)), none, none] := by
    simp
  have hshl : cShl 1 (n : Int) = true := by
    unfold cShl
    rw [decide_eq_true_eq, show Builtin.Int.intBits 1 = 1 by decide]
    exact ⟨by omega, by omega⟩
  obtain ⟨P, hP, P0, P1⟩ : ∃ P : Nat, (2 : Int) ^ n = P ∧ 0 < P ∧ P ≤ 256 := ⟨2 ^ n, by simp, Nat.pow_pos (by omega), Nat.le_trans (Nat.pow_le_pow_right (by omega) hn8) (by decide)⟩
  have hsmP : small62 (P : Int) = true := small62_of (by omega) (by omega)
  have st10 : ∃ ms : List Int, ((dSet 9 [2, 10] (dComp 10 (dRngI rng1 (dCons (dV (dBin opShl (dC (.int 1)) (dVar 2))) dNil)) dYes (dVar 10))) [some (.val (.list (ns.map .int))), some (.val (.int m0)), some (.val (.int n)), some (.own [.int w0, .int w1, .int w2, .int w3]), some (.val (frm n FA)), some (.val (frm n FD)), o6, some (.own (gs.map encG)), some (.own (gs.map encG)), none, none] = .nx [some (.val (.list (ns.map .int))), some (.val (.int m0)), some (.val (.int n)), some (.own [.int w0, .int w1, .int w2, .int w3]), some (.val (frm n FA)), some (.val (frm n FD)), o6, some (.own (gs.map encG)), some (.own (gs.map encG)), some (.own (ms.map .int)), none]) ∧ ms.length ≤ 256 := by
    have hc : dComp 10 (dRngI rng1 (dCons (dV (dBin opShl (dC (.int 1)) (dVar 2))) dNil)) dYes (dVar 10) [some (.val (.list (ns.map .int))), some (.val (.int m0)), some (.val (.int n)), some (.own [.int w0, .int w1, .int w2, .int w3]), some (.val (frm n FA)), some (.val (frm n FD)), o6, some (.own (gs.map encG)), some (.own (gs.map encG)), none, none] = .ok (.own ((List.range P).map fun k : Nat => .int ((0 : Int) + (k : Int) * 1))) := by
      refine dComp_map (fun k : Nat => .int ((0 : Int) + (k : Int) * 1)) _ (List.range P) ?_ (by rw [sz]; simp; omega) fun k hk => by simp
      simp [hshl, hP, hsmP, rangeL]
    refine ⟨(List.range P).map fun k : Nat => (0 : Int) + (k : Int) * 1, ?_, by simpa using P1⟩
    rw [List.map_map]
    have hfl : flatAll ((List.range P).map fun k : Nat => PyData.int ((0 : Int) + (k : Int) * 1)) = true := flatAll_map _ (fun k => by simp) _
    exact dSet_ok hc hfl (by simp)
  obtain ⟨ms, st10, zm⟩ := st10
  have st11 : ∃ us : List Int, ((dIfS (dCmp opGt (dVar 2) (dC (.int 3))) (dSet 9 [0, 2] (dApp f_law_draws (dCons (dVar 0) (dCons (dC (.int 6)) (dCons (dC (.int 10)) (dCons (dV (dBin opShl (dC (.int 1)) (dVar 2))) dNil)))))) dNx) [some (.val (.list (ns.map .int))), some (.val (.int m0)), some (.val (.int n)), some (.own [.int w0, .int w1, .int w2, .int w3]), some (.val (frm n FA)), some (.val (frm n FD)), o6, some (.own (gs.map encG)), some (.own (gs.map encG)), some (.own (ms.map .int)), none] = .nx [some (.val (.list (ns.map .int))), some (.val (.int m0)), some (.val (.int n)), some (.own [.int w0, .int w1, .int w2, .int w3]), some (.val (frm n FA)), some (.val (frm n FD)), o6, some (.own (gs.map encG)), some (.own (gs.map encG)), some (.own (us.map .int)), none]) ∧ us.length ≤ 256 := by
    by_cases h3 : 3 < (n : Int)
    · obtain ⟨us, hu, ul, uw⟩ := draws_eq (ns := ns) (k := 6) (count := 10) (many := (P : Int)) hs (by omega) (by omega) (by omega) (by omega)
      have hu' : f_law_draws [.list (ns.map .int), .int 6, .int 10, .int P] = .ok (.own (us.map .int)) := hu
      refine ⟨us, ?_, by omega⟩
      simp [h3, hshl, hP, hu']
    · refine ⟨ms, ?_, zm⟩
      simp [h3]
  obtain ⟨us, st11, zu⟩ := st11
  have st12 : ∃ a, (dFor [9] (dBin opAdd (dVar 9) (dV (dCut (dVar 9) dNoPart (dPart (dC (.int 2)))))) (sName 10) (dIfS (dNotB (dIsTrue (dV (dApp f_law_same (dCons (dV (dApp f_blames (dCons (dVar 8) (dCons (dVar 10) dNil)))) (dCons (dV (dApp f_law_says (dCons (dVar 7) (dCons (dVar 10) dNil)))) dNil)))))) (dRet (dO (dC (.bool false)))) dNx)) [some (.val (.list (ns.map .int))), some (.val (.int m0)), some (.val (.int n)), some (.own [.int w0, .int w1, .int w2, .int w3]), some (.val (frm n FA)), some (.val (frm n FD)), o6, some (.own (gs.map encG)), some (.own (gs.map encG)), some (.own (us.map .int)), none] = .nx [some (.val (.list (ns.map .int))), some (.val (.int m0)), some (.val (.int n)), some (.own [.int w0, .int w1, .int w2, .int w3]), some (.val (frm n FA)), some (.val (frm n FD)), o6, some (.own (gs.map encG)), some (.own (gs.map encG)), some (.own (us.map .int)), a] := by
    have hz2 : us.length + (cutD us none (some 2)).length ≤ sizeLine := by
      have := cutD_len us none (some 2)
      rw [sz]; omega
    have hne : ∀ m, evAll m gs ≠ [] := fun m z => by
      have := evAll_len m gs
      rw [z] at this
      simp at this
      omega
    simp [cutD_map, hz2]
    refine (loopS_enc (a0 := none) (fun a : Option O => [some (.val (.list (ns.map .int))), some (.val (.int m0)), some (.val (.int n)), some (.own [.int w0, .int w1, .int w2, .int w3]), some (.val (frm n FA)), some (.val (frm n FD)), o6, some (.own (gs.map encG)), some (.own (gs.map encG)), some (.own (us.map .int)), a]) (fun _ _ => True) (fun j d a hd _ => ?_) trivial).imp fun a h => h.1
    rw [← List.map_append, List.getElem?_map] at hd
    obtain ⟨z, _, rfl⟩ := Option.map_eq_some_iff.mp hd
    have h1 := blames_eq (m := z) gw g1 (hne z)
    have h2 := says_eq (m := z) gw g1 (hne z)
    have h3 := same_side ((evAll z gs).getLast (hne z))
    unfold tt at h3
    refine ⟨some (.val (.int z)), ?_, trivial⟩
    simp [h1, h2, h3]
  obtain ⟨a, st12⟩ := st12
  have st13 : (dRet (dO (dBl (dCmp opEq (dVar 8) (dVar 7))))) [some (.val (.list (ns.map .int))), some (.val (.int m0)), some (.val (.int n)), some (.own [.int w0, .int w1, .int w2, .int w3]), some (.val (frm n FA)), some (.val (frm n FD)), o6, some (.own (gs.map encG)), some (.own (gs.map encG)), some (.own (us.map .int)), a] = .rt (.val (.bool true)) := by
    simp [eq_gates]
  refine runD_rt ?_
  show b_law [some (.val (.list (ns.map .int))), none, none, none, none, none, none, none, none, none, none] = _
  unfold b_law
  rw [seqS_nx st0, seqS_nx st1, seqS_nx st2, seqS_nx st3, seqS_nx st4, seqS_nx st5, seqS_nx st6, seqS_nx st7, seqS_nx st8, seqS_nx st9, seqS_nx st10, seqS_nx st11, seqS_nx st12]
  exact st13
end LK71
set_option Elab.async false
set_option linter.all false
set_option maxRecDepth 100000
set_option maxHeartbeats 4000000
set_option autoImplicit false
namespace LK71
open PySem PySem.Spec L2 DL LC
open PyProof.Rows hiding St
def sup_TooManyClauses : SupD := ⟨"TooManyClauses", "count", "TooManyClauses.__init__", "too many clauses", 0, ⟨23, 17, 23, 21⟩, ⟨23, 23, 23, 28⟩, ⟨24, 8, 24, 13⟩, ⟨24, 8, 24, 15⟩, ⟨24, 8, 24, 24⟩, ⟨24, 25, 24, 43⟩, ⟨24, 8, 24, 44⟩, ⟨24, 8, 24, 44⟩, ⟨25, 8, 25, 12⟩, ⟨25, 8, 25, 18⟩, ⟨25, 21, 25, 26⟩, ⟨25, 8, 25, 26⟩⟩
def d_literal_key : He.DefD := ⟨("literal_key", none), "literal_key", "literal_key", defArgs s_literal_key, defBody s_literal_key, defScope s_literal_key, [], []⟩
def d_clause_key : He.DefD := ⟨("clause_key", none), "clause_key", "clause_key", defArgs s_clause_key, defBody s_clause_key, defScope s_clause_key, [], []⟩
def d_ordered_clauses : He.DefD := ⟨("ordered_clauses", none), "ordered_clauses", "ordered_clauses", defArgs s_ordered_clauses, defBody s_ordered_clauses, defScope s_ordered_clauses, [], []⟩
def d_union : He.DefD := ⟨("union", none), "union", "union", defArgs s_union, defBody s_union, defScope s_union, [], []⟩
def d_any_side : He.DefD := ⟨("any_side", none), "any_side", "any_side", defArgs s_any_side, defBody s_any_side, defScope s_any_side, [], []⟩
def d_gate_side : He.DefD := ⟨("gate_side", none), "gate_side", "gate_side", defArgs s_gate_side, defBody s_gate_side, defScope s_gate_side, [], []⟩
def d_blames : He.DefD := ⟨("blames", none), "blames", "blames", defArgs s_blames, defBody s_blames, defScope s_blames, [], []⟩
def d_law_number : He.DefD := ⟨("_law_number", none), "_law_number", "_law_number", defArgs s_law_number, defBody s_law_number, defScope s_law_number, [], []⟩
def d_law_draws : He.DefD := ⟨("_law_draws", none), "_law_draws", "_law_draws", defArgs s_law_draws, defBody s_law_draws, defScope s_law_draws, [], []⟩
def d_law_place : He.DefD := ⟨("_law_place", none), "_law_place", "_law_place", defArgs s_law_place, defBody s_law_place, defScope s_law_place, [], []⟩
def d_law_clause : He.DefD := ⟨("_law_clause", none), "_law_clause", "_law_clause", defArgs s_law_clause, defBody s_law_clause, defScope s_law_clause, [], []⟩
def d_law_key : He.DefD := ⟨("_law_key", none), "_law_key", "_law_key", defArgs s_law_key, defBody s_law_key, defScope s_law_key, [], []⟩
def d_law_formula : He.DefD := ⟨("_law_formula", none), "_law_formula", "_law_formula", defArgs s_law_formula, defBody s_law_formula, defScope s_law_formula, [], []⟩
def d_law_random : He.DefD := ⟨("_law_random", none), "_law_random", "_law_random", defArgs s_law_random, defBody s_law_random, defScope s_law_random, [], []⟩
def d_law_same : He.DefD := ⟨("_law_same", none), "_law_same", "_law_same", defArgs s_law_same, defBody s_law_same, defScope s_law_same, [], []⟩
def d_law_says : He.DefD := ⟨("_law_says", none), "_law_says", "_law_says", defArgs s_law_says, defBody s_law_says, defScope s_law_says, [], []⟩
def d_law_gates : He.DefD := ⟨("_law_gates", none), "_law_gates", "_law_gates", defArgs s_law_gates, defBody s_law_gates, defScope s_law_gates, [], []⟩
def d_law_great : He.DefD := ⟨("_law_great", none), "_law_great", "_law_great", defArgs s_law_great, defBody s_law_great, defScope s_law_great, [], []⟩
def d_law_union_ok : He.DefD := ⟨("_law_union_ok", none), "_law_union_ok", "_law_union_ok", defArgs s_law_union_ok, defBody s_law_union_ok, defScope s_law_union_ok, [], []⟩
def d_law : He.DefD := ⟨("law", none), "law", "law", defArgs s_law, defBody s_law, defScope s_law, [], []⟩
def fn_0 : List He.DefD := [d_literal_key,
  d_clause_key,
  d_ordered_clauses,
  d_union,
  d_any_side,
  d_gate_side,
  d_blames,
  d_law_number,
  d_law_draws,
  d_law_place,
  d_law_clause,
  d_law_key,
  d_law_formula,
  d_law_random,
  d_law_same,
  d_law_says,
  d_law_gates,
  d_law_great,
  d_law_union_ok,
  d_law]
def fn : List He.DefD := fn_0
def fa_0 : List He.Fa := [.glo "literal_key",
  .glo "clause_key",
  .glo "ordered_clauses",
  .glo "union",
  .glo "any_side",
  .glo "gate_side",
  .glo "blames",
  .glo "_law_number",
  .glo "_law_draws",
  .glo "_law_place",
  .glo "_law_clause",
  .glo "_law_key",
  .glo "_law_formula",
  .glo "_law_random",
  .glo "_law_same",
  .glo "_law_says",
  .glo "_law_gates",
  .glo "_law_great",
  .glo "_law_union_ok",
  .glo "law",
  .int "MAX_CLAUSES" 300,
  .glo "BadCount",
  .glo "BadLiteral",
  .glo "FormulaError",
  .glo "RepeatedVariable",
  .glo "TooManyClauses",
  .free "ValueError",
  .free "abs",
  .free "bool",
  .free "int"]
def fa_1 : List He.Fa := [.free "isinstance",
  .free "len",
  .free "list",
  .free "max",
  .free "range",
  .free "sorted",
  .free "str",
  .free "sum",
  .free "tuple"]
def fa : List He.Fa := fa_0 ++ fa_1
def fs : List SupD := [sup_TooManyClauses]
def fx : List FX := [.fld ["TooManyClauses"] "count", .isT [("TooManyClauses", false)] (.own "BadCount"), .isT [("TooManyClauses", false)] (.own "BadLiteral"), .isT [("TooManyClauses", true)] (.own "FormulaError"), .isT [("TooManyClauses", false)] (.own "RepeatedVariable"), .isT [("TooManyClauses", true)] (.bi "ValueError"), .exm [("TooManyClauses", true)] "TooManyClauses"]
abbrev Rw : PySem.W.OpenRow := PySem.W.OpenLaw.row PySem.Challenge.rw_liarsbooks_k71_union_and_blames
abbrev hk : PySem.W.Hook := hookX 5 Rw.prog fa fn fs fx
def ob (s : PySem.W.SharedT) : AlX := obsXG 5 Rw.prog fa fn fs fx (HandSHeadRun.getT s)
theorem ob_eq (s : PySem.W.SharedT) : ob s = hk.obs s.abs := obsXG_eq (HandSHeadRun.getT_eq s)
def loose_0 : List Str := ["LiarError",
  "FormulaError",
  "BadLiteral",
  "RepeatedVariable",
  "BadCount",
  "TooManyClauses",
  "literal_key",
  "clause_key",
  "MAX_CLAUSES",
  "ordered_clauses",
  "union",
  "any_side",
  "gate_side",
  "blames",
  "_law_number",
  "_law_draws",
  "_law_place",
  "_law_clause",
  "_law_key",
  "_law_formula",
  "_law_random",
  "_law_same",
  "_law_says",
  "_law_gates",
  "_law_great",
  "_law_union_ok"]
def loose : List Str := loose_0
theorem run (w : World) : HandSHeadRun.RunEq Rw (PySem.W.view Rw.prog [31]) hk ob 4000 loose w := by
  intro os
  kernel_rfl
theorem tx {K : PySem.W.Frag} {h : Heap} {mg : Str → Option Value} (X : K.In h) (G : h.Ns mainGlobals mg) (c : SaysX Rw.prog fa fn fs fx K) : Tx Rw.prog K mg where
  c_MAX_CLAUSES := He.int_ok X G (c.d.fact 20 (f := .int "MAX_CLAUSES" 300) rfl)
  e_TooManyClauses := c.sup 0 (d := sup_TooManyClauses) rfl X G ⟨by intros; rfl, by decide, by decide, by decide, by decide, by decide⟩ (fun env => ⟨_, rfl⟩)
  f_count_TooManyClauses := fldT_ok (c.xs 0 (d := .fld ["TooManyClauses"] "count") rfl)
  g_BadCount := He.glo_ok X G (c.d.fact 21 (f := .glo "BadCount") rfl)
  g_BadLiteral := He.glo_ok X G (c.d.fact 22 (f := .glo "BadLiteral") rfl)
  g_FormulaError := He.glo_ok X G (c.d.fact 23 (f := .glo "FormulaError") rfl)
  g_RepeatedVariable := He.glo_ok X G (c.d.fact 24 (f := .glo "RepeatedVariable") rfl)
  g_TooManyClauses := He.glo_ok X G (c.d.fact 25 (f := .glo "TooManyClauses") rfl)
  k_BadCount_TooManyClauses := isT_ok (c.xs 1 (d := .isT [("TooManyClauses", false)] (.own "BadCount")) rfl)
  k_BadLiteral_TooManyClauses := isT_ok (c.xs 2 (d := .isT [("TooManyClauses", false)] (.own "BadLiteral")) rfl)
  k_FormulaError_TooManyClauses := isT_ok (c.xs 3 (d := .isT [("TooManyClauses", true)] (.own "FormulaError")) rfl)
  k_RepeatedVariable_TooManyClauses := isT_ok (c.xs 4 (d := .isT [("TooManyClauses", false)] (.own "RepeatedVariable")) rfl)
  k_ValueError_TooManyClauses := isT_ok (c.xs 5 (d := .isT [("TooManyClauses", true)] (.bi "ValueError")) rfl)
  n_ValueError := He.free_ok X G (c.d.fact 26 (f := .free "ValueError") rfl)
  n_abs := He.free_ok X G (c.d.fact 27 (f := .free "abs") rfl)
  n_bool := He.free_ok X G (c.d.fact 28 (f := .free "bool") rfl)
  n_int := He.free_ok X G (c.d.fact 29 (f := .free "int") rfl)
  n_isinstance := He.free_ok X G (c.d.fact 30 (f := .free "isinstance") rfl)
  n_len := He.free_ok X G (c.d.fact 31 (f := .free "len") rfl)
  n_list := He.free_ok X G (c.d.fact 32 (f := .free "list") rfl)
  n_max := He.free_ok X G (c.d.fact 33 (f := .free "max") rfl)
  n_range := He.free_ok X G (c.d.fact 34 (f := .free "range") rfl)
  n_sorted := He.free_ok X G (c.d.fact 35 (f := .free "sorted") rfl)
  n_str := He.free_ok X G (c.d.fact 36 (f := .free "str") rfl)
  n_sum := He.free_ok X G (c.d.fact 37 (f := .free "sum") rfl)
  n_tuple := He.free_ok X G (c.d.fact 38 (f := .free "tuple") rfl)
  x_TooManyClauses_TooManyClauses := exmT_ok (c.xs 6 (d := .exm [("TooManyClauses", true)] "TooManyClauses") rfl)
theorem facts {w : World} {K : PySem.W.Frag} {h : Heap} {mg : Str → Option Value} {f : Addr} (X : K.In h) (G : h.Ns mainGlobals mg) (hfa : mg ("law" : Str) = some (.ref f)) (c : SaysX Rw.prog fa fn fs fx K) :
    ∃ fd : FuncData, (∀ (s : Shared) (v : Value), BindsTo s fd ⟨[v], []⟩ [("script", v)]) ∧ ∀ base : Heap, K.In base → base.Ns mainGlobals mg → FnOk Rw.prog w K mg base (L2.CX Rw.prog w) 10 f fd ["script"] (spD K 1 f_law) := by
  have T := tx X G c
  obtain ⟨fd_literal_key, F_literal_key⟩ := c.d.def_ 0 (d := d_literal_key) rfl
  have m_literal_key := He.glo_ok X G (c.d.fact 0 (f := .glo "literal_key") rfl)
  obtain ⟨fd_clause_key, F_clause_key⟩ := c.d.def_ 1 (d := d_clause_key) rfl
  have m_clause_key := He.glo_ok X G (c.d.fact 1 (f := .glo "clause_key") rfl)
  obtain ⟨fd_ordered_clauses, F_ordered_clauses⟩ := c.d.def_ 2 (d := d_ordered_clauses) rfl
  have m_ordered_clauses := He.glo_ok X G (c.d.fact 2 (f := .glo "ordered_clauses") rfl)
  obtain ⟨fd_union, F_union⟩ := c.d.def_ 3 (d := d_union) rfl
  have m_union := He.glo_ok X G (c.d.fact 3 (f := .glo "union") rfl)
  obtain ⟨fd_any_side, F_any_side⟩ := c.d.def_ 4 (d := d_any_side) rfl
  have m_any_side := He.glo_ok X G (c.d.fact 4 (f := .glo "any_side") rfl)
  obtain ⟨fd_gate_side, F_gate_side⟩ := c.d.def_ 5 (d := d_gate_side) rfl
  have m_gate_side := He.glo_ok X G (c.d.fact 5 (f := .glo "gate_side") rfl)
  obtain ⟨fd_blames, F_blames⟩ := c.d.def_ 6 (d := d_blames) rfl
  have m_blames := He.glo_ok X G (c.d.fact 6 (f := .glo "blames") rfl)
  obtain ⟨fd_law_number, F_law_number⟩ := c.d.def_ 7 (d := d_law_number) rfl
  have m_law_number := He.glo_ok X G (c.d.fact 7 (f := .glo "_law_number") rfl)
  obtain ⟨fd_law_draws, F_law_draws⟩ := c.d.def_ 8 (d := d_law_draws) rfl
  have m_law_draws := He.glo_ok X G (c.d.fact 8 (f := .glo "_law_draws") rfl)
  obtain ⟨fd_law_place, F_law_place⟩ := c.d.def_ 9 (d := d_law_place) rfl
  have m_law_place := He.glo_ok X G (c.d.fact 9 (f := .glo "_law_place") rfl)
  obtain ⟨fd_law_clause, F_law_clause⟩ := c.d.def_ 10 (d := d_law_clause) rfl
  have m_law_clause := He.glo_ok X G (c.d.fact 10 (f := .glo "_law_clause") rfl)
  obtain ⟨fd_law_key, F_law_key⟩ := c.d.def_ 11 (d := d_law_key) rfl
  have m_law_key := He.glo_ok X G (c.d.fact 11 (f := .glo "_law_key") rfl)
  obtain ⟨fd_law_formula, F_law_formula⟩ := c.d.def_ 12 (d := d_law_formula) rfl
  have m_law_formula := He.glo_ok X G (c.d.fact 12 (f := .glo "_law_formula") rfl)
  obtain ⟨fd_law_random, F_law_random⟩ := c.d.def_ 13 (d := d_law_random) rfl
  have m_law_random := He.glo_ok X G (c.d.fact 13 (f := .glo "_law_random") rfl)
  obtain ⟨fd_law_same, F_law_same⟩ := c.d.def_ 14 (d := d_law_same) rfl
  have m_law_same := He.glo_ok X G (c.d.fact 14 (f := .glo "_law_same") rfl)
  obtain ⟨fd_law_says, F_law_says⟩ := c.d.def_ 15 (d := d_law_says) rfl
  have m_law_says := He.glo_ok X G (c.d.fact 15 (f := .glo "_law_says") rfl)
  obtain ⟨fd_law_gates, F_law_gates⟩ := c.d.def_ 16 (d := d_law_gates) rfl
  have m_law_gates := He.glo_ok X G (c.d.fact 16 (f := .glo "_law_gates") rfl)
  obtain ⟨fd_law_great, F_law_great⟩ := c.d.def_ 17 (d := d_law_great) rfl
  have m_law_great := He.glo_ok X G (c.d.fact 17 (f := .glo "_law_great") rfl)
  obtain ⟨fd_law_union_ok, F_law_union_ok⟩ := c.d.def_ 18 (d := d_law_union_ok) rfl
  have m_law_union_ok := He.glo_ok X G (c.d.fact 18 (f := .glo "_law_union_ok") rfl)
  obtain ⟨fd_law, F_law⟩ := c.d.def_ 19 (d := d_law) rfl
  have m_law := He.glo_ok X G (c.d.fact 19 (f := .glo "law") rfl)
  cases (hfa.symm.trans m_law)
  have b := FunD.bindsA (ps := ["script"]) F_law fun _ _ _ _ _ _ us hl => match us, hl with | [_], _ => rfl
  exact ⟨fd_law, fun s v => b s [v] rfl, fun base _ _ => by
    have D_literal_key := ok_literal_key (P := Rw.prog) (w := w) (base := base) T F_literal_key m_literal_key
    have D_clause_key := ok_clause_key (P := Rw.prog) (w := w) (base := base) T D_literal_key F_clause_key m_clause_key
    have D_ordered_clauses := ok_ordered_clauses (P := Rw.prog) (w := w) (base := base) T D_clause_key F_ordered_clauses m_ordered_clauses
    have D_union := ok_union (P := Rw.prog) (w := w) (base := base) T D_ordered_clauses F_union m_union
    have D_any_side := ok_any_side (P := Rw.prog) (w := w) (base := base) T F_any_side m_any_side
    have D_gate_side := ok_gate_side (P := Rw.prog) (w := w) (base := base) T D_any_side F_gate_side m_gate_side
    have D_blames := ok_blames (P := Rw.prog) (w := w) (base := base) T D_gate_side F_blames m_blames
    have D_law_number := ok_law_number (P := Rw.prog) (w := w) (base := base) T F_law_number m_law_number
    have D_law_draws := ok_law_draws (P := Rw.prog) (w := w) (base := base) T D_law_number F_law_draws m_law_draws
    have D_law_place := ok_law_place (P := Rw.prog) (w := w) (base := base) T F_law_place m_law_place
    have D_law_clause := ok_law_clause (P := Rw.prog) (w := w) (base := base) T D_law_place F_law_clause m_law_clause
    have D_law_key := ok_law_key (P := Rw.prog) (w := w) (base := base) T F_law_key m_law_key
    have D_law_formula := ok_law_formula (P := Rw.prog) (w := w) (base := base) T D_law_key F_law_formula m_law_formula
    have D_law_random := ok_law_random (P := Rw.prog) (w := w) (base := base) T D_law_draws D_law_place D_law_clause D_law_formula F_law_random m_law_random
    have D_law_same := ok_law_same (P := Rw.prog) (w := w) (base := base) T F_law_same m_law_same 8
    have D_law_sameP := ok_law_sameP (P := Rw.prog) (w := w) (base := base) T F_law_same m_law_same
    have D_law_says := ok_law_says (P := Rw.prog) (w := w) (base := base) T F_law_says m_law_says
    have D_law_gates := ok_law_gates (P := Rw.prog) (w := w) (base := base) T F_law_gates m_law_gates
    have D_law_great := ok_law_great (P := Rw.prog) (w := w) (base := base) T D_law_clause D_law_formula F_law_great m_law_great
    have D_law_union_ok := ok_law_union_ok (P := Rw.prog) (w := w) (base := base) T D_union D_law_sameP D_law_same D_law_formula F_law_union_ok m_law_union_ok
    exact ok_law T D_law_number D_law_draws D_law_random D_law_formula D_law_union_ok D_law_great D_law_gates D_law_same D_blames D_law_says F_law⟩
end LK71
open PySem PySem.W PySem.Calls PyProof.Rows in
theorem PySem.Challenge.cw_liarsbooks_k71_union_and_blames_holds : PySem.Challenge.rw_liarsbooks_k71_union_and_blames.Holds := by
  w_on; o_law
  refine HandSHeadRun.head_any (r := OpenLaw.row PySem.Challenge.rw_liarsbooks_k71_union_and_blames) (q := view (OpenLaw.row PySem.Challenge.rw_liarsbooks_k71_union_and_blames).prog [31]) (H := LK71.hk) (ob := LK71.ob) (M := 4000) (loose := LK71.loose) (d := HandSHeadRun.topDef (OpenLaw.row PySem.Challenge.rw_liarsbooks_k71_union_and_blames).prog 31) (kwd := []) LK71.ob_eq
    (by kernel_rfl) (fun s => by kernel_rfl) LK71.run (by kernel_rfl) (by kernel_rfl) (by kernel_rfl) (by rfl) (by first | assumption | decide +kernel) (by decide +kernel) ⟨rfl, rfl, rfl, rfl, rfl, by decide +kernel⟩ ?hw ?hc
  case hw => w_witness2
  case hc =>
    refine DL.walk_EB (l := PySem.Challenge.rw_liarsbooks_k71_union_and_blames) (n := 63) (k := 10) (x := "script") rfl (by decide) (by kernel_rfl) ⟨rfl, by decide, by decide⟩ ?F
    intro w mg fa h Y G hmg0
    obtain ⟨K, KX, c⟩ := Y
    have hmg : mg ("law" : PySem.Str) = some (.ref fa) := by
      have e : (HandSHeadRun.topDef (OpenLaw.row PySem.Challenge.rw_liarsbooks_k71_union_and_blames).prog 31).name = ("law" : PySem.Str) := by kernel_rfl
      rw [← e]
      exact hmg0
    obtain ⟨fd, hb, hF⟩ := LK71.facts (w := w) KX G hmg c
    exact ⟨K, fd, _, KX, hb, fun H a ns hl hbt _ hS => DL.law_sp LK71.law_true H a ns hl hbt hS, hF⟩
