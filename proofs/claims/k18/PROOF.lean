import PyProof.Rows.All
import Wide.All
import OpenK.AllK
import Wide.FinOn
import KE.KStateDown
import Lean
import HandS.ForMost
import HandS.More
import HandS.WordsExc
import HandS.Defaults
import HandS.Wide
import HandS.Head0
import HandS.Head1
import HandS.Head2
import HandS.HeadEnd
import HandS.HeadHook1
import HandS.HeadHook2
import HandS.Lambda
import HandS.EndTab
import HandS.Conv
import HandS.SortInts
import HandS.MakeKw
import HandS.MakeKwOnly
import HandS.CallSlots
import HandS.IsInst
import HandS.DictComp
import PyProof.TupleOfSeq
import HandS.Zip
import HandS.Style
import HandS.NamedTupGet
import HandS.Strs
import HandS.SetFor
import HandS.SetBool
import HandS.Iter
import KE.GoesNew
import KE.GoesMore
import KE.GoesEnum
import HandS.Flow
import HandS.NoneIn
import HandS.WideMore
import HandS.TupAny
import HandS.Deep
import HandS.RaiseMore
import PyProof.Rows.NestShow
import PyProof.ReprLen
import HandS.TupLe
import HandS.ExcInit
import HandS.ExcField
import HandS.TryMany
import KE.KItemsList
import KE.KDictZip
import HandS.OwnEq
import KE.GoesEnumKw
import HandS.SortKw
import PySem.Challenge.RW_turnedties_k18_whole_classes_by_going_th
import HandS.Nested
import KE.DataMinKey
import KE.KMinKey
set_option Elab.async false
set_option linter.all false
set_option maxRecDepth 100000
set_option maxHeartbeats 4000000
/-! DL1: data trees, the store, judgements whose index is a deterministic function. -/
namespace DL
open PySem L2
/-- a lambda of the text that is handed on as a value: its name, its captured names -/
structure LamR where
  qual : Str
  params : Arguments
  body : Expr
  scope : Scope
  fr : List Str
/-- the tables of code objects that a law's lambdas ask for; the lambdas -/
class Tb where
  T : PySem.W.Frag → List (Addr × Str)
  L : Nat → Option LamR
instance (priority := low) tb0 : Tb := ⟨fun _ => [], fun _ => none⟩
variable [Tb]

/-- a node's tag -/
inductive Tg where
  | lst | slst | tup | dct (ks : List Key) | fdct (ks : List Key) | obj (c : Str) (ns : List Str) | fn (k : Nat) | iset
/-- data: scalars, built-in classes, globals by name, a cell of the store, a frozen node -/
inductive D where
  | non | bl (b : Bool) | int (i : Int) | str (x : Str) | ty (n : String) | gl (x : Str) | ref (n : Nat) | nd (t : Tg) (l : List D)
abbrev Store := List (Tg × List D)
abbrev D.lst (l : List D) : D := .nd .lst l
abbrev D.tup (l : List D) : D := .nd .tup l
/-- outcomes -/
inductive Out (α : Type) where
  | ok (a : α) (M : Store) | exc (c : Str) (d : D) (M : Store) | stuck
abbrev Ev (α : Type) := Store → Out α
def Ev.ret {α : Type} (a : α) : Ev α := fun M => .ok a M
def Ev.no {α : Type} : Ev α := fun _ => .stuck
def Out.bnd {α β : Type} (o : Out α) (k : α → Ev β) : Out β := match o with
  | .ok a M => k a M
  | .exc c d M => .exc c d M
  | .stuck => .stuck
def Ev.bnd {α β : Type} (m : Ev α) (k : α → Ev β) : Ev β := fun M => (m M).bnd k
theorem ret_bnd {α β : Type} (a : α) (k : α → Ev β) : (Ev.ret a).bnd k = k a := rfl
theorem bnd_bnd {α β γ : Type} (m : Ev α) (k : α → Ev β) (j : β → Ev γ) : (m.bnd k).bnd j = m.bnd fun a => (k a).bnd j := by
  funext M; unfold Ev.bnd; cases m M <;> rfl
/-- a local frame -/
abbrev Lo := List (Option D)
inductive Fl where
  | nx (S : Lo) | rt (d : D) | bk (S : Lo) | ct (S : Lo) | xc (c : Str) (d : D) (S : Lo)

structure Gx where
  K : PySem.W.Frag
  mg : Str → Option Value
abbrev gx (X : Cx) : Gx := ⟨X.K, X.mg⟩

/-- a thing of which just its object is told -/
abbrev Fz (o : Obj) : HO := .frz o (.ext fun _ => True)
/-- the lambda k stands at a; what it captured is vs -/
def LamAt (H : Hp) (a : Addr) (k : Nat) (vs : List V) : Prop := ∃ (r : LamR) (cl : List (Str × Addr)) (c : Addr) (pm ctv : Value), Tb.L k = some r ∧
  H a = some (Fz (PySem.W.kla_obj "<lambda>" r.qual r.params r.body r.scope cl pm c ctv)) ∧ H c = some (LamX.CodeO c r.qual) ∧ vs.length = r.fr.length ∧ (∀ x y d, cl.lookup x = some d → cl.lookup y = some d → x = y) ∧
  (∀ x d, cl.lookup x = some d → x ∈ r.fr ∧ ∃ ob v, H d = some (Fz ob) ∧ ob.data = .cell v) ∧ ∀ (i : Nat) (x : Str), r.fr[i]? = some x → ∃ d ob u v, vs[i]? = some v ∧ cl.lookup x = some d ∧ H d = some (Fz ob) ∧ ob.data = .cell (some u) ∧ RelV v u
theorem LamAt.to {H H' : Hp} {a : Addr} {k : Nat} {vs : List V} (h : LamAt H a k vs) (e1 : ∀ o, H a = some (Fz o) → (∀ v, o.data ≠ .cell v) → H' a = some (Fz o)) (e2 : ∀ c q, H c = some (LamX.CodeO c q) → H' c = some (LamX.CodeO c q)) (e3 : ∀ d o v, H d = some (Fz o) → o.data = .cell v → H' d = some (Fz o)) : LamAt H' a k vs := by
  obtain ⟨r, cl, c, pm, ctv, h1, h2, h3, h4, h5, h6, h7⟩ := h
  refine ⟨r, cl, c, pm, ctv, h1, e1 _ h2 (fun v => nofun), e2 _ _ h3, h4, h5, fun x d e => ?_, fun i x e => ?_⟩
  · obtain ⟨hx, ob, v, z1, z2⟩ := h6 x d e
    exact ⟨hx, ob, v, e3 _ _ _ z1 z2, z2⟩
  · obtain ⟨d, ob, u, v, z1, z2, z3, z4, z5⟩ := h7 i x e
    exact ⟨d, ob, u, v, z1, z2, e3 _ _ _ z3 z4, z4, z5⟩
/-- a set of numbers -/
def SetAt (H : Hp) (a : Addr) (vs : List V) : Prop := ∃ (S : Int → Bool), H a = some (.set S vs.length) ∧ (∀ z, S z = true ↔ V.int z ∈ vs) ∧ vs.Nodup
/-- a frozen node at p -/
def FC (G : Gx) (B : Hp) (p : Addr) : Tg → List V → Prop
  | .lst, vs => B p = some (.lst vs)
  | .slst, vs => SqL G.K B p vs
  | .tup, vs => SqT G.K B p vs
  | .dct ks, vs => B p = some (.dK (ks.zip vs)) ∧ ks.length = vs.length
  | .fdct ks, vs => (∃ o, B p = some (.frz o (.dK (ks.zip vs)))) ∧ ks.length = vs.length
  | .obj c ns, vs => ∃ C dx, G.mg c = some (.ref C) ∧ B p = some (.ins C dx (ns.zip vs)) ∧ ns.length = vs.length
  | .fn _, _ => ∃ o, B p = some (Fz o)
  | .iset, vs => SetAt B p vs
/-- a cell at a -/
def MC (G : Gx) (H : Hp) (a : Addr) : Tg → List V → Prop
  | .lst, vs => H a = some (.lst vs)
  | .slst, _ => False
  | .tup, _ => False
  | .dct ks, vs => H a = some (.dK (ks.zip vs)) ∧ ks.length = vs.length
  | .fdct ks, vs => (∃ o, H a = some (.frz o (.dK (ks.zip vs)))) ∧ ks.length = vs.length
  | .obj c ns, vs => ∃ C dx, G.mg c = some (.ref C) ∧ H a = some (.ins C dx (ns.zip vs)) ∧ ns.length = vs.length
  | .fn k, vs => LamAt H a k vs
  | .iset, vs => SetAt H a vs
mutual
inductive R (G : Gx) (B : Hp) (as : List Addr) : V → D → Prop
  | non : R G B as .non .non
  | bl (b : Bool) : R G B as (.bl b) (.bl b)
  | int (i : Int) : R G B as (.int i) (.int i)
  | str (x : Str) : R G B as (.str x) (.str x)
  | ty (n : String) : R G B as (.ty n) (.ty n)
  | gl {x : Str} {a : Addr} : G.mg x = some (.ref a) → R G B as (.ref a) (.gl x)
  | ref {n : Nat} {a : Addr} : as[n]? = some a → R G B as (.ref a) (.ref n)
  | nd {t : Tg} {p : Addr} {vs : List V} {l : List D} : FC G B p t vs → Rs G B as vs l → R G B as (.ref p) (.nd t l)
inductive Rs (G : Gx) (B : Hp) (as : List Addr) : List V → List D → Prop
  | nil : Rs G B as [] []
  | cons {v : V} {vs : List V} {d : D} {l : List D} : R G B as v d → Rs G B as vs l → Rs G B as (v :: vs) (d :: l)
end
theorem pre_get {α : Type} {l l' : List α} (p : l <+: l') {n : Nat} {a : α} (h : l[n]? = some a) : l'[n]? = some a := by
  obtain ⟨t, rfl⟩ := p
  rw [List.getElem?_append_left (List.getElem?_eq_some_iff.mp h).1]; exact h
theorem sqT_mono {K : PySem.W.Frag} {B B' : Hp} {a : Addr} {xs : List V} (e : Same B B') (h : SqT K B a xs) : SqT K B' a xs := by
  rcases h with h | h
  · rcases h with h | ⟨o, h⟩
    · exact .inl (.inl (e _ _ h))
    · exact .inl (.inr ⟨o, e _ _ h⟩)
  · exact .inr h
theorem FC.mono {G : Gx} {B B' : Hp} {p : Addr} (e : Same B B') : ∀ {t : Tg} {vs : List V}, FC G B p t vs → FC G B' p t vs
  | .lst, _, h => e _ _ h
  | .slst, _, h => e.seq h
  | .tup, _, h => sqT_mono e h
  | .dct _, _, h => ⟨e _ _ h.1, h.2⟩
  | .fdct _, _, h => ⟨let ⟨o, q⟩ := h.1; ⟨o, e _ _ q⟩, h.2⟩
  | .obj _ _, _, h => let ⟨C, dx, a, b, c⟩ := h; ⟨C, dx, a, e _ _ b, c⟩
  | .fn _, _, h => let ⟨o, q⟩ := h; ⟨o, e _ _ q⟩
  | .iset, _, h => let ⟨S, a, b⟩ := h; ⟨S, e _ _ a, b⟩
mutual
theorem R.mono {G : Gx} {B B' : Hp} {as as' : List Addr} (e : Same B B') (p : as <+: as') : ∀ {v : V} {d : D}, R G B as v d → R G B' as' v d
  | _, _, .non => .non
  | _, _, .bl b => .bl b
  | _, _, .int i => .int i
  | _, _, .str x => .str x
  | _, _, .ty n => .ty n
  | _, _, .gl h => .gl h
  | _, _, .ref h => .ref (pre_get p h)
  | _, _, .nd h r => .nd (h.mono e) (Rs.mono e p r)
theorem Rs.mono {G : Gx} {B B' : Hp} {as as' : List Addr} (e : Same B B') (p : as <+: as') : ∀ {vs : List V} {l : List D}, Rs G B as vs l → Rs G B' as' vs l
  | _, _, .nil => .nil
  | _, _, .cons h r => .cons (R.mono e p h) (Rs.mono e p r)
end
section
variable {G : Gx} {Fr B B' : Hp} {as as' : List Addr}
theorem Rs.length : ∀ {vs : List V} {l : List D}, Rs G B as vs l → vs.length = l.length
  | _, _, .nil => rfl
  | _, _, .cons _ r => congrArg (· + 1) r.length
theorem Rs.get : ∀ {vs : List V} {l : List D} {i : Nat} {d : D}, Rs G B as vs l → l[i]? = some d → ∃ v, vs[i]? = some v ∧ R G B as v d
  | _, _, _, _, .nil, e => by simp at e
  | _, _, 0, _, .cons h _, e => by simp at e; subst e; exact ⟨_, rfl, h⟩
  | _, _, i + 1, d, .cons _ r, e => by
    obtain ⟨v, h1, h2⟩ := Rs.get (i := i) (d := d) r (by simpa using e)
    exact ⟨v, by simpa using h1, h2⟩
theorem Rs.app : ∀ {vs ws : List V} {l m : List D}, Rs G B as vs l → Rs G B as ws m → Rs G B as (vs ++ ws) (l ++ m)
  | _, _, _, _, .nil, r => r
  | _, _, _, _, .cons h t, r => .cons h (Rs.app t r)
theorem Rs.set {v : V} {d : D} (h : R G B as v d) : ∀ {vs : List V} {l : List D} (i : Nat), Rs G B as vs l → Rs G B as (vs.set i v) (l.set i d)
  | _, _, _, .nil => .nil
  | _, _, 0, .cons _ t => .cons h t
  | _, _, i + 1, .cons q t => .cons q (Rs.set h i t)
theorem Rs.take : ∀ {vs : List V} {l : List D} (n : Nat), Rs G B as vs l → Rs G B as (vs.take n) (l.take n)
  | _, _, 0, _ => .nil
  | _, _, _ + 1, .nil => .nil
  | _, _, n + 1, .cons h t => .cons h (Rs.take n t)
theorem Rs.drop : ∀ {vs : List V} {l : List D} (n : Nat), Rs G B as vs l → Rs G B as (vs.drop n) (l.drop n)
  | _, _, 0, r => r
  | _, _, _ + 1, .nil => .nil
  | _, _, n + 1, .cons _ t => Rs.drop n t
theorem Rs.one {v : V} {d : D} (h : R G B as v d) : Rs G B as [v] [d] := .cons h .nil
/-- no table, no code object and no captured cell of a lambda -/
def Pln (H : Hp) (a : Addr) : Prop := (∀ ps, H a ≠ some (.tbl ps)) ∧ (∀ c q, H a ≠ some (LamX.CodeO c q)) ∧ ∀ o f v, H a = some (.frz o (.ext f)) → o.data ≠ .cell v
theorem Pln.of {H : Hp} {a : Addr} {o : HO} (h : H a = some o) (h1 : ∀ ps, o ≠ .tbl ps) (h2 : ∀ f, o ≠ .ext f) (h3 : ∀ ob f v, o = .frz ob (.ext f) → ob.data ≠ .cell v := by simp) : Pln H a :=
  ⟨fun ps e => h1 ps (Option.some.inj (h.symm.trans e)), fun c q e => h2 _ (Option.some.inj (h.symm.trans e)), fun ob f v e => h3 ob f v (Option.some.inj (h.symm.trans e))⟩
theorem Pln.non {H : Hp} {a : Addr} (n : H a = none) : Pln H a := And.intro (fun _ e => nomatch n.symm.trans e) (And.intro (fun _ _ e => nomatch n.symm.trans e) (fun _ _ _ e => nomatch n.symm.trans e))
theorem LamAt.off {H H' : Hp} {a p : Addr} {k : Nat} {vs : List V} (hp : a ≠ p) (pl : Pln H p) (e : ∀ b, b ≠ p → H' b = H b) (h : LamAt H a k vs) : LamAt H' a k vs :=
  h.to (fun o z _ => by rw [e _ hp]; exact z) (fun c q z => by rw [e _ fun y => pl.2.1 c q (by rw [← y]; exact z)]; exact z) (fun d o v z zd => by rw [e _ fun y => pl.2.2 o _ v (by rw [← y]; exact z) zd]; exact z)
theorem LamAt.pln {H : Hp} {a : Addr} {k : Nat} {vs : List V} (h : LamAt H a k vs) : Pln H a := by
  obtain ⟨_, _, _, _, _, _, q, _⟩ := h
  exact .of q (by simp) (by simp) (fun ob f v e => by cases e; simp [PySem.W.kla_obj])
theorem tabs_off {T : List (Addr × Str)} {H H' : Hp} {a : Addr} (h : LamX.Tabs T H) (p : Pln H a) (k : ∀ b, b ≠ a → H' b = H b) : LamX.Tabs T H' := fun x hx => by
  obtain ⟨ps, h1, h2, h3⟩ := h x hx
  refine ⟨ps, ?_, h2, fun pos cv hc => ?_⟩
  · rw [k _ fun e => p.1 ps (by rw [← e]; exact h1)]; exact h1
  · obtain ⟨c, e1, e2⟩ := h3 pos cv hc
    exact ⟨c, e1, by rw [k _ fun e => p.2.1 c x.2 (by rw [← e]; exact e2)]; exact e2⟩
theorem tabs_new {T : List (Addr × Str)} {H : Hp} {a : Addr} {o : HO} (h : LamX.Tabs T H) (n : H a = none) : LamX.Tabs T (L2.upd H a o) := tabs_off h (Pln.non n) fun _ hb => upd_ne hb
theorem MC.pln {G : Gx} {H : Hp} {a : Addr} : ∀ {t : Tg} {vs : List V}, MC G H a t vs → Pln H a
  | .lst, _, h => .of h (by simp) (by simp)
  | .slst, _, h => h.elim
  | .tup, _, h => h.elim
  | .dct _, _, h => .of h.1 (by simp) (by simp)
  | .fdct _, _, h => let ⟨_, q⟩ := h.1; .of q (by simp) (by simp)
  | .obj _ _, _, h => let ⟨_, _, _, q, _⟩ := h; .of q (by simp) (by simp)
  | .fn _, _, h => LamAt.pln h
  | .iset, _, h => let ⟨_, q, _⟩ := h; .of q (by simp) (by simp)
/-- no table among what is kept -/
def NoT (B : Hp) : Prop := ∀ b ps, B b ≠ some (.tbl ps)
/-- neither a table nor a captured cell -/
def NoB (B : Hp) : Prop := NoT B ∧ ∀ b o f v, B b = some (.frz o (.ext f)) → o.data ≠ .cell v
theorem NoT.upd {B : Hp} {p : Addr} {o : HO} (h : NoT B) (ho : ∀ ps, o ≠ .tbl ps) : NoT (L2.upd B p o) := fun b ps e => by
  by_cases hb : b = p
  · subst hb; rw [upd_same] at e; exact ho ps (Option.some.inj e)
  · rw [upd_ne hb] at e; exact h b ps e
theorem NoB.upd {B : Hp} {p : Addr} {o : HO} (h : NoB B) (ho : ∀ ps, o ≠ .tbl ps) (hx : ∀ ob f v, o = .frz ob (.ext f) → ob.data ≠ .cell v) : NoB (L2.upd B p o) := ⟨h.1.upd ho, fun b ob f v e => by
  by_cases hb : b = p
  · subst hb; rw [upd_same] at e; exact hx ob f v (Option.some.inj e)
  · rw [upd_ne hb] at e; exact h.2 b ob f v e⟩
/-- the heap bears the store -/
structure Rep (G : Gx) (Fr B : Hp) (as : List Addr) (H : Hp) (M : Store) : Prop where
  sub : Same B H
  frm : Same Fr H
  fout : ∀ a ∈ as, Fr a = none
  dis : ∀ a o, Fr a = some o → B a = none
  nd : as.Nodup
  out : ∀ a ∈ as, B a = none
  len : as.length = M.length
  cell : ∀ (n : Nat) (a : Addr) (c : Tg × List D), as[n]? = some a → M[n]? = some c → ∃ vs, MC G H a c.1 vs ∧ Rs G B as vs c.2
  nB : NoB B
  nF : NoT Fr
  tb : LamX.Tabs (Tb.T G.K) H
/-- the slots hold the frame -/
structure RS (G : Gx) (B : Hp) (as : List Addr) (σ : St) (S : Lo) : Prop where
  len : σ.length = S.length
  at_ : ∀ (i : Nat) (d : D), S[i]? = some (some d) → ∃ v, σ[i]? = some (some v) ∧ R G B as v d
theorem RS.mono {σ : St} {S : Lo} (h : RS G B as σ S) (e : Same B B') (p : as <+: as') : RS G B' as' σ S :=
  ⟨h.len, fun i d q => let ⟨v, a, r⟩ := h.at_ i d q; ⟨v, a, r.mono e p⟩⟩
theorem RS.set {σ : St} {S : Lo} {v : V} {d : D} (h : RS G B as σ S) (r : R G B as v d) (i : Nat) : RS G B as (σ.set i (some v)) (S.set i (some d)) := by
  refine ⟨by simp [h.len], fun j e q => ?_⟩
  by_cases hj : i = j
  · subst hj
    by_cases hi : i < S.length
    · rw [List.getElem?_set_self hi] at q
      cases q
      exact ⟨v, by rw [List.getElem?_set_self (by rw [h.len]; exact hi)], r⟩
    · rw [List.getElem?_eq_none (by simpa using hi)] at q; cases q
  · rw [List.getElem?_set_ne hj] at q
    obtain ⟨w, a, b⟩ := h.at_ j e q
    exact ⟨w, by rw [List.getElem?_set_ne hj]; exact a, b⟩
theorem Rep.fresh {H : Hp} {M : Store} {p : Addr} (h : Rep G Fr B as H M) (n : H p = none) : B p = none ∧ p ∉ as := by
  refine ⟨h.sub.free n, fun hp => ?_⟩
  obtain ⟨k, hk, e⟩ := List.getElem_of_mem hp
  have hM : k < M.length := by rw [← h.len]; exact hk
  obtain ⟨vs, c, _⟩ := h.cell k p M[k] (by rw [List.getElem?_eq_getElem hk, e]) (List.getElem?_eq_getElem hM)
  cases t : M[k].1 with
  | lst => rw [t] at c; have c' : H p = some (.lst vs) := c; rw [n] at c'; cases c'
  | slst => rw [t] at c; exact c
  | tup => rw [t] at c; exact c
  | dct ks => rw [t] at c; have c' := c.1; rw [n] at c'; cases c'
  | fdct ks => rw [t] at c; obtain ⟨_, c'⟩ := c.1; rw [n] at c'; cases c'
  | obj a b => rw [t] at c; obtain ⟨_, _, _, c', _⟩ := c; rw [n] at c'; cases c'
  | fn k => rw [t] at c; obtain ⟨_, _, _, _, _, _, c', _⟩ := c; rw [n] at c'; cases c'
  | iset => rw [t] at c; obtain ⟨_, c', _⟩ := c; rw [n] at c'; cases c'
theorem MC.upd {H : Hp} {a p : Addr} {o : HO} (hp : a ≠ p) (pl : Pln H p) : ∀ {t : Tg} {vs : List V}, MC G H a t vs → MC G (upd H p o) a t vs
  | .lst, _, h => by show L2.upd H p o a = _; rw [upd_ne hp]; exact h
  | .slst, _, h => h
  | .tup, _, h => h
  | .dct _, _, h => ⟨by rw [upd_ne hp]; exact h.1, h.2⟩
  | .fdct _, _, h => ⟨let ⟨o, q⟩ := h.1; ⟨o, by rw [upd_ne hp]; exact q⟩, h.2⟩
  | .obj _ _, _, h => let ⟨C, dx, a', b, c⟩ := h; ⟨C, dx, a', by rw [upd_ne hp]; exact b, c⟩
  | .fn _, _, h => h.off hp pl fun b hb => upd_ne hb
  | .iset, _, h => let ⟨S, a, b⟩ := h; ⟨S, by rw [upd_ne hp]; exact a, b⟩
theorem MC.keep {H H' : Hp} {a : Addr} (hp : ∀ o, H a = some o → H' a = some o) (hl : ∀ k vs, LamAt H a k vs → LamAt H' a k vs) : ∀ {t : Tg} {vs : List V}, MC G H a t vs → MC G H' a t vs
  | .lst, _, h => hp _ h
  | .slst, _, h => h
  | .tup, _, h => h
  | .dct _, _, h => ⟨hp _ h.1, h.2⟩
  | .fdct _, _, h => ⟨let ⟨o, q⟩ := h.1; ⟨o, hp _ q⟩, h.2⟩
  | .obj _ _, _, h => let ⟨C, dx, a', b, c⟩ := h; ⟨C, dx, a', hp _ b, c⟩
  | .fn _, _, h => hl _ _ h
  | .iset, _, h => let ⟨S, a, b⟩ := h; ⟨S, hp _ a, b⟩
theorem same_upd {p : Addr} {o : HO} (n : B p = none) : Same B (L2.upd B p o) := fun b u e => by
  rw [upd_ne (ne_of_none e n)]; exact e
theorem same_upd2 {H : Hp} {p : Addr} {o : HO} (s : Same B H) : Same (L2.upd B p o) (L2.upd H p o) := fun b u e => by
  by_cases hb : b = p
  · subst hb; rw [upd_same] at e ⊢; exact e
  · rw [upd_ne hb] at e ⊢; exact s b u e
/-- a new thing laid and frozen -/
theorem Rep.froze {H : Hp} {M : Store} {p : Addr} {o : HO} (h : Rep G Fr B as H M) (n : H p = none) (ho : ∀ ps, o ≠ .tbl ps := by simp) (hx : ∀ ob f v, o = .frz ob (.ext f) → ob.data ≠ .cell v := by simp) : Rep G Fr (L2.upd B p o) as (L2.upd H p o) M := by
  obtain ⟨nb, na⟩ := h.fresh n
  refine ⟨same_upd2 h.sub, h.frm.trans (same_upd n), h.fout, fun b u e => by rw [upd_ne (ne_of_none e (h.frm.free n))]; exact h.dis b u e, h.nd, fun a ha => ?_, h.len, fun k a c ha hc => ?_, h.nB.upd ho hx, h.nF, tabs_new h.tb n⟩
  · rw [upd_ne (fun e => na (by rw [← e]; exact ha))]; exact h.out a ha
  · obtain ⟨vs, m, r⟩ := h.cell k a c ha hc
    exact ⟨vs, m.upd (fun e => na (by rw [← e]; exact List.mem_of_getElem? ha)) (Pln.non n), r.mono (same_upd nb) (List.prefix_refl _)⟩
/-- a thing laid that nobody tracks as data -/
theorem Rep.laid {H : Hp} {M : Store} {p : Addr} {o : HO} (h : Rep G Fr B as H M) (n : H p = none) : Rep G Fr B as (L2.upd H p o) M := by
  obtain ⟨nb, na⟩ := h.fresh n
  refine ⟨h.sub.trans (same_upd n), h.frm.trans (same_upd n), h.fout, h.dis, h.nd, h.out, h.len, fun k a c ha hc => ?_, h.nB, h.nF, tabs_new h.tb n⟩
  obtain ⟨vs, m, r⟩ := h.cell k a c ha hc
  exact ⟨vs, m.upd (fun e => na (by rw [← e]; exact List.mem_of_getElem? ha)) (Pln.non n), r⟩
/-- a new cell -/
theorem Rep.push {H : Hp} {M : Store} {p : Addr} {o : HO} {t : Tg} {vs : List V} {l : List D} (h : Rep G Fr B as H M) (n : H p = none) (c : MC G (L2.upd H p o) p t vs) (r : Rs G B as vs l) :
    Rep G Fr B (as ++ [p]) (L2.upd H p o) (M ++ [(t, l)]) := by
  obtain ⟨nb, na⟩ := h.fresh n
  refine ⟨h.sub.trans (same_upd n), h.frm.trans (same_upd n), fun a ha => ?_, h.dis, ?_, fun a ha => ?_, by simp [h.len], fun k a q ha hc => ?_, h.nB, h.nF, tabs_new h.tb n⟩
  · rcases List.mem_append.mp ha with z | z
    · exact h.fout a z
    · simp at z; subst z; exact h.frm.free n
  · rw [List.nodup_append]
    exact ⟨h.nd, by simp, fun x hx y hy e => by simp at hy; subst hy; exact na (by rw [← e]; exact hx)⟩
  · rcases List.mem_append.mp ha with z | z
    · exact h.out a z
    · simp at z; subst z; exact nb
  · have pre : as <+: as ++ [p] := List.prefix_append _ _
    by_cases hk : k < as.length
    · rw [List.getElem?_append_left hk] at ha
      rw [List.getElem?_append_left (by rw [← h.len]; exact hk)] at hc
      obtain ⟨vs', m, r'⟩ := h.cell k a q ha hc
      exact ⟨vs', m.upd (fun e => na (by rw [← e]; exact List.mem_of_getElem? ha)) (Pln.non n), r'.mono (Same.refl _) pre⟩
    · have hk' : k = as.length := by
        have := (List.getElem?_eq_some_iff.mp ha).1
        simp at this; omega
      subst hk'
      rw [List.getElem?_append_right (Nat.le_refl _)] at ha
      rw [h.len, List.getElem?_append_right (Nat.le_refl _)] at hc
      simp at ha hc
      subst ha; subst hc
      exact ⟨vs, c, r.mono (Same.refl _) pre⟩
theorem pre_push {p : Addr} : as <+: as ++ [p] := List.prefix_append _ _
theorem nodup_ixA {l : List Addr} {i j : Nat} {x : Addr} (hl : l.Nodup) (a : l[i]? = some x) (b : l[j]? = some x) : i = j := by
  obtain ⟨h1, e1⟩ := List.getElem?_eq_some_iff.mp a
  obtain ⟨h2, e2⟩ := List.getElem?_eq_some_iff.mp b
  exact (List.getElem_inj hl).mp (e1.trans e2.symm)
/-- a cell is written -/
theorem Rep.write {H : Hp} {M : Store} {n : Nat} {a : Addr} {o : HO} {t : Tg} {vs : List V} {l : List D} (h : Rep G Fr B as H M) (ha : as[n]? = some a) (c : MC G (L2.upd H a o) a t vs) (r : Rs G B as vs l) :
    Rep G Fr B as (L2.upd H a o) (M.set n (t, l)) := by
  have hn := (List.getElem?_eq_some_iff.mp ha).1
  have hM : n < M.length := by rw [← h.len]; exact hn
  obtain ⟨_, mc0, _⟩ := h.cell n a M[n] ha (List.getElem?_eq_getElem hM)
  refine ⟨fun b u e => ?_, fun b u e => ?_, h.fout, h.dis, h.nd, h.out, by simp [h.len], fun k b q hb hc => ?_, h.nB, h.nF, tabs_off h.tb mc0.pln fun _ hb => upd_ne hb⟩
  · have : b ≠ a := ne_of_none e (h.out a (List.mem_of_getElem? ha))
    rw [upd_ne this]; exact h.sub b u e
  · have : b ≠ a := ne_of_none e (h.fout a (List.mem_of_getElem? ha))
    rw [upd_ne this]; exact h.frm b u e
  · by_cases hk : n = k
    · subst hk
      rw [ha] at hb; cases hb
      rw [List.getElem?_set_self (by rw [← h.len]; exact hn)] at hc
      cases hc
      exact ⟨vs, c, r⟩
    · rw [List.getElem?_set_ne hk] at hc
      obtain ⟨vs', m, r'⟩ := h.cell k b q hb hc
      refine ⟨vs', m.upd (fun e => hk ?_) mc0.pln, r'⟩
      subst e
      exact nodup_ixA h.nd ha hb
end

/-- what is wanted behind an outcome -/
def Post {α : Type} (B : Hp) (as : List Addr) (o : Out α) (k : α → Store → Hp → List Addr → Prop) (x : Str → D → Store → Hp → List Addr → Prop) : Prop :=
  match o with
  | .ok a M => ∀ B' as', Same B B' → as <+: as' → k a M B' as'
  | .exc c d M => ∀ B' as', Same B B' → as <+: as' → x c d M B' as'
  | .stuck => False
theorem Post.mono {α : Type} {B B' : Hp} {as as' : List Addr} {o : Out α} {k : α → Store → Hp → List Addr → Prop} {x : Str → D → Store → Hp → List Addr → Prop} (h : Post B as o k x) (e : Same B B') (p : as <+: as') : Post B' as' o k x := by
  cases o with
  | ok a M => exact fun B2 as2 e2 p2 => h B2 as2 (e.trans e2) (p.trans p2)
  | exc c d M => exact fun B2 as2 e2 p2 => h B2 as2 (e.trans e2) (p.trans p2)
  | stuck => exact h
theorem Post.imp {α : Type} {B : Hp} {as : List Addr} {o : Out α} {k k' : α → Store → Hp → List Addr → Prop} {x : Str → D → Store → Hp → List Addr → Prop} (h : Post B as o k x)
    (f : ∀ a M B' as', Same B B' → as <+: as' → k a M B' as' → k' a M B' as') : Post B as o k' x := by
  cases o with
  | ok a M => exact fun B2 as2 e2 p2 => f a M B2 as2 e2 p2 (h B2 as2 e2 p2)
  | exc c d M => exact h
  | stuck => exact h
theorem Post.bnd {α β : Type} {B : Hp} {as : List Addr} {m : Ev α} {f : α → Ev β} {M : Store} {k : β → Store → Hp → List Addr → Prop} {x : Str → D → Store → Hp → List Addr → Prop} (h : Post B as ((m.bnd f) M) k x) :
    Post B as (m M) (fun a M' B' as' => Post B' as' (f a M') k x) x := by
  unfold Ev.bnd at h
  cases e : m M with
  | ok a M' => rw [e] at h; exact fun B2 as2 e2 p2 => Post.mono (o := f a M') h e2 p2
  | exc c d M' => rw [e] at h; exact h
  | stuck => rw [e] at h; exact h
theorem Post.unbnd {α β : Type} {B : Hp} {as : List Addr} {m : Ev α} {f : α → Ev β} {M : Store} {k : β → Store → Hp → List Addr → Prop} {x : Str → D → Store → Hp → List Addr → Prop}
    (h : Post B as (m M) (fun a M' B' as' => Post B' as' (f a M') k x) x) : Post B as ((m.bnd f) M) k x := by
  unfold Ev.bnd
  cases e : m M with
  | ok a M' => rw [e] at h; exact h B as (Same.refl _) (List.prefix_refl _)
  | exc c d M' => rw [e] at h; exact h
  | stuck => rw [e] at h; exact h
theorem Post.ok {α : Type} {B : Hp} {as : List Addr} {a : α} {M : Store} {k : α → Store → Hp → List Addr → Prop} {x : Str → D → Store → Hp → List Addr → Prop} (h : Post B as (.ok a M) k x) : k a M B as := h B as (Same.refl _) (List.prefix_refl _)
theorem Post.ret {α : Type} {B : Hp} {as : List Addr} {a : α} {M : Store} {k : α → Store → Hp → List Addr → Prop} {x : Str → D → Store → Hp → List Addr → Prop} (h : Post B as (Ev.ret a M) k x) : k a M B as := Post.ok h

/-- an exception of the class named c whose field value is d -/
def XR (G : Gx) (B : Hp) (as : List Addr) (H : Hp) (c : Str) (d : D) (cls : Value) (dx : Option Addr) : Prop :=
  ∃ C a v, cls = .ref C ∧ G.mg c = some (.ref C) ∧ dx = some a ∧ H a = some (.xd [("value", v)]) ∧ R G B as v d ∧ B a = none ∧ a ∉ as
section
variable (X : Cx) (W : WX)
def kD (Fr : Hp) (Q : VK) : D → Store → Hp → List Addr → Prop := fun d M B as => ∀ v H, Rep (gx X) Fr B as H M → R (gx X) B as v d → Q v H
def kB (Fr : Hp) (Q : Bool → Hp → Prop) : Bool → Store → Hp → List Addr → Prop := fun b M B as => ∀ H, Rep (gx X) Fr B as H M → Q b H
def kA (Fr : Hp) (Q : List V → Hp → Prop) : List D → Store → Hp → List Addr → Prop := fun l M B as => ∀ vs H, Rep (gx X) Fr B as H M → Rs (gx X) B as vs l → Q vs H
def kX (Fr : Hp) (W : WX) (σ : St) : Str → D → Store → Hp → List Addr → Prop := fun c d M B as => ∀ cls dx H, Rep (gx X) Fr B as H M → XR (gx X) B as H c d cls dx → W cls dx σ H
def kF (Fr : Hp) (W : WX) (D : Ends) : Fl → Store → Hp → List Addr → Prop := fun fl M B as => match fl with
  | .nx S => ∀ σ H, Rep (gx X) Fr B as H M → RS (gx X) B as σ S → D.nx σ H
  | .rt d => ∀ v H, Rep (gx X) Fr B as H M → R (gx X) B as v d → D.rt v H
  | .bk S => ∀ σ H, Rep (gx X) Fr B as H M → RS (gx X) B as σ S → D.bk σ H
  | .ct S => ∀ σ H, Rep (gx X) Fr B as H M → RS (gx X) B as σ S → D.ct σ H
  | .xc c d S => ∀ σ cls dx H, Rep (gx X) Fr B as H M → RS (gx X) B as σ S → XR (gx X) B as H c d cls dx → W cls dx σ H
/-- an expression -/
def DE (e : Expr) (f : Lo → Ev D) : Prop := ∃ t, PE X e t ∧ ∀ Fr B as σ H S M Q, RS (gx X) B as σ S → Rep (gx X) Fr B as H M → Post B as (f S M) (kD X Fr Q) (kX X Fr W σ) → t σ H Q
def DT (e : Expr) (f : Lo → Ev Bool) : Prop := ∃ t, PT X e t ∧ ∀ Fr B as σ H S M Q, RS (gx X) B as σ S → Rep (gx X) Fr B as H M → Post B as (f S M) (kB X Fr Q) (kX X Fr W σ) → t σ H Q
def DW (e : Expr) (f : Lo → Ev Bool) : Prop := ∃ t, PW X e t ∧ ∀ Fr B as σ H S M Q, RS (gx X) B as σ S → Rep (gx X) Fr B as H M → Post B as (f S M) (kB X Fr Q) (kX X Fr W σ) → t σ H Q
def DA (es : List Expr) (f : Lo → Ev (List D)) : Prop := ∃ t, PA X es t ∧ ∀ Fr B as σ H S M Q, RS (gx X) B as σ S → Rep (gx X) Fr B as H M → Post B as (f S M) (kA X Fr Q) (kX X Fr W σ) → t σ H Q
/-- statements -/
def DS (st : Stmt) (f : Lo → Ev Fl) : Prop := ∃ t, PS X st t ∧ ∀ Fr B as σ H S M D, RS (gx X) B as σ S → Rep (gx X) Fr B as H M → Post B as (f S M) (kF X Fr W D) (fun _ _ _ _ _ => False) → t D σ H
def DSs (st : List Stmt) (f : Lo → Ev Fl) : Prop := ∃ t, PSs X st t ∧ ∀ Fr B as σ H S M D, RS (gx X) B as σ S → Rep (gx X) Fr B as H M → Post B as (f S M) (kF X Fr W D) (fun _ _ _ _ _ => False) → t D σ H
end

/-! ### readings of expressions -/
def eVar (i : Nat) : Lo → Ev D := fun S => match S[i]? with
  | some (some d) => Ev.ret d
  | _ => Ev.no
def eC (d : D) : Lo → Ev D := fun _ => Ev.ret d
def e2 (op : D → D → Ev D) (fa fb : Lo → Ev D) : Lo → Ev D := fun S => (fa S).bnd fun x => (fb S).bnd fun y => op x y
def e1 (op : D → Ev D) (fa : Lo → Ev D) : Lo → Ev D := fun S => (fa S).bnd op
def eA0 : Lo → Ev (List D) := fun _ => Ev.ret []
def eAc (fa : Lo → Ev D) (fr : Lo → Ev (List D)) : Lo → Ev (List D) := fun S => (fa S).bnd fun x => (fr S).bnd fun l => Ev.ret (x :: l)
def asB : D → Ev Bool
  | .bl b => Ev.ret b
  | _ => Ev.no
def eB (f : Lo → Ev D) : Lo → Ev Bool := fun S => (f S).bnd asB
def eAnd (f g : Lo → Ev Bool) : Lo → Ev Bool := fun S => (f S).bnd fun b => if b = true then g S else Ev.ret false
def eOr (f g : Lo → Ev Bool) : Lo → Ev Bool := fun S => (f S).bnd fun b => if b = true then Ev.ret true else g S
def eNot (f : Lo → Ev Bool) : Lo → Ev Bool := fun S => (f S).bnd fun b => Ev.ret (!b)
def eAndV (f g : Lo → Ev D) : Lo → Ev D := fun S => (f S).bnd fun x => (asB x).bnd fun b => if b = true then g S else Ev.ret (.bl false)
def eOrV (f g : Lo → Ev D) : Lo → Ev D := fun S => (f S).bnd fun x => (asB x).bnd fun b => if b = true then Ev.ret (.bl true) else g S
def eNotV (f : Lo → Ev D) : Lo → Ev D := fun S => (f S).bnd fun x => (asB x).bnd fun b => Ev.ret (.bl (!b))
def eIf (c : Lo → Ev Bool) (f g : Lo → Ev D) : Lo → Ev D := fun S => (c S).bnd fun b => if b = true then f S else g S
section
variable {X : Cx} {W : WX} {e a b c : Expr} {pos : Pos}
theorem de_var {i : Nat} {x : Str} (hN : X.N[i]? = some x) (hv : Vis X.env.scope x) (hd : (x == ("__debug__" : Str)) = false := by decide) (hcd : (x == ("__classdict__" : Str)) = false := by decide) : DE X W (.Name x pos) (eVar i) := by
  refine ⟨_, pe_var hN hv hd hcd, fun Fr B as σ H S M Q rs rp h => ?_⟩
  unfold eVar at h
  cases q : S[i]? with
  | none => rw [q] at h; exact h.elim
  | some o =>
    cases o with
    | none => rw [q] at h; exact h.elim
    | some d =>
      rw [q] at h
      obtain ⟨v, hv, r⟩ := rs.at_ i d q
      exact ⟨v, hv, h.ret v H rp r⟩
theorem de_int {i j} : DE X W (.Constant (.int i) j pos) (eC (.int i)) := ⟨_, pe_int, fun _ _ _ _ _ _ _ _ _ rp h => h.ret _ _ rp (.int i)⟩
theorem de_bl {b j} : DE X W (.Constant (.bool b) j pos) (eC (.bl b)) := ⟨_, pe_bl, fun _ _ _ _ _ _ _ _ _ rp h => h.ret _ _ rp (.bl b)⟩
theorem de_non {j} : DE X W (.Constant .none j pos) (eC .non) := ⟨_, pe_non, fun _ _ _ _ _ _ _ _ _ rp h => h.ret _ _ rp .non⟩
theorem de_globI {x : Str} {i : Int} (hg : Gl X x) (hm : ∃ t, X.mg x = some (.int i t)) (hd : (x == ("__debug__" : Str)) = false := by decide) : DE X W (.Name x pos) (eC (.int i)) :=
  ⟨_, pe_glob (v := .int i) hg hm.choose_spec ⟨_, rfl⟩ hd, fun _ _ _ _ _ _ _ _ _ rp h => h.ret _ _ rp (.int i)⟩
theorem de_ty {x : Str} {n : String} (hg : Gl X x) (hm : X.mg x = none) (hv : bootBuiltins x = some (.type n)) (hn : x ≠ "__name__" := by decide) (hd : (x == ("__debug__" : Str)) = false := by decide) : DE X W (.Name x pos) (eC (.ty n)) :=
  ⟨_, pe_bltn (v := .ty n) hg hm hv rfl hn hd, fun _ _ _ _ _ _ _ _ _ rp h => h.ret _ _ rp (.ty n)⟩
/-- a binary operation by values -/
def Op2 (X : Cx) (W : WX) (r : R2) (op : D → D → Ev D) : Prop := ∀ Fr B as σ H M v w x y Q, Rep (gx X) Fr B as H M → R (gx X) B as v x → R (gx X) B as w y → Post B as (op x y M) (kD X Fr Q) (kX X Fr W σ) → r v w H Q
def Op1 (X : Cx) (W : WX) (r : V → Hp → VK → Prop) (op : D → Ev D) : Prop := ∀ Fr B as σ H M v x Q, Rep (gx X) Fr B as H M → R (gx X) B as v x → Post B as (op x M) (kD X Fr Q) (kX X Fr W σ) → r v H Q
def OpN (X : Cx) (W : WX) (r : List V → Hp → VK → Prop) (op : List D → Ev D) : Prop := ∀ Fr B as σ H M vs l Q, Rep (gx X) Fr B as H M → Rs (gx X) B as vs l → Post B as (op l M) (kD X Fr Q) (kX X Fr W σ) → r vs H Q
theorem post_two {Fr B : Hp} {as : List Addr} {σ : St} {H : Hp} {S : Lo} {M : Store} {Q : VK} {fa fb : Lo → Ev D} {ta tb : TE} {r : R2} {op : D → D → Ev D}
    (ha : ∀ Fr B as σ H S M Q, RS (gx X) B as σ S → Rep (gx X) Fr B as H M → Post B as (fa S M) (kD X Fr Q) (kX X Fr W σ) → ta σ H Q)
    (hb : ∀ Fr B as σ H S M Q, RS (gx X) B as σ S → Rep (gx X) Fr B as H M → Post B as (fb S M) (kD X Fr Q) (kX X Fr W σ) → tb σ H Q)
    (ho : Op2 X W r op) (rs : RS (gx X) B as σ S) (rp : Rep (gx X) Fr B as H M) (h : Post B as (e2 op fa fb S M) (kD X Fr Q) (kX X Fr W σ)) : tOp r ta tb σ H Q := by
  refine ha Fr B as σ H S M _ rs rp (h.bnd.imp fun x M1 B1 as1 s1 p1 h1 v H1 rp1 r1 => ?_)
  refine hb Fr B1 as1 σ H1 S M1 _ (rs.mono s1 p1) rp1 (h1.bnd.imp fun y M2 B2 as2 s2 p2 h2 w H2 rp2 r2 => ?_)
  exact ho Fr B2 as2 σ H2 M2 v w x y Q rp2 (r1.mono s2 p2) r2 h2
theorem de_op {op : Operator} {r : R2} {fo : D → D → Ev D} {fa fb : Lo → Ev D} (hr : OpR X (binaryOp op) r) (ho : Op2 X W r fo) (ha : DE X W a fa) (hb : DE X W b fb) : DE X W (.BinOp a op b pos) (e2 fo fa fb) := by
  obtain ⟨ta, pa, sa⟩ := ha
  obtain ⟨tb, pb, sb⟩ := hb
  exact ⟨_, pe_op hr pa pb, fun Fr B as σ H S M Q rs rp h => post_two sa sb ho rs rp h⟩
theorem de_cmp {op : CmpOp} {r : R2} {fo : D → D → Ev D} {fa fb : Lo → Ev D} (hr : OpR X (compareOp op) r) (ho : Op2 X W r fo) (ha : DE X W a fa) (hb : DE X W b fb) (hm : behindInMarks op b = false) : DE X W (.Compare a [op] [b] pos) (e2 fo fa fb) := by
  obtain ⟨ta, pa, sa⟩ := ha
  obtain ⟨tb, pb, sb⟩ := hb
  exact ⟨_, pe_cmpR hr pa pb hm, fun Fr B as σ H S M Q rs rp h => post_two sa sb ho rs rp h⟩
theorem dt_cmp {op : CmpOp} {r : R2} {fo : D → D → Ev D} {fa fb : Lo → Ev D} (hr : OpR X (compareOp op) r) (ho : Op2 X W r fo) (ha : DE X W a fa) (hb : DE X W b fb) (hm : behindInMarks op b = false) : DT X W (.Compare a [op] [b] pos) (eB (e2 fo fa fb)) := by
  obtain ⟨ta, pa, sa⟩ := ha
  obtain ⟨tb, pb, sb⟩ := hb
  refine ⟨_, pt_cmpR hr pa pb hm, fun Fr B as σ H S M Q rs rp h => ?_⟩
  refine post_two sa sb ho rs rp (h.bnd.imp fun x M1 B1 as1 s1 p1 h1 v H1 rp1 r1 => ?_)
  cases x <;> first | exact h1.elim | skip
  cases r1
  exact ⟨_, rfl, h1.ret H1 rp1⟩
theorem de_un {op : UnaryOp} {r : V → Hp → VK → Prop} {fo : D → Ev D} {fa : Lo → Ev D} (hr : UnR X (unaryOp op) r) (ho : Op1 X W r fo) (ha : DE X W a fa) : DE X W (.UnaryOp op a pos) (e1 fo fa) := by
  obtain ⟨ta, pa, sa⟩ := ha
  refine ⟨_, pe_un hr pa, fun Fr B as σ H S M Q rs rp h => ?_⟩
  exact sa Fr B as σ H S M _ rs rp (h.bnd.imp fun x M1 B1 as1 s1 p1 h1 v H1 rp1 r1 => ho Fr B1 as1 σ H1 M1 v x Q rp1 r1 h1)
theorem dw_or1 {f : Lo → Ev Bool} (h : DT X W a f) : DW X W (.BoolOp .Or [a] pos) f := by
  obtain ⟨t, p, s⟩ := h
  exact ⟨_, pw_or1 p, s⟩
theorem dw_or {rest : List Expr} {f g : Lo → Ev Bool} (ha : DT X W a f) (hb : DW X W (.BoolOp .Or (b :: rest) pos) g) : DW X W (.BoolOp .Or (a :: b :: rest) pos) (eOr f g) := by
  obtain ⟨t, p, s⟩ := ha
  obtain ⟨t', p', s'⟩ := hb
  refine ⟨_, pw_or p p', fun Fr B as σ H S M Q rs rp h => ?_⟩
  refine s Fr B as σ H S M _ rs rp (h.bnd.imp fun x M1 B1 as1 s1 p1 h1 H1 rp1 => ?_)
  cases x with
  | true => rw [if_pos rfl] at h1 ⊢; exact h1.ret H1 rp1
  | false => rw [if_neg Bool.false_ne_true] at h1 ⊢; exact s' Fr B1 as1 σ H1 S M1 _ (rs.mono s1 p1) rp1 h1
theorem dt_w {f : Lo → Ev Bool} (h : DW X W e f) : DT X W e f := by
  obtain ⟨t, p, s⟩ := h
  exact ⟨_, p.pt, s⟩
theorem dt_not {f : Lo → Ev Bool} (h : DT X W a f) : DT X W (.UnaryOp .Not a pos) (eNot f) := by
  obtain ⟨t, p, s⟩ := h
  refine ⟨_, pt_not p, fun Fr B as σ H S M Q rs rp h => ?_⟩
  exact s Fr B as σ H S M _ rs rp (h.bnd.imp fun x M1 B1 as1 s1 p1 h1 H1 rp1 => h1.ret H1 rp1)
theorem de_one {op} {f : Lo → Ev D} (h : DE X W a f) : DE X W (.BoolOp op [a] pos) f := by
  obtain ⟨t, p, s⟩ := h
  exact ⟨_, pe_one p, s⟩
theorem de_and {rest : List Expr} {f g : Lo → Ev D} (ha : DE X W a f) (hb : DE X W (.BoolOp .And (b :: rest) pos) g) : DE X W (.BoolOp .And (a :: b :: rest) pos) (eAndV f g) := by
  obtain ⟨t, p, s⟩ := ha
  obtain ⟨t', p', s'⟩ := hb
  refine ⟨_, pe_and p p', fun Fr B as σ H S M Q rs rp h => ?_⟩
  refine s Fr B as σ H S M _ rs rp (h.bnd.imp fun x M1 B1 as1 s1 p1 h1 v H1 rp1 r1 => ?_)
  cases x <;> first | exact h1.elim | skip
  rename_i c
  cases r1
  refine ⟨c, rfl, ?_⟩
  cases c with
  | true => rw [if_pos rfl]; exact s' Fr B1 as1 σ H1 S M1 _ (rs.mono s1 p1) rp1 h1
  | false => rw [if_neg Bool.false_ne_true]; exact (Post.ret (a := D.bl false) h1) _ H1 rp1 (.bl false)
theorem de_not {f : Lo → Ev D} (ha : DE X W a f) : DE X W (.UnaryOp .Not a pos) (eNotV f) := by
  obtain ⟨t, p, s⟩ := ha
  refine ⟨_, pe_not p, fun Fr B as σ H S M Q rs rp h => ?_⟩
  refine s Fr B as σ H S M _ rs rp (h.bnd.imp fun x M1 B1 as1 s1 p1 h1 v H1 rp1 r1 => ?_)
  cases x <;> first | exact h1.elim | skip
  rename_i c
  cases r1
  exact ⟨c, rfl, (Post.ret (a := D.bl (!c)) h1) _ H1 rp1 (.bl _)⟩
theorem de_ifExp {f : Lo → Ev Bool} {g h : Lo → Ev D} (hc : DT X W c f) (ha : DE X W a g) (hb : DE X W b h) : DE X W (.IfExp c a b pos) (eIf f g h) := by
  obtain ⟨t, p, s⟩ := hc
  obtain ⟨t', p', s'⟩ := ha
  obtain ⟨t'', p'', s''⟩ := hb
  refine ⟨_, pe_ifExp p p' p'', fun Fr B as σ H S M Q rs rp h => ?_⟩
  refine s Fr B as σ H S M _ rs rp (h.bnd.imp fun x M1 B1 as1 s1 p1 h1 H1 rp1 => ?_)
  cases x with
  | true => rw [if_pos rfl] at h1 ⊢; exact s' Fr B1 as1 σ H1 S M1 _ (rs.mono s1 p1) rp1 h1
  | false => rw [if_neg Bool.false_ne_true] at h1 ⊢; exact s'' Fr B1 as1 σ H1 S M1 _ (rs.mono s1 p1) rp1 h1
theorem da_nil : DA X W [] eA0 := ⟨_, pa_nil, fun _ _ _ _ _ _ _ _ _ rp h => h.ret [] _ rp .nil⟩
theorem da_cons {es : List Expr} {f : Lo → Ev D} {g : Lo → Ev (List D)} (ha : DE X W e f) (hr : DA X W es g) (hs : starEach (e :: es) X.env = (false, eval e X.env) :: starEach es X.env := by rfl) : DA X W (e :: es) (eAc f g) := by
  obtain ⟨t, p, s⟩ := ha
  obtain ⟨t', p', s'⟩ := hr
  refine ⟨_, pa_cons p p' hs, fun Fr B as σ H S M Q rs rp h => ?_⟩
  refine s Fr B as σ H S M _ rs rp (h.bnd.imp fun x M1 B1 as1 s1 p1 h1 v H1 rp1 r1 => ?_)
  refine s' Fr B1 as1 σ H1 S M1 _ (rs.mono s1 p1) rp1 (h1.bnd.imp fun l M2 B2 as2 s2 p2 h2 vs H2 rp2 r2 => ?_)
  exact h2.ret _ H2 rp2 (.cons (r1.mono s2 p2) r2)
end
end DL

set_option Elab.async false
set_option linter.all false
set_option maxRecDepth 100000
set_option maxHeartbeats 4000000
/-! DL2: new nodes, views, operators. -/
namespace DL
open PySem L2
variable [Tb]

/-- a value, or a new node -/
inductive NR where
  | v (d : D) | n (t : Tg) (l : List D)
def hoT : Tg → List V → HO
  | .lst, vs => .lst vs
  | .tup, vs => .tup vs
  | .dct ks, vs => .dK (ks.zip vs)
  | _, vs => .lst vs
theorem hoT_nt : ∀ {t : Tg} {vs : List V} (ps : Array Value), hoT t vs ≠ .tbl ps
  | .lst, _, _ => by simp [hoT]
  | .slst, _, _ => by simp [hoT]
  | .tup, _, _ => by simp [hoT]
  | .dct _, _, _ => by simp [hoT]
  | .fdct _, _, _ => by simp [hoT]
  | .obj _ _, _, _ => by simp [hoT]
  | .fn _, _, _ => by simp [hoT]
  | .iset, _, _ => by simp [hoT]
theorem hoT_nx : ∀ {t : Tg} {vs : List V} (ob : Obj) (f : Heap → Prop) (v : Option Value), hoT t vs = .frz ob (.ext f) → ob.data ≠ .cell v
  | .lst, _, _ => by simp [hoT]
  | .slst, _, _ => by simp [hoT]
  | .tup, _, _ => by simp [hoT]
  | .dct _, _, _ => by simp [hoT]
  | .fdct _, _, _ => by simp [hoT]
  | .obj _ _, _, _ => by simp [hoT]
  | .fn _, _, _ => by simp [hoT]
  | .iset, _, _ => by simp [hoT]
/-- a new node is frozen; becomes a cell -/
def frz : NR → Ev D
  | .v d => Ev.ret d
  | .n .lst l => Ev.ret (.nd .lst l)
  | .n .tup l => Ev.ret (.nd .tup l)
  | .n (.dct ks) l => if ks.length = l.length then Ev.ret (.nd (.dct ks) l) else Ev.no
  | _ => Ev.no
def cel : NR → Ev D
  | .v d => Ev.ret d
  | .n .lst l => fun M => .ok (.ref M.length) (M ++ [(.lst, l)])
  | .n (.dct ks) l => if ks.length = l.length then fun M => .ok (.ref M.length) (M ++ [(.dct ks, l)]) else Ev.no
  | _ => Ev.no
def kN (X : Cx) (Fr : Hp) (Q : VK) : NR → Store → Hp → List Addr → Prop := fun r M B as => match r with
  | .v d => kD X Fr Q d M B as
  | .n t l => ∀ vs H p, Rep (gx X) Fr B as H M → Rs (gx X) B as vs l → H p = none → Q (.ref p) (upd H p (hoT t vs))
def DN (X : Cx) (W : WX) (e : Expr) (f : Lo → Ev NR) : Prop := ∃ t, PE X e t ∧ ∀ Fr B as σ H S M Q, RS (gx X) B as σ S → Rep (gx X) Fr B as H M → Post B as (f S M) (kN X Fr Q) (kX X Fr W σ) → t σ H Q
def eF (f : Lo → Ev NR) : Lo → Ev D := fun S => (f S).bnd frz
def eCl (f : Lo → Ev NR) : Lo → Ev D := fun S => (f S).bnd cel
section
variable {X : Cx} {W : WX} {e a b : Expr} {pos : Pos}
theorem kN_frz {Fr B : Hp} {as : List Addr} {σ : St} {r : NR} {M : Store} {Q : VK} (h : Post B as (frz r M) (kD X Fr Q) (kX X Fr W σ)) : kN X Fr Q r M B as := by
  have go : ∀ (t : Tg) (l : List D) (vs : List V) (H : Hp) (p : Addr), FC (gx X) (upd B p (hoT t vs)) p t vs → (∀ B' as', Same B B' → as <+: as' → kD X Fr Q (.nd t l) M B' as') → Rep (gx X) Fr B as H M → Rs (gx X) B as vs l → H p = none → Q (.ref p) (upd H p (hoT t vs)) :=
    fun t l vs H p fc h rp rs n => by
      have nb := (rp.fresh n).1
      exact h (upd B p (hoT t vs)) as (same_upd nb) (List.prefix_refl _) _ _ (rp.froze n hoT_nt hoT_nx) (.nd fc (rs.mono (same_upd nb) (List.prefix_refl _)))
  cases r with
  | v d => exact h.ret
  | n t l =>
    cases t with
    | lst => exact fun vs H p => go .lst l vs H p upd_same h
    | tup => exact fun vs H p => go .tup l vs H p (SqT.of upd_same) h
    | dct ks =>
      unfold DL.frz at h; dsimp only at h
      by_cases hl : ks.length = l.length
      · rw [if_pos hl] at h
        exact fun vs H p rp rs n => go (.dct ks) l vs H p ⟨upd_same, hl.trans rs.length.symm⟩ h rp rs n
      · rw [if_neg hl] at h; exact h.elim
    | slst => exact h.elim
    | fdct ks => exact h.elim
    | obj c ns => exact h.elim
    | fn k => exact h.elim
    | iset => exact h.elim
theorem kN_cel {Fr B : Hp} {as : List Addr} {σ : St} {r : NR} {M : Store} {Q : VK} (h : Post B as (cel r M) (kD X Fr Q) (kX X Fr W σ)) : kN X Fr Q r M B as := by
  have go : ∀ (t : Tg) (l : List D) (vs : List V) (H : Hp) (p : Addr), MC (gx X) (upd H p (hoT t vs)) p t vs → (∀ B' as', Same B B' → as <+: as' → kD X Fr Q (.ref M.length) (M ++ [(t, l)]) B' as') → Rep (gx X) Fr B as H M → Rs (gx X) B as vs l → H p = none → Q (.ref p) (upd H p (hoT t vs)) :=
    fun t l vs H p mc h rp rs n => by
      exact h B (as ++ [p]) (Same.refl _) pre_push _ _ (rp.push n mc rs) (.ref (by rw [← rp.len]; simp))
  cases r with
  | v d => exact h.ret
  | n t l =>
    cases t with
    | lst => exact fun vs H p => go .lst l vs H p upd_same h
    | tup => exact h.elim
    | dct ks =>
      unfold DL.cel at h; dsimp only at h
      by_cases hl : ks.length = l.length
      · rw [if_pos hl] at h
        exact fun vs H p rp rs n => go (.dct ks) l vs H p ⟨upd_same, hl.trans rs.length.symm⟩ h rp rs n
      · rw [if_neg hl] at h; exact h.elim
    | slst => exact h.elim
    | fdct ks => exact h.elim
    | obj c ns => exact h.elim
    | fn k => exact h.elim
    | iset => exact h.elim
theorem DN.frz {f : Lo → Ev NR} (h : DN X W e f) : DE X W e (eF f) := by
  obtain ⟨t, p, s⟩ := h
  exact ⟨t, p, fun Fr B as σ H S M Q rs rp h => s Fr B as σ H S M Q rs rp (h.bnd.imp fun r M1 B1 as1 _ _ h1 => kN_frz h1)⟩
theorem DN.cel {f : Lo → Ev NR} (h : DN X W e f) : DE X W e (eCl f) := by
  obtain ⟨t, p, s⟩ := h
  exact ⟨t, p, fun Fr B as σ H S M Q rs rp h => s Fr B as σ H S M Q rs rp (h.bnd.imp fun r M1 B1 as1 _ _ h1 => kN_cel h1)⟩
/-! ### views -/
def vw : D → Ev (Tg × List D)
  | .nd t l => Ev.ret (t, l)
  | .ref n => fun M => match M[n]? with
    | some c => .ok c M
    | none => .stuck
  | _ => Ev.no
theorem FC.sub {G : Gx} {B H : Hp} {p : Addr} {t : Tg} {vs : List V} (s : Same B H) (h : FC G B p t vs) : FC G H p t vs := h.mono s
theorem MC.fc {G : Gx} {H : Hp} {p : Addr} : ∀ {t : Tg} {vs : List V}, MC G H p t vs → FC G H p t vs
  | .lst, _, h => h
  | .slst, _, h => h.elim
  | .tup, _, h => h.elim
  | .dct _, _, h => h
  | .fdct _, _, h => h
  | .obj _ _, _, h => h
  | .fn _, _, h => let ⟨_, _, _, _, _, _, q, _⟩ := id h; ⟨_, q⟩
  | .iset, _, h => h
/-- a node leans on its own place alone -/
theorem FC.here {G : Gx} {H H' : Hp} {p : Addr} (e : ∀ o, H p = some o → H' p = some o) : ∀ {t : Tg} {vs : List V}, FC G H p t vs → FC G H' p t vs
  | .lst, _, h => e _ h
  | .slst, _, h => h.imp (fun q => q.imp (e _) fun ⟨o, z⟩ => ⟨o, e _ z⟩) id
  | .tup, _, h => h.imp (fun q => q.imp (e _) fun ⟨o, z⟩ => ⟨o, e _ z⟩) id
  | .dct _, _, h => ⟨e _ h.1, h.2⟩
  | .fdct _, _, h => ⟨let ⟨o, q⟩ := h.1; ⟨o, e _ q⟩, h.2⟩
  | .obj _ _, _, h => let ⟨C, dx, a, b, c⟩ := h; ⟨C, dx, a, e _ b, c⟩
  | .fn _, _, h => let ⟨o, q⟩ := h; ⟨o, e _ q⟩
  | .iset, _, h => let ⟨S, a, b⟩ := h; ⟨S, e _ a, b⟩
theorem Post.vw {α : Type} {G : Gx} {Fr B : Hp} {as : List Addr} {d : D} {f : Tg × List D → Ev α} {M : Store} {H : Hp} {v : V} {k : α → Store → Hp → List Addr → Prop} {x : Str → D → Store → Hp → List Addr → Prop} (h : Post B as (((DL.vw d).bnd f) M) k x)
    (rp : Rep G Fr B as H M) (r : R G B as v d) : ∃ t l p vs, v = .ref p ∧ FC G H p t vs ∧ Rs G B as vs l ∧ Post B as (f (t, l) M) k x ∧ (∀ n, d = .ref n → as[n]? = some p ∧ M[n]? = some (t, l) ∧ MC G H p t vs) := by
  cases r with
  | nd fc rs => exact ⟨_, _, _, _, rfl, fc.sub rp.sub, rs, h, fun n e => by cases e⟩
  | ref ha =>
    rename_i n a
    unfold Ev.bnd DL.vw at h
    cases q : M[n]? with
    | none => simp only [q] at h; exact h.elim
    | some c =>
      simp only [q] at h
      obtain ⟨vs, mc, rs⟩ := rp.cell n a c ha q
      exact ⟨c.1, c.2, a, vs, rfl, mc.fc, rs, h, fun m e => by cases e; exact ⟨ha, q, mc⟩⟩
  | _ => exact h.elim
/-- a sequence: a list or a tuple -/
def FC.isSeq : Tg → Bool
  | .lst => true
  | .slst => true
  | .tup => true
  | _ => false
def sq (d : D) : Ev (List D) := (vw d).bnd fun c => if FC.isSeq c.1 = true then Ev.ret c.2 else Ev.no
theorem Post.sq {α : Type} {G : Gx} {Fr B : Hp} {as : List Addr} {d : D} {f : List D → Ev α} {M : Store} {H : Hp} {v : V} {k : α → Store → Hp → List Addr → Prop} {x : Str → D → Store → Hp → List Addr → Prop} (h : Post B as (((DL.sq d).bnd f) M) k x)
    (rp : Rep G Fr B as H M) (r : R G B as v d) : ∃ l p vs, v = .ref p ∧ (SqL G.K H p vs ∨ SqT G.K H p vs) ∧ Rs G B as vs l ∧ Post B as (f l M) k x := by
  unfold DL.sq at h
  rw [bnd_bnd] at h
  obtain ⟨t, l, p, vs, e, fc, rs, h, _⟩ := h.vw rp r
  cases t with
  | lst => exact ⟨l, p, vs, e, .inl (SqL.of fc), rs, h⟩
  | slst => exact ⟨l, p, vs, e, .inl fc, rs, h⟩
  | tup => exact ⟨l, p, vs, e, .inr fc, rs, h⟩
  | _ => exact h.elim

/-! ### scalars -/
def toV : D → Option V
  | .non => some .non
  | .bl b => some (.bl b)
  | .int i => some (.int i)
  | .str x => some (.str x)
  | _ => none
theorem R.toV {G : Gx} {B : Hp} {as : List Addr} {v w : V} {d : D} (r : R G B as v d) (h : DL.toV d = some w) : v = w ∧ flatV w = true := by
  cases r <;> first | (cases h; exact ⟨rfl, rfl⟩) | (cases h)
def toVs : List D → Option (List V)
  | [] => some []
  | d :: l => match toV d, toVs l with
    | some v, some vs => some (v :: vs)
    | _, _ => none
theorem Rs.toVs {G : Gx} {B : Hp} {as : List Addr} : ∀ {vs ws : List V} {l : List D}, Rs G B as vs l → DL.toVs l = some ws → vs = ws ∧ ws.all flatV = true
  | _, _, _, .nil, h => by cases h; exact ⟨rfl, rfl⟩
  | _, ws, _, .cons r t, h => by
    rename_i d l
    unfold DL.toVs at h
    cases q : DL.toV d with
    | none => simp only [q] at h; cases h
    | some v =>
      cases q2 : DL.toVs l with
      | none => simp only [q, q2] at h; cases h
      | some vs =>
        simp only [q, q2] at h
        cases h
        obtain ⟨e1, f1⟩ := r.toV q
        obtain ⟨e2, f2⟩ := Rs.toVs t q2
        exact ⟨by rw [e1, e2], by simp [f1, f2]⟩
def intsOf : List D → Option (List Int)
  | [] => some []
  | .int i :: l => (intsOf l).map (i :: ·)
  | _ => none
theorem intsOf_map (ns : List Int) : intsOf (ns.map D.int) = some ns := by
  induction ns with
  | nil => rfl
  | cons n l ih => simp [intsOf, ih]
theorem intsOf_eq : ∀ {l : List D} {ns : List Int}, intsOf l = some ns → l = ns.map D.int
  | [], _, h => by cases h; rfl
  | .int i :: l, _, h => by
    unfold intsOf at h
    cases q : intsOf l with
    | none => rw [q] at h; cases h
    | some ms => rw [q] at h; cases h; rw [intsOf_eq q]; rfl
  | .non :: _, _, h | .bl _ :: _, _, h | .str _ :: _, _, h | .ty _ :: _, _, h | .gl _ :: _, _, h | .ref _ :: _, _, h | .nd _ _ :: _, _, h => by cases h
theorem Rs.ints {G : Gx} {B : Hp} {as : List Addr} : ∀ {vs : List V} {ns : List Int}, Rs G B as vs (ns.map D.int) → vs = ns.map V.int
  | _, [], h => by cases h; rfl
  | _, n :: ns, h => by
    cases h with
    | cons r t => cases r; rw [Rs.ints t]; rfl
theorem Rs.ofInts {G : Gx} {B : Hp} {as : List Addr} : ∀ (ns : List Int), Rs G B as (ns.map V.int) (ns.map D.int)
  | [] => .nil
  | n :: ns => .cons (.int n) (Rs.ofInts ns)
def blsOf : List D → Option (List Bool)
  | [] => some []
  | .bl i :: l => (blsOf l).map (i :: ·)
  | _ => none
theorem blsOf_map (ns : List Bool) : blsOf (ns.map D.bl) = some ns := by
  induction ns with
  | nil => rfl
  | cons n l ih => simp [blsOf, ih]
theorem blsOf_eq : ∀ {l : List D} {ns : List Bool}, blsOf l = some ns → l = ns.map D.bl
  | [], _, h => by cases h; rfl
  | .bl i :: l, _, h => by
    unfold blsOf at h
    cases q : blsOf l with
    | none => rw [q] at h; cases h
    | some ms => rw [q] at h; cases h; rw [blsOf_eq q]; rfl
  | .non :: _, _, h | .int _ :: _, _, h | .str _ :: _, _, h | .ty _ :: _, _, h | .gl _ :: _, _, h | .ref _ :: _, _, h | .nd _ _ :: _, _, h => by cases h
theorem Rs.bls {G : Gx} {B : Hp} {as : List Addr} : ∀ {vs : List V} {ns : List Bool}, Rs G B as vs (ns.map D.bl) → vs = ns.map V.bl
  | _, [], h => by cases h; rfl
  | _, n :: ns, h => by
    cases h with
    | cons r t => cases r; rw [Rs.bls t]; rfl

/-! ### deep data -/
mutual
def py (M : Store) : Nat → D → Option PyData
  | 0, _ => none
  | k + 1, d => match d with
    | .non => some .none
    | .bl b => some (.bool b)
    | .int i => some (.int i)
    | .str x => if PyData.strOk x = true then some (.str x) else none
    | .nd .lst l => (pys M k l).map .list
    | .nd .slst l => (pys M k l).map .list
    | .nd .tup l => (pys M k l).map .tuple
    | .ref n => match M[n]? with
      | some (.lst, l) => (pys M k l).map .list
      | _ => none
    | _ => none
  termination_by k _ => (k, 0)
def pys (M : Store) : Nat → List D → Option (List PyData)
  | _, [] => some []
  | k, d :: l => match py M k d, pys M k l with
    | some a, some as => some (a :: as)
    | _, _ => none
  termination_by k l => (k, l.length + 1)
end
mutual
theorem py_ok {G : Gx} {Fr B H : Hp} {as : List Addr} {M : Store} (rp : Rep G Fr B as H M) : ∀ (k : Nat) (d : D) (v : V) (a : PyData), R G B as v d → py M k d = some a → Dp G.K H v a ∧ a.canLay0 = true ∧ a.depth ≤ k
  | 0, d, v, a, r, h => by unfold py at h; cases h
  | k + 1, d, v, a, r, h => by
    have one : ∀ (p : Addr) (vs : List V) (l : List D) (a : PyData), SqL G.K H p vs → Rs G B as vs l → (pys M k l).map PyData.list = some a → Dp G.K H (.ref p) a ∧ a.canLay0 = true ∧ a.depth ≤ k + 1 := fun p vs l a sl rs h => by
      cases q : pys M k l with
      | none => rw [q] at h; cases h
      | some ds =>
        rw [q] at h; cases h
        obtain ⟨h1, h2, h3⟩ := pys_ok rp k l vs ds rs q
        exact ⟨.lst sl h1, by unfold PyData.canLay0; exact h2, by unfold PyData.depth; omega⟩
    cases r with
    | non => unfold py at h; cases h; exact ⟨.non, by unfold PyData.canLay0; rfl, by unfold PyData.depth; omega⟩
    | bl b => unfold py at h; cases h; exact ⟨.bl b, by unfold PyData.canLay0; rfl, by unfold PyData.depth; omega⟩
    | int i => unfold py at h; cases h; exact ⟨.int i, by unfold PyData.canLay0; rfl, by unfold PyData.depth; omega⟩
    | str x =>
      unfold py at h; dsimp only at h
      by_cases c : PyData.strOk x = true
      · rw [if_pos c] at h; cases h; exact ⟨.str x, by unfold PyData.canLay0; exact c, by unfold PyData.depth; omega⟩
      · rw [if_neg c] at h; cases h
    | ty n => unfold py at h; cases h
    | gl x => unfold py at h; cases h
    | ref ha =>
      rename_i n p
      unfold py at h; dsimp only at h
      cases q : M[n]? with
      | none => rw [q] at h; cases h
      | some c =>
        obtain ⟨t, l⟩ := c
        rw [q] at h
        obtain ⟨vs, mc, rs⟩ := rp.cell n p (t, l) ha q
        cases t <;> first | (cases h; done) | skip
        exact one p vs l a (SqL.of mc) rs h
    | nd fc rs =>
      rename_i t p vs l
      unfold py at h
      cases t with
      | lst => exact one p vs l a (SqL.of (rp.sub _ _ fc)) rs h
      | slst => exact one p vs l a (rp.sub.seq fc) rs h
      | tup =>
        dsimp only at h
        cases q : pys M k l with
        | none => rw [q] at h; cases h
        | some ds =>
          rw [q] at h; cases h
          obtain ⟨h1, h2, h3⟩ := pys_ok rp k l vs ds rs q
          exact ⟨.tup (sqT_mono rp.sub fc) h1, by unfold PyData.canLay0; exact h2, by unfold PyData.depth; omega⟩
      | dct ks => cases h
      | fdct ks => cases h
      | obj c ns => cases h
      | fn k => cases h
      | iset => cases h
  termination_by k _ => (k, 0)
theorem pys_ok {G : Gx} {Fr B H : Hp} {as : List Addr} {M : Store} (rp : Rep G Fr B as H M) : ∀ (k : Nat) (l : List D) (vs : List V) (ds : List PyData), Rs G B as vs l → pys M k l = some ds → DpAll G.K H vs ds ∧ PyData.canLayAll0 ds = true ∧ PyData.depthAll ds ≤ k
  | k, [], vs, ds, rs, h => by
    unfold pys at h; cases h; cases rs
    exact ⟨.nil, by unfold PyData.canLayAll0; rfl, by unfold PyData.depthAll; omega⟩
  | k, d :: l, vs, ds, rs, h => by
    cases rs with
    | cons r t =>
      unfold pys at h
      cases q1 : py M k d with
      | none => simp only [q1] at h; cases h
      | some a =>
        cases q2 : pys M k l with
        | none => simp only [q1, q2] at h; cases h
        | some as' =>
          simp only [q1, q2] at h
          cases h
          obtain ⟨a1, a2, a3⟩ := py_ok rp k d _ a r q1
          obtain ⟨b1, b2, b3⟩ := pys_ok rp k l _ as' t q2
          exact ⟨.cons a1 b1, by unfold PyData.canLayAll0; rw [a2, b2]; rfl, by unfold PyData.depthAll; exact Nat.max_le.mpr ⟨a3, b3⟩⟩
  termination_by k l => (k, l.length + 1)
end
/-- == of data; not equal -/
def eqE (neg : Bool) (x y : D) : Ev D := fun M => match py M 14 x, py M 14 y with
  | some a, some b => .ok (.bl (neg ^^ PyData.eqv a b)) M
  | _, _ => .stuck
theorem o_eq {X : Cx} {W : WX} : Op2 X W (rEqD X.K) (eqE false) := by
  intro Fr B as σ H M v w x y Q rp r1 r2 h
  unfold eqE at h
  cases q1 : py M 14 x with
  | none => simp only [q1] at h; exact h.elim
  | some a =>
    cases q2 : py M 14 y with
    | none => simp only [q1, q2] at h; exact h.elim
    | some b =>
      simp only [q1, q2] at h
      obtain ⟨a1, a2, a3⟩ := py_ok rp 14 x v a r1 q1
      obtain ⟨b1, b2, b3⟩ := py_ok rp 14 y w b r2 q2
      refine ⟨a, b, a1, b1, ?_, ?_, ?_⟩
      · unfold SeqAt.shaped; rw [a2, decide_eq_true (by omega)]; rfl
      · unfold SeqAt.shaped; rw [b2, decide_eq_true (by omega)]; rfl
      · have := h.ok _ H rp (.bl _)
        simpa using this
theorem o_ne {X : Cx} {W : WX} : Op2 X W (rNeD X.K) (eqE true) := by
  intro Fr B as σ H M v w x y Q rp r1 r2 h
  unfold eqE at h
  cases q1 : py M 14 x with
  | none => simp only [q1] at h; exact h.elim
  | some a =>
    cases q2 : py M 14 y with
    | none => simp only [q1, q2] at h; exact h.elim
    | some b =>
      simp only [q1, q2] at h
      obtain ⟨a1, a2, a3⟩ := py_ok rp 14 x v a r1 q1
      obtain ⟨b1, b2, b3⟩ := py_ok rp 14 y w b r2 q2
      refine ⟨a, b, a1, b1, ?_, ?_, ?_⟩
      · unfold SeqAt.shaped; rw [a2, decide_eq_true (by omega)]; rfl
      · unfold SeqAt.shaped; rw [b2, decide_eq_true (by omega)]; rfl
      · have := h.ok _ H rp (.bl _)
        simpa using this
end
end DL

set_option Elab.async false
set_option linter.all false
set_option maxRecDepth 100000
set_option maxHeartbeats 4000000
/-! DL3: arithmetic, comparisons, displays, subscripts, slices, built-in calls. -/
namespace DL
open PySem L2
variable [Tb]
section
variable {X : Cx} {W : WX} {e a b c : Expr} {pos : Pos}
def n2 (op : D → D → Ev NR) (fa fb : Lo → Ev D) : Lo → Ev NR := fun S => (fa S).bnd fun x => (fb S).bnd fun y => op x y
def Op2N (X : Cx) (W : WX) (r : R2) (op : D → D → Ev NR) : Prop := ∀ Fr B as σ H M v w x y Q, Rep (gx X) Fr B as H M → R (gx X) B as v x → R (gx X) B as w y → Post B as (op x y M) (kN X Fr Q) (kX X Fr W σ) → r v w H Q
def OpNN (X : Cx) (W : WX) (r : List V → Hp → VK → Prop) (op : List D → Ev NR) : Prop := ∀ Fr B as σ H M vs l Q, Rep (gx X) Fr B as H M → Rs (gx X) B as vs l → Post B as (op l M) (kN X Fr Q) (kX X Fr W σ) → r vs H Q
theorem post_twoN {Fr B : Hp} {as : List Addr} {σ : St} {H : Hp} {S : Lo} {M : Store} {Q : VK} {fa fb : Lo → Ev D} {ta tb : TE} {r : R2} {op : D → D → Ev NR}
    (ha : ∀ Fr B as σ H S M Q, RS (gx X) B as σ S → Rep (gx X) Fr B as H M → Post B as (fa S M) (kD X Fr Q) (kX X Fr W σ) → ta σ H Q)
    (hb : ∀ Fr B as σ H S M Q, RS (gx X) B as σ S → Rep (gx X) Fr B as H M → Post B as (fb S M) (kD X Fr Q) (kX X Fr W σ) → tb σ H Q)
    (ho : Op2N X W r op) (rs : RS (gx X) B as σ S) (rp : Rep (gx X) Fr B as H M) (h : Post B as (n2 op fa fb S M) (kN X Fr Q) (kX X Fr W σ)) : tOp r ta tb σ H Q := by
  refine ha Fr B as σ H S M _ rs rp (h.bnd.imp fun x M1 B1 as1 s1 p1 h1 v H1 rp1 r1 => ?_)
  refine hb Fr B1 as1 σ H1 S M1 _ (rs.mono s1 p1) rp1 (h1.bnd.imp fun y M2 B2 as2 s2 p2 h2 w H2 rp2 r2 => ?_)
  exact ho Fr B2 as2 σ H2 M2 v w x y Q rp2 (r1.mono s2 p2) r2 h2
theorem dn_op {op : Operator} {r : R2} {fo : D → D → Ev NR} {fa fb : Lo → Ev D} (hr : OpR X (binaryOp op) r) (ho : Op2N X W r fo) (ha : DE X W a fa) (hb : DE X W b fb) : DN X W (.BinOp a op b pos) (n2 fo fa fb) := by
  obtain ⟨ta, pa, sa⟩ := ha
  obtain ⟨tb, pb, sb⟩ := hb
  exact ⟨_, pe_op hr pa pb, fun Fr B as σ H S M Q rs rp h => post_twoN sa sb ho rs rp h⟩
def iop (f : Int → Int → Ev D) : D → D → Ev D
  | .int i, .int j => f i j
  | _, _ => Ev.no
theorem o_int0 {g : Int → Int → V} {f : Int → Int → D} (hg : ∀ G B as i j, R G B as (g i j) (f i j)) : Op2 X W (rI0 g) (iop fun i j => Ev.ret (f i j)) := by
  intro Fr B as σ H M v w x y Q rp r1 r2 h
  cases r1 <;> first | exact h.elim | skip
  cases r2 <;> first | exact h.elim | skip
  exact ⟨_, _, rfl, rfl, h.ret _ H rp (hg _ _ _ _ _)⟩
theorem o_intC {C : Int → Int → Prop} [∀ i j, Decidable (C i j)] {g : Int → Int → V} {f : Int → Int → D} (hg : ∀ G B as i j, R G B as (g i j) (f i j)) : Op2 X W (rI C g) (iop fun i j => if C i j then Ev.ret (f i j) else Ev.no) := by
  intro Fr B as σ H M v w x y Q rp r1 r2 h
  cases r1 <;> first | exact h.elim | skip
  cases r2 <;> first | exact h.elim | skip
  rename_i i j
  have h : Post B as ((if C i j then Ev.ret (f i j) else Ev.no) M) (kD X Fr Q) (kX X Fr W σ) := h
  by_cases c : C i j
  · rw [if_pos c] at h; exact ⟨_, _, rfl, rfl, c, h.ret _ H rp (hg _ _ _ _ _)⟩
  · rw [if_neg c] at h; exact h.elim
instance : ∀ i j, Decidable (CMul i j) := fun i j => by unfold CMul; infer_instance
instance : ∀ i j, Decidable (CDivW i j) := fun i j => by unfold CDivW; infer_instance
instance : ∀ i j, Decidable (CPow i j) := fun i j => by unfold CPow; infer_instance
def subE : D → D → Ev D := iop fun i j => Ev.ret (.int (i - j))
def mulE : D → D → Ev D := iop fun i j => if CMul i j then Ev.ret (.int (i * j)) else Ev.no
def divE : D → D → Ev D := iop fun i j => if CDivW i j then Ev.ret (.int (i / j)) else Ev.no
def modE : D → D → Ev D := iop fun i j => if 0 < j then Ev.ret (.int (i % j)) else Ev.no
def powE : D → D → Ev D := iop fun i j => if CPow i j then Ev.ret (.int (i ^ j.toNat)) else Ev.no
def ltE : D → D → Ev D := iop fun i j => Ev.ret (.bl (decide (i < j)))
def leE : D → D → Ev D := iop fun i j => Ev.ret (.bl (decide (i ≤ j)))
def gtE : D → D → Ev D := iop fun i j => Ev.ret (.bl (decide (j < i)))
def geE : D → D → Ev D := iop fun i j => Ev.ret (.bl (decide (j ≤ i)))
variable {fa fb : Lo → Ev D}
theorem de_sub (ha : DE X W a fa) (hb : DE X W b fb) : DE X W (.BinOp a .Sub b pos) (e2 subE fa fb) := de_op op_sub (o_int0 fun _ _ _ _ _ => .int _) ha hb
theorem de_mul (ha : DE X W a fa) (hb : DE X W b fb) : DE X W (.BinOp a .Mult b pos) (e2 mulE fa fb) := de_op op_mul (o_intC fun _ _ _ _ _ => .int _) ha hb
theorem de_div (ha : DE X W a fa) (hb : DE X W b fb) : DE X W (.BinOp a .FloorDiv b pos) (e2 divE fa fb) := de_op op_fdivW (o_intC fun _ _ _ _ _ => .int _) ha hb
theorem de_mod (ha : DE X W a fa) (hb : DE X W b fb) : DE X W (.BinOp a .Mod b pos) (e2 modE fa fb) := de_op op_mod (o_intC (C := fun _ j => 0 < j) fun _ _ _ _ _ => .int _) ha hb
theorem de_pow (ha : DE X W a fa) (hb : DE X W b fb) : DE X W (.BinOp a .Pow b pos) (e2 powE fa fb) := de_op op_pow (o_intC fun _ _ _ _ _ => .int _) ha hb
theorem o_lt : Op2 X W (rI0 fun i j => .bl (decide (i < j))) ltE := o_int0 fun _ _ _ _ _ => .bl _
theorem o_le : Op2 X W (rI0 fun i j => .bl (decide (i ≤ j))) leE := o_int0 fun _ _ _ _ _ => .bl _
theorem o_gt : Op2 X W (rI0 fun i j => .bl (decide (j < i))) gtE := o_int0 fun _ _ _ _ _ => .bl _
theorem dt_lt (ha : DE X W a fa) (hb : DE X W b fb) : DT X W (.Compare a [.Lt] [b] pos) (eB (e2 ltE fa fb)) := dt_cmp op_lt o_lt ha hb (nomark _)
theorem dt_gt (ha : DE X W a fa) (hb : DE X W b fb) : DT X W (.Compare a [.Gt] [b] pos) (eB (e2 gtE fa fb)) := dt_cmp op_gt o_gt ha hb (nomark _)
theorem de_eq (hu : X.A.units + 64 < cLine) (ha : DE X W a fa) (hb : DE X W b fb) : DE X W (.Compare a [.Eq] [b] pos) (e2 (eqE false) fa fb) := de_cmp (op_eqD hu) o_eq ha hb (nomark _)
theorem de_ne (hu : X.A.units + 64 < cLine) (ha : DE X W a fa) (hb : DE X W b fb) : DE X W (.Compare a [.NotEq] [b] pos) (e2 (eqE true) fa fb) := de_cmp (op_neD hu) o_ne ha hb (nomark _)
theorem dt_eq (hu : X.A.units + 64 < cLine) (ha : DE X W a fa) (hb : DE X W b fb) : DT X W (.Compare a [.Eq] [b] pos) (eB (e2 (eqE false) fa fb)) := dt_cmp (op_eqD hu) o_eq ha hb (nomark _)
theorem dt_ne (hu : X.A.units + 64 < cLine) (ha : DE X W a fa) (hb : DE X W b fb) : DT X W (.Compare a [.NotEq] [b] pos) (eB (e2 (eqE true) fa fb)) := dt_cmp (op_neD hu) o_ne ha hb (nomark _)
/-- a <= b <= c (bools) -/
def eChain (o o' : D → D → Ev D) (fa fb fc : Lo → Ev D) : Lo → Ev D := fun S => (fa S).bnd fun x => (fb S).bnd fun y => (o x y).bnd fun z => (asB z).bnd fun k => if k = true then (fc S).bnd fun w => o' y w else Ev.ret (.bl false)
theorem de_chain {op op' : CmpOp} {r r' : R2} {fo fo' : D → D → Ev D} {fc : Lo → Ev D} (hr : OpR X (compareOp op) r) (hr' : OpR X (compareOp op') r') (ho : Op2 X W r fo) (ho' : Op2 X W r' fo') (ha : DE X W a fa) (hb : DE X W b fb) (hc : DE X W c fc)
    (hm : lastMarks [op, op'] [b, c] = false) : DE X W (.Compare a [op, op'] [b, c] pos) (eChain fo fo' fa fb fc) := by
  obtain ⟨ta, pa, sa⟩ := ha
  obtain ⟨tb, pb, sb⟩ := hb
  obtain ⟨tc, pc, sc⟩ := hc
  refine ⟨_, pe_chain hr hr' pa pb pc hm, fun Fr B as σ H S M Q rs rp h => ?_⟩
  refine sa Fr B as σ H S M _ rs rp (h.bnd.imp fun x M1 B1 as1 s1 p1 h1 v H1 rp1 r1 => ?_)
  refine sb Fr B1 as1 σ H1 S M1 _ (rs.mono s1 p1) rp1 (h1.bnd.imp fun y M2 B2 as2 s2 p2 h2 w H2 rp2 r2 => ?_)
  refine ho Fr B2 as2 σ H2 M2 v w x y _ rp2 (r1.mono s2 p2) r2 (h2.bnd.imp fun z M3 B3 as3 s3 p3 h3 u H3 rp3 r3 => ?_)
  cases z <;> first | exact h3.elim | skip
  rename_i k
  cases r3
  refine ⟨k, rfl, ?_⟩
  cases k with
  | true =>
    have h3 : Post B3 as3 (((fc S).bnd fun w => fo' y w) M3) (kD X Fr Q) (kX X Fr W σ) := h3
    refine sc Fr B3 as3 σ H3 S M3 _ ((rs.mono s1 p1).mono s2 p2 |>.mono s3 p3) rp3 (h3.bnd.imp fun z' M4 B4 as4 s4 p4 h4 u' H4 rp4 r4 => ?_)
    exact ho' Fr B4 as4 σ H4 M4 w u' y z' Q rp4 (r2.mono s3 p3 |>.mono s4 p4) r4 h4
  | false => exact (Post.ret (a := D.bl false) h3) _ H3 rp3 (.bl false)
theorem de_lele {fc : Lo → Ev D} (ha : DE X W a fa) (hb : DE X W b fb) (hc : DE X W c fc) (hm : lastMarks [.LtE, .LtE] [b, c] = false := by rfl) : DE X W (.Compare a [.LtE, .LtE] [b, c] pos) (eChain leE leE fa fb fc) := de_chain op_le op_le o_le o_le ha hb hc hm
/-- - a -/
def negE : D → Ev D
  | .int i => Ev.ret (.int (-i))
  | _ => Ev.no
theorem de_neg (ha : DE X W a fa) : DE X W (.UnaryOp .USub a pos) (e1 negE fa) := de_un un_neg (fun Fr B as σ H M v x Q rp r h => by
  cases r <;> first | exact h.elim | skip
  exact ⟨_, rfl, h.ret _ H rp (.int _)⟩) ha
/-- + of ints, texts, lists, tuples -/
def addN : D → D → Ev NR
  | .int i, .int j => Ev.ret (.v (.int (i + j)))
  | .str i, .str j => if i.length + j.length ≤ sizeLine then Ev.ret (.v (.str (i ++ j))) else Ev.no
  | x, y => (vw x).bnd fun p => (vw y).bnd fun q => match p.1, q.1 with
    | .lst, .lst => if p.2.length + q.2.length ≤ sizeLine then Ev.ret (.n .lst (p.2 ++ q.2)) else Ev.no
    | .tup, .tup => if p.2.isEmpty = false ∧ q.2.isEmpty = false ∧ p.2.length + q.2.length ≤ sizeLine then Ev.ret (.n .tup (p.2 ++ q.2)) else Ev.no
    | _, _ => Ev.no
abbrev rAddU (K : PySem.W.Frag) : R2 := fun x y H Q => (rI0 fun i j => .int (i + j)) x y H Q ∨ (∃ i j, x = .str i ∧ y = .str j ∧ i.length + j.length ≤ sizeLine ∧ Q (.str (i ++ j)) H) ∨ rCat x y H Q ∨ rCatT K x y H Q
theorem op_addU : OpR X (binaryOp .Add) (rAddU X.K) := op_add.or (op_add_str.or (op_cat.or op_catT))
theorem o_addU : Op2N X W (rAddU X.K) addN := by
  intro Fr B as σ H M v w x y Q rp r1 r2 h
  have gen : Post B as (((vw x).bnd fun p => (vw y).bnd fun q => match p.1, q.1 with
      | .lst, .lst => if p.2.length + q.2.length ≤ sizeLine then Ev.ret (.n .lst (p.2 ++ q.2)) else Ev.no
      | .tup, .tup => if p.2.isEmpty = false ∧ q.2.isEmpty = false ∧ p.2.length + q.2.length ≤ sizeLine then Ev.ret (.n .tup (p.2 ++ q.2)) else Ev.no
      | _, _ => Ev.no) M) (kN X Fr Q) (kX X Fr W σ) → rAddU X.K v w H Q := fun h => by
    obtain ⟨t, l, p, vs, rfl, fc, rs, h, _⟩ := h.vw rp r1
    obtain ⟨u, m, q, ws, rfl, fc2, rs2, h, _⟩ := h.vw rp r2
    cases t <;> cases u <;> first | exact h.elim | skip
    · dsimp only at h
      by_cases c : l.length + m.length ≤ sizeLine
      · rw [if_pos c] at h
        exact .inr (.inr (.inl ⟨p, q, vs, ws, rfl, rfl, fc, fc2, by rw [rs.length, rs2.length]; exact c, fun z hz => h.ret _ H z rp (rs.app rs2) hz⟩))
      · rw [if_neg c] at h; exact h.elim
    · dsimp only at h
      by_cases c : l.isEmpty = false ∧ m.isEmpty = false ∧ l.length + m.length ≤ sizeLine
      · rw [if_pos c] at h
        have e1 := rs.length
        have e2 := rs2.length
        obtain ⟨c1, c2, c3⟩ := c
        refine .inr (.inr (.inr ⟨p, q, vs, ws, rfl, rfl, fc, fc2, ?_, by rw [e1, e2]; exact c3, ?_, ?_⟩))
        · intro z; subst z; cases rs; simp at c1
        · intro z; subst z; cases rs2; simp at c2
        · exact fun _ z hz => h.ret _ H z rp (rs.app rs2) hz
      · rw [if_neg c] at h; exact h.elim
  cases r1 with
  | int i =>
    cases r2 with
    | int j => exact .inl ⟨i, j, rfl, rfl, h.ret _ H rp (.int _)⟩
    | _ => exact gen h
  | str i =>
    cases r2 with
    | str j =>
      have h : Post B as ((if i.length + j.length ≤ sizeLine then Ev.ret (.v (.str (i ++ j))) else Ev.no) M) (kN X Fr Q) (kX X Fr W σ) := h
      by_cases c : i.length + j.length ≤ sizeLine
      · rw [if_pos c] at h; exact .inr (.inl ⟨i, j, rfl, rfl, c, h.ret _ H rp (.str _)⟩)
      · rw [if_neg c] at h; exact h.elim
    | _ => exact gen h
  | _ => cases r2 <;> exact gen h
theorem dn_add (ha : DE X W a fa) (hb : DE X W b fb) : DN X W (.BinOp a .Add b pos) (n2 addN fa fb) := dn_op op_addU o_addU ha hb
/-- [x] * n -/
def repN (x y : D) : Ev NR := match y with
  | .int k => (vw x).bnd fun p => match p.1 with
    | .lst => if -(2 ^ 63) ≤ k ∧ k < 2 ^ 63 ∧ p.2.length * k.toNat ≤ sizeLine then Ev.ret (.n .lst (List.replicate k.toNat p.2).flatten) else Ev.no
    | _ => Ev.no
  | _ => Ev.no
theorem Rs.rep {G : Gx} {B : Hp} {as : List Addr} {vs : List V} {l : List D} (r : Rs G B as vs l) : ∀ k : Nat, Rs G B as (List.replicate k vs).flatten (List.replicate k l).flatten
  | 0 => .nil
  | k + 1 => by rw [List.replicate_succ, List.replicate_succ, List.flatten_cons, List.flatten_cons]; exact r.app (Rs.rep r k)
theorem o_rep : Op2N X W rRep repN := by
  intro Fr B as σ H M v w x y Q rp r1 r2 h
  cases r2 <;> first | exact h.elim | skip
  rename_i k
  obtain ⟨t, l, p, vs, rfl, fc, rs, h, _⟩ := Post.vw (d := x) h rp r1
  cases t <;> first | exact h.elim | skip
  dsimp only at h
  by_cases c : -(2 ^ 63) ≤ k ∧ k < 2 ^ 63 ∧ l.length * k.toNat ≤ sizeLine
  · rw [if_pos c] at h
    exact ⟨p, k, vs, rfl, rfl, fc, c.1, c.2.1, by rw [rs.length]; exact c.2.2, fun z hz => h.ret _ H z rp (rs.rep _) hz⟩
  · rw [if_neg c] at h; exact h.elim
theorem dn_rep (ha : DE X W a fa) (hb : DE X W b fb) : DN X W (.BinOp a .Mult b pos) (n2 repN fa fb) := dn_op op_rep o_rep ha hb
/-! ### displays -/
def nNew (t : Tg) (f : Lo → Ev (List D)) : Lo → Ev NR := fun S => (f S).bnd fun l => if l.length ≤ sizeLine then Ev.ret (.n t l) else Ev.no
theorem dn_lst {es : List Expr} {f : Lo → Ev (List D)} (h : DA X W es f) : DN X W (.List es pos) (nNew .lst f) := by
  obtain ⟨t, p, s⟩ := h
  refine ⟨_, pe_lst p, fun Fr B as σ H S M Q rs rp h => ?_⟩
  refine s Fr B as σ H S M _ rs rp (h.bnd.imp fun l M1 B1 as1 s1 p1 h1 vs H1 rp1 r1 => ?_)
  by_cases c : l.length ≤ sizeLine
  · rw [if_pos c] at h1; exact ⟨by rw [r1.length]; exact c, fun z hz => h1.ret _ H1 z rp1 r1 hz⟩
  · rw [if_neg c] at h1; exact h1.elim
theorem dn_tup {es : List Expr} {x1} {f : Lo → Ev (List D)} (h : DA X W es f) : DN X W (.Tuple es x1 pos) (nNew .tup f) := by
  obtain ⟨t, p, s⟩ := h
  refine ⟨_, pe_tup p, fun Fr B as σ H S M Q rs rp h => ?_⟩
  refine s Fr B as σ H S M _ rs rp (h.bnd.imp fun l M1 B1 as1 s1 p1 h1 vs H1 rp1 r1 => ?_)
  by_cases c : l.length ≤ sizeLine
  · rw [if_pos c] at h1; exact ⟨by rw [r1.length]; exact c, fun z hz => h1.ret _ H1 z rp1 r1 hz⟩
  · rw [if_neg c] at h1; exact h1.elim
/-! ### subscripts -/
def optE {α : Type} : Option α → Ev α
  | some a => Ev.ret a
  | none => Ev.no
def ixE (x y : D) : Ev D := match y with
  | .int i => match x with
    | .str z => if z.length ≤ sizeLine then (optE (atI z.cps.toList i)).bnd fun c => Ev.ret (.str ⟨#[c]⟩) else Ev.no
    | _ => (sq x).bnd fun l => optE (atI l i)
  | _ => Ev.no
theorem Rs.atI {G : Gx} {B : Hp} {as : List Addr} {vs : List V} {l : List D} {i : Int} {d : D} (r : Rs G B as vs l) (h : L2.atI l i = some d) : ∃ v, L2.atI vs i = some v ∧ R G B as v d := by
  unfold L2.atI at h ⊢
  rw [r.length]
  cases q : ixN l.length i with
  | none => rw [q] at h; cases h
  | some j =>
    rw [q] at h
    exact r.get h
theorem o_ix : Op2 X W (rIx X.K) ixE := by
  intro Fr B as σ H M v w x y Q rp r1 r2 h
  cases r2 <;> first | exact h.elim | skip
  rename_i i
  have gen : Post B as (((sq x).bnd fun l => optE (atI l i)) M) (kD X Fr Q) (kX X Fr W σ) → rIx X.K v (.int i) H Q := fun h => by
    obtain ⟨l, p, vs, rfl, hs, rs, h⟩ := h.sq rp r1
    cases q : atI l i with
    | none => rw [q] at h; exact h.elim
    | some d =>
      rw [q] at h
      obtain ⟨u, hu, ru⟩ := rs.atI q
      have fin := h.ret u H rp ru
      rcases hs with hs | hs
      · exact .inl ⟨p, vs, i, u, rfl, rfl, hs, hu, fin⟩
      · exact .inr (.inl ⟨p, vs, i, u, rfl, rfl, hs, hu, fin⟩)
  cases r1 with
  | str z =>
    have h : Post B as ((if z.length ≤ sizeLine then (optE (atI z.cps.toList i)).bnd fun c => Ev.ret (.str ⟨#[c]⟩) else Ev.no) M) (kD X Fr Q) (kX X Fr W σ) := h
    by_cases c : z.length ≤ sizeLine
    · rw [if_pos c] at h
      cases q : atI z.cps.toList i with
      | none => rw [q] at h; exact h.elim
      | some d => rw [q] at h; exact .inr (.inr ⟨z, i, d, rfl, rfl, c, q, (Post.ret (a := D.str ⟨#[d]⟩) h) _ H rp (.str _)⟩)
    · rw [if_neg c] at h; exact h.elim
  | _ => exact gen h
theorem de_ix (ha : DE X W a fa) (hb : DE X W b fb) (hs : PlainIx b) : DE X W (.Subscript a b pos) (e2 ixE fa fb) := by
  obtain ⟨ta, pa, sa⟩ := ha
  obtain ⟨tb, pb, sb⟩ := hb
  exact ⟨_, pe_ix ix_seq pa pb hs, fun Fr B as σ H S M Q rs rp h => post_two sa sb o_ix rs rp h⟩
/-! ### slices -/
def DO (X : Cx) (W : WX) (e : Option Expr) (f : Lo → Ev (Option Int)) : Prop := ∃ t, PO X e t ∧ ∀ Fr B as σ H S M (Q : Option Int → Hp → Prop), RS (gx X) B as σ S → Rep (gx X) Fr B as H M →
  Post B as (f S M) (fun o M B as => ∀ H, Rep (gx X) Fr B as H M → Q o H) (kX X Fr W σ) → t σ H Q
def oNo : Lo → Ev (Option Int) := fun _ => Ev.ret none
def asI : D → Ev (Option Int)
  | .int i => Ev.ret (some i)
  | _ => Ev.no
def oSo (f : Lo → Ev D) : Lo → Ev (Option Int) := fun S => (f S).bnd asI
theorem do_none : DO X W none oNo := ⟨_, po_none, fun _ _ _ _ H _ _ _ _ rp h => h.ret H rp⟩
theorem do_some {f : Lo → Ev D} (h : DE X W e f) : DO X W (some e) (oSo f) := by
  obtain ⟨t, p, s⟩ := h
  refine ⟨_, po_some p, fun Fr B as σ H S M Q rs rp h => ?_⟩
  refine s Fr B as σ H S M _ rs rp (h.bnd.imp fun x M1 B1 as1 s1 p1 h1 v H1 rp1 r1 => ?_)
  cases r1 <;> first | exact h1.elim | skip
  exact ⟨_, rfl, h1.ret H1 rp1⟩
def cutD (l : List D) (lo hi : Option Int) : List D := (l.drop (HT.sIx l.length 0 lo)).take (HT.sIx l.length l.length hi - HT.sIx l.length 0 lo)
def slN (x : D) (lo hi : Option Int) : Ev NR := (vw x).bnd fun p => match p.1 with
  | .lst => Ev.ret (.n .lst (cutD p.2 lo hi))
  | .slst => Ev.ret (.n .lst (cutD p.2 lo hi))
  | _ => Ev.no
def nSl (f : Lo → Ev D) (fl fh : Lo → Ev (Option Int)) : Lo → Ev NR := fun S => (f S).bnd fun x => (fl S).bnd fun l => (fh S).bnd fun u => slN x l u
theorem dn_slice {lo hi : Option Expr} {p2 : Pos} {f : Lo → Ev D} {fl fh : Lo → Ev (Option Int)} (he : DE X W e f) (hl : DO X W lo fl) (hh : DO X W hi fh) : DN X W (.Subscript e (.Slice lo hi none p2) pos) (nSl f fl fh) := by
  obtain ⟨t, p, s⟩ := he
  obtain ⟨tl, pl, sl⟩ := hl
  obtain ⟨th, ph, sh⟩ := hh
  refine ⟨_, pe_slice sl_list p pl ph, fun Fr B as σ H S M Q rs rp h => ?_⟩
  refine s Fr B as σ H S M _ rs rp (h.bnd.imp fun x M1 B1 as1 s1 p1 h1 v H1 rp1 r1 => ?_)
  refine sl Fr B1 as1 σ H1 S M1 _ (rs.mono s1 p1) rp1 (h1.bnd.imp fun l M2 B2 as2 s2 p2 h2 H2 rp2 => ?_)
  refine sh Fr B2 as2 σ H2 S M2 _ ((rs.mono s1 p1).mono s2 p2) rp2 (h2.bnd.imp fun u M3 B3 as3 s3 p3 h3 H3 rp3 => ?_)
  obtain ⟨t, m, q, vs, rfl, fc, rs3, h3, _⟩ := Post.vw (d := x) h3 rp3 (r1.mono s2 p2 |>.mono s3 p3)
  have fin : ∀ q', SqL X.K H3 q vs → Post B3 as3 (Ev.ret (NR.n .lst (cutD m l u)) M3) (kN X Fr Q) (kX X Fr W σ) → H3 q' = none → Q (.ref q') (upd H3 q' (.lst (cutV vs l u))) := fun q' _ h hn => by
    have := h.ret (cutV vs l u) H3 q' rp3 (by unfold cutV cutD; rw [rs3.length]; exact (rs3.drop _).take _) hn
    exact this
  cases t <;> first | exact h3.elim | skip
  · exact ⟨q, vs, rfl, SqL.of fc, fun q' hq => fin q' (SqL.of fc) h3 hq⟩
  · exact ⟨q, vs, rfl, fc, fun q' hq => fin q' fc h3 hq⟩
/-! ### built-in functions -/
theorem de_callB {x : Str} {id : String} {r : List V → Hp → VK → Prop} {es : List Expr} {p : Pos} {f : Lo → Ev (List D)} {op : List D → Ev D} (hc : CallR X (.builtin id) r) (ho : OpN X W r op) (hg : Gl X x) (hm : X.mg x = none) (hv : bootBuiltins x = some (.builtin id)) (ha : DA X W (e :: es) f)
    (hn : x ≠ "__name__" := by decide) (hdb : (x == ("__debug__" : Str)) = false := by decide) (he : starEach (e :: es) X.env = (false, eval e X.env) :: starEach es X.env := by rfl) (hpl : (backTo pos (starEach es X.env)).any (·.1) = false := by rfl) :
    DE X W (.Call (.Name x p) (e :: es) [] pos) (fun S => (f S).bnd op) := by
  obtain ⟨t, pa, s⟩ := ha
  refine ⟨_, pe_callB hc hg hm hv pa hn hdb he hpl, fun Fr B as σ H S M Q rs rp h => ?_⟩
  exact s Fr B as σ H S M _ rs rp (h.bnd.imp fun l M1 B1 as1 s1 p1 h1 vs H1 rp1 r1 => ho Fr B1 as1 σ H1 M1 vs l Q rp1 r1 h1)
theorem dn_callB {x : Str} {id : String} {r : List V → Hp → VK → Prop} {es : List Expr} {p : Pos} {f : Lo → Ev (List D)} {op : List D → Ev NR} (hc : CallR X (.builtin id) r) (ho : OpNN X W r op) (hg : Gl X x) (hm : X.mg x = none) (hv : bootBuiltins x = some (.builtin id)) (ha : DA X W (e :: es) f)
    (hn : x ≠ "__name__" := by decide) (hdb : (x == ("__debug__" : Str)) = false := by decide) (he : starEach (e :: es) X.env = (false, eval e X.env) :: starEach es X.env := by rfl) (hpl : (backTo pos (starEach es X.env)).any (·.1) = false := by rfl) :
    DN X W (.Call (.Name x p) (e :: es) [] pos) (fun S => (f S).bnd op) := by
  obtain ⟨t, pa, s⟩ := ha
  refine ⟨_, pe_callB hc hg hm hv pa hn hdb he hpl, fun Fr B as σ H S M Q rs rp h => ?_⟩
  exact s Fr B as σ H S M _ rs rp (h.bnd.imp fun l M1 B1 as1 s1 p1 h1 vs H1 rp1 r1 => ho Fr B1 as1 σ H1 M1 vs l Q rp1 r1 h1)
theorem dn_callTy {x : Str} {T : String} {r : List V → Hp → VK → Prop} {es : List Expr} {p : Pos} {f : Lo → Ev (List D)} {op : List D → Ev NR} (hc : CallR X (.type T) r) (ho : OpNN X W r op) (hg : Gl X x) (hm : X.mg x = none) (hv : bootBuiltins x = some (.type T)) (ha : DA X W (e :: es) f)
    (hn : x ≠ "__name__" := by decide) (hdb : (x == ("__debug__" : Str)) = false := by decide) (he : starEach (e :: es) X.env = (false, eval e X.env) :: starEach es X.env := by rfl) (hpl : (backTo pos (starEach es X.env)).any (·.1) = false := by rfl) :
    DN X W (.Call (.Name x p) (e :: es) [] pos) (fun S => (f S).bnd op) := by
  obtain ⟨t, pa, s⟩ := ha
  refine ⟨_, pe_callTy hc hg hm hv pa hn hdb he hpl, fun Fr B as σ H S M Q rs rp h => ?_⟩
  exact s Fr B as σ H S M _ rs rp (h.bnd.imp fun l M1 B1 as1 s1 p1 h1 vs H1 rp1 r1 => ho Fr B1 as1 σ H1 M1 vs l Q rp1 r1 h1)
/-- one argument -/
def op1 {α : Type} (f : D → Ev α) : List D → Ev α
  | [d] => f d
  | _ => Ev.no
def op2 {α : Type} (f : D → D → Ev α) : List D → Ev α
  | [d, e] => f d e
  | _ => Ev.no
theorem oN1 {r : List V → Hp → VK → Prop} {f : D → Ev D} (h : ∀ Fr B as σ H M v d Q, Rep (gx X) Fr B as H M → R (gx X) B as v d → Post B as (f d M) (kD X Fr Q) (kX X Fr W σ) → r [v] H Q) : OpN X W r (op1 f) := by
  intro Fr B as σ H M vs l Q rp rs hp
  cases rs with
  | nil => exact hp.elim
  | cons r t =>
    cases t with
    | nil => exact h Fr B as σ H M _ _ Q rp r hp
    | cons _ _ => exact hp.elim
theorem oNN1 {r : List V → Hp → VK → Prop} {f : D → Ev NR} (h : ∀ Fr B as σ H M v d Q, Rep (gx X) Fr B as H M → R (gx X) B as v d → Post B as (f d M) (kN X Fr Q) (kX X Fr W σ) → r [v] H Q) : OpNN X W r (op1 f) := by
  intro Fr B as σ H M vs l Q rp rs hp
  cases rs with
  | nil => exact hp.elim
  | cons r t =>
    cases t with
    | nil => exact h Fr B as σ H M _ _ Q rp r hp
    | cons _ _ => exact hp.elim
theorem oN2 {r : List V → Hp → VK → Prop} {f : D → D → Ev D} (h : ∀ Fr B as σ H M v w d e Q, Rep (gx X) Fr B as H M → R (gx X) B as v d → R (gx X) B as w e → Post B as (f d e M) (kD X Fr Q) (kX X Fr W σ) → r [v, w] H Q) : OpN X W r (op2 f) := by
  intro Fr B as σ H M vs l Q rp rs hp
  cases rs with
  | nil => exact hp.elim
  | cons r t =>
    cases t with
    | nil => exact hp.elim
    | cons r' t' =>
      cases t' with
      | nil => exact h Fr B as σ H M _ _ _ _ Q rp r r' hp
      | cons _ _ => exact hp.elim
/-- len -/
def lenE (x : D) : Ev D := match x with
  | .str z => if z.length ≤ sizeLine then Ev.ret (.int z.length) else Ev.no
  | _ => (sq x).bnd fun l => Ev.ret (.int l.length)
theorem o_len : OpN X W (fun xs H Q => ∃ x n, xs = [x] ∧ LenV X.K x H n ∧ Q (.int n) H) (op1 lenE) := oN1 fun Fr B as σ H M v d Q rp r h => by
  have gen : Post B as (((sq d).bnd fun l => Ev.ret (.int l.length)) M) (kD X Fr Q) (kX X Fr W σ) → ∃ x n, [v] = [x] ∧ LenV X.K x H n ∧ Q (.int n) H := fun h => by
    obtain ⟨l, p, vs, rfl, hs, rs, h⟩ := h.sq rp r
    refine ⟨.ref p, l.length, rfl, ?_, (Post.ret (a := D.int l.length) h) _ H rp (.int _)⟩
    rcases hs with hs | hs
    · exact .inl ⟨vs, hs, rs.length.symm⟩
    · exact .inr ⟨vs, hs, rs.length.symm⟩
  cases r with
  | str z =>
    have h : Post B as ((if z.length ≤ sizeLine then Ev.ret (.int z.length) else Ev.no) M) (kD X Fr Q) (kX X Fr W σ) := h
    by_cases c : z.length ≤ sizeLine
    · rw [if_pos c] at h; exact ⟨_, _, rfl, ⟨c, rfl⟩, (Post.ret (a := D.int z.length) h) _ H rp (.int _)⟩
    · rw [if_neg c] at h; exact h.elim
  | _ => exact gen h
def eCall (op : List D → Ev D) (f : Lo → Ev (List D)) : Lo → Ev D := fun S => (f S).bnd op
def nCall (op : List D → Ev NR) (f : Lo → Ev (List D)) : Lo → Ev NR := fun S => (f S).bnd op
variable {es : List Expr} {p : Pos} {f : Lo → Ev (List D)}
theorem de_len (hg : Gl X "len") (hm : X.mg "len" = none) (ha : DA X W [e] f) (he : starEach [e] X.env = (false, eval e X.env) :: starEach [] X.env := by rfl) : DE X W (.Call (.Name "len" p) [e] [] pos) (eCall (op1 lenE) f) :=
  de_callB call_len o_len hg hm PySem.boot_len ha (by decide) (by decide) he
def minE : D → D → Ev D := iop fun i j => Ev.ret (.int (if j < i then j else i))
def maxE : D → D → Ev D := iop fun i j => Ev.ret (.int (if j > i then j else i))
theorem o_mm {g : Int → Int → Int} : OpN X W (fun xs H Q => ∃ i j, xs = [.int i, .int j] ∧ Q (.int (g i j)) H) (op2 (iop fun i j => Ev.ret (.int (g i j)))) := oN2 fun Fr B as σ H M v w d e Q rp r1 r2 h => by
  cases r1 <;> first | exact h.elim | skip
  cases r2 <;> first | exact h.elim | skip
  exact ⟨_, _, rfl, h.ret _ H rp (.int _)⟩
theorem de_min2 (hc : X.calm = true) (hg : Gl X "min") (hm : X.mg "min" = none) (ha : DA X W [a, b] f) (he : starEach [a, b] X.env = (false, eval a X.env) :: starEach [b] X.env := by rfl) (hpl : (backTo pos (starEach [b] X.env)).any (·.1) = false := by rfl) : DE X W (.Call (.Name "min" p) [a, b] [] pos) (eCall (op2 minE) f) :=
  de_callB (call_min2 hc) o_mm hg hm (by decide +kernel) ha (by decide) (by decide) he hpl
theorem de_max2 (hc : X.calm = true) (hg : Gl X "max") (hm : X.mg "max" = none) (ha : DA X W [a, b] f) (he : starEach [a, b] X.env = (false, eval a X.env) :: starEach [b] X.env := by rfl) (hpl : (backTo pos (starEach [b] X.env)).any (·.1) = false := by rfl) : DE X W (.Call (.Name "max" p) [a, b] [] pos) (eCall (op2 maxE) f) :=
  de_callB (call_max2 hc) o_mm hg hm (by decide +kernel) ha (by decide) (by decide) he hpl
def sumE (x : D) : Ev D := (vw x).bnd fun p => match p.1 with
  | .lst => match intsOf p.2 with
    | some ns => Ev.ret (.int ns.sum)
    | none => Ev.no
  | _ => Ev.no
theorem de_sum (hc : X.calm = true) (hg : Gl X "sum") (hm : X.mg "sum" = none) (ha : DA X W [e] f) (he : starEach [e] X.env = (false, eval e X.env) :: starEach [] X.env := by rfl) : DE X W (.Call (.Name "sum" p) [e] [] pos) (eCall (op1 sumE) f) :=
  de_callB (cr_sum hc) (oN1 fun Fr B as σ H M v d Q rp r h => by
    obtain ⟨t, l, p, vs, rfl, fc, rs, h, _⟩ := Post.vw (d := d) h rp r
    cases t <;> first | exact h.elim | skip
    dsimp only at h
    cases q : intsOf l with
    | none => rw [q] at h; exact h.elim
    | some ns =>
      rw [q] at h
      rw [intsOf_eq q] at rs
      have e := rs.ints
      subst e
      exact ⟨p, ns, rfl, SqL.of fc, h.ret _ H rp (.int _)⟩) hg hm (by decide +kernel) ha (by decide) (by decide) he
def allE (x : D) : Ev D := (vw x).bnd fun p => match p.1 with
  | .lst => match blsOf p.2 with
    | some ns => Ev.ret (.bl (ns.all id))
    | none => Ev.no
  | _ => Ev.no
theorem de_all (hc : X.calm = true) (hg : Gl X "all") (hm : X.mg "all" = none) (ha : DA X W [e] f) (he : starEach [e] X.env = (false, eval e X.env) :: starEach [] X.env := by rfl) : DE X W (.Call (.Name "all" p) [e] [] pos) (eCall (op1 allE) f) :=
  de_callB (cr_all hc) (oN1 fun Fr B as σ H M v d Q rp r h => by
    obtain ⟨t, l, p, vs, rfl, fc, rs, h, _⟩ := Post.vw (d := d) h rp r
    cases t <;> first | exact h.elim | skip
    dsimp only at h
    cases q : blsOf l with
    | none => rw [q] at h; exact h.elim
    | some ns =>
      rw [q] at h
      rw [blsOf_eq q] at rs
      have e := rs.bls
      subst e
      exact ⟨p, ns, rfl, SqL.of fc, h.ret _ H rp (.bl _)⟩) hg hm (by decide +kernel) ha (by decide) (by decide) he
/-- list(x), x a list or a tuple -/
def listN (x : D) : Ev NR := (sq x).bnd fun l => Ev.ret (.n .lst l)
theorem dn_list (hg : Gl X "list") (hm : X.mg "list" = none) (ha : DA X W [e] f) (he : starEach [e] X.env = (false, eval e X.env) :: starEach [] X.env := by rfl) : DN X W (.Call (.Name "list" p) [e] [] pos) (nCall (op1 listN) f) :=
  dn_callTy call_list_of (oNN1 fun Fr B as σ H M v d Q rp r h => by
    obtain ⟨l, p, vs, rfl, hs, rs, h⟩ := Post.sq (d := d) h rp r
    exact ⟨p, vs, rfl, hs, fun z hz => h.ret _ H z rp rs hz⟩) hg hm (by decide +kernel) ha (by decide) (by decide) he
/-- list(range(n)), list(range(a, b)) -/
def DR (X : Cx) (W : WX) (e : Expr) (f : Lo → Ev (Int × Int)) : Prop := ∃ t, PRg X e t ∧ ∀ Fr B as σ H S M (Q : Int → Int → Hp → Prop), RS (gx X) B as σ S → Rep (gx X) Fr B as H M →
  Post B as (f S M) (fun o M B as => ∀ H, Rep (gx X) Fr B as H M → Q o.1 o.2 H) (kX X Fr W σ) → t σ H Q
def r1E (f : Lo → Ev D) : Lo → Ev (Int × Int) := fun S => (f S).bnd fun x => match x with
  | .int n => Ev.ret (0, n)
  | _ => Ev.no
theorem dr_1 {g : Lo → Ev D} (hg : Gl X "range") (hm : X.mg "range" = none) (ha : DE X W a g) (na : starEach [a] X.env = (false, eval a X.env) :: starEach [] X.env := by rfl) : DR X W (.Call (.Name "range" p) [a] [] pos) (r1E g) := by
  obtain ⟨t, pa, s⟩ := ha
  refine ⟨_, prg_1 hg hm pa na, fun Fr B as σ H S M Q rs rp h => ?_⟩
  refine s Fr B as σ H S M _ rs rp (h.bnd.imp fun x M1 B1 as1 s1 p1 h1 v H1 rp1 r1 => ?_)
  cases r1 <;> first | exact h1.elim | skip
  exact ⟨_, rfl, h1.ret H1 rp1⟩
def rgD (a b : Int) : List D := (List.range (b - a).toNat).map fun i => D.int (a + (i : Nat))
theorem Rs.rg {G : Gx} {B : Hp} {as : List Addr} (a b : Int) : Rs G B as (rgV a b) (rgD a b) := by
  have : ∀ l : List Nat, Rs G B as (l.map fun i => V.int (a + (i : Nat))) (l.map fun i => D.int (a + (i : Nat))) := fun l => by
    induction l with
    | nil => exact .nil
    | cons n l ih => exact .cons (.int _) ih
  exact this _
open Classical in
noncomputable def rgN (r : Int × Int) : Ev NR := if RgOk r.1 r.2 then Ev.ret (.n .lst (rgD r.1 r.2)) else Ev.no
theorem rgN_ok {r : Int × Int} (h : RgOk r.1 r.2) : rgN r = Ev.ret (.n .lst (rgD r.1 r.2)) := if_pos h
theorem rgN_no {r : Int × Int} (h : ¬ RgOk r.1 r.2) : rgN r = Ev.no := if_neg h
noncomputable def lrN (f : Lo → Ev (Int × Int)) : Lo → Ev NR := fun S => (f S).bnd rgN
theorem dn_listRg {g : Lo → Ev (Int × Int)} (hc : X.calm = true) (hg : Gl X "list") (hm : X.mg "list" = none) (he : DR X W e g) (na : starEach [e] X.env = (false, eval e X.env) :: starEach [] X.env := by rfl) : DN X W (.Call (.Name "list" p) [e] [] pos) (lrN g) := by
  obtain ⟨t, pa, s⟩ := he
  refine ⟨_, pe_listRg hc hg hm pa na, fun Fr B as σ H S M Q rs rp h => ?_⟩
  refine s Fr B as σ H S M _ rs rp (h.bnd.imp fun r M1 B1 as1 s1 p1 h1 H1 rp1 => ?_)
  by_cases c : RgOk r.1 r.2
  · rw [rgN_ok c] at h1; exact ⟨c, fun z hz => h1.ret _ H1 z rp1 (Rs.rg _ _) hz⟩
  · rw [rgN_no c] at h1; exact h1.elim
/-- in, not in a sequence of flat things -/
def inE (neg : Bool) (x y : D) : Ev D := (sq y).bnd fun l => match toV x, toVs l with
  | some v, some vs => Ev.ret (.bl (if neg then !inV v vs else inV v vs))
  | _, _ => Ev.no
theorem o_in {neg : Bool} : Op2 X W (rIn X.K neg) (inE neg) := by
  intro Fr B as σ H M v w x y Q rp r1 r2 h
  obtain ⟨l, p, vs, rfl, hs, rs, h⟩ := Post.sq (d := y) h rp r2
  cases q1 : toV x with
  | none => rw [q1] at h; exact h.elim
  | some u =>
    cases q2 : toVs l with
    | none => rw [q1, q2] at h; exact h.elim
    | some us =>
      rw [q1, q2] at h
      obtain ⟨e1, f1⟩ := r1.toV q1
      obtain ⟨e2, f2⟩ := rs.toVs q2
      subst e1; subst e2
      exact ⟨p, vs, rfl, hs, f1, f2, (Post.ret (a := D.bl (if neg then !inV v vs else inV v vs)) h) _ H rp (.bl _)⟩
theorem dt_notIn (ha : DE X W a fa) (hb : DE X W b fb) (hm : behindInMarks .NotIn b = false := by rfl) : DT X W (.Compare a [.NotIn] [b] pos) (eB (e2 (inE true) fa fb)) := dt_cmp op_notIn_seq o_in ha hb hm
end
end DL

set_option Elab.async false
set_option linter.all false
set_option maxRecDepth 100000
set_option maxHeartbeats 4000000
/-! DL4: targets, statements, loops, comprehensions, freezing. -/
namespace DL
open PySem L2
variable [Tb]
section
variable {X : Cx} {W : WX} {e a b c : Expr} {pos : Pos}
/-! ### targets -/
def kG (X : Cx) (Fr : Hp) (σ : St) (ps : List Nat) (Q : St → Hp → Prop) : Lo → Store → Hp → List Addr → Prop := fun S M B as => ∀ σ' H, Rep (gx X) Fr B as H M → RS (gx X) B as σ' S → (∀ j, j ∉ ps → σ'[j]? = σ[j]?) → σ'.length = σ.length → Q σ' H
def DG (X : Cx) (W : WX) (tg : Expr) (ps : List Nat) (g : D → Lo → Ev Lo) : Prop := ∃ t, PG X tg t ∧ ∀ Fr B as σ H S M v d Q, RS (gx X) B as σ S → Rep (gx X) Fr B as H M → R (gx X) B as v d →
  Post B as (g d S M) (kG X Fr σ ps Q) (fun _ _ _ _ _ => False) → t v σ H Q
def DGs (X : Cx) (W : WX) (tgs : List Expr) (ps : List Nat) (g : List D → Lo → Ev Lo) : Prop := ∃ t, PGs X tgs t ∧ ∀ Fr B as σ H S M vs l Q, RS (gx X) B as σ S → Rep (gx X) Fr B as H M → Rs (gx X) B as vs l →
  Post B as (g l S M) (kG X Fr σ ps Q) (fun _ _ _ _ _ => False) → t vs σ H Q
def gNm (i : Nat) : D → Lo → Ev Lo := fun d S => Ev.ret (S.set i (some d))
def gNl : List D → Lo → Ev Lo := fun l S => match l with
  | [] => Ev.ret S
  | _ => Ev.no
def gCn (g : D → Lo → Ev Lo) (gs : List D → Lo → Ev Lo) : List D → Lo → Ev Lo := fun l S => match l with
  | d :: r => (g d S).bnd fun S' => gs r S'
  | [] => Ev.no
def gTp (n : Nat) (gs : List D → Lo → Ev Lo) : D → Lo → Ev Lo := fun d S => (vw d).bnd fun p => match p.1 with
  | .tup => if p.2.length = n then gs p.2 S else Ev.no
  | _ => Ev.no
theorem dg_name {i : Nat} {x : Str} (hN : X.N.Nodup) (hi : X.N[i]? = some x) (hx : Loc X.env.scope x) (hf : X.fn x = true ∨ X.env.scope.names.lookup x = some .local := by first | exact .inl rfl | exact .inr rfl | assumption) : DG X W (.Name x pos) [i] (gNm i) := by
  refine ⟨_, pg_name hN hi hx hf, fun Fr B as σ H S M v d Q rs rp r h => ?_⟩
  exact h.ret _ H rp (rs.set r i) (fun j hj => by
    simp at hj
    rw [List.getElem?_set_ne (Ne.symm hj)]) (by simp)
theorem dgs_nil : DGs X W [] [] gNl := ⟨_, pgs_nil, fun Fr B as σ H S M vs l Q rs rp r h => by
  cases r with
  | nil => exact ⟨rfl, h.ret _ H rp rs (fun _ _ => rfl) rfl⟩
  | cons _ _ => exact h.elim⟩
theorem dgs_cons {es : List Expr} {ps qs : List Nat} {g : D → Lo → Ev Lo} {gs : List D → Lo → Ev Lo} (h1 : DG X W e ps g) (h2 : DGs X W es qs gs) (hs : (assignEach (e :: es) X.env).map (·.2) = assign e X.env :: (assignEach es X.env).map (·.2) := by rfl) : DGs X W (e :: es) (ps ++ qs) (gCn g gs) := by
  obtain ⟨t, p, s⟩ := h1
  obtain ⟨t', p', s'⟩ := h2
  refine ⟨_, pgs_cons p p' hs, fun Fr B as σ H S M vs l Q rs rp r h => ?_⟩
  cases r with
  | nil => exact h.elim
  | cons r rr =>
    refine ⟨_, _, rfl, s Fr B as σ H S M _ _ _ rs rp r ((Post.bnd h).imp fun S1 M1 B1 as1 s1 p1 h1 σ1 H1 rp1 rs1 k1 l1 => ?_)⟩
    refine s' Fr B1 as1 σ1 H1 S1 M1 _ _ Q rs1 rp1 (rr.mono s1 p1) (h1.imp fun S2 M2 B2 as2 s2 p2 h2 σ2 H2 rp2 rs2 k2 l2 => ?_)
    refine h2 σ2 H2 rp2 rs2 (fun j hj => ?_) (l2.trans l1)
    simp at hj
    rw [k2 j hj.2, k1 j hj.1]
theorem dg_tup {es : List Expr} {k : Nat} {ps : List Nat} {gs : List D → Lo → Ev Lo} {n : Nat} (hc : X.calm = true) (h : DGs X W es ps gs) (hn : (assignEach es X.env).length = n := by rfl) (hst : (assignEach es X.env).findIdx? (·.1) = none := by rfl) : DG X W (.Tuple es k pos) ps (gTp n gs) := by
  obtain ⟨t, p, s⟩ := h
  refine ⟨_, pg_tup hc p hn hst, fun Fr B as σ H S M v d Q rs rp r h => ?_⟩
  obtain ⟨t, l, q, vs, rfl, fc, rs2, h, _⟩ := Post.vw (d := d) h rp r
  cases t <;> first | exact h.elim | skip
  dsimp only at h
  by_cases c : l.length = n
  · rw [if_pos c] at h
    exact ⟨q, vs, rfl, fc, rs2.length.trans c, s Fr B as σ H S M vs l Q rs rp rs2 h⟩
  · rw [if_neg c] at h; exact h.elim
/-! ### statements -/
/-- an expression's exceptions become flow -/
def Ev.fl (m : Ev D) (S : Lo) (k : D → Ev Fl) : Ev Fl := fun M => match m M with
  | .ok d M' => k d M'
  | .exc c d M' => .ok (.xc c d S) M'
  | .stuck => .stuck
def Ev.flB (m : Ev Bool) (S : Lo) (k : Bool → Ev Fl) : Ev Fl := fun M => match m M with
  | .ok d M' => k d M'
  | .exc c d M' => .ok (.xc c d S) M'
  | .stuck => .stuck
theorem Post.fl {Fr B : Hp} {as : List Addr} {σ : St} {m : Ev D} {S : Lo} {k : D → Ev Fl} {M : Store} {Dn : Ends} (rs : RS (gx X) B as σ S) (h : Post B as ((m.fl S k) M) (kF X Fr W Dn) (fun _ _ _ _ _ => False)) :
    Post B as (m M) (fun d M' B' as' => Post B' as' (k d M') (kF X Fr W Dn) (fun _ _ _ _ _ => False)) (kX X Fr W σ) := by
  unfold Ev.fl at h
  cases e : m M with
  | ok a M' => rw [e] at h; exact fun B2 as2 e2 p2 => Post.mono (o := k a M') h e2 p2
  | exc c d M' => rw [e] at h; exact fun B2 as2 e2 p2 cls dx H rp xr => h B2 as2 e2 p2 σ cls dx H rp (rs.mono e2 p2) xr
  | stuck => rw [e] at h; exact h
theorem Post.flB {Fr B : Hp} {as : List Addr} {σ : St} {m : Ev Bool} {S : Lo} {k : Bool → Ev Fl} {M : Store} {Dn : Ends} (rs : RS (gx X) B as σ S) (h : Post B as ((Ev.flB m S k) M) (kF X Fr W Dn) (fun _ _ _ _ _ => False)) :
    Post B as (m M) (fun d M' B' as' => Post B' as' (k d M') (kF X Fr W Dn) (fun _ _ _ _ _ => False)) (kX X Fr W σ) := by
  unfold Ev.flB at h
  cases e : m M with
  | ok a M' => rw [e] at h; exact fun B2 as2 e2 p2 => Post.mono (o := k a M') h e2 p2
  | exc c d M' => rw [e] at h; exact fun B2 as2 e2 p2 cls dx H rp xr => h B2 as2 e2 p2 σ cls dx H rp (rs.mono e2 p2) xr
  | stuck => rw [e] at h; exact h
def sNo : Lo → Ev Fl := fun _ => Ev.no
def sNext : Lo → Ev Fl := fun S => Ev.ret (.nx S)
def sSeq (f g : Lo → Ev Fl) : Lo → Ev Fl := fun S => (f S).bnd fun fl => match fl with
  | .nx S' => g S'
  | o => Ev.ret o
def sAsg (f : Lo → Ev D) (g : D → Lo → Ev Lo) : Lo → Ev Fl := fun S => (f S).fl S fun d => (g d S).bnd fun S' => Ev.ret (.nx S')
def sExp (f : Lo → Ev D) : Lo → Ev Fl := fun S => (f S).fl S fun _ => Ev.ret (.nx S)
def sRet (f : Lo → Ev D) : Lo → Ev Fl := fun S => (f S).fl S fun d => Ev.ret (.rt d)
def sRetN : Lo → Ev Fl := fun _ => Ev.ret (.rt .non)
def sIf (c : Lo → Ev Bool) (f g : Lo → Ev Fl) : Lo → Ev Fl := fun S => Ev.flB (c S) S fun b => if b = true then f S else g S
variable {st : Stmt} {rest : List Stmt}
theorem ds_never : DS X W st sNo := ⟨_, ps_never, fun _ _ _ _ _ _ _ _ _ _ h => h⟩
theorem dss_nil : DSs X W [] sNext := ⟨_, pss_nil, fun _ _ _ _ H S M D rs rp h => h.ret _ H rp rs⟩
theorem dss_cons {f g : Lo → Ev Fl} (h1 : DS X W st f) (h2 : DSs X W rest g) : DSs X W (st :: rest) (sSeq f g) := by
  obtain ⟨t, p, s⟩ := h1
  obtain ⟨t', p', s'⟩ := h2
  refine ⟨_, pss_cons p p', fun Fr B as σ H S M D rs rp h => ?_⟩
  refine s Fr B as σ H S M _ rs rp (h.bnd.imp fun fl M1 B1 as1 s1 p1 h1 => ?_)
  cases fl with
  | nx S' => exact fun σ' H' rp' rs' => s' Fr B1 as1 σ' H' S' M1 D rs' rp' h1
  | rt d => exact Post.ret (a := Fl.rt d) (k := kF X Fr W D) (x := fun _ _ _ _ _ => False) h1
  | bk S' => exact Post.ret (a := Fl.bk S') (k := kF X Fr W D) (x := fun _ _ _ _ _ => False) h1
  | ct S' => exact Post.ret (a := Fl.ct S') (k := kF X Fr W D) (x := fun _ _ _ _ _ => False) h1
  | xc c d S' => exact Post.ret (a := Fl.xc c d S') (k := kF X Fr W D) (x := fun _ _ _ _ _ => False) h1
theorem dss_one {f : Lo → Ev Fl} (h1 : DS X W st f) : DSs X W [st] f := by
  obtain ⟨t, p, s⟩ := h1
  exact ⟨_, pss_one p, s⟩
theorem ds_asg {tg : Expr} {ps : List Nat} {f : Lo → Ev D} {g : D → Lo → Ev Lo} (he : DE X W e f) (hg : DG X W tg ps g) (hs : swapsWithSole [tg] e pos.line X.env = pure false := by rfl) (hw : swappedStores [tg] e X.env = pure none := by rfl)
    (h1 : (assignEach [tg] X.env).map (·.2) = [assign tg X.env] := by rfl) : DS X W (.Assign [tg] e pos) (sAsg f g) := by
  obtain ⟨t, p, s⟩ := he
  obtain ⟨t', p', s'⟩ := hg
  refine ⟨_, ps_asg p p' hs hw h1, fun Fr B as σ H S M D rs rp h => ?_⟩
  refine s Fr B as σ H S M _ rs rp ((Post.fl rs h).imp fun d M1 B1 as1 s1 p1 h1 v H1 rp1 r1 => ?_)
  exact s' Fr B1 as1 σ H1 S M1 v d _ (rs.mono s1 p1) rp1 r1 (h1.bnd.imp fun S' M2 B2 as2 s2 p2 h2 σ' H' rp' rs' _ _ => h2.ret σ' H' rp' rs')
theorem ds_set {i : Nat} {x : Str} {f : Lo → Ev D} {pos' : Pos} (hN : X.N.Nodup) (hi : X.N[i]? = some x) (hx : Loc X.env.scope x) (he : DE X W e f) (hs : swapsWith e (some (.Name x pos')) pos.line X.env = pure false := by rfl) (hf : X.fn x = true ∨ X.env.scope.names.lookup x = some .local := by first | exact .inl rfl | exact .inr rfl | assumption) :
    DS X W (.Assign [.Name x pos'] e pos) (sAsg f (gNm i)) := by
  obtain ⟨t, p, s⟩ := he
  refine ⟨_, ps_set hN hi hx p hs hf, fun Fr B as σ H S M D rs rp h => ?_⟩
  refine s Fr B as σ H S M _ rs rp ((Post.fl rs h).imp fun d M1 B1 as1 s1 p1 h1 v H1 rp1 r1 => ?_)
  exact (Post.ret (a := Fl.nx (S.set i (some d))) h1) _ H1 rp1 ((rs.mono s1 p1).set r1 i)
theorem ds_expr {f : Lo → Ev D} (he : DE X W e f) (hs : swapsWith e none pos.line X.env = pure false := by rfl) : DS X W (.Expr e pos) (sExp f) := by
  obtain ⟨t, p, s⟩ := he
  refine ⟨_, ps_expr p hs, fun Fr B as σ H S M D rs rp h => ?_⟩
  exact s Fr B as σ H S M _ rs rp ((Post.fl rs h).imp fun d M1 B1 as1 s1 p1 h1 v H1 rp1 r1 => h1.ret σ H1 rp1 (rs.mono s1 p1))
theorem ds_ret {f : Lo → Ev D} (he : DE X W e f) : DS X W (.Return (some e) pos) (sRet f) := by
  obtain ⟨t, p, s⟩ := he
  refine ⟨_, ps_ret p, fun Fr B as σ H S M D rs rp h => ?_⟩
  exact s Fr B as σ H S M _ rs rp ((Post.fl rs h).imp fun d M1 B1 as1 s1 p1 h1 v H1 rp1 r1 => h1.ret v H1 rp1 r1)
theorem ds_if {a b : List Stmt} {f : Lo → Ev Bool} {g h : Lo → Ev Fl} (hc : DT X W c f) (ha : DSs X W a g) (hb : DSs X W b h) : DS X W (.If c a b pos) (sIf f g h) := by
  obtain ⟨t, p, s⟩ := hc
  obtain ⟨t', p', s'⟩ := ha
  obtain ⟨t'', p'', s''⟩ := hb
  refine ⟨_, ps_if p p' p'', fun Fr B as σ H S M D rs rp h => ?_⟩
  refine s Fr B as σ H S M _ rs rp ((Post.flB rs h).imp fun x M1 B1 as1 s1 p1 h1 H1 rp1 => ?_)
  cases x with
  | true => rw [if_pos rfl] at h1 ⊢; exact s' Fr B1 as1 σ H1 S M1 _ (rs.mono s1 p1) rp1 h1
  | false => rw [if_neg Bool.false_ne_true] at h1 ⊢; exact s'' Fr B1 as1 σ H1 S M1 _ (rs.mono s1 p1) rp1 h1
/-! ### while -/
def whileL (c : Lo → Ev Bool) (g : Lo → Ev Fl) : Nat → Lo → Ev Fl
  | 0, _ => Ev.no
  | n + 1, S => Ev.flB (c S) S fun b => if b = true then (g S).bnd fun fl => match fl with
      | .nx S' => whileL c g n S'
      | .ct S' => whileL c g n S'
      | .bk S' => Ev.ret (.nx S')
      | o => Ev.ret o
    else Ev.ret (.nx S)
theorem ds_while {body : List Stmt} {f : Lo → Ev Bool} {g : Lo → Ev Fl} (N : Nat) (hp : PassesOwn (model X.prog X.w) X.A X.env X.xe) (hc : DT X W c f) (hb : DSs X W body g) : DS X W (.While c body [] pos) (whileL f g N) := by
  obtain ⟨t, p, s⟩ := hc
  obtain ⟨t', p', s'⟩ := hb
  refine ⟨_, ps_while hp p p', fun Fr B as σ H S M D rs rp h => ?_⟩
  refine ⟨fun m σ H => ∃ B' as' S' M', Rep (gx X) Fr B' as' H M' ∧ RS (gx X) B' as' σ S' ∧ Post B' as' (whileL f g m S' M') (kF X Fr W D) (fun _ _ _ _ _ => False), ⟨N, B, as, S, M, rp, rs, h⟩, ?_⟩
  rintro m σ H ⟨B, as, S, M, rp, rs, h⟩
  cases m with
  | zero => exact h.elim
  | succ m =>
    refine s Fr B as σ H S M _ rs rp ((Post.flB rs h).imp fun x M1 B1 as1 s1 p1 h1 H1 rp1 => ?_)
    cases x with
    | false => rw [if_neg Bool.false_ne_true] at h1 ⊢; exact h1.ret σ H1 rp1 (rs.mono s1 p1)
    | true =>
      rw [if_pos rfl] at h1 ⊢
      refine ⟨fun σ' H' => ∃ B' as' S' M', Rep (gx X) Fr B' as' H' M' ∧ RS (gx X) B' as' σ' S' ∧ Post B' as' (whileL f g m S' M') (kF X Fr W D) (fun _ _ _ _ _ => False), fun σ' H' q => ⟨m, Nat.lt_succ_self m, q⟩, ?_⟩
      refine s' Fr B1 as1 σ H1 S M1 _ (rs.mono s1 p1) rp1 (h1.bnd.imp fun fl M2 B2 as2 s2 p2 h2 => ?_)
      cases fl with
      | nx S' => exact fun σ' H' rp' rs' => ⟨B2, as2, S', M2, rp', rs', h2⟩
      | ct S' => exact fun σ' H' rp' rs' => ⟨B2, as2, S', M2, rp', rs', h2⟩
      | bk S' => exact fun σ' H' rp' rs' => h2.ret σ' H' rp' rs'
      | rt d => exact Post.ret (a := Fl.rt d) (k := kF X Fr W D) (x := fun _ _ _ _ _ => False) h2
      | xc c d S' => exact Post.ret (a := Fl.xc c d S') (k := kF X Fr W D) (x := fun _ _ _ _ _ => False) h2
/-! ### iteration -/
abbrev Gd := Option (Nat × (Tg × List D))
def grd (g : Gd) (M : Store) : Prop := match g with
  | none => True
  | some (n, c) => M[n]? = some c
open Classical in
noncomputable def chk {α : Type} (g : Gd) (k : Ev α) : Ev α := fun M => if grd g M then k M else .stuck
theorem chk_ok {α : Type} {g : Gd} {M : Store} (h : grd g M) (k : Ev α) : chk g k M = k M := by unfold chk; rw [if_pos h]
theorem Post.chk {α : Type} {B : Hp} {as : List Addr} {g : Gd} {m : Ev α} {M : Store} {k : α → Store → Hp → List Addr → Prop} {x : Str → D → Store → Hp → List Addr → Prop} (h : Post B as (DL.chk g m M) k x) : grd g M ∧ Post B as (m M) k x := by
  unfold DL.chk at h
  by_cases c : grd g M
  · rw [if_pos c] at h; exact ⟨c, h⟩
  · rw [if_neg c] at h; exact h.elim
structure IterOk (X : Cx) (B : Hp) (as : List Addr) (J : It) (items : List D) (g : Gd) : Prop where
  stop : ∀ Fr B' as' H' M', Same B B' → as <+: as' → Rep (gx X) Fr B' as' H' M' → grd g M' → J.stop items.length H'
  go : ∀ i d, items[i]? = some d → ∀ Fr B' as' H' M', Same B B' → as <+: as' → Rep (gx X) Fr B' as' H' M' → grd g M' →
    J.go i H' ∧ ∀ x H'', J.yld i H' x H'' → ∃ B'', Same B' B'' ∧ Rep (gx X) Fr B'' as' H'' M' ∧ R (gx X) B'' as' x d
theorem IterOk.mono {B B' : Hp} {as as' : List Addr} {J : It} {items : List D} {g : Gd} (h : IterOk X B as J items g) (e : Same B B') (p : as <+: as') : IterOk X B' as' J items g :=
  ⟨fun Fr B2 as2 H2 M2 e2 p2 => h.stop Fr B2 as2 H2 M2 (e.trans e2) (p.trans p2), fun i d q Fr B2 as2 H2 M2 e2 p2 => h.go i d q Fr B2 as2 H2 M2 (e.trans e2) (p.trans p2)⟩
def DI (X : Cx) (W : WX) (tg iter : Expr) (f : Lo → Ev (List D × Gd)) : Prop := ∃ wi, PI X tg iter wi ∧ ∀ Fr B as σ H S M (R' : It → Hp → Prop), RS (gx X) B as σ S → Rep (gx X) Fr B as H M →
  Post B as (f S M) (fun r M' B' as' => ∀ J H', Rep (gx X) Fr B' as' H' M' → IterOk X B' as' J r.1 r.2 → R' J H') (kX X Fr W σ) → wi σ H R'
noncomputable def forL (tg : D → Lo → Ev Lo) (body : Lo → Ev Fl) (g : Gd) : List D → Lo → Ev Fl
  | [], S => chk g (Ev.ret (.nx S))
  | d :: ds, S => chk g ((tg d S).bnd fun S1 => (body S1).bnd fun fl => match fl with
      | .nx S' => forL tg body g ds S'
      | .ct S' => forL tg body g ds S'
      | .bk S' => Ev.ret (.nx S')
      | o => Ev.ret o)
def Ev.flG {α : Type} (m : Ev α) (S : Lo) (k : α → Ev Fl) : Ev Fl := fun M => match m M with
  | .ok d M' => k d M'
  | .exc c d M' => .ok (.xc c d S) M'
  | .stuck => .stuck
theorem Post.flG {α : Type} {Fr B : Hp} {as : List Addr} {σ : St} {m : Ev α} {S : Lo} {k : α → Ev Fl} {M : Store} {Dn : Ends} (rs : RS (gx X) B as σ S) (h : Post B as ((Ev.flG m S k) M) (kF X Fr W Dn) (fun _ _ _ _ _ => False)) :
    Post B as (m M) (fun d M' B' as' => Post B' as' (k d M') (kF X Fr W Dn) (fun _ _ _ _ _ => False)) (kX X Fr W σ) := by
  unfold Ev.flG at h
  cases e : m M with
  | ok a M' => rw [e] at h; exact fun B2 as2 e2 p2 => Post.mono (o := k a M') h e2 p2
  | exc c d M' => rw [e] at h; exact fun B2 as2 e2 p2 cls dx H rp xr => h B2 as2 e2 p2 σ cls dx H rp (rs.mono e2 p2) xr
  | stuck => rw [e] at h; exact h
noncomputable def sFor (fi : Lo → Ev (List D × Gd)) (tg : D → Lo → Ev Lo) (body : Lo → Ev Fl) : Lo → Ev Fl := fun S => Ev.flG (fi S) S fun r => forL tg body r.2 r.1 S
theorem ds_for {tg iter : Expr} {body : List Stmt} {ps : List Nat} {fi : Lo → Ev (List D × Gd)} {ft : D → Lo → Ev Lo} {fb : Lo → Ev Fl} (hp : PassesOwn (model X.prog X.w) X.A X.env X.xe) (hc : X.calm = true) (hi : DI X W tg iter fi) (hg : DG X W tg ps ft) (hb : DSs X W body fb)
    (hs : ∀ x, foldedSetIterable iter X.env x = pure x := by intro _; rfl) : DS X W (.For tg iter body [] pos) (sFor fi ft fb) := by
  obtain ⟨wi, pi, si⟩ := hi
  obtain ⟨tt, pt, st⟩ := hg
  obtain ⟨tb, pb, sb⟩ := hb
  refine ⟨_, ps_for hp hc pi pt pb hs, fun Fr B as σ H S M D rs rp h => ?_⟩
  refine si Fr B as σ H S M _ rs rp ((Post.flG rs h).imp fun r M1 B1 as1 s1 p1 h1 J H1 rp1 io => ?_)
  obtain ⟨items, g⟩ := r
  refine ⟨fun i m σ H => m = items.length - i ∧ i ≤ items.length ∧ ∃ B' as' S' M', Same B1 B' ∧ as1 <+: as' ∧ Rep (gx X) Fr B' as' H M' ∧ RS (gx X) B' as' σ S' ∧ Post B' as' (forL ft fb g (items.drop i) S' M') (kF X Fr W D) (fun _ _ _ _ _ => False),
    ⟨items.length, by simp, Nat.zero_le _, B1, as1, S, M1, Same.refl _, List.prefix_refl _, rp1, rs.mono s1 p1, h1⟩, ?_⟩
  rintro i m σ H ⟨rfl, hi, B2, as2, S2, M2, s2, p2, rp2, rs2, h2⟩
  by_cases hlt : i < items.length
  · have hd : items.drop i = items[i] :: items.drop (i + 1) := (List.drop_eq_getElem_cons hlt)
    rw [hd] at h2
    unfold forL at h2
    obtain ⟨hg, h2⟩ := h2.chk
    obtain ⟨hgo, hy⟩ := io.go i items[i] (List.getElem?_eq_getElem hlt) Fr B2 as2 H M2 s2 p2 rp2 hg
    refine .inr ⟨hgo, fun σ' H' => ∃ B' as' S' M', Same B1 B' ∧ as1 <+: as' ∧ Rep (gx X) Fr B' as' H' M' ∧ RS (gx X) B' as' σ' S' ∧ Post B' as' (forL ft fb g (items.drop (i + 1)) S' M') (kF X Fr W D) (fun _ _ _ _ _ => False),
      fun σ' H' q => ⟨items.length - (i + 1), by omega, rfl, hlt, q⟩, fun x H' y => ?_⟩
    obtain ⟨B3, s3, rp3, r3⟩ := hy x H' y
    have h3 := h2.mono s3 (List.prefix_refl _)
    refine st Fr B3 as2 σ H' S2 M2 x _ _ (rs2.mono s3 (List.prefix_refl _)) rp3 r3 (h3.bnd.imp fun S4 M4 B4 as4 s4 p4 h4 σ4 H4 rp4 rs4 _ _ => ?_)
    refine sb Fr B4 as4 σ4 H4 S4 M4 _ rs4 rp4 (h4.bnd.imp fun fl M5 B5 as5 s5 p5 h5 => ?_)
    cases fl with
    | nx S' => exact fun σ' H' rp' rs' => ⟨B5, as5, S', M5, s2.trans (s3.trans (s4.trans s5)), p2.trans (p4.trans p5), rp', rs', h5⟩
    | ct S' => exact fun σ' H' rp' rs' => ⟨B5, as5, S', M5, s2.trans (s3.trans (s4.trans s5)), p2.trans (p4.trans p5), rp', rs', h5⟩
    | bk S' => exact fun σ' H' rp' rs' => h5.ret σ' H' rp' rs'
    | rt d => exact Post.ret (a := Fl.rt d) (k := kF X Fr W D) (x := fun _ _ _ _ _ => False) h5
    | xc c d S' => exact Post.ret (a := Fl.xc c d S') (k := kF X Fr W D) (x := fun _ _ _ _ _ => False) h5
  · have e : i = items.length := by omega
    subst e
    rw [List.drop_length] at h2
    unfold forL at h2
    obtain ⟨hg, h2⟩ := h2.chk
    exact .inl ⟨io.stop Fr B2 as2 H M2 s2 p2 rp2 hg, h2.ret σ H rp2 rs2⟩
/-- what is walked: a list or a tuple -/
def iSq (K : PySem.W.Frag) (tl : TE) : TI := fun σ H R => tl σ H fun x H1 => (∃ a, x = .ref a ∧ (∃ xs, SqL K H1 a xs) ∧ R (Itl K a) H1) ∨ (∃ a, x = .ref a ∧ (∃ xs, SqT K H1 a xs) ∧ R (Itt K a) H1)
theorem pi_sq {tg l : Expr} {tl : TE} (hl : PE X l tl) : PI X tg l (iSq X.K tl) := by
  refine ⟨fun pins s σ H R I h => ?_⟩
  refine thn (hl.run pins s σ H _ I h) fun v s1 ⟨x, H1, I1, r1, q1⟩ => ?_
  rcases q1 with ⟨a, e, ⟨xs, hq⟩, q⟩ | ⟨a, e, ⟨xs, hq⟩, q⟩
  · subst e
    cases r1
    obtain ⟨its, rv, p, hz⟩ := I1.list hq
    refine wpAny_pyIter_list p.isList ?_
    refine ⟨s1.heap.objs.size, [s1.heap.objs.size], _, _, H1, rfl, I1.kept (t' := s1.toks) fun b o e => Heap.get?_push_of_some _ e, turn_list a _, ⟨_, Heap.get?_push_size _ rfl, rfl, rfl⟩, fun b hb => ?_, q⟩
    have e : b = s1.heap.objs.size := by simpa using hb
    subst e
    exact I1.fpOk (Nat.le_refl _) (I1.hok.fresh (Nat.le_refl _))
  · subst e
    cases r1
    obtain ⟨its, rv, p, hz⟩ := I1.tuple hq
    refine wpAny_pyIter_tuple (show s1.heap.IsTuple a its.toArray from p) ?_
    refine ⟨s1.heap.objs.size, [s1.heap.objs.size], _, _, H1, rfl, I1.kept (t' := s1.toks) fun b o e => Heap.get?_push_of_some _ e, turn_tuple a _, ⟨_, Heap.get?_push_size _ rfl, rfl, rfl⟩, fun b hb => ?_, q⟩
    have e : b = s1.heap.objs.size := by simpa using hb
    subst e
    exact I1.fpOk (Nat.le_refl _) (I1.hok.fresh (Nat.le_refl _))
/-- the items of a sequence, and what must stand while it is walked -/
def itSq (d : D) : Ev (List D × Gd) := (vw d).bnd fun p => if FC.isSeq p.1 = true then (match d with
  | .ref n => Ev.ret (p.2, some (n, p))
  | _ => Ev.ret (p.2, none)) else Ev.no
end
end DL

set_option Elab.async false
set_option linter.all false
set_option maxRecDepth 100000
set_option maxHeartbeats 4000000
/-! DL5: what is walked, comprehensions, freezing, cells written, calls. -/
namespace DL
open PySem L2
variable [Tb]
section
variable {X : Cx} {W : WX} {e a b c : Expr} {pos : Pos}
/-- the sequence as it stands at a later turn -/
theorem seq_later {Fr B B' : Hp} {as as' : List Addr} {H H' : Hp} {M M' : Store} {d : D} {t : Tg} {l : List D} {p : Addr} {vs : List V} (ht : FC.isSeq t = true)
    (r : R (gx X) B as (.ref p) d) (fc : FC (gx X) H p t vs) (rs : Rs (gx X) B as vs l) (rp : Rep (gx X) Fr B as H M)
    (cell : ∀ n, d = .ref n → as[n]? = some p ∧ M[n]? = some (t, l) ∧ MC (gx X) H p t vs) (fro : (∀ n, d ≠ .ref n) → FC (gx X) B p t vs)
    {Fr' : Hp} (e : Same B B') (pr : as <+: as') (rp' : Rep (gx X) Fr' B' as' H' M') (g : ∀ n, d = .ref n → M'[n]? = some (t, l)) :
    ∃ ws, FC (gx X) H' p t ws ∧ Rs (gx X) B' as' ws l := by
  cases d with
  | ref n =>
    obtain ⟨ha, hm, mc⟩ := cell n rfl
    obtain ⟨ws, mc', rs'⟩ := rp'.cell n p (t, l) (pre_get pr ha) (g n rfl)
    exact ⟨ws, mc'.fc, rs'⟩
  | _ => exact ⟨vs, (fro (fun n => by intro h; cases h)).sub (e.trans rp'.sub), rs.mono e pr⟩
theorem Post.vw2 {α : Type} {Fr B : Hp} {as : List Addr} {d : D} {f : Tg × List D → Ev α} {M : Store} {H : Hp} {v : V} {k : α → Store → Hp → List Addr → Prop} {x : Str → D → Store → Hp → List Addr → Prop} (h : Post B as (((DL.vw d).bnd f) M) k x)
    (rp : Rep (gx X) Fr B as H M) (r : R (gx X) B as v d) : ∃ t l p vs, v = .ref p ∧ FC (gx X) H p t vs ∧ Rs (gx X) B as vs l ∧ Post B as (f (t, l) M) k x ∧
      (∀ n, d = .ref n → as[n]? = some p ∧ M[n]? = some (t, l) ∧ MC (gx X) H p t vs) ∧ ((∀ n, d ≠ .ref n) → FC (gx X) B p t vs) := by
  cases r with
  | nd fc rs => exact ⟨_, _, _, _, rfl, fc.sub rp.sub, rs, h, (fun n e => by cases e), fun _ => fc⟩
  | ref ha =>
    obtain ⟨t, l, p, vs, e, fc, rs, h, c⟩ := h.vw rp (.ref ha)
    exact ⟨t, l, p, vs, e, fc, rs, h, c, fun q => absurd rfl (q _)⟩
  | _ => exact h.elim
theorem iter_sq {Fr B : Hp} {as : List Addr} {H : Hp} {M : Store} {d : D} {t : Tg} {l : List D} {p : Addr} {vs : List V} {gd : Gd} (ht : FC.isSeq t = true)
    (r : R (gx X) B as (.ref p) d) (fc : FC (gx X) H p t vs) (rs : Rs (gx X) B as vs l) (rp : Rep (gx X) Fr B as H M)
    (cell : ∀ n, d = .ref n → as[n]? = some p ∧ M[n]? = some (t, l) ∧ MC (gx X) H p t vs) (fro : (∀ n, d ≠ .ref n) → FC (gx X) B p t vs) (hg : ∀ n, d = .ref n → gd = some (n, (t, l))) :
    (t = .tup → IterOk X B as (Itt X.K p) l gd) ∧ (t ≠ .tup → IterOk X B as (Itl X.K p) l gd) := by
  have later : ∀ {Fr' B' : Hp} {as' : List Addr} {H' : Hp} {M' : Store}, Same B B' → as <+: as' → Rep (gx X) Fr' B' as' H' M' → grd gd M' → ∃ ws, FC (gx X) H' p t ws ∧ Rs (gx X) B' as' ws l := fun e pr rp' g =>
    seq_later ht r fc rs rp cell fro e pr rp' fun n hn => by
      have := hg n hn
      subst this
      exact g
  refine ⟨fun z => ?_, fun z => ?_⟩
  · subst z
    refine ⟨fun Fr' B' as' H' M' e pr rp' g => ?_, fun i d' hd Fr' B' as' H' M' e pr rp' g => ?_⟩
    · obtain ⟨ws, fc', rs'⟩ := later e pr rp' g
      exact ⟨ws, fc', by rw [rs'.length]; exact Nat.le_refl _⟩
    · obtain ⟨ws, fc', rs'⟩ := later e pr rp' g
      obtain ⟨u, hu, ru⟩ := rs'.get hd
      refine ⟨⟨ws, u, fc', hu⟩, fun x H'' y => ?_⟩
      obtain ⟨e1, y⟩ := y
      subst e1
      have := y ws fc'
      rw [hu] at this; cases this
      exact ⟨B', Same.refl _, rp', ru⟩
  · have toL : ∀ {H' : Hp} {ws : List V}, FC (gx X) H' p t ws → SqL X.K H' p ws := fun {H' ws} f => by
      cases t with
      | lst => exact SqL.of f
      | slst => exact f
      | tup => exact absurd rfl z
      | dct ks => cases ht
      | fdct ks => cases ht
      | obj c ns => cases ht
      | fn k => cases ht
      | iset => cases ht
    refine ⟨fun Fr' B' as' H' M' e pr rp' g => ?_, fun i d' hd Fr' B' as' H' M' e pr rp' g => ?_⟩
    · obtain ⟨ws, fc', rs'⟩ := later e pr rp' g
      exact ⟨ws, toL fc', by rw [rs'.length]; exact Nat.le_refl _⟩
    · obtain ⟨ws, fc', rs'⟩ := later e pr rp' g
      obtain ⟨u, hu, ru⟩ := rs'.get hd
      refine ⟨⟨ws, u, toL fc', hu⟩, fun x H'' y => ?_⟩
      obtain ⟨e1, y⟩ := y
      subst e1
      have := y ws (toL fc')
      rw [hu] at this; cases this
      exact ⟨B', Same.refl _, rp', ru⟩
def iSeq (f : Lo → Ev D) : Lo → Ev (List D × Gd) := fun S => (f S).bnd itSq
theorem di_sq {tg : Expr} {f : Lo → Ev D} (h : DE X W e f) : DI X W tg e (iSeq f) := by
  obtain ⟨t, p, s⟩ := h
  refine ⟨_, pi_sq p, fun Fr B as σ H S M R' rs rp h => ?_⟩
  refine s Fr B as σ H S M _ rs rp (h.bnd.imp fun d M1 B1 as1 s1 p1 h1 v H1 rp1 r1 => ?_)
  obtain ⟨t, l, q, vs, rfl, fc, rs2, h1, c1, c2⟩ := Post.vw2 (d := d) h1 rp1 r1
  dsimp only at h1
  by_cases ht : FC.isSeq t = true
  · rw [if_pos ht] at h1
    have go : ∀ gd : Gd, Post B1 as1 (Ev.ret (l, gd) M1) (fun r M' B' as' => ∀ J H', Rep (gx X) Fr B' as' H' M' → IterOk X B' as' J r.1 r.2 → R' J H') (kX X Fr W σ) → (∀ n, d = .ref n → gd = some (n, (t, l))) →
        (∃ a, V.ref q = .ref a ∧ (∃ xs, SqL X.K H1 a xs) ∧ R' (Itl X.K a) H1) ∨ (∃ a, V.ref q = .ref a ∧ (∃ xs, SqT X.K H1 a xs) ∧ R' (Itt X.K a) H1) := fun gd h1 hg => by
      obtain ⟨i1, i2⟩ := iter_sq (gd := gd) ht r1 fc rs2 rp1 c1 c2 hg
      have k := h1.ret
      cases t with
      | lst => exact .inl ⟨q, rfl, ⟨vs, SqL.of fc⟩, k _ H1 rp1 (i2 (by intro z; cases z))⟩
      | slst => exact .inl ⟨q, rfl, ⟨vs, fc⟩, k _ H1 rp1 (i2 (by intro z; cases z))⟩
      | tup => exact .inr ⟨q, rfl, ⟨vs, fc⟩, k _ H1 rp1 (i1 rfl)⟩
      | dct ks => cases ht
      | fdct ks => cases ht
      | obj c ns => cases ht
      | fn k => cases ht
      | iset => cases ht
    cases d with
    | ref n => exact go _ h1 fun m hm => by cases hm; rfl
    | _ => exact go _ h1 fun m hm => by cases hm
  · rw [if_neg ht] at h1; exact h1.elim
/-- ranges -/
def RgI (i j : Int) : Prop := -(2 ^ 62) ≤ i ∧ i < 2 ^ 62 ∧ -(2 ^ 62) ≤ j ∧ j < 2 ^ 62
theorem iter_rg {B : Hp} {as : List Addr} (lo hi : Int) : IterOk X B as (Itr lo (hi - lo).toNat) (rgD lo hi) none := by
  refine ⟨fun Fr' B' as' H' M' e pr rp' g => ?_, fun i d hd Fr' B' as' H' M' e pr rp' g => ?_⟩
  · show (hi - lo).toNat ≤ (rgD lo hi).length
    unfold rgD; simp
  · unfold rgD at hd
    rw [List.getElem?_map] at hd
    cases q : (List.range (hi - lo).toNat)[i]? with
    | none => rw [q] at hd; cases hd
    | some j =>
      rw [q] at hd; cases hd
      obtain ⟨h1, h2⟩ := List.getElem?_eq_some_iff.mp q
      rw [List.getElem_range] at h2
      subst h2
      refine ⟨(show i < (hi - lo).toNat by simpa using h1), fun x H'' y => ?_⟩
      obtain ⟨e1, e2⟩ := y
      subst e1; subst e2
      exact ⟨B', Same.refl _, rp', .int _⟩
open Classical in
noncomputable def rngE (i j : Int) : Ev (List D × Gd) := if RgI i j then Ev.ret (rgD i j, none) else Ev.no
theorem rngE_ok {i j : Int} (h : RgI i j) : rngE i j = Ev.ret (rgD i j, none) := if_pos h
theorem rngE_no {i j : Int} (h : ¬ RgI i j) : rngE i j = Ev.no := if_neg h
noncomputable def r1K : D → Ev (List D × Gd)
  | .int n => rngE 0 n
  | _ => Ev.no
noncomputable def iR1 (f : Lo → Ev (List D)) : Lo → Ev (List D × Gd) := fun S => (f S).bnd (op1 r1K)
theorem di_range1 {tg : Expr} {p : Pos} {f : Lo → Ev (List D)} (hg : Gl X "range") (hm : X.mg "range" = none) (ha : DA X W [a] f) (hs : starEach [a] X.env = [(false, eval a X.env)] := by rfl) : DI X W tg (.Call (.Name "range" p) [a] [] pos) (iR1 f) := by
  obtain ⟨t, pa, s⟩ := ha
  refine ⟨_, pi_range1 hg hm pa hs, fun Fr B as σ H S M R' rs rp h => ?_⟩
  refine s Fr B as σ H S M _ rs rp (h.bnd.imp fun l M1 B1 as1 s1 p1 h1 vs H1 rp1 r1 => ?_)
  cases r1 with
  | nil => exact h1.elim
  | cons r t =>
    cases t with
    | cons _ _ => exact h1.elim
    | nil =>
      cases r <;> first | exact h1.elim | skip
      rename_i n
      have h1 : Post B1 as1 (rngE 0 n M1) (fun r M' B' as' => ∀ J H', Rep (gx X) Fr B' as' H' M' → IterOk X B' as' J r.1 r.2 → R' J H') (kX X Fr W σ) := h1
      by_cases c : RgI 0 n
      · rw [rngE_ok c] at h1
        have := iter_rg (X := X) (B := B1) (as := as1) 0 n
        rw [Int.sub_zero] at this
        exact ⟨n, rfl, c.2.2.1, c.2.2.2, h1.ret _ H1 rp1 this⟩
      · rw [rngE_no c] at h1; exact h1.elim
/-- enumerate(list) -/
def enD : Nat → List D → List D
  | _, [] => []
  | k, d :: l => .tup [.int (k : Nat), d] :: enD (k + 1) l
theorem enD_length : ∀ (l : List D) (k : Nat), (enD k l).length = l.length
  | [], _ => rfl
  | _ :: l, k => congrArg (· + 1) (enD_length l (k + 1))
theorem enD_get : ∀ (l : List D) (k i : Nat) (x : D), (enD k l)[i]? = some x → ∃ d, l[i]? = some d ∧ x = .tup [.int ((k + i : Nat) : Int), d]
  | [], _, _, _, h => by simp [enD] at h
  | d :: l, k, 0, x, h => by simp [enD] at h; exact ⟨d, rfl, by simpa using h.symm⟩
  | d :: l, k, i + 1, x, h => by
    simp only [enD, List.getElem?_cons_succ] at h
    obtain ⟨d', h1, h2⟩ := enD_get l (k + 1) i x h
    refine ⟨d', by simpa using h1, ?_⟩
    rw [h2, show k + 1 + i = k + (i + 1) by omega]
def iEn (f : Lo → Ev (List D)) : Lo → Ev (List D × Gd) := fun S => (f S).bnd (op1 fun d => (vw d).bnd fun p => match p.1 with
  | .lst => (match d with
    | .ref n => Ev.ret (enD 0 p.2, some (n, p))
    | _ => Ev.ret (enD 0 p.2, none))
  | _ => Ev.no)
theorem di_enum {p tpos : Pos} {elts : List Expr} {kk : Nat} {f : Lo → Ev (List D)} (hg : Gl X "enumerate") (hm : X.mg "enumerate" = none) (ha : DA X W [e] f) (hs : starEach [e] X.env = [(false, eval e X.env)] := by rfl) :
    DI X W (.Tuple elts kk tpos) (.Call (.Name "enumerate" p) [e] [] pos) (iEn f) := by
  obtain ⟨t, pa, s⟩ := ha
  refine ⟨_, pi_enum hg hm pa hs, fun Fr B as σ H S M R' rs rp h => ?_⟩
  refine s Fr B as σ H S M _ rs rp (h.bnd.imp fun l M1 B1 as1 s1 p1 h1 vs H1 rp1 r1 => ?_)
  cases r1 with
  | nil => exact h1.elim
  | cons r t =>
    cases t with
    | cons _ _ => exact h1.elim
    | nil =>
      rename_i d
      obtain ⟨t, l, q, vs, rfl, fc, rs2, h1, c1, c2⟩ := Post.vw2 (d := d) h1 rp1 r
      cases t <;> first | exact h1.elim | skip
      have go : ∀ gd : Gd, Post B1 as1 (Ev.ret (enD 0 l, gd) M1) (fun r M' B' as' => ∀ J H', Rep (gx X) Fr B' as' H' M' → IterOk X B' as' J r.1 r.2 → R' J H') (kX X Fr W σ) → (∀ n, d = .ref n → gd = some (n, (.lst, l))) →
          ∃ a xs, [V.ref q] = [.ref a] ∧ SqL X.K H1 a xs ∧ R' (Ite X.K a) H1 := fun gd h1 hg => by
        refine ⟨q, vs, rfl, SqL.of fc, h1.ret _ H1 rp1 ?_⟩
        have later : ∀ {Fr' B' : Hp} {as' : List Addr} {H' : Hp} {M' : Store}, Same B1 B' → as1 <+: as' → Rep (gx X) Fr' B' as' H' M' → grd gd M' → ∃ ws, FC (gx X) H' q .lst ws ∧ Rs (gx X) B' as' ws l := fun e pr rp' g =>
          seq_later rfl r fc rs2 rp1 c1 c2 e pr rp' fun n hn => by
            have := hg n hn
            subst this
            exact g
        refine ⟨fun Fr' B' as' H' M' e pr rp' g => ?_, fun i d' hd Fr' B' as' H' M' e pr rp' g => ?_⟩
        · obtain ⟨ws, fc', rs'⟩ := later e pr rp' g
          exact ⟨ws, SqL.of fc', by rw [rs'.length, enD_length]; exact Nat.le_refl _⟩
        · obtain ⟨ws, fc', rs'⟩ := later e pr rp' g
          obtain ⟨d0, hd0, rfl⟩ := enD_get l 0 i d' hd
          obtain ⟨u, hu, ru⟩ := rs'.get hd0
          refine ⟨⟨ws, u, SqL.of fc', hu⟩, fun x H'' y => ?_⟩
          obtain ⟨T, z, rfl, hT, rfl, y⟩ := y
          have := y ws (SqL.of fc')
          rw [hu] at this; cases this
          have nb := (rp'.fresh hT).1
          refine ⟨_, same_upd nb, rp'.froze hT, .nd (t := .tup) (SqT.of upd_same) (.cons ?_ (.cons (ru.mono (same_upd nb) (List.prefix_refl _)) .nil))⟩
          rw [Nat.zero_add]
          exact .int _
      cases d with
      | ref n => exact go _ h1 fun m hm => by cases hm; rfl
      | _ => exact go _ h1 fun m hm => by cases hm
/-! ### comprehensions -/
def wipeD (S : Lo) : List Nat → Lo
  | [] => S
  | v :: vs => (wipeD S vs).set v none
theorem wipe_get (σ : St) : ∀ (vs : List Nat) (j : Nat), (wipe σ vs)[j]? = if j ∈ vs then (if j < σ.length then some none else none) else σ[j]?
  | [], j => by simp [wipe]
  | v :: vs, j => by
    unfold wipe
    by_cases h : v = j
    · subst h
      rw [if_pos (by simp)]
      by_cases hl : v < σ.length
      · rw [List.getElem?_set_self (by rw [wipe_length]; exact hl), if_pos hl]
      · rw [List.getElem?_eq_none (by rw [List.length_set, wipe_length]; omega), if_neg hl]
    · rw [List.getElem?_set_ne h, wipe_get σ vs j]
      have : (j ∈ v :: vs) ↔ j ∈ vs := by simp [Ne.symm h]
      simp only [this]
theorem wipe_agree {σ σ' : St} {vs : List Nat} (hl : σ'.length = σ.length) (h : ∀ j, j ∉ vs → σ'[j]? = (wipe σ vs)[j]?) : wipe σ' vs = wipe σ vs := by
  apply List.ext_getElem?
  intro j
  rw [wipe_get, wipe_get]
  by_cases hj : j ∈ vs
  · rw [if_pos hj, if_pos hj, hl]
  · rw [if_neg hj, if_neg hj]
    have := h j hj
    rw [wipe_get, if_neg hj] at this
    exact this
theorem RS.wipe {G : Gx} {B : Hp} {as : List Addr} {σ : St} {S : Lo} (h : RS G B as σ S) : ∀ vs : List Nat, RS G B as (L2.wipe σ vs) (wipeD S vs)
  | [] => h
  | v :: vs => by
    have ih := RS.wipe h vs
    unfold L2.wipe wipeD
    refine ⟨by simp [ih.len], fun j d q => ?_⟩
    by_cases hv : v = j
    · subst hv
      by_cases hl : v < (wipeD S vs).length
      · rw [List.getElem?_set_self hl] at q; cases q
      · rw [List.getElem?_eq_none (by simpa using hl)] at q; cases q
    · rw [List.getElem?_set_ne hv] at q ⊢
      exact ih.at_ j d q
/-- tests of a clause -/
def DTs (X : Cx) (W : WX) (es : List Expr) (f : Lo → Ev Bool) : Prop := ∃ t, PTs X es t ∧ ∀ Fr B as σ H S M Q, RS (gx X) B as σ S → Rep (gx X) Fr B as H M → Post B as (f S M) (kB X Fr Q) (kX X Fr W σ) → t σ H Q
def tYesD : Lo → Ev Bool := fun _ => Ev.ret true
theorem dts_nil : DTs X W [] tYesD := ⟨_, pts_nil, fun _ _ _ _ H _ _ _ _ rp h => h.ret H rp⟩
theorem dts_one {f : Lo → Ev Bool} (h : DT X W e f) : DTs X W [e] f := by
  obtain ⟨t, p, s⟩ := h
  exact ⟨_, pts_one p, s⟩
def Ev.nox {α : Type} (m : Ev α) : Ev α := fun M => match m M with
  | .ok a M' => .ok a M'
  | _ => .stuck
theorem nox_ok {α : Type} {m : Ev α} {M M' : Store} {a : α} (h : m M = .ok a M') : Ev.nox m M = .ok a M' := by unfold Ev.nox; rw [h]
theorem Post.nox {α : Type} {B : Hp} {as : List Addr} {m : Ev α} {M : Store} {k : α → Store → Hp → List Addr → Prop} {x x' : Str → D → Store → Hp → List Addr → Prop} (h : Post B as (Ev.nox m M) k x) : Post B as (m M) k x' := by
  unfold Ev.nox at h
  cases e : m M with
  | ok a M' => rw [e] at h; exact h
  | exc c d M' => rw [e] at h; exact h.elim
  | stuck => rw [e] at h; exact h.elim
noncomputable def compL (tg : D → Lo → Ev Lo) (tt : Lo → Ev Bool) (te : Lo → Ev D) (g : Gd) (S : Lo) : List D → Ev (List D)
  | [] => chk g (Ev.ret [])
  | d :: ds => chk g ((Ev.nox (tg d S)).bnd fun S1 => (Ev.nox (tt S1)).bnd fun b => if b = true then (Ev.nox (te S1)).bnd fun y => (compL tg tt te g S ds).bnd fun ys => Ev.ret (y :: ys) else compL tg tt te g S ds)
noncomputable def nLc (fi : Lo → Ev (List D × Gd)) (tg : D → Lo → Ev Lo) (tt : Lo → Ev Bool) (te : Lo → Ev D) (vs : List Nat) : Lo → Ev NR := fun S => (fi S).bnd fun r => if r.1.length ≤ sizeLine then (compL tg tt te r.2 (wipeD S vs) r.1).bnd fun ys => Ev.ret (.n .lst ys) else Ev.no
abbrev W0 : WX := fun _ _ _ _ => False
/-- the canonical readings -/
def tE (X : Cx) (W : WX) (f : Lo → Ev D) : TE := fun σ H Q => ∃ Fr B as S M, RS (gx X) B as σ S ∧ Rep (gx X) Fr B as H M ∧ Post B as (f S M) (kD X Fr Q) (kX X Fr W σ)
def tT (X : Cx) (W : WX) (f : Lo → Ev Bool) : TT := fun σ H Q => ∃ Fr B as S M, RS (gx X) B as σ S ∧ Rep (gx X) Fr B as H M ∧ Post B as (f S M) (kB X Fr Q) (kX X Fr W σ)
def tG (X : Cx) (ps : List Nat) (g : D → Lo → Ev Lo) : TG := fun v σ H Q => ∃ Fr B as S M d, RS (gx X) B as σ S ∧ Rep (gx X) Fr B as H M ∧ R (gx X) B as v d ∧ Post B as (g d S M) (kG X Fr σ ps Q) (fun _ _ _ _ _ => False)
theorem DE.pe {f : Lo → Ev D} (h : DE X W e f) : PE X e (tE X W f) := by
  obtain ⟨t, p, s⟩ := h
  exact ⟨fun pins s' σ H Q I hw => let ⟨Fr, B, as, S, M, a, b, c⟩ := hw; p.run pins s' σ H Q I (s Fr B as σ H S M Q a b c)⟩
theorem DTs.pts {es : List Expr} {f : Lo → Ev Bool} (h : DTs X W es f) : PTs X es (tT X W f) := by
  obtain ⟨t, p, s⟩ := h
  exact ⟨fun pins s' σ H Q I hw => let ⟨Fr, B, as, S, M, a, b, c⟩ := hw; p.run pins s' σ H Q I (s Fr B as σ H S M Q a b c)⟩
theorem DG.pg {tg : Expr} {ps : List Nat} {g : D → Lo → Ev Lo} (h : DG X W tg ps g) : PG X tg (tG X ps g) := by
  obtain ⟨t, p, s⟩ := h
  exact ⟨fun pins s' σ H v u Q I r hw => let ⟨Fr, B, as, S, M, d, a, b, c, q⟩ := hw; p.run pins s' σ H v u Q I r (s Fr B as σ H S M v d Q a b c q)⟩
theorem drop_cons {α : Type} {l : List α} {i : Nat} (h : i < l.length) : l.drop i = l[i] :: l.drop (i + 1) := List.drop_eq_getElem_cons h
/-- the heap without the place p -/
def hole (H : Hp) (p : Addr) : Hp := fun b => if b = p then none else H b
theorem hole_at {H : Hp} {p : Addr} : hole H p p = none := by unfold hole; rw [if_pos rfl]
theorem hole_ne {H : Hp} {p b : Addr} (h : b ≠ p) : hole H p b = H b := by unfold hole; rw [if_neg h]
theorem upd_hole {H : Hp} {p : Addr} {o : HO} (h : H p = some o) : upd (hole H p) p o = H := by
  funext b
  by_cases hb : b = p
  · subst hb; rw [upd_same, h]
  · rw [upd_ne hb, hole_ne hb]
theorem hole_upd {H : Hp} {p : Addr} {o : HO} : hole (upd H p o) p = hole H p := by
  funext b
  by_cases hb : b = p
  · subst hb; rw [hole_at, hole_at]
  · rw [hole_ne hb, hole_ne hb, upd_ne hb]
theorem Rep.hole {G : Gx} {Fr B : Hp} {as : List Addr} {H : Hp} {M : Store} {p : Addr} (rp : Rep G Fr B as H M) (hB : B p = none) (hF : Fr p = none) (ha : p ∉ as) (hp : Pln H p) : Rep G Fr B as (hole H p) M := by
  refine ⟨fun b u q => ?_, fun b u q => ?_, rp.fout, rp.dis, rp.nd, rp.out, rp.len, fun n x c hx hc => ?_, rp.nB, rp.nF, tabs_off rp.tb hp fun _ hb => hole_ne hb⟩
  · rw [hole_ne (ne_of_none q hB)]; exact rp.sub b u q
  · rw [hole_ne (ne_of_none q hF)]; exact rp.frm b u q
  · obtain ⟨vs, mc, rs⟩ := rp.cell n x c hx hc
    have hxp : x ≠ p := fun z => ha (by rw [← z]; exact List.mem_of_getElem? hx)
    exact ⟨vs, mc.keep (fun o ho => by rw [hole_ne hxp]; exact ho) (fun _ _ l => l.off hxp hp fun _ hb => hole_ne hb), rs⟩
/-- in the frame Fr with o at p more -/
theorem Rep.inFrame {G : Gx} {Fr B : Hp} {as : List Addr} {H : Hp} {M : Store} {p : Addr} {o : HO} (rp : Rep G Fr B as H M) (hp : H p = some o) (hF : Fr p = none) (hB : B p = none) (ha : p ∉ as) (ho : ∀ ps, o ≠ .tbl ps := by simp) : Rep G (upd Fr p o) B as H M := by
  refine ⟨rp.sub, fun b u q => ?_, fun a h => ?_, fun b u q => ?_, rp.nd, rp.out, rp.len, rp.cell, rp.nB, rp.nF.upd ho, rp.tb⟩
  · by_cases hb : b = p
    · subst hb; rw [upd_same] at q; rw [← q]; exact hp
    · rw [upd_ne hb] at q; exact rp.frm b u q
  · rw [upd_ne fun z => ha (by rw [← z]; exact h)]; exact rp.fout a h
  · by_cases hb : b = p
    · subst hb; exact hB
    · rw [upd_ne hb] at q; exact rp.dis b u q
theorem Rep.outFrame {G : Gx} {Fr B : Hp} {as : List Addr} {H : Hp} {M : Store} {p : Addr} {o : HO} (rp : Rep G (upd Fr p o) B as H M) (hF : Fr p = none) : Rep G Fr B as H M := by
  refine ⟨rp.sub, fun b u q => rp.frm b u (by rw [upd_ne (ne_of_none q hF)]; exact q), fun a h => ?_, fun b u q => rp.dis b u (by rw [upd_ne (ne_of_none q hF)]; exact q), rp.nd, rp.out, rp.len, rp.cell, rp.nB, fun b ps q => rp.nF b ps (by rw [upd_ne (ne_of_none q hF)]; exact q), rp.tb⟩
  have := rp.fout a h
  by_cases hb : a = p
  · subst hb; exact hF
  · rw [upd_ne hb] at this; exact this
theorem Post.unfl {Fr B : Hp} {as : List Addr} {σ : St} {m : Ev NR} {op : NR → Ev D} {M : Store} {k : D → Store → Hp → List Addr → Prop} (h : Post B as ((m.bnd op) M) k (kX X Fr W σ)) :
    Post B as (m M) (fun r M' B' as' => Post B' as' (op r M') k (kX X Fr W σ)) (kX X Fr W σ) := h.bnd
theorem lc_sound {tg : Expr} {own : List (Str × Nat)} {ps : List Nat} {fi : Lo → Ev (List D × Gd)} {ft : D → Lo → Ev Lo} {fc : Lo → Ev Bool} {fe : Lo → Ev D} {wi : TI}
    (si : ∀ Fr B as σ H S M (R' : It → Hp → Prop), RS (gx X) B as σ S → Rep (gx X) Fr B as H M →
      Post B as (fi S M) (fun r M' B' as' => ∀ J H', Rep (gx X) Fr B' as' H' M' → IterOk X B' as' J r.1 r.2 → R' J H') (kX X Fr W σ) → wi σ H R') (hps : ∀ i ∈ ps, i ∈ own.map (·.2)) :
    ∀ Fr B as σ H S M Q, RS (gx X) B as σ S → Rep (gx X) Fr B as H M → Post B as (nLc fi ft fc fe (own.map (·.2)) S M) (kN X Fr Q) (kX X Fr W σ) → tLc wi (tG X ps ft) (tT X W0 fc) (tE X W0 fe) (own.map (·.2)) σ H Q := fun Fr B as σ H S M Q rs rp h => by
  refine si Fr B as σ H S M _ rs rp (h.bnd.imp fun r M1 B1 as1 s1 p1 h1 J H1 rp1 io p hp => ?_)
  obtain ⟨items, g⟩ := r
  dsimp only at h1 io
  by_cases hz : items.length ≤ sizeLine
  case neg => rw [if_neg hz] at h1; exact h1.elim
  rw [if_pos hz] at h1
  have hole0 : hole (upd H1 p (.lst [])) p = H1 := by
    funext b
    by_cases hb : b = p
    · subst hb; rw [hole_at, hp]
    · rw [hole_ne hb, upd_ne hb]
  refine ⟨fun i m H => m = items.length - i ∧ i ≤ items.length ∧ ∃ B' as' M' acc accV, Same B1 B' ∧ as1 <+: as' ∧ H p = some (.lst accV) ∧ Rep (gx X) Fr B' as' (hole H p) M' ∧ Rs (gx X) B' as' accV acc ∧ acc.length ≤ i ∧
      Post B' as' (((compL ft fc fe g (wipeD S (own.map (·.2))) (items.drop i)).bnd fun ys => Ev.ret (NR.n .lst (acc ++ ys))) M') (kN X Fr Q) (kX X Fr W σ),
    ⟨items.length, by simp, Nat.zero_le _, B1, as1, M1, [], [], Same.refl _, List.prefix_refl _, upd_same, by rw [hole0]; exact rp1, .nil, Nat.le_refl _, h1⟩, ?_⟩
  rintro i m H ⟨rfl, hi, B2, as2, M2, acc, accV, s2, p2, hH, rp2, rsA, hla, h2⟩
  have hF : Fr p = none := rp2.frm.free hole_at
  obtain ⟨hB, hA⟩ := rp2.fresh (p := p) hole_at
  have full : Rep (gx X) (upd Fr p (.lst accV)) B2 as2 H M2 := by
    have q := (rp2.laid (o := .lst accV) hole_at)
    rw [upd_hole hH] at q
    exact q.inFrame hH hF hB hA
  by_cases hlt : i < items.length
  · rw [drop_cons hlt] at h2
    unfold compL at h2
    obtain ⟨hg2, h2⟩ := h2.bnd.chk
    obtain ⟨hgo, hy⟩ := io.go i items[i] (List.getElem?_eq_getElem hlt) _ B2 as2 H M2 s2 p2 full hg2
    refine .inr ⟨hgo, fun H' => ∃ B' as' M' acc accV, Same B1 B' ∧ as1 <+: as' ∧ H' p = some (.lst accV) ∧ Rep (gx X) Fr B' as' (hole H' p) M' ∧ Rs (gx X) B' as' accV acc ∧ acc.length ≤ i + 1 ∧
      Post B' as' (((compL ft fc fe g (wipeD S (own.map (·.2))) (items.drop (i + 1))).bnd fun ys => Ev.ret (NR.n .lst (acc ++ ys))) M') (kN X Fr Q) (kX X Fr W σ), fun H' q => ⟨items.length - (i + 1), by omega, rfl, hlt, q⟩, fun x H' y => ?_⟩
    obtain ⟨B3, s3, rp3, r3⟩ := hy x H' y
    have h3 := h2.mono s3 (List.prefix_refl _)
    have rsW := ((rs.mono s1 p1).mono s2 p2).mono s3 (List.prefix_refl _) |>.wipe (own.map (·.2))
    refine ⟨_, B3, as2, _, M2, items[i], rsW, rp3, r3, (h3.bnd.nox (x' := fun _ _ _ _ _ => False)).imp fun S4 M4 B4 as4 s4 p4 h4 σ4 H4 rp4 rs4 ag l4 => ⟨wipe_agree (l4.trans (wipe_length _ _)) fun j hj => ag j fun z => hj (hps j z), ?_⟩⟩
    refine ⟨_, B4, as4, S4, M4, rs4, rp4, (h4.bnd.nox (x' := _)).imp fun bo M5 B5 as5 s5 p5 h5 H5 rp5 => ?_⟩
    have kp : ∀ {B' : Hp} {as' : List Addr} {H' : Hp} {M' : Store}, Rep (gx X) (upd Fr p (.lst accV)) B' as' H' M' → H' p = some (.lst accV) := fun q => q.frm p _ upd_same
    have hol : ∀ {B' : Hp} {as' : List Addr} {H' : Hp} {M' : Store}, Rep (gx X) (upd Fr p (.lst accV)) B' as' H' M' → Rep (gx X) Fr B' as' (hole H' p) M' := fun {B' as' H' M'} q => by
      refine (q.outFrame hF).hole (q.dis p _ upd_same) hF (fun hz => ?_) (.of (q.frm p _ upd_same) (by simp) (by simp))
      have := q.fout p hz
      rw [upd_same] at this; cases this
    cases bo with
    | false =>
      dsimp only
      rw [if_neg Bool.false_ne_true] at h5 ⊢
      exact ⟨B5, as5, M5, acc, accV, s2.trans (s3.trans (s4.trans s5)), p2.trans (p4.trans p5), kp rp5, hol rp5, rsA.mono (s3.trans (s4.trans s5)) (p4.trans p5), by omega, h5.unbnd⟩
    | true =>
      dsimp only
      rw [if_pos rfl] at h5 ⊢
      refine ⟨_, B5, as5, S4, M5, rs4.mono s5 p5, rp5, (h5.bnd.nox (x' := _)).imp fun yd M6 B6 as6 s6 p6 h6 yv H6 rp6 r6 => ?_⟩
      refine ⟨accV, kp rp6, by rw [rsA.length]; omega, B6, as6, M6, acc ++ [yd], accV ++ [yv], s2.trans (s3.trans (s4.trans (s5.trans s6))), p2.trans (p4.trans (p5.trans p6)), upd_same, by rw [hole_upd]; exact hol rp6, (rsA.mono (s3.trans (s4.trans (s5.trans s6))) (p4.trans (p5.trans p6))).app (.one r6), by simp; omega, ?_⟩
      have e : (fun ys => Ev.ret (NR.n .lst (acc ++ [yd] ++ ys))) = fun ys => (Ev.ret (yd :: ys)).bnd fun ys => Ev.ret (NR.n .lst (acc ++ ys)) := by
        funext ys
        rw [ret_bnd, List.append_assoc]
        rfl
      rw [e, ← bnd_bnd]
      exact h6.unbnd
  · have e : i = items.length := by omega
    subst e
    rw [List.drop_length] at h2
    unfold compL at h2
    obtain ⟨hg2, h2⟩ := h2.bnd.chk
    have h3 := h2.ret
    rw [List.append_nil] at h3
    refine .inl ⟨io.stop _ B2 as2 H M2 s2 p2 full hg2, ?_⟩
    have := h3.ret accV (hole H p) p rp2 rsA hole_at
    have e2 : upd (hole H p) p (hoT .lst accV) = H := upd_hole hH
    rw [e2] at this
    exact this
theorem dn_lc {elt tg iter : Expr} {ifs : List Expr} {scope : Scope} {own : List (Str × Nat)} {ps : List Nat} {fi : Lo → Ev (List D × Gd)} {ft : D → Lo → Ev Lo} {fc : Lo → Ev Bool} {fe : Lo → Ev D} (hc : X.calm = true) (hN : X.N.Nodup) (hi : DI X W tg iter fi) (ok : BlkOk X.N X.env.scope scope own)
    (hg : ∀ (s : Shared) (H : Hp) (C : Addr) (cl : List (Str × Addr)) (fp : List Addr), DG (X.blk s H scope (compEnvC scope cl C X.env) fp) W0 tg ps ft)
    (ht : ∀ (s : Shared) (H : Hp) (C : Addr) (cl : List (Str × Addr)) (fp : List Addr), DTs (X.blk s H scope (compEnvC scope cl C X.env) fp) W0 ifs fc)
    (he : ∀ (s : Shared) (H : Hp) (C : Addr) (cl : List (Str × Addr)) (fp : List Addr), DE (X.blk s H scope (compEnvC scope cl C X.env) fp) W0 elt fe)
    (hps : ∀ i ∈ ps, i ∈ own.map (·.2)) (hs : ∀ x, foldedSetIterable iter X.env x = pure x := by intro _; rfl) :
    DN X W (.ListComp elt [⟨tg, iter, ifs, 0⟩] scope pos) (nLc fi ft fc fe (own.map (·.2))) := by
  obtain ⟨wi, pi, si⟩ := hi
  exact ⟨_, pe_lc hc hN pi ok (g := tG X ps ft) (tt := tT X W0 fc) (te := tE X W0 fe) (fun s H C cl fp => (hg s H C cl fp).pg) (fun s H C cl fp => (ht s H C cl fp).pts) (fun s H C cl fp => (he s H C cl fp).pe) hs, lc_sound (tg := tg) si hps⟩
/-- y = [..] on one line, y a plain local: fz says whether the new list is frozen or a cell -/
theorem ds_setLc {ii : Nat} {y : Str} {py spos : Pos} {elt tg iter : Expr} {ifs : List Expr} {scope : Scope} {own : List (Str × Nat)} {ps : List Nat} {fi : Lo → Ev (List D × Gd)} {ft : D → Lo → Ev Lo} {fc : Lo → Ev Bool} {fe : Lo → Ev D} {op : NR → Ev D} (hop : ∀ {Fr B : Hp} {as : List Addr} {σ : St} {r : NR} {M : Store} {Q : VK}, Post B as (op r M) (kD X Fr Q) (kX X Fr W σ) → kN X Fr Q r M B as) (hc : X.calm = true) (hN : X.N.Nodup) (hy : X.N[ii]? = some y) (hyl : X.env.scope.names.lookup y = some .local)
    (hsw : swapsWith (.ListComp elt [⟨tg, iter, ifs, 0⟩] scope pos) (some (.Name y py)) spos.line X.env = pure true) (hi : DI X W tg iter fi) (ok : BlkOk X.N X.env.scope scope own)
    (hg : ∀ (s : Shared) (H : Hp) (C : Addr) (cl : List (Str × Addr)) (fp : List Addr), DG (X.blk s H scope (compEnvC scope cl C X.env) fp) W0 tg ps ft)
    (ht : ∀ (s : Shared) (H : Hp) (C : Addr) (cl : List (Str × Addr)) (fp : List Addr), DTs (X.blk s H scope (compEnvC scope cl C X.env) fp) W0 ifs fc)
    (he : ∀ (s : Shared) (H : Hp) (C : Addr) (cl : List (Str × Addr)) (fp : List Addr), DE (X.blk s H scope (compEnvC scope cl C X.env) fp) W0 elt fe)
    (hps : ∀ i ∈ ps, i ∈ own.map (·.2)) (hs : ∀ x, foldedSetIterable iter X.env x = pure x := by intro _; rfl) :
    DS X W (.Assign [.Name y py] (.ListComp elt [⟨tg, iter, ifs, 0⟩] scope pos) spos) (sAsg (fun S => (nLc fi ft fc fe (own.map (·.2)) S).bnd op) (gNm ii)) := by
  obtain ⟨wi, pi, si⟩ := hi
  refine ⟨_, ps_setLc hc hN hy hyl hsw pi ok (g := tG X ps ft) (tt := tT X W0 fc) (te := tE X W0 fe) (fun s H C cl fp => (hg s H C cl fp).pg) (fun s H C cl fp => (ht s H C cl fp).pts) (fun s H C cl fp => (he s H C cl fp).pe) hs, fun Fr B as σ H S M D rs rp h => ?_⟩
  refine lc_sound (tg := tg) si hps Fr B as σ H S M _ rs rp (((Post.fl rs h).unfl).imp fun r M1 B1 as1 s1 p1 h1 => hop (h1.imp fun d M2 B2 as2 s2 p2 h2 v H2 rp2 r2 => ?_))
  exact (Post.ret (a := Fl.nx (S.set ii (some d))) h2) _ H2 rp2 (((rs.mono s1 p1).mono s2 p2).set r2 ii)
end
end DL

set_option Elab.async false
set_option linter.all false
set_option maxRecDepth 100000
set_option maxHeartbeats 4000000
/-! DL6: freezing, cells written, defs and calls, objects. -/
namespace DL
open PySem L2
variable [Tb]
/-! ### freezing -/
mutual
def rlt (n : Nat) : D → Bool
  | .ref m => decide (m < n)
  | .nd _ l => rlts n l
  | _ => true
def rlts (n : Nat) : List D → Bool
  | [] => true
  | d :: l => rlt n d && rlts n l
end
mutual
theorem R.rlt {G : Gx} {B : Hp} {as : List Addr} : ∀ {v : V} {d : D}, R G B as v d → rlt as.length d = true
  | _, _, .non => by simp [DL.rlt]
  | _, _, .bl _ => by simp [DL.rlt]
  | _, _, .int _ => by simp [DL.rlt]
  | _, _, .str _ => by simp [DL.rlt]
  | _, _, .ty _ => by simp [DL.rlt]
  | _, _, .gl _ => by simp [DL.rlt]
  | _, _, .ref h => by
    have := (List.getElem?_eq_some_iff.mp h).1
    simp [DL.rlt, this]
  | _, _, .nd _ r => by
    have := Rs.rlts r
    simp [DL.rlt, this]
theorem Rs.rlts {G : Gx} {B : Hp} {as : List Addr} : ∀ {vs : List V} {l : List D}, Rs G B as vs l → rlts as.length l = true
  | _, _, .nil => by simp [DL.rlts]
  | _, _, .cons h r => by
    have h1 := R.rlt h
    have h2 := Rs.rlts r
    simp [DL.rlts, h1, h2]
end
mutual
theorem R.cut {G : Gx} {B : Hp} {as : List Addr} {n : Nat} : ∀ {v : V} {d : D}, R G B as v d → rlt n d = true → R G B (as.take n) v d
  | _, _, .non, _ => .non
  | _, _, .bl _, _ => .bl _
  | _, _, .int _, _ => .int _
  | _, _, .str _, _ => .str _
  | _, _, .ty _, _ => .ty _
  | _, _, .gl h, _ => .gl h
  | _, _, .ref h, q => by
    have : _ < n := of_decide_eq_true (by simpa [DL.rlt] using q)
    exact .ref (by rw [List.getElem?_take_of_lt this]; exact h)
  | _, _, .nd h r, q => .nd h (Rs.cut r (by simpa [DL.rlt] using q))
theorem Rs.cut {G : Gx} {B : Hp} {as : List Addr} {n : Nat} : ∀ {vs : List V} {l : List D}, Rs G B as vs l → rlts n l = true → Rs G B (as.take n) vs l
  | _, _, .nil, _ => .nil
  | _, _, .cons h r, q => by
    rename_i d l
    have q' : rlt n d = true ∧ rlts n l = true := by simpa [DL.rlts] using q
    exact .cons (R.cut h q'.1) (Rs.cut r q'.2)
end
mutual
def fz (M : Store) (n : Nat) (k : Nat) (d : D) : Option D := match d with
  | .ref m => if m < n then some (.ref m) else match k with
    | 0 => none
    | k + 1 => match M[m]? with
      | some (t, l) => (fzs M n k l).map (.nd t)
      | none => none
  | .nd t l => (fzs M n k l).map (.nd t)
  | .non => some .non
  | .bl b => some (.bl b)
  | .int i => some (.int i)
  | .str x => some (.str x)
  | .ty x => some (.ty x)
  | .gl x => some (.gl x)
  termination_by (k, sizeOf d)
def fzs (M : Store) (n : Nat) (k : Nat) (l : List D) : Option (List D) := match l with
  | [] => some []
  | d :: l => match fz M n k d, fzs M n k l with
    | some a, some b => some (a :: b)
    | _, _ => none
  termination_by (k, sizeOf l)
end
mutual
theorem fz_id (M : Store) (n k : Nat) : ∀ d : D, rlt n d = true → fz M n k d = some d
  | .ref m, h => by
    have : m < n := of_decide_eq_true (by simpa [rlt] using h)
    unfold fz; rw [if_pos this]
  | .nd t l, h => by
    unfold fz
    rw [fzs_id M n k l (by simpa [rlt] using h)]; rfl
  | .non, _ | .bl _, _ | .int _, _ | .str _, _ | .ty _, _ | .gl _, _ => by unfold fz; rfl
theorem fzs_id (M : Store) (n k : Nat) : ∀ l : List D, rlts n l = true → fzs M n k l = some l
  | [], _ => by unfold fzs; rfl
  | d :: l, h => by
    have q' : rlt n d = true ∧ rlts n l = true := by simpa [rlts] using h
    unfold fzs
    rw [fz_id M n k d q'.1, fzs_id M n k l q'.2]
end
open Classical in
noncomputable def bz (as : List Addr) (n : Nat) (B H : Hp) : Hp := fun a => if a ∈ as.drop n then H a else B a
theorem bz_same {G : Gx} {Fr B : Hp} {as : List Addr} {H : Hp} {M : Store} {n : Nat} (rp : Rep G Fr B as H M) : Same B (bz as n B H) := fun b o e => by
  unfold bz
  rw [if_neg fun z => by have := rp.out b (List.mem_of_mem_drop z); rw [e] at this; cases this]
  exact e
mutual
theorem fz_ok {G : Gx} {Fr B : Hp} {as : List Addr} {H : Hp} {M : Store} {n : Nat} (rp : Rep G Fr B as H M) (k : Nat) (d : D) (v : V) (d' : D) (r : R G B as v d) (h : fz M n k d = some d') : R G (bz as n B H) (as.take n) v d' := by
  cases r with
  | non => unfold fz at h; cases h; exact .non
  | bl b => unfold fz at h; cases h; exact .bl b
  | int b => unfold fz at h; cases h; exact .int b
  | str b => unfold fz at h; cases h; exact .str b
  | ty b => unfold fz at h; cases h; exact .ty b
  | gl b => unfold fz at h; cases h; exact .gl b
  | ref ha =>
    rename_i m a
    unfold fz at h
    by_cases hm : m < n
    · rw [if_pos hm] at h; cases h
      exact .ref (by rw [List.getElem?_take_of_lt hm]; exact ha)
    · rw [if_neg hm] at h
      cases k with
      | zero => cases h
      | succ k =>
        dsimp only at h
        cases q : M[m]? with
        | none => rw [q] at h; cases h
        | some c =>
          obtain ⟨t, l⟩ := c
          rw [q] at h
          dsimp only at h
          cases q2 : fzs M n k l with
          | none => rw [q2] at h; cases h
          | some l' =>
            rw [q2] at h; cases h
            obtain ⟨vs, mc, rs⟩ := rp.cell m a (t, l) ha q
            have ih := fzs_ok rp k l vs l' rs q2
            have hin : a ∈ as.drop n := by
              rw [List.mem_iff_getElem?]
              exact ⟨m - n, by rw [List.getElem?_drop, show n + (m - n) = m by omega]; exact ha⟩
            exact .nd (FC.here (H' := bz as n B H) (fun o ho => by unfold bz; rw [if_pos hin]; exact ho) mc.fc) ih
  | nd fc rs =>
    rename_i t p vs l
    unfold fz at h
    cases q2 : fzs M n k l with
    | none => rw [q2] at h; cases h
    | some l' =>
      rw [q2] at h; cases h
      exact .nd (fc.mono (bz_same rp)) (fzs_ok rp k l vs l' rs q2)
  termination_by (k, sizeOf d)
theorem fzs_ok {G : Gx} {Fr B : Hp} {as : List Addr} {H : Hp} {M : Store} {n : Nat} (rp : Rep G Fr B as H M) (k : Nat) (l : List D) (vs : List V) (l' : List D) (r : Rs G B as vs l) (h : fzs M n k l = some l') : Rs G (bz as n B H) (as.take n) vs l' := by
  cases r with
  | nil => unfold fzs at h; cases h; exact .nil
  | cons r rr =>
    rename_i v vs d l
    unfold fzs at h
    cases q1 : fz M n k d with
    | none => rw [q1] at h; cases h
    | some a =>
      cases q2 : fzs M n k l with
      | none => rw [q1, q2] at h; cases h
      | some b =>
        rw [q1, q2] at h; cases h
        exact .cons (fz_ok rp k d v a r q1) (fzs_ok rp k l vs b rr q2)
  termination_by (k, sizeOf l)
end
/-- the cells below n of M' are those of M, or hold no younger cell -/
def Kept (M M' : Store) : Prop := M.length ≤ M'.length ∧ ∀ i c, i < M.length → M'[i]? = some c → M[i]? = some c ∨ rlts M.length c.2 = true
open Classical in
noncomputable def fzE (m : Ev D) : Ev D := fun M => match m M with
  | .ok d M' => if Kept M M' then (match fz M' M.length 9 d with
    | some d' => .ok d' (M'.take M.length)
    | none => .stuck) else .stuck
  | .exc c d M' => .exc c d M'
  | .stuck => .stuck
section
variable {X : Cx} {W : WX} {e a b c : Expr} {pos : Pos}
theorem Rep.pln {G : Gx} {Fr B : Hp} {as : List Addr} {H : Hp} {M : Store} {a : Addr} (rp : Rep G Fr B as H M) (ha : a ∈ as) : Pln H a := by
  obtain ⟨n, hn, e⟩ := List.getElem_of_mem ha
  have hM : n < M.length := by rw [← rp.len]; exact hn
  obtain ⟨_, mc, _⟩ := rp.cell n a M[n] (by rw [List.getElem?_eq_getElem hn, e]) (List.getElem?_eq_getElem hM)
  exact mc.pln
theorem Rep.thaw {G : Gx} {Fr B B1 : Hp} {as as1 : List Addr} {H H1 : Hp} {M M1 : Store} (rp : Rep G Fr B as H M) (rp1 : Rep G Fr B1 as1 H1 M1) (p : as <+: as1) (k : Kept M M1) : Rep G Fr (bz as1 M.length B1 H1) as H1 (M1.take M.length) ∧ as1.take M.length = as := by
  have et : as1.take M.length = as := by
    obtain ⟨t, rfl⟩ := p
    rw [← rp.len, List.take_left]
  have nin : ∀ a ∈ as, a ∉ as1.drop M.length := fun a ha hd => by
    have nd := rp1.nd
    rw [← List.take_append_drop M.length as1, et, List.nodup_append] at nd
    exact nd.2.2 a ha a hd rfl
  refine ⟨⟨fun b o h => ?_, rp1.frm, fun a ha => rp1.fout a (p.subset ha), fun b o h => ?_, rp.nd, fun a ha => ?_, ?_, fun n a c ha hc => ?_, ⟨fun b ps h => ?_, fun b o f v h => ?_⟩, rp1.nF, rp1.tb⟩, et⟩
  · unfold bz at h
    split at h
    · exact h
    · exact rp1.sub b o h
  · unfold bz
    rw [if_neg fun z => by have := rp1.fout b (List.mem_of_mem_drop z); rw [h] at this; cases this]
    exact rp1.dis b o h
  · unfold bz
    rw [if_neg (nin a ha)]
    exact rp1.out a (p.subset ha)
  · rw [List.length_take, rp.len]; have := k.1; omega
  · have hn : n < M.length := by
      have := (List.getElem?_eq_some_iff.mp hc).1
      rw [List.length_take] at this; omega
    rw [List.getElem?_take_of_lt hn] at hc
    obtain ⟨vs, mc, rs⟩ := rp1.cell n a c (pre_get p ha) hc
    have hl : rlts M.length c.2 = true := by
      rcases k.2 n c hn hc with q | q
      · obtain ⟨vs', _, rs'⟩ := rp.cell n a c ha q
        have := rs'.rlts
        rw [rp.len] at this; exact this
      · exact q
    refine ⟨vs, mc, ?_⟩
    have := rs.cut hl
    rw [et] at this
    exact this.mono (bz_same rp1) (List.prefix_refl _)
  · unfold bz at h
    split at h
    · rename_i z
      exact (rp1.pln (List.mem_of_mem_drop z)).1 ps h
    · exact rp1.nB.1 b ps h
  · unfold bz at h
    split at h
    · rename_i z
      exact (rp1.pln (List.mem_of_mem_drop z)).2.2 o f v h
    · exact rp1.nB.2 b o f v h
noncomputable def eFz (f : Lo → Ev D) : Lo → Ev D := fun S => fzE (f S)
theorem DE.fz {f : Lo → Ev D} (h : DE X W e f) : DE X W e (eFz f) := by
  obtain ⟨t, p, s⟩ := h
  refine ⟨t, p, fun Fr B as σ H S M Q rs rp h => s Fr B as σ H S M Q rs rp ?_⟩
  unfold eFz fzE at h
  cases q : f S M with
  | stuck => rw [q] at h; exact h
  | exc c d M' => rw [q] at h; exact h
  | ok d M' =>
    rw [q] at h
    dsimp only at h
    by_cases k : Kept M M'
    · rw [if_pos k] at h
      cases q2 : DL.fz M' M.length 9 d with
      | none => rw [q2] at h; exact h.elim
      | some d' =>
        rw [q2] at h
        intro B1 as1 s1 p1 v H1 rp1 r1
        obtain ⟨rp2, et⟩ := rp.thaw rp1 p1 k
        have r2 := fz_ok rp1 9 d v d' r1 q2
        rw [et] at r2
        exact h _ as (s1.trans (bz_same rp1)) (List.prefix_refl _) v H1 rp2 r2
    · rw [if_neg k] at h; exact h.elim
theorem Kept.refl (M : Store) : Kept M M := ⟨Nat.le_refl _, fun _ _ _ h => .inl h⟩
theorem Kept.app (M N : Store) : Kept M (M ++ N) := ⟨by simp, fun i c hi h => .inl (by rw [List.getElem?_append_left hi] at h; exact h)⟩
/-! ### methods of a list cell -/
def isCellL : D → Ev Unit
  | .ref n => fun M => match M[n]? with
    | some (.lst, _) => .ok () M
    | _ => .stuck
  | _ => Ev.no
def cellM (op : List D → List D → Option (D × List D)) (x : D) (args : List D) : Ev D := match x with
  | .ref n => fun M => match M[n]? with
    | some (.lst, l) => match op l args with
      | some (d, l') => .ok d (M.set n (.lst, l'))
      | none => .stuck
    | _ => .stuck
  | _ => Ev.no
def eBm (op : D → List D → Ev D) (fo : Lo → Ev D) (fa : Lo → Ev (List D)) : Lo → Ev D := fun S => (fo S).bnd fun x => (isCellL x).bnd fun _ => (fa S).bnd fun l => op x l
theorem Post.isCellL {α : Type} {Fr B : Hp} {as : List Addr} {d : D} {f : Unit → Ev α} {M : Store} {H : Hp} {v : V} {k : α → Store → Hp → List Addr → Prop} {x : Str → D → Store → Hp → List Addr → Prop} (h : Post B as (((DL.isCellL d).bnd f) M) k x)
    (rp : Rep (gx X) Fr B as H M) (r : R (gx X) B as v d) : tyV X.K "list" v H ∧ Post B as (f () M) k x := by
  cases r with
  | ref ha =>
    rename_i n a
    unfold Ev.bnd DL.isCellL at h
    cases q : M[n]? with
    | none => simp only [q] at h; exact h.elim
    | some c =>
      obtain ⟨t, l⟩ := c
      simp only [q] at h
      obtain ⟨vs, mc, rs⟩ := rp.cell n a _ ha q
      cases t <;> first | exact h.elim | skip
      exact ⟨.inl ⟨rfl, vs, SqL.of mc⟩, h⟩
  | _ => exact h.elim
/-- a method by its rule: what it asks of the cell's values -/
def MethOk (X : Cx) (r : V → List V → Hp → VK → Prop) (op : List D → List D → Option (D × List D)) : Prop := ∀ G B as H p vs l args argV d l' Q, Rs G B as vs l → Rs G B as argV args → op l args = some (d, l') → H p = some (.lst vs) →
  (∀ v vs', R G B as v d → Rs G B as vs' l' → Q v (upd H p (.lst vs'))) → r (.ref p) argV H Q
theorem cellM_ok {Fr B : Hp} {as : List Addr} {σ : St} {H : Hp} {M : Store} {v : V} {x : D} {argV : List V} {args : List D} {Q : VK} {r : V → List V → Hp → VK → Prop} {op : List D → List D → Option (D × List D)} (mo : MethOk X r op) (rp : Rep (gx X) Fr B as H M) (rx : R (gx X) B as v x) (ra : Rs (gx X) B as argV args)
    (h : Post B as (cellM op x args M) (kD X Fr Q) (kX X Fr W σ)) : r v argV H Q := by
  cases rx with
  | ref ha =>
    rename_i n a
    unfold cellM at h
    dsimp only at h
    cases q : M[n]? with
    | none => simp only [q] at h; exact h.elim
    | some c =>
      obtain ⟨t, l⟩ := c
      simp only [q] at h
      obtain ⟨vs, mc, rs⟩ := rp.cell n a _ ha q
      cases t <;> first | exact h.elim | skip
      dsimp only at h
      cases q2 : op l args with
      | none => rw [q2] at h; exact h.elim
      | some y =>
        obtain ⟨d, l'⟩ := y
        rw [q2] at h
        refine mo (gx X) B as H a vs l args argV d l' Q rs ra q2 mc fun v vs' rv rvs => ?_
        exact h.ok v _ (rp.write (t := .lst) ha upd_same rvs) rv
  | _ => exact h.elim
theorem de_bm {o : Expr} {es : List Expr} {name : Str} {apos cpos : Pos} {id : String} {r : V → List V → Hp → VK → Prop} {op : List D → List D → Option (D × List D)} {fo : Lo → Ev D} {fa : Lo → Ev (List D)} (slot : Slot "list" name id) (hty : typeOf (.builtin id) = pure (.type "method_descriptor")) (hm : MtR X id r) (mo : MethOk X r op) (ho : DE X W o fo) (ha : DA X W (e :: es) fa)
    (hbase : attributeBase o name X.env (eval o X.env) = eval o X.env := by rfl)
    (hfew : ((backTo cpos (starEach (e :: es) X.env)).all (fun x => !x.1) && (backToKw cpos (keywordEach [] X.env)).all (fun x => x.1.isSome)
      && decide ((e :: es).length + ([] : List Keyword).length + (if ([] : List Keyword).isEmpty then 0 else 1) < 30)) = true := by rfl)
    (hline : (apos.endLine == cpos.line) = true := by rfl) (hs : starEach (e :: es) X.env = (false, eval e X.env) :: starEach es X.env := by rfl) (hplain : (backTo cpos (starEach es X.env)).any (·.1) = false := by rfl) :
    DE X W (.Call (.Attribute o name apos) (e :: es) [] cpos) (eBm (cellM op) fo fa) := by
  obtain ⟨t, p, s⟩ := ho
  obtain ⟨t', p', s'⟩ := ha
  refine ⟨_, pe_bm PySem.F.plainAttrs_list slot hty hm p p' hbase hfew hline hs hplain, fun Fr B as σ H S M Q rs rp h => ?_⟩
  refine s Fr B as σ H S M _ rs rp (h.bnd.imp fun x M1 B1 as1 s1 p1 h1 v H1 rp1 r1 => ?_)
  obtain ⟨ty, h1⟩ := h1.isCellL rp1 r1
  refine ⟨ty, s' Fr B1 as1 σ H1 S M1 _ (rs.mono s1 p1) rp1 (h1.bnd.imp fun l M2 B2 as2 s2 p2 h2 vs H2 rp2 r2 => ?_)⟩
  exact cellM_ok mo rp2 (r1.mono s2 p2) r2 h2
def opAppend (l args : List D) : Option (D × List D) := match args with
  | [y] => if l.length < sizeLine then some (.non, l ++ [y]) else none
  | _ => none
theorem m_append : MethOk X rAppend opAppend := by
  intro G B as H p vs l args argV d l' Q rs ra ho hp k
  unfold opAppend at ho
  cases ra with
  | nil => cases ho
  | cons r t =>
    cases t with
    | cons _ _ => cases ho
    | nil =>
      dsimp only at ho
      by_cases c : l.length < sizeLine
      · rw [if_pos c] at ho; cases ho
        exact ⟨p, vs, _, rfl, rfl, hp, by rw [rs.length]; exact c, k _ _ .non (rs.app (.one r))⟩
      · rw [if_neg c] at ho; cases ho
theorem Rs.dropLast {G : Gx} {B : Hp} {as : List Addr} {vs : List V} {l : List D} (r : Rs G B as vs l) : Rs G B as vs.dropLast l.dropLast := by
  rw [List.dropLast_eq_take, List.dropLast_eq_take, r.length]
  exact r.take _
/-- xs[i] = v -/
def setE (x i v : D) : Ev Unit := match x, i with
  | .ref n, .int k => fun M => match M[n]? with
    | some (.lst, l) => match ixN l.length k with
      | some j => .ok () (M.set n (.lst, l.set j v))
      | none => .stuck
    | _ => .stuck
  | _, _ => Ev.no
def gSet (fo fi : Lo → Ev D) : D → Lo → Ev Lo := fun d S => (Ev.nox (fo S)).bnd fun x => (Ev.nox (fi S)).bnd fun i => (setE x i d).bnd fun _ => Ev.ret S
theorem dg_sub {o i : Expr} {fo fi : Lo → Ev D} (ho : DE X W o fo) (hi : DE X W i fi)
    (ha : ∀ v, assign (.Subscript o i pos) X.env v = (do
      let ov ← holding [v] (eval o X.env)
      let iv ← holding [v, ov] (eval i X.env)
      standAt pos
      holding [v, ov, iv] (setItem ov iv v)
      release [v, ov, iv] []) := by intro _; rfl) : DG X W (.Subscript o i pos) [] (gSet fo fi) := by
  obtain ⟨t, p, s⟩ := ho
  obtain ⟨t', p', s'⟩ := hi
  refine ⟨_, pg_sub p p' set_list ha, fun Fr B as σ H S M v d Q rs rp r h => ?_⟩
  refine s Fr B as σ H S M _ rs rp ((h.bnd.nox (x' := _)).imp fun x M1 B1 as1 s1 p1 h1 ov H1 rp1 r1 => ?_)
  refine s' Fr B1 as1 σ H1 S M1 _ (rs.mono s1 p1) rp1 ((h1.bnd.nox (x' := _)).imp fun y M2 B2 as2 s2 p2 h2 iv H2 rp2 r2 => ?_)
  have rx := r1.mono s2 p2
  have rd := r.mono s1 p1 |>.mono s2 p2
  have rs2 := (rs.mono s1 p1).mono s2 p2
  cases rx <;> first | (cases r2 <;> exact h2.elim) | skip
  rename_i n a ha
  cases r2 <;> first | exact h2.elim | skip
  rename_i k
  have h2 := h2.bnd
  unfold setE at h2
  dsimp only at h2
  cases q : M2[n]? with
  | none => simp only [q] at h2; exact h2.elim
  | some c =>
    obtain ⟨t, l⟩ := c
    simp only [q] at h2
    obtain ⟨vs, mc, rsc⟩ := rp2.cell n a _ ha q
    cases t <;> first | exact h2.elim | skip
    dsimp only at h2
    cases q2 : ixN l.length k with
    | none => rw [q2] at h2; exact h2.elim
    | some j =>
      rw [q2] at h2
      refine ⟨a, vs, k, j, rfl, rfl, mc, by rw [rsc.length]; exact q2, ?_⟩
      exact (Post.ok h2).ret σ _ (rp2.write (t := .lst) ha upd_same (rsc.set rd j)) rs2 (fun _ _ => rfl) rfl
/-! ### defs -/
def spD (G : Gx) (n : Nat) (F : List D → Ev D) : Sp := fun vs H Q E => ∃ Fr B as M l, Rep G Fr B as H M ∧ Rs G B as vs l ∧ l.length = n ∧
  Post B as (F l M) (fun d M' B' as' => ∀ v H', Rep G Fr B' as' H' M' → R G B' as' v d → Q v H') (fun c d M' B' as' => ∀ cls dx H', Rep G Fr B' as' H' M' → XR G B' as' H' c d cls dx → E cls dx H')
def startD (N : Nat) (l : List D) : Lo := l.map some ++ List.replicate (N - l.length) none
def runF (N : Nat) (g : Lo → Ev Fl) : List D → Ev D := fun l => (Ev.nox (g (startD N l))).bnd fun fl => match fl with
  | .nx _ => Ev.ret .non
  | .rt d => Ev.ret d
  | .xc c d _ => fun M => .exc c d M
  | _ => Ev.no
abbrev WF (E : XK) : WX := fun c d _ H => E c d H
theorem RS.start {G : Gx} {B : Hp} {as : List Addr} {N : List Str} {vs : List V} {l : List D} (r : Rs G B as vs l) : RS G B as (L2.start N vs) (startD N.length l) := by
  refine ⟨by unfold L2.start startD; simp [r.length], fun i d h => ?_⟩
  unfold startD at h
  unfold L2.start
  by_cases hi : i < l.length
  · rw [List.getElem?_append_left (by simpa using hi), List.getElem?_map] at h
    cases q : l[i]? with
    | none => rw [q] at h; cases h
    | some e =>
      rw [q] at h; cases h
      obtain ⟨v, hv, rv⟩ := r.get q
      exact ⟨v, by rw [List.getElem?_append_left (by simpa [r.length] using hi), List.getElem?_map, hv]; rfl, rv⟩
  · rw [List.getElem?_append_right (by simpa using hi)] at h
    obtain ⟨h1, h2⟩ := List.getElem?_eq_some_iff.mp h
    rw [List.getElem_replicate] at h2
    cases h2
theorem fn_d {P : Program} {w : World} {K : PySem.W.Frag} {mg : Str → Option Value} {base : Heap} {x qual : Str} {params : Arguments} {body : List Stmt} {scope : Scope} {dvs : List V} {kws : List (Str × V)} {f : Addr} {fd : FuncData} {N ps : List Str} {k : Nat} {g : Lo → Ev Fl}
    (F : FunD K x qual params body scope dvs kws f fd) (S : FnScope N ps scope)
    (hb : ∀ (cdv : Value) (A : Around) (outer : List Env) (s : Shared) (H : Hp) (E : XK), Room k (A.deeper (PyProof.Rows.envOfC qual scope s.heap.objs.size f cdv)) → Takes (cxOf (L2.CX P w) P w K mg base N qual scope f cdv A outer s H E) (WF E) →
      DSs (cxOf (L2.CX P w) P w K mg base N qual scope f cdv A outer s H E) (WF E) body g) : FnOk P w K mg base (L2.CX P w) (k + 1) f fd ps (spD ⟨K, mg⟩ ps.length (runF N.length g)) := by
  refine F.ok S (fun vs H Q E h => ?_) (fun cdv A outer s H vs Q E hr h => ?_)
  · obtain ⟨Fr, B, as, M, l, rp, rs, hl, _⟩ := h
    rw [rs.length, hl]
  · obtain ⟨Fr, B, as, M, l, rp, rs, hl, h⟩ := h
    obtain ⟨t, p, sd⟩ := hb cdv A outer s H E hr (takes_of rfl rfl rfl rfl)
    refine ⟨t, p, sd Fr B as _ H (startD N.length l) M _ (RS.start rs) rp ((h.bnd.nox (x' := fun _ _ _ _ _ => False)).imp fun fl M1 B1 as1 s1 p1 h1 => ?_)⟩
    cases fl with
    | nx S' => exact fun σ' H' rp' rs' => h1.ret .non H' rp' .non
    | rt d => exact fun v H' rp' rv => h1.ret v H' rp' rv
    | bk S' => exact h1.elim
    | ct S' => exact h1.elim
    | xc c d S' => exact fun σ' cls dx H' rp' rs' xr => h1 B1 as1 (Same.refl _) (List.prefix_refl _) cls dx H' rp' xr
end
end DL

set_option Elab.async false
set_option linter.all false
set_option maxRecDepth 100000
set_option maxHeartbeats 4000000
/-! DL7: calls of own defs, own classes and their instances. -/
namespace DL
open PySem L2
variable [Tb]
section
variable {X : Cx} {W : WX} {e o a b c : Expr} {pos p apos : Pos} {x m f : Str}
abbrev CXX (X : Cx) : CXT := L2.CX X.prog X.w
def callD (n : Nat) (F : List D → Ev D) : List D → Ev D := fun l => if l.length = n then F l else Ev.no
theorem spD_of {Fr B : Hp} {as : List Addr} {σ : St} {H : Hp} {M : Store} {vs : List V} {l : List D} {Q : VK} {n : Nat} {F : List D → Ev D} (rp : Rep (gx X) Fr B as H M) (rs : Rs (gx X) B as vs l) (h : Post B as (callD n F l M) (kD X Fr Q) (kX X Fr W σ)) :
    spD (gx X) n F vs H Q (fun c d H => W c d σ H) := by
  unfold callD at h
  by_cases hl : l.length = n
  · rw [if_pos hl] at h
    exact ⟨Fr, B, as, M, l, rp, rs, hl, h⟩
  · rw [if_neg hl] at h; exact h.elim
theorem de_call {k n : Nat} {fa : Addr} {fd : FuncData} {ps : List Str} {F : List D → Ev D} {es : List Expr} {g : Lo → Ev (List D)} (FO : FnOk X.prog X.w X.K X.mg X.base (CXX X) k fa fd ps (spD (gx X) n F)) (hr : Room k X.A) (hg : Gl X x) (hm : X.mg x = some (.ref fa)) (hk : PySem.W.keepIn X.K (.ref fa) = true) (hb : Binds X.K fd ps [])
    (tk : Takes X W) (ha : DA X W (e :: es) g) (hdb : (x == ("__debug__" : Str)) = false := by decide) (he : starEach (e :: es) X.env = (false, eval e X.env) :: starEach es X.env := by rfl) (hpl : (backTo pos (starEach es X.env)).any (·.1) = false := by rfl) :
    DE X W (.Call (.Name x p) (e :: es) [] pos) (eCall (callD n F) g) := by
  obtain ⟨t, pa, s⟩ := ha
  refine ⟨_, pe_callS (E := WE W) FO hr hg hm hk hb (fun σ => passAt tk σ) pa hdb he hpl, fun Fr B as σ H S M Q rs rp h => ?_⟩
  exact s Fr B as σ H S M _ rs rp (h.bnd.imp fun l M1 B1 as1 s1 p1 h1 vs H1 rp1 r1 => spD_of rp1 r1 h1)
/-- keywords -/
def DK (X : Cx) (W : WX) (kws : List Keyword) (f : Lo → Ev (List D)) : Prop := ∃ t, PK X kws t ∧ ∀ Fr B as σ H S M Q, RS (gx X) B as σ S → Rep (gx X) Fr B as H M → Post B as (f S M) (kA X Fr Q) (kX X Fr W σ) → t σ H Q
theorem dk_nil : DK X W [] eA0 := ⟨_, pk_nil, fun _ _ _ _ _ _ _ _ _ rp h => h.ret [] _ rp .nil⟩
theorem dk_cons {kws : List Keyword} {nm : Option Str} {kpos : Pos} {f : Lo → Ev D} {g : Lo → Ev (List D)} (ha : DE X W e f) (hr : DK X W kws g) : DK X W (⟨nm, e, kpos⟩ :: kws) (eAc f g) := by
  obtain ⟨t, p, s⟩ := ha
  obtain ⟨t', p', s'⟩ := hr
  refine ⟨_, pk_cons p p', fun Fr B as σ H S M Q rs rp h => ?_⟩
  refine s Fr B as σ H S M _ rs rp (h.bnd.imp fun x M1 B1 as1 s1 p1 h1 v H1 rp1 r1 => ?_)
  refine s' Fr B1 as1 σ H1 S M1 _ (rs.mono s1 p1) rp1 (h1.bnd.imp fun l M2 B2 as2 s2 p2 h2 vs H2 rp2 r2 => ?_)
  exact h2.ret _ H2 rp2 (.cons (r1.mono s2 p2) r2)
/-! ### instances -/
theorem Rs.lookup {G : Gx} {B : Hp} {as : List Addr} {f : Str} {d : D} : ∀ {ns : List Str} {vs : List V} {l : List D}, Rs G B as vs l → (ns.zip l).lookup f = some d → ∃ v, (ns.zip vs).lookup f = some v ∧ R G B as v d
  | [], _, _, _, h => by simp at h
  | _ :: _, _, _, .nil, h => by simp at h
  | n :: ns, _, _, .cons r t, h => by
    rw [List.zip_cons_cons, List.lookup_cons] at h ⊢
    cases q : f == n with
    | true => rw [q] at h; cases h; exact ⟨_, rfl, r⟩
    | false => rw [q] at h; exact Rs.lookup t h
theorem zip_none {α : Type} {f : Str} : ∀ {ns : List Str} {vs : List α}, f ∉ ns → (ns.zip vs).lookup f = none
  | [], _, _ => by simp
  | _ :: _, [], _ => by simp
  | n :: ns, v :: vs, h => by
    rw [List.zip_cons_cons, List.lookup_cons]
    have h1 : ¬ f = n := fun z => h (by simp [z])
    have h2 : f ∉ ns := fun z => h (by simp [z])
    rw [beq_eq_false_iff_ne.mpr h1]
    exact zip_none h2
/-- what is known of a class of the text -/
structure ClsD (X : Cx) (cn : Str) (C : Addr) : Prop where
  mg : X.mg cn = some (.ref C)
  cl : Cls X.K C
def fldE (cn f : Str) (x : D) : Ev D := (vw x).bnd fun p => match p.1 with
  | .obj c ns => if c = cn then (match (ns.zip p.2).lookup f with
    | some d => Ev.ret d
    | none => Ev.no) else Ev.no
  | _ => Ev.no
theorem de_fld {cn : Str} {C : Addr} {fo : Lo → Ev D} (c : ClsD X cn C) (na : NoAttr X.K C f) (he : DE X W o fo) (hb : attributeBase o f X.env (eval o X.env) = eval o X.env := by rfl) : DE X W (.Attribute o f pos) (e1 (fldE cn f) fo) := by
  obtain ⟨t, p, s⟩ := he
  refine ⟨_, pe_fld p hb, fun Fr B as σ H S M Q rs rp h => ?_⟩
  refine s Fr B as σ H S M _ rs rp (h.bnd.imp fun x M1 B1 as1 s1 p1 h1 v H1 rp1 r1 => ?_)
  obtain ⟨t, l, q, vs, rfl, fc, rs2, h9, _⟩ := Post.vw (d := x) h1 rp1 r1
  cases t <;> first | exact h9.elim | skip
  rename_i c' ns _
  dsimp only at h9
  by_cases hc : c' = cn
  · rw [if_pos hc] at h9
    subst hc
    obtain ⟨C', dx, mg, hH, hlen⟩ := fc
    cases q2 : (ns.zip l).lookup f with
    | none => rw [q2] at h9; exact h9.elim
    | some d =>
      rw [q2] at h9
      obtain ⟨u, hu, ru⟩ := rs2.lookup q2
      have : C' = C := by
        have e1 := mg.symm.trans c.mg
        cases e1; rfl
      subst this
      exact ⟨q, C', dx, _, u, rfl, hH, c.cl, na, hu, h9.ret u H1 rp1 ru⟩
  · rw [if_neg hc] at h9; exact h9.elim
/-- o.f = e -/
def putD (f : Str) (d : D) : List Str → List D → List Str × List D
  | n :: ns, y :: l => if n = f then (n :: ns, d :: l) else (n :: (putD f d ns l).1, y :: (putD f d ns l).2)
  | _, _ => ([f], [d])
def putW (f : Str) (v : V) : List Str → List V → List V
  | n :: ns, y :: l => if n = f then v :: l else y :: putW f v ns l
  | _, _ => [v]
theorem putF_zip (f : Str) (v : V) (d : D) : ∀ (ns : List Str) (vs : List V) (l : List D), ns.length = vs.length → vs.length = l.length → putF f v (ns.zip vs) = (putD f d ns l).1.zip (putW f v ns vs) ∧ (putD f d ns l).1.length = (putW f v ns vs).length
  | [], [], [], _, _ => ⟨rfl, rfl⟩
  | n :: ns, y :: vs, z :: l, h1, h2 => by
    have ih := putF_zip f v d ns vs l (by simpa using h1) (by simpa using h2)
    rw [List.zip_cons_cons]
    unfold putF putD putW
    by_cases h : n = f
    · rw [if_pos h, if_pos h, if_pos h]
      exact ⟨rfl, by simpa using h1⟩
    · rw [if_neg h, if_neg h, if_neg h, ih.1]
      exact ⟨rfl, by simp [ih.2]⟩
theorem Rs.put {G : Gx} {B : Hp} {as : List Addr} {f : Str} {v : V} {d : D} (r : R G B as v d) : ∀ {ns : List Str} {vs : List V} {l : List D}, Rs G B as vs l → ns.length = vs.length → Rs G B as (putW f v ns vs) (putD f d ns l).2
  | [], _, _, .nil, _ => .cons r .nil
  | n :: ns, _, _, .cons q t, h => by
    unfold putW putD
    by_cases hn : n = f
    · rw [if_pos hn, if_pos hn]; exact .cons r t
    · rw [if_neg hn, if_neg hn]; exact .cons q (Rs.put r t (by simpa using h))
def stE (cn f : Str) (d x : D) : Ev Unit := match x with
  | .ref n => fun M => match M[n]? with
    | some (.obj c ns, l) => if c = cn ∧ ns.length < 1000 then .ok () (M.set n (.obj c (putD f d ns l).1, (putD f d ns l).2)) else .stuck
    | _ => .stuck
  | _ => Ev.no
def sFldD (cn f : Str) (fo fv : Lo → Ev D) : Lo → Ev Fl := fun S => (fv S).fl S fun d => (fo S).fl S fun x => (stE cn f d x).bnd fun _ => Ev.ret (.nx S)
theorem ds_fld {cn : Str} {C : Addr} {fo fv : Lo → Ev D} {pos' : Pos} (c : ClsD X cn C) (na : NoAttr X.K C f) (ho : DE X W o fo) (hv : DE X W e fv) (hs : swapsWith e (some (.Attribute o f pos')) pos.line X.env = pure false := by rfl) : DS X W (.Assign [.Attribute o f pos'] e pos) (sFldD cn f fo fv) := by
  obtain ⟨t, p, s⟩ := ho
  obtain ⟨t', p', s'⟩ := hv
  refine ⟨_, ps_fld p p' hs, fun Fr B as σ H S M D rs rp h => ?_⟩
  refine s' Fr B as σ H S M _ rs rp ((Post.fl rs h).imp fun d M1 B1 as1 s1 p1 h1 y H1 rp1 r1 => ?_)
  refine s Fr B1 as1 σ H1 S M1 _ (rs.mono s1 p1) rp1 ((Post.fl (rs.mono s1 p1) h1).imp fun x M2 B2 as2 s2 p2 h2 v H2 rp2 r2 => ?_)
  have rd := r1.mono s2 p2
  have rs2 := (rs.mono s1 p1).mono s2 p2
  cases r2 <;> first | exact h2.elim | skip
  rename_i n a ha
  have h3 := h2.bnd
  clear h2
  unfold stE at h3
  dsimp only at h3
  cases q : M2[n]? with
  | none => simp only [q] at h3; exact h3.elim
  | some cc =>
    obtain ⟨t, l⟩ := cc
    simp only [q] at h3
    obtain ⟨vs, mc, rsc⟩ := rp2.cell n a _ ha q
    cases t <;> first | exact h3.elim | skip
    rename_i c' ns
    dsimp only at h3
    by_cases hc : c' = cn ∧ ns.length < 1000
    · rw [if_pos hc] at h3
      obtain ⟨hc, hn⟩ := hc
      subst hc
      obtain ⟨C', dx, mg, hH, hlen⟩ := mc
      have : C' = C := by
        have e1 := mg.symm.trans c.mg
        cases e1; rfl
      subst this
      have hlen : ns.length = vs.length := hlen
      obtain ⟨z1, z2⟩ := putF_zip f y d ns vs l hlen rsc.length
      refine ⟨a, C', dx, _, rfl, hH, c.cl, na, by rw [List.length_zip]; omega, ?_⟩
      refine (Post.ok h3).ret σ _ (rp2.write (t := .obj c' (putD f d ns l).1) (vs := putW f y ns vs) ha ?_ (rsc.put rd hlen)) rs2
      exact ⟨C', dx, mg, by rw [upd_same, z1], z2⟩
    · rw [if_neg hc] at h3; exact h3.elim
/-- o.m(..) -/
def isObj (cn m : Str) (x : D) : Ev Unit := (vw x).bnd fun p => match p.1 with
  | .obj c ns => if c = cn ∧ m ∉ ns then Ev.ret () else Ev.no
  | _ => Ev.no
theorem Post.isObj {α : Type} {Fr B : Hp} {as : List Addr} {d : D} {cn m : Str} {C : Addr} {f : Unit → Ev α} {M : Store} {H : Hp} {v : V} {k : α → Store → Hp → List Addr → Prop} {x : Str → D → Store → Hp → List Addr → Prop} (h : Post B as (((DL.isObj cn m d).bnd f) M) k x)
    (c : ClsD X cn C) (rp : Rep (gx X) Fr B as H M) (r : R (gx X) B as v d) : ∃ a dx fs, v = .ref a ∧ H a = some (.ins C dx fs) ∧ fs.lookup m = none ∧ Post B as (f () M) k x := by
  unfold DL.isObj at h
  rw [bnd_bnd] at h
  obtain ⟨t, l, q, vs, rfl, fc, rs2, h9, _⟩ := Post.vw (d := d) h rp r
  cases t <;> first | exact h9.elim | skip
  rename_i c' ns _
  dsimp only at h9
  by_cases hc : c' = cn ∧ m ∉ ns
  · rw [if_pos hc] at h9
    obtain ⟨hc, hn⟩ := hc
    subst hc
    obtain ⟨C', dx, mg, hH, hlen⟩ := fc
    have : C' = C := by
      have e1 := mg.symm.trans c.mg
      cases e1; rfl
    subst this
    exact ⟨q, dx, _, rfl, hH, zip_none hn, h9⟩
  · rw [if_neg hc] at h9; exact h9.elim
def eMeth (cn m : Str) (n : Nat) (F : List D → Ev D) (dd : List D) (fo : Lo → Ev D) (fa : Lo → Ev (List D)) : Lo → Ev D := fun S => (fo S).bnd fun x => (isObj cn m x).bnd fun _ => (fa S).bnd fun l => callD n F (x :: (l ++ dd))
theorem de_meth {E : XK} {cn : Str} {C : Addr} {k n : Nat} {fa : Addr} {fd : FuncData} {ps : List Str} {F : List D → Ev D} {es : List Expr} {pl : Sem Bool} {dvs : List V} {ds : List Value} {dd : List D} {fo : Lo → Ev D} {g : Lo → Ev (List D)} (c : ClsD X cn C) (hm : Meth X.K C m fa) (FO : FnOk X.prog X.w X.K X.mg X.base (CXX X) k fa fd ps (spD (gx X) n F)) (hr : Room k X.A) (hb : Binds X.K fd ps ds) (hd : Vals dvs ds) (hdd : ∀ B as, Rs (gx X) B as dvs dd) (hx : Passes (CXX X) X E)
    (ho : DE X (WF E) o fo) (ha : DA X (WF E) (e :: es) g) (hst : starEach (e :: es) X.env = (false, eval e X.env) :: starEach es X.env := by rfl) (hpl : (backTo pos (starEach es X.env)).any (·.1) = false := by rfl)
    (ht : eval (.Call (.Attribute o m apos) (e :: es) [] pos) X.env = (do
      let ov ← eval o X.env
      standAt apos.atName
      let (f, first) ← holding [ov] (getMethod ov m pl)
      callWith pos f first (backTo pos (starEach (e :: es) X.env)) (backToKw pos (keywordEach [] X.env))) := by rfl) :
    DE X (WF E) (.Call (.Attribute o m apos) (e :: es) [] pos) (eMeth cn m n F dd fo g) := by
  obtain ⟨t, p, s⟩ := ho
  obtain ⟨t', p', s'⟩ := ha
  refine ⟨_, pe_meth (pl := pl) p c.cl hm FO hr hb hd hx p' hst hpl ht, fun Fr B as σ H S M Q rs rp h => ?_⟩
  refine s Fr B as σ H S M _ rs rp (h.bnd.imp fun x M1 B1 as1 s1 p1 h1 v H1 rp1 r1 => ?_)
  obtain ⟨a, dx, fs, rfl, hH, hl, h1⟩ := h1.isObj c rp1 r1
  refine ⟨a, dx, fs, rfl, hH, hl, s' Fr B1 as1 σ H1 S M1 _ (rs.mono s1 p1) rp1 (h1.bnd.imp fun l M2 B2 as2 s2 p2 h2 vs H2 rp2 r2 => ?_)⟩
  exact spD_of (W := WF E) (σ := σ) rp2 (.cons (r1.mono s2 p2) (r2.app (hdd B2 as2))) h2
theorem de_meth0 {E : XK} {cn : Str} {C : Addr} {k n : Nat} {fa : Addr} {fd : FuncData} {ps : List Str} {F : List D → Ev D} {pl : Sem Bool} {dvs : List V} {ds : List Value} {dd : List D} {fo : Lo → Ev D} (c : ClsD X cn C) (hm : Meth X.K C m fa) (FO : FnOk X.prog X.w X.K X.mg X.base (CXX X) k fa fd ps (spD (gx X) n F)) (hr : Room k X.A) (hb : Binds X.K fd ps ds) (hd : Vals dvs ds) (hdd : ∀ B as, Rs (gx X) B as dvs dd) (hx : Passes (CXX X) X E)
    (ho : DE X (WF E) o fo)
    (ht : eval (.Call (.Attribute o m apos) [] [] pos) X.env = (do
      let ov ← eval o X.env
      standAt apos.atName
      let (f, first) ← holding [ov] (getMethod ov m pl)
      callWith pos f first (backTo pos (starEach [] X.env)) (backToKw pos (keywordEach [] X.env))) := by rfl) :
    DE X (WF E) (.Call (.Attribute o m apos) [] [] pos) (eMeth cn m n F dd fo eA0) := by
  obtain ⟨t, p, s⟩ := ho
  refine ⟨_, pe_meth0 (pl := pl) p c.cl hm FO hr hb hd hx ht, fun Fr B as σ H S M Q rs rp h => ?_⟩
  refine s Fr B as σ H S M _ rs rp (h.bnd.imp fun x M1 B1 as1 s1 p1 h1 v H1 rp1 r1 => ?_)
  obtain ⟨a, dx, fs, rfl, hH, hl, h1⟩ := h1.isObj c rp1 r1
  refine ⟨a, dx, fs, rfl, hH, hl, ?_⟩
  exact spD_of (W := WF E) (σ := σ) rp1 (.cons r1 (hdd B1 as1)) h1
/-- C(..) -/
def makeD (cn : Str) (F : List D → Ev D) (gD : D → List D) : Ev D := fun M => match F (gD (.ref M.length)) (M ++ [(.obj cn [], [])]) with
  | .ok .non M' => .ok (.ref M.length) M'
  | .exc c d M' => .exc c d M'
  | _ => .stuck
theorem make_of {cn : Str} {C : Addr} {n : Nat} {F : List D → Ev D} {Fr B : Hp} {as : List Addr} {σ : St} {H : Hp} {M : Store} {Q : VK} {E : XK} {gV : V → List V} {gD : D → List D} (c : ClsD X cn C) (rp : Rep (gx X) Fr B as H M) (hl : ∀ d, (gD d).length = n)
    (hD : ∀ B' as' v d, Same B B' → as <+: as' → R (gx X) B' as' v d → Rs (gx X) B' as' (gV v) (gD d)) (h : Post B as (makeD cn F gD M) (kD X Fr Q) (kX X Fr (WF E) σ)) :
    ∀ x dx, H x = none → H dx = none → dx ≠ x → spD (gx X) n F (gV (.ref x)) (upd (upd H dx (.own x)) x (.ins C dx [])) (fun v H2 => v = .non ∧ Q (.ref x) H2) E := by
  intro x dx hx hdx hne
  have hx' : (upd H dx (.own x)) x = none := by rw [upd_ne (Ne.symm hne)]; exact hx
  have rp1 := (rp.laid (o := .own x) hdx).push (t := .obj cn []) (vs := []) (l := []) (o := .ins C dx []) hx' ⟨C, dx, c.mg, upd_same, rfl⟩ .nil
  have hr : (as ++ [x])[M.length]? = some x := by rw [← rp.len]; simp
  refine ⟨Fr, B, as ++ [x], M ++ [(.obj cn [], [])], gD (.ref M.length), rp1, hD B (as ++ [x]) _ _ (Same.refl _) pre_push (.ref hr), hl _, ?_⟩
  unfold makeD at h
  cases q : F (gD (.ref M.length)) (M ++ [(.obj cn [], [])]) with
  | stuck => rw [q] at h; exact h
  | exc c d M' => rw [q] at h; exact fun B1 as1 e1 p1 cls d1 H1 rp1 xr => h B1 as1 e1 (pre_push.trans p1) cls d1 H1 rp1 xr
  | ok d M' =>
    rw [q] at h
    cases d <;> first | exact h.elim | skip
    intro B1 as1 e1 p1 v H1 rp1 rv
    cases rv
    exact ⟨rfl, h B1 as1 e1 (pre_push.trans p1) _ H1 rp1 (.ref (pre_get p1 hr))⟩
def eMake (cn : Str) (n i j : Nat) (gD : D → List D → List D → List D) (F : List D → Ev D) (f g : Lo → Ev (List D)) : Lo → Ev D := fun S => (f S).bnd fun l => (g S).bnd fun z => if l.length = i ∧ z.length = j then makeD cn F (fun d => gD d l z) else Ev.no
theorem de_makeN {E : XK} {cn : Str} {C : Addr} {k n i j : Nat} {fI : Addr} {fd : FuncData} {ps ks : List Str} {F : List D → Ev D} {es : List Expr} {kws : List Keyword} {gv : List Value → List Value → List Value} {gV : List V → List V → List V} {gD : D → List D → List D → List D} {g gk : Lo → Ev (List D)} (c : ClsD X cn C) (Mk' : Mk X.K C fI) (FO : FnOk X.prog X.w X.K X.mg X.base (CXX X) k fI fd ps (spD (gx X) n F)) (hr : Room (k + 1) X.A) (hg : Gl X cn) (hb : KBn X.K fd ps (i + 1) ks gv gV)
    (hn : ∀ d l z, l.length = i → z.length = ks.length → (gD d l z).length = n) (hD : ∀ B as v d vs zs l z, R (gx X) B as v d → Rs (gx X) B as vs l → Rs (gx X) B as zs z → Rs (gx X) B as (gV (v :: vs) zs) (gD d l z)) (hx : Passes (CXX X) X E) (ha : DA X (WF E) (e :: es) g) (hkw : DK X (WF E) kws gk)
    (hall : (backToKw pos (keywordEach kws X.env)).all (·.1.isSome) = true := by rfl) (hks : (backToKw pos (keywordEach kws X.env)).filterMap (·.1) = ks := by rfl)
    (hdb : (cn == ("__debug__" : Str)) = false := by decide) (he : starEach (e :: es) X.env = (false, eval e X.env) :: starEach es X.env := by rfl)
    (hpl : ((backTo pos (starEach (e :: es) X.env)).any (·.1) || (backToKw pos (keywordEach kws X.env)).any (·.1.isNone)) = false := by rfl) (hj : ks.length = j := by rfl) :
    DE X (WF E) (.Call (.Name cn p) (e :: es) kws pos) (eMake cn n i j gD F g gk) := by
  subst hj
  obtain ⟨t, pa, s⟩ := ha
  obtain ⟨t', pk, s'⟩ := hkw
  refine ⟨_, pe_makeN Mk' FO hr hg c.mg hb hx pa pk hall hks hdb he hpl, fun Fr B as σ H S M Q rs rp h => ?_⟩
  refine s Fr B as σ H S M _ rs rp (h.bnd.imp fun l M1 B1 as1 s1 p1 h1 vs H1 rp1 r1 => ?_)
  refine s' Fr B1 as1 σ H1 S M1 _ (rs.mono s1 p1) rp1 (h1.bnd.imp fun z M2 B2 as2 s2 p2 h2 zs H2 rp2 r2 => ?_)
  by_cases hl : l.length = i ∧ z.length = ks.length
  · rw [if_pos hl] at h2
    refine ⟨by rw [r1.length, hl.1], by rw [r2.length, hl.2], ?_⟩
    exact make_of (gV := fun v => gV (v :: vs) zs) (gD := fun d => gD d l z) c rp2 (fun d => hn d l z hl.1 hl.2) (fun B3 as3 v d e3 p3 r3 => hD B3 as3 v d vs zs l z r3 (r1.mono s2 p2 |>.mono e3 p3) (r2.mono e3 p3)) h2
  · rw [if_neg hl] at h2; exact h2.elim
end
end DL

set_option Elab.async false
set_option linter.all false
set_option maxRecDepth 100000
set_option maxHeartbeats 4000000
/-! DL8: dicts, isinstance, truth, short words. -/
namespace DL
open PySem L2
variable [Tb]
/-! ### pairs -/
def pk {α : Type} (kd : List (Key × α)) (k : Key) (d : α) : List (Key × α) :=
  if (kd.any fun p => decide (p.1 = k)) = true then kd.map (fun p => if p.1 = k then (p.1, d) else p) else kd ++ [(k, d)]
def vd {α : Type} (kd : List (Key × α)) (k : Key) : Option α := (kd.find? fun p => decide (p.1 = k)).map (·.2)
inductive RK (G : Gx) (B : Hp) (as : List Addr) : List (Key × V) → List (Key × D) → Prop
  | nil : RK G B as [] []
  | cons {k : Key} {v : V} {d : D} {kv : List (Key × V)} {kd : List (Key × D)} : R G B as v d → RK G B as kv kd → RK G B as ((k, v) :: kv) ((k, d) :: kd)
section
variable {G : Gx} {B B' : Hp} {as as' : List Addr}
theorem RK.mono (e : Same B B') (p : as <+: as') : ∀ {kv : List (Key × V)} {kd : List (Key × D)}, RK G B as kv kd → RK G B' as' kv kd
  | _, _, .nil => .nil
  | _, _, .cons r t => .cons (r.mono e p) (RK.mono e p t)
theorem Rs.rk : ∀ {ks : List Key} {vs : List V} {l : List D}, Rs G B as vs l → ks.length = vs.length → RK G B as (ks.zip vs) (ks.zip l)
  | [], _, _, .nil, _ => .nil
  | k :: ks, _, _, .cons r t, h => .cons r (Rs.rk t (by simpa using h))
theorem RK.keys : ∀ {kv : List (Key × V)} {kd : List (Key × D)}, RK G B as kv kd → kv.map (·.1) = kd.map (·.1)
  | _, _, .nil => rfl
  | _, _, .cons _ t => by simp [RK.keys t]
theorem RK.vals : ∀ {kv : List (Key × V)} {kd : List (Key × D)}, RK G B as kv kd → Rs G B as (kv.map (·.2)) (kd.map (·.2))
  | _, _, .nil => .nil
  | _, _, .cons r t => .cons r (RK.vals t)
theorem RK.len : ∀ {kv : List (Key × V)} {kd : List (Key × D)}, RK G B as kv kd → kv.length = kd.length
  | _, _, .nil => rfl
  | _, _, .cons _ t => by simp [RK.len t]
theorem zip_self {α β : Type} : ∀ kv : List (α × β), (kv.map (·.1)).zip (kv.map (·.2)) = kv
  | [] => rfl
  | (a, b) :: r => by simp [zip_self r]
theorem RK.dct {kv : List (Key × V)} {kd : List (Key × D)} (r : RK G B as kv kd) : (kd.map (·.1)).zip (kv.map (·.2)) = kv ∧ (kd.map (·.1)).length = (kv.map (·.2)).length := by
  rw [← r.keys]
  exact ⟨zip_self kv, by simp⟩
theorem RK.any {k : Key} : ∀ {kv : List (Key × V)} {kd : List (Key × D)}, RK G B as kv kd → (kv.any fun p => decide (p.1 = k)) = (kd.any fun p => decide (p.1 = k))
  | _, _, .nil => rfl
  | _, _, .cons _ t => by simp only [List.any_cons, RK.any t]
theorem RK.app : ∀ {kv kv' : List (Key × V)} {kd kd' : List (Key × D)}, RK G B as kv kd → RK G B as kv' kd' → RK G B as (kv ++ kv') (kd ++ kd')
  | _, _, _, _, .nil, q => q
  | _, _, _, _, .cons r t, q => .cons r (RK.app t q)
theorem RK.map {k : Key} {v : V} {d : D} (r : R G B as v d) : ∀ {kv : List (Key × V)} {kd : List (Key × D)}, RK G B as kv kd → RK G B as (kv.map fun p => if p.1 = k then (p.1, v) else p) (kd.map fun p => if p.1 = k then (p.1, d) else p)
  | _, _, .nil => .nil
  | _, _, .cons (k := k') q t => by
    simp only [List.map_cons]
    by_cases h : k' = k
    · simp only [if_pos h]; exact .cons r (RK.map r t)
    · simp only [if_neg h]; exact .cons q (RK.map r t)
theorem RK.put {k : Key} {v : V} {d : D} {kv : List (Key × V)} {kd : List (Key × D)} (h : RK G B as kv kd) (r : R G B as v d) : RK G B as (putK kv k v) (pk kd k d) := by
  unfold putK pk
  rw [h.any]
  by_cases c : (kd.any fun p => decide (p.1 = k)) = true
  · rw [if_pos c, if_pos c]; exact h.map r
  · rw [if_neg c, if_neg c]; exact h.app (.cons r .nil)
theorem RK.val {k : Key} {d : D} : ∀ {kv : List (Key × V)} {kd : List (Key × D)}, RK G B as kv kd → vd kd k = some d → ∃ v, valV kv k = some v ∧ R G B as v d
  | _, _, .nil, h => by simp [vd] at h
  | _, _, .cons (k := k') q t, h => by
    by_cases c : k' = k
    · subst c
      simp [vd] at h
      subst h
      exact ⟨_, valV_pos rfl, q⟩
    · rw [valV_neg c]
      exact RK.val t (by simpa [vd, c] using h)
theorem RK.has {k : Key} : ∀ {kv : List (Key × V)} {kd : List (Key × D)}, RK G B as kv kd → (valV kv k).isSome = (vd kd k).isSome
  | _, _, .nil => rfl
  | _, _, .cons (k := k') q t => by
    by_cases c : k' = k
    · subst c; rw [valV_pos rfl]; simp [vd]
    · rw [valV_neg c, RK.has t]; simp [vd, c]
theorem RK.merge : ∀ {more : List (Key × V)} {kd' : List (Key × D)} {kv : List (Key × V)} {kd : List (Key × D)}, RK G B as more kd' → RK G B as kv kd → RK G B as (mergeK kv more) (kd'.foldl (fun acc p => pk acc p.1 p.2) kd)
  | _, _, _, _, .nil, h => h
  | _, _, _, _, .cons (k := k) r t, h => by
    have q := RK.merge t (h.put (k := k) r)
    exact q
end
def toK : D → Option Key
  | .int i => some (.inl i)
  | .str x => some (.inr x)
  | _ => none
theorem R.toK {G : Gx} {B : Hp} {as : List Addr} {v : V} {d : D} {k : Key} (r : R G B as v d) (h : DL.toK d = some k) : v = kV k := by
  cases r <;> first | (cases h; rfl) | (cases h)
section
variable {X : Cx} {W : WX} {e o a b c i : Expr} {pos p apos cpos : Pos} {x m f : Str}
/-! ### d[k], k in d -/
def getK (x y : D) : Ev D := (vw x).bnd fun p => match p.1, toK y with
  | .dct ks, some k => match vd (ks.zip p.2) k with
    | some d => Ev.ret d
    | none => Ev.no
  | .fdct ks, some k => match vd (ks.zip p.2) k with
    | some d => Ev.ret d
    | none => Ev.no
  | _, _ => Ev.no
theorem fc_rd {G : Gx} {B : Hp} {q : Addr} {ks : List Key} {vs : List V} (h : FC G B q (.fdct ks) vs) : Rd B q (.dK (ks.zip vs)) := .inr h.1
theorem de_dget {fo fi : Lo → Ev D} (hu : X.A.units + 1 < cLine) (ho : DE X W o fo) (hi : DE X W i fi) (hs : NoSl i) : DE X W (.Subscript o i pos) (e2 getK fo fi) := by
  obtain ⟨t, p, s⟩ := ho
  obtain ⟨t', p', s'⟩ := hi
  refine ⟨_, pe_dget hu p p' hs, fun Fr B as σ H S M Q rs rp h => ?_⟩
  refine s Fr B as σ H S M _ rs rp (h.bnd.imp fun x M1 B1 as1 s1 p1 h1 v H1 rp1 r1 => ?_)
  refine s' Fr B1 as1 σ H1 S M1 _ (rs.mono s1 p1) rp1 (h1.bnd.imp fun y M2 B2 as2 s2 p2 h2 w H2 rp2 r2 => ?_)
  obtain ⟨t, l, q, vs, rfl, fc, rs2, h9, _⟩ := Post.vw (d := x) h2 rp2 (r1.mono s2 p2)
  cases t <;> first | exact h9.elim | skip
  all_goals
    rename_i ks _
    dsimp only at h9
    cases qk : toK y with
    | none => rw [qk] at h9; exact h9.elim
    | some k =>
      rw [qk] at h9
      dsimp only at h9
      cases qv : vd (ks.zip l) k with
      | none => rw [qv] at h9; exact h9.elim
      | some d =>
        rw [qv] at h9
        obtain ⟨u, hu, ru⟩ := (rs2.rk fc.2).val qv
        have := r2.toK qk
        subst this
        refine ⟨q, u, rfl, ?_, h9.ret u H2 rp2 ru⟩
        have g : DGet H2 q (kV k) (valV (ks.zip vs) k) := .inl ⟨_, k, (by first | exact Or.inl fc.1 | exact fc_rd fc), rfl, rfl⟩
        rw [hu] at g
        exact g
def inK (neg : Bool) (y x : D) : Ev D := (vw x).bnd fun p => match p.1, toK y with
  | .dct ks, some k => Ev.ret (.bl (neg ^^ (vd (ks.zip p.2) k).isSome))
  | .fdct ks, some k => Ev.ret (.bl (neg ^^ (vd (ks.zip p.2) k).isSome))
  | _, _ => Ev.no
theorem inK_ok {Fr B : Hp} {as : List Addr} {σ : St} {H : Hp} {M : Store} {v w : V} {x y : D} {Q : VK} {neg : Bool} (rp : Rep (gx X) Fr B as H M) (r1 : R (gx X) B as v y) (r2 : R (gx X) B as w x) (h : Post B as (inK neg y x M) (kD X Fr Q) (kX X Fr W σ)) :
    ∃ a o, w = .ref a ∧ DGet H a v o ∧ Q (.bl (neg ^^ o.isSome)) H := by
  obtain ⟨t, l, q, vs, rfl, fc, rs2, h9, _⟩ := Post.vw (d := x) h rp r2
  cases t <;> first | exact h9.elim | skip
  all_goals
   rename_i ks _
   dsimp only at h9
   cases qk : toK y with
   | none => rw [qk] at h9; exact h9.elim
   | some k =>
    rw [qk] at h9
    have := r1.toK qk
    subst this
    have e := (rs2.rk fc.2).has (k := k)
    refine ⟨q, valV (ks.zip vs) k, rfl, .inl ⟨_, k, (by first | exact Or.inl fc.1 | exact fc_rd fc), rfl, rfl⟩, ?_⟩
    rw [e]
    exact (Post.ret (a := D.bl (neg ^^ (vd (ks.zip l) k).isSome)) h9) _ H rp (.bl _)
theorem tB_of {t : TE} {f : Lo → Ev D} (s : ∀ Fr B as σ H S M Q, RS (gx X) B as σ S → Rep (gx X) Fr B as H M → Post B as (f S M) (kD X Fr Q) (kX X Fr W σ) → t σ H Q) :
    ∀ Fr B as σ H S M Q, RS (gx X) B as σ S → Rep (gx X) Fr B as H M → Post B as (eB f S M) (kB X Fr Q) (kX X Fr W σ) → tB t σ H Q := fun Fr B as σ H S M Q rs rp h => by
  refine s Fr B as σ H S M _ rs rp (h.bnd.imp fun x M1 B1 as1 s1 p1 h1 v H1 rp1 r1 => ?_)
  cases r1 <;> first | exact h1.elim | skip
  exact ⟨_, rfl, h1.ret H1 rp1⟩
theorem dt_dnotin {fo fi : Lo → Ev D} (hu : X.A.units + 1 < cLine) (hi : DE X W i fi) (ho : DE X W o fo) (hm : behindInMarks .NotIn o = false := by rfl) : DT X W (.Compare i [.NotIn] [o] pos) (eB (e2 (inK true) fi fo)) := by
  obtain ⟨t, p, s⟩ := hi
  obtain ⟨t', p', s'⟩ := ho
  refine ⟨_, pt_cmp (pc_dnotin hu p p') hm, tB_of fun Fr B as σ H S M Q rs rp h => ?_⟩
  refine s Fr B as σ H S M _ rs rp (h.bnd.imp fun x M1 B1 as1 s1 p1 h1 v H1 rp1 r1 => ?_)
  refine s' Fr B1 as1 σ H1 S M1 _ (rs.mono s1 p1) rp1 (h1.bnd.imp fun y M2 B2 as2 s2 p2 h2 w H2 rp2 r2 => ?_)
  obtain ⟨a, o, e1, g, q⟩ := inK_ok rp2 (r1.mono s2 p2) r2 h2
  exact ⟨a, o, e1, g, by simpa using q⟩
/-! ### d[k] = v -/
def putE (d x y : D) : Ev Unit := match x, toK y with
  | .ref n, some k => fun M => match M[n]? with
    | some (.dct ks, l) => if ks.length < sizeLine ∧ ks.length = l.length then .ok () (M.set n (.dct ((pk (ks.zip l) k d).map (·.1)), (pk (ks.zip l) k d).map (·.2))) else .stuck
    | _ => .stuck
  | _, _ => Ev.no
def sDPutD (fo fi fv : Lo → Ev D) : Lo → Ev Fl := fun S => (fv S).fl S fun d => (fo S).fl S fun x => (fi S).fl S fun y => (putE d x y).bnd fun _ => Ev.ret (.nx S)
theorem ds_dput {fo fi fv : Lo → Ev D} {pos' : Pos} (hu : X.A.units + 1 < cLine) (ho : DE X W o fo) (hi : DE X W i fi) (hv : DE X W e fv) (hs : swapsWith e (some (.Subscript o i pos')) pos.line X.env = pure false := by rfl) : DS X W (.Assign [.Subscript o i pos'] e pos) (sDPutD fo fi fv) := by
  obtain ⟨t, p, s⟩ := ho
  obtain ⟨t', p', s'⟩ := hi
  obtain ⟨t'', p'', s''⟩ := hv
  refine ⟨_, ps_dput hu p p' p'' hs, fun Fr B as σ H S M D rs rp h => ?_⟩
  refine s'' Fr B as σ H S M _ rs rp ((Post.fl rs h).imp fun d M1 B1 as1 s1 p1 h1 v H1 rp1 r1 => ?_)
  refine s Fr B1 as1 σ H1 S M1 _ (rs.mono s1 p1) rp1 ((Post.fl (rs.mono s1 p1) h1).imp fun x M2 B2 as2 s2 p2 h2 xv H2 rp2 r2 => ?_)
  have rs2 := (rs.mono s1 p1).mono s2 p2
  refine s' Fr B2 as2 σ H2 S M2 _ rs2 rp2 ((Post.fl rs2 h2).imp fun y M3 B3 as3 s3 p3 h3 yv H3 rp3 r3 => ?_)
  have rd := r1.mono s2 p2 |>.mono s3 p3
  have rx := r2.mono s3 p3
  have h9 := h3.bnd
  clear h3
  unfold putE at h9
  cases rx <;> first | (cases toK y <;> exact h9.elim) | skip
  rename_i n a ha
  cases qk : toK y with
  | none => simp only [qk] at h9; exact h9.elim
  | some k =>
    simp only [qk] at h9
    cases q : M3[n]? with
    | none => simp only [q] at h9; exact h9.elim
    | some cc =>
      obtain ⟨t, l⟩ := cc
      simp only [q] at h9
      obtain ⟨vs, mc, rsc⟩ := rp3.cell n a _ ha q
      cases t <;> first | exact h9.elim | skip
      rename_i ks
      dsimp only at h9
      by_cases hc : ks.length < sizeLine ∧ ks.length = l.length
      · rw [if_pos hc] at h9
        obtain ⟨mh, ml⟩ := mc
        have rk := (rsc.rk ml).put (k := k) rd
        have := r3.toK qk
        subst this
        refine ⟨a, _, rfl, DPut.k (k := k) mh (by rw [List.length_zip]; omega), ?_⟩
        obtain ⟨z1, z2⟩ := rk.dct
        refine (Post.ok h9).ret σ _ (rp3.write (t := .dct _) (vs := (putK (ks.zip vs) k v).map (·.2)) ha ?_ rk.vals) (rs2.mono s3 p3)
        exact ⟨by rw [upd_same, z1], z2⟩
      · rw [if_neg hc] at h9; exact h9.elim
/-! ### {} and {k: v, ..} -/
theorem dn_dnew : DN X W (.Dict [] [] pos) (fun _ => Ev.ret (.n (.dct []) [])) := ⟨_, pe_dnewK, fun Fr B as σ H S M Q rs rp h z hz => h.ret [] H z rp .nil hz⟩
theorem kX_frame {Fr : Hp} {σ : St} {z : Addr} {o : HO} (hF : Fr z = none) {c : Str} {d : D} {M : Store} {B : Hp} {as : List Addr} (h : kX X Fr W σ c d M B as) : kX X (upd Fr z o) W σ c d M B as := fun cls dx H rp xr => h cls dx H (rp.outFrame hF) xr
theorem Post.frame {α : Type} {Fr B : Hp} {as : List Addr} {σ : St} {z : Addr} {o : HO} {m : Out α} {k : α → Store → Hp → List Addr → Prop} (hF : Fr z = none) (h : Post B as m k (kX X Fr W σ)) : Post B as m k (kX X (upd Fr z o) W σ) := by
  cases m with
  | ok a M => exact h
  | exc c d M => exact fun B2 as2 e2 p2 => kX_frame hF (h B2 as2 e2 p2)
  | stuck => exact h
/-- the pairs of a display -/
def DPs (X : Cx) (W : WX) (pos : Pos) (ks : List (Option Expr)) (vs : List Expr) (f : Lo → Ev (List (Key × D))) : Prop := ∃ trs, PPs X pos ks vs trs ∧ ∀ Fr B as σ H S M (Q : List (V × V) → Hp → Prop), RS (gx X) B as σ S → Rep (gx X) Fr B as H M →
  Post B as (f S M) (fun kd M B as => ∀ kv H, Rep (gx X) Fr B as H M → RK (gx X) B as kv kd → Q (kv.map fun p => (kV p.1, p.2)) H) (kX X Fr W σ) → tPairs trs σ H Q
def pNil : Lo → Ev (List (Key × D)) := fun _ => Ev.ret []
def pCons (fk fv : Lo → Ev D) (fr : Lo → Ev (List (Key × D))) : Lo → Ev (List (Key × D)) := fun S => (fk S).bnd fun x => (fv S).bnd fun y => (fr S).bnd fun r => match toK x with
  | some k => Ev.ret ((k, y) :: r)
  | none => Ev.no
theorem dps_nil : DPs X W pos [] [] pNil := ⟨[], pps_nil, fun _ _ _ _ H _ _ _ _ rp h => h.ret [] H rp .nil⟩
theorem dps_cons {kx vx : Expr} {ks : List (Option Expr)} {vs : List Expr} {fk fv : Lo → Ev D} {fr : Lo → Ev (List (Key × D))} (hk : DE X W kx fk) (hv : DE X W vx fv) (hr : DPs X W pos ks vs fr) : DPs X W pos (some kx :: ks) (vx :: vs) (pCons fk fv fr) := by
  obtain ⟨t, p, s⟩ := hk
  obtain ⟨t', p', s'⟩ := hv
  obtain ⟨ts, ps, ss⟩ := hr
  refine ⟨(t, t') :: ts, pps_cons p p' ps, fun Fr B as σ H S M Q rs rp h => ?_⟩
  refine s Fr B as σ H S M _ rs rp (h.bnd.imp fun x M1 B1 as1 s1 p1 h1 v H1 rp1 r1 => ?_)
  refine s' Fr B1 as1 σ H1 S M1 _ (rs.mono s1 p1) rp1 (h1.bnd.imp fun y M2 B2 as2 s2 p2 h2 w H2 rp2 r2 => ?_)
  refine ss Fr B2 as2 σ H2 S M2 _ ((rs.mono s1 p1).mono s2 p2) rp2 (h2.bnd.imp fun kd M3 B3 as3 s3 p3 h3 kv H3 rp3 r3 => ?_)
  cases qk : toK x with
  | none => rw [qk] at h3; exact h3.elim
  | some k =>
    rw [qk] at h3
    have := r1.toK qk
    subst this
    exact h3.ret ((k, w) :: kv) H3 rp3 (.cons (r2.mono s3 p3) r3)
def pMrg (kd : List (Key × D)) : List (Key × D) := kd.foldl (fun acc p => pk acc p.1 p.2) []
def nDisp (f : Lo → Ev (List (Key × D))) : Lo → Ev NR := fun S => (f S).bnd fun kd => if kd.length ≤ 15 then Ev.ret (.n (.dct ((pMrg kd).map (·.1))) ((pMrg kd).map (·.2))) else Ev.no
theorem dn_disp {keys : List (Option Expr)} {values : List Expr} {f : Lo → Ev (List (Key × D))} (h : DPs X W pos keys values f) (hall : keys.all (·.isSome) = true := by rfl) (hl : keys.length = values.length := by rfl) (h0 : keys ≠ [] := by simp) (h15 : keys.length ≤ 15 := by decide) : DN X W (.Dict keys values pos) (nDisp f) := by
  obtain ⟨trs, ps, ss⟩ := h
  refine ⟨_, pe_disp ps hall hl h0 h15, fun Fr B as σ H S M Q rs rp h z hz => ?_⟩
  obtain ⟨nb, na⟩ := rp.fresh hz
  have hF := rp.frm.free hz
  have rp0 := ((rp.laid (o := .dK []) hz).inFrame upd_same hF nb na)
  refine ss _ B as σ _ S M _ rs rp0 ?_
  have h1 := h.bnd
  -- the exception's wish does not speak of the frame's extra cell
  refine Post.frame (X := X) (W := W) hF (h1.imp fun kd M1 B1 as1 s1 p1 h2 kv H1 rp1 rk => ?_)
  by_cases c : kd.length ≤ 15
  · rw [if_pos c] at h2
    have hp : H1 z = some (.dK []) := rp1.frm z _ upd_same
    refine ⟨hp, kv, rfl, by rw [rk.len]; exact c, ?_⟩
    have rm := RK.merge rk (.nil : RK (gx X) B1 as1 [] [])
    have hB1 := rp1.dis z _ upd_same
    have rh : Rep (gx X) Fr B1 as1 (hole H1 z) M1 := (rp1.outFrame hF).hole hB1 hF (fun hz' => by
      have := rp1.fout z hz'
      rw [upd_same] at this; cases this) (.of (rp1.frm z _ upd_same) (by simp) (by simp))
    have q := h2.ret _ (hole H1 z) z rh rm.vals hole_at
    obtain ⟨z1, z2⟩ := rm.dct
    have e : upd (hole H1 z) z (hoT (.dct ((pMrg kd).map (·.1))) ((mergeK [] kv).map (·.2))) = upd H1 z (.dK (mergeK [] kv)) := by
      funext y
      by_cases hy : y = z
      · subst hy
        rw [upd_same, upd_same]
        show some (HO.dK (((pMrg kd).map (·.1)).zip ((mergeK [] kv).map (·.2)))) = _
        unfold pMrg
        rw [z1]
      · rw [upd_ne hy, upd_ne hy, hole_ne hy]
    rw [e] at q
    exact q
  · rw [if_neg c] at h2; exact h2.elim
end
end DL

set_option Elab.async false
set_option linter.all false
set_option maxRecDepth 100000
set_option maxHeartbeats 4000000
/-! DL8T: sorted of a tuple. -/
namespace DL
open PySem PySem.Spec PyProof.Rows L2
variable [Tb]
section
variable {X : Cx}
/-- sorted(t) of a tuple of fewer than 64 numbers -/
theorem call_sortedT : CallR X (.builtin "sorted") (fun xs H Q => ∃ (a : Addr) (ks : List Int), xs = [.ref a] ∧ SqT X.K H a (ks.map V.int) ∧ ks.length < 64 ∧
    ∀ (ys : List Int) (p : Addr), ys.Perm ks → ys.Pairwise (· ≤ ·) → H p = none → Q (.ref p) (upd H p (.lst (ys.map V.int)))) := by
  intro pins s σ H xs us Q I r q
  obtain ⟨a, ks, ex, hd, h64, q⟩ := q
  subst ex
  obtain ⟨u, eu, rx⟩ := vals1 r
  subst eu
  cases rx
  obtain ⟨its, rv, ⟨o, ho, hc, n, hdt⟩, z⟩ := I.tuple hd
  have hS : IntsAre its ks := rv.ints
  have hal : its.length = ks.length := by rw [← rv.length, List.length_map]
  refine Calls.call_function_entry PyProof.Rows.kind_sorted PyProof.Rows.plain_sorted PyProof.Rows.entry_sorted (PyProof.Rows.args_sorted1 _) ?_
  unfold Builtin.«sorted»
  refine wpAny_bind (m := checkCount "sorted" 1 1 _) (wpAny_pure ?_)
  refine wpAny_bind (wpAny_collect_seq a (.inr rfl) ho hc hdt (fun h' hk => ?_) (by rw [List.size_toArray, hal, sizeLine_eq]; omega))
  rw [List.toList_toArray]
  have I1 : Inv X pins σ H { s with heap := h' } := I.kept (t' := s.toks) hk
  refine wpAny_bind (wpAny_newList ?_ (by rw [hal, sizeLine_eq]; omega))
  have hoL : (h'.push (seqObj "list" its.toArray 0)).get? h'.objs.size = some (seqObj "list" its.toArray 0) := Heap.get?_push_size _ rfl
  show wpAny _ _ _ _ _ { s with heap := h'.push (seqObj "list" its.toArray 0) }
  refine wpAny_bind (wpAny_holding (wpAny_call_entry PyProof.Rows.slot_list_sort ⟨_, hoL, rfl⟩ PyProof.Rows.entry_list_sort
    (PyProof.Rows.list_sort_tree (s := { s with heap := h'.push (seqObj "list" its.toArray 0) }) hoL hS (by rw [hal]; exact h64) fun out ys g1 g2 g3 => ⟨_, rfl, ?_⟩) (PyProof.Rows.args_list_sort _)))
  obtain ⟨e', he'⟩ := PyProof.Rows.sortedHeap_at (vs := its) (out := out) hoL
  have hlen : (ys.map V.int).length ≤ sizeLine := by
    rw [List.length_map, g2.length_eq]
    exact Nat.le_trans (Nat.le_of_lt h64) (by decide)
  refine wpAny_pure ⟨_, rfl, .ref h'.objs.size, upd H h'.objs.size (.lst (ys.map V.int)), I1.laid (t' := s.toks) (fun b u e => ?_) (Nat.le_refl _)
    (show ObjOk X.prog X.w _ _ _ (.lst (ys.map V.int)) from ⟨hlen, out.toList, e', vals_of_ints g1, by rw [Array.toArray_toList]; exact he'⟩), rfl, q ys _ g2 g3 (I1.hok.fresh (Nat.le_refl _))⟩
  have hb : b < h'.objs.size := Heap.lt_size e
  rw [PyProof.Rows.sortedHeap_old (Nat.ne_of_lt hb) (by rw [size_push']; exact Nat.lt_succ_of_lt hb)]
  exact Heap.get?_push_of_some _ e
end
end DL

set_option Elab.async false
set_option linter.all false
set_option maxRecDepth 100000
set_option maxHeartbeats 4000000
/-! DL9: dict comprehensions, update, sorted, truth, isinstance, parallel stores, short words, the end. -/
namespace DL
open PySem L2
variable [Tb]
section
variable {X : Cx} {W : WX} {e o a b c i : Expr} {pos p apos cpos : Pos} {x m f : Str}
/-! ### {k: v for ..} -/
noncomputable def compK (tg : D → Lo → Ev Lo) (tt : Lo → Ev Bool) (tk te : Lo → Ev D) (g : Gd) (S : Lo) : List D → List (Key × D) → Ev (List (Key × D))
  | [], kd => chk g (Ev.ret kd)
  | d :: ds, kd => chk g ((Ev.nox (tg d S)).bnd fun S1 => (Ev.nox (tt S1)).bnd fun b => if b = true then (Ev.nox (tk S1)).bnd fun x => (Ev.nox (te S1)).bnd fun y => (match toK x with
      | some k => if kd.length < sizeLine then compK tg tt tk te g S ds (pk kd k y) else Ev.no
      | none => Ev.no) else compK tg tt tk te g S ds kd)
noncomputable def nDc (fi : Lo → Ev (List D × Gd)) (tg : D → Lo → Ev Lo) (tt : Lo → Ev Bool) (tk te : Lo → Ev D) (vs : List Nat) : Lo → Ev NR := fun S => (fi S).bnd fun r => (compK tg tt tk te r.2 (wipeD S vs) r.1 []).bnd fun kd => Ev.ret (.n (.dct (kd.map (·.1))) (kd.map (·.2)))
theorem dn_dc {kx elt tg iter : Expr} {ifs : List Expr} {scope : Scope} {own : List (Str × Nat)} {ps : List Nat} {fi : Lo → Ev (List D × Gd)} {ft : D → Lo → Ev Lo} {fc : Lo → Ev Bool} {fk fe : Lo → Ev D} (hc : X.calm = true) (hN : X.N.Nodup) (hi : DI X W tg iter fi) (ok : BlkOk X.N X.env.scope scope own)
    (hg : ∀ (s : Shared) (H : Hp) (C : Addr) (cl : List (Str × Addr)) (fp : List Addr), DG (X.blk s H scope (compEnvC scope cl C X.env) fp) W0 tg ps ft)
    (ht : ∀ (s : Shared) (H : Hp) (C : Addr) (cl : List (Str × Addr)) (fp : List Addr), DTs (X.blk s H scope (compEnvC scope cl C X.env) fp) W0 ifs fc)
    (hk : ∀ (s : Shared) (H : Hp) (C : Addr) (cl : List (Str × Addr)) (fp : List Addr), DE (X.blk s H scope (compEnvC scope cl C X.env) fp) W0 kx fk)
    (he : ∀ (s : Shared) (H : Hp) (C : Addr) (cl : List (Str × Addr)) (fp : List Addr), DE (X.blk s H scope (compEnvC scope cl C X.env) fp) W0 elt fe)
    (hps : ∀ i ∈ ps, i ∈ own.map (·.2)) (hs : ∀ x, foldedSetIterable iter X.env x = pure x := by intro _; rfl) :
    DN X W (.DictComp kx elt [⟨tg, iter, ifs, 0⟩] scope pos) (nDc fi ft fc fk fe (own.map (·.2))) := by
  obtain ⟨wi, pi, si⟩ := hi
  refine ⟨_, pe_dc hc hN pi ok (g := tG X ps ft) (tt := tT X W0 fc) (tk := tE X W0 fk) (tv := tE X W0 fe) (fun s H C cl fp => (hg s H C cl fp).pg) (fun s H C cl fp => (ht s H C cl fp).pts) (fun s H C cl fp => (hk s H C cl fp).pe) (fun s H C cl fp => (he s H C cl fp).pe) hs, fun Fr B as σ H S M Q rs rp h => ?_⟩
  refine si Fr B as σ H S M _ rs rp (h.bnd.imp fun r M1 B1 as1 s1 p1 h1 J H1 rp1 io p hp => ?_)
  obtain ⟨items, g⟩ := r
  dsimp only at h1 io
  have hole0 : hole (upd H1 p (.dK [])) p = H1 := by
    funext b
    by_cases hb : b = p
    · subst hb; rw [hole_at, hp]
    · rw [hole_ne hb, upd_ne hb]
  refine ⟨fun i m H => m = items.length - i ∧ i ≤ items.length ∧ ∃ B' as' M' kd kv, Same B1 B' ∧ as1 <+: as' ∧ H p = some (.dK kv) ∧ Rep (gx X) Fr B' as' (hole H p) M' ∧ RK (gx X) B' as' kv kd ∧
      Post B' as' (((compK ft fc fk fe g (wipeD S (own.map (·.2))) (items.drop i) kd).bnd fun kd => Ev.ret (NR.n (.dct (kd.map (·.1))) (kd.map (·.2)))) M') (kN X Fr Q) (kX X Fr W σ),
    ⟨items.length, by simp, Nat.zero_le _, B1, as1, M1, [], [], Same.refl _, List.prefix_refl _, upd_same, by rw [hole0]; exact rp1, .nil, h1⟩, ?_⟩
  rintro i m H ⟨rfl, hi, B2, as2, M2, kd, kv, s2, p2, hH, rp2, rk, h2⟩
  have hF : Fr p = none := rp2.frm.free hole_at
  obtain ⟨hB, hA⟩ := rp2.fresh (p := p) hole_at
  have full : Rep (gx X) (upd Fr p (.dK kv)) B2 as2 H M2 := by
    have q := (rp2.laid (o := .dK kv) hole_at)
    rw [upd_hole hH] at q
    exact q.inFrame hH hF hB hA
  by_cases hlt : i < items.length
  · rw [drop_cons hlt] at h2
    unfold compK at h2
    obtain ⟨hg2, h2⟩ := h2.bnd.chk
    obtain ⟨hgo, hy⟩ := io.go i items[i] (List.getElem?_eq_getElem hlt) _ B2 as2 H M2 s2 p2 full hg2
    refine .inr ⟨hgo, fun H' => ∃ B' as' M' kd kv, Same B1 B' ∧ as1 <+: as' ∧ H' p = some (.dK kv) ∧ Rep (gx X) Fr B' as' (hole H' p) M' ∧ RK (gx X) B' as' kv kd ∧
      Post B' as' (((compK ft fc fk fe g (wipeD S (own.map (·.2))) (items.drop (i + 1)) kd).bnd fun kd => Ev.ret (NR.n (.dct (kd.map (·.1))) (kd.map (·.2)))) M') (kN X Fr Q) (kX X Fr W σ), fun H' q => ⟨items.length - (i + 1), by omega, rfl, hlt, q⟩, fun x H' y => ?_⟩
    obtain ⟨B3, s3, rp3, r3⟩ := hy x H' y
    have h3 := h2.mono s3 (List.prefix_refl _)
    have rsW := ((rs.mono s1 p1).mono s2 p2).mono s3 (List.prefix_refl _) |>.wipe (own.map (·.2))
    refine ⟨_, B3, as2, _, M2, items[i], rsW, rp3, r3, (h3.bnd.nox (x' := fun _ _ _ _ _ => False)).imp fun S4 M4 B4 as4 s4 p4 h4 σ4 H4 rp4 rs4 ag l4 => ⟨wipe_agree (l4.trans (wipe_length _ _)) fun j hj => ag j fun z => hj (hps j z), ?_⟩⟩
    refine ⟨_, B4, as4, S4, M4, rs4, rp4, (h4.bnd.nox (x' := _)).imp fun bo M5 B5 as5 s5 p5 h5 H5 rp5 => ?_⟩
    have kp : ∀ {B' : Hp} {as' : List Addr} {H' : Hp} {M' : Store}, Rep (gx X) (upd Fr p (.dK kv)) B' as' H' M' → H' p = some (.dK kv) := fun q => q.frm p _ upd_same
    have hol : ∀ {B' : Hp} {as' : List Addr} {H' : Hp} {M' : Store}, Rep (gx X) (upd Fr p (.dK kv)) B' as' H' M' → Rep (gx X) Fr B' as' (hole H' p) M' := fun {B' as' H' M'} q => by
      refine (q.outFrame hF).hole (q.dis p _ upd_same) hF (fun hz => ?_) (.of (q.frm p _ upd_same) (by simp) (by simp))
      have := q.fout p hz
      rw [upd_same] at this; cases this
    cases bo with
    | false =>
      dsimp only
      rw [if_neg Bool.false_ne_true] at h5 ⊢
      exact ⟨B5, as5, M5, kd, kv, s2.trans (s3.trans (s4.trans s5)), p2.trans (p4.trans p5), kp rp5, hol rp5, rk.mono (s3.trans (s4.trans s5)) (p4.trans p5), h5.unbnd⟩
    | true =>
      dsimp only
      rw [if_pos rfl] at h5 ⊢
      refine ⟨_, B5, as5, S4, M5, rs4.mono s5 p5, rp5, (h5.bnd.nox (x' := _)).imp fun xd M6 B6 as6 s6 p6 h6 xv H6 rp6 r6 => ?_⟩
      refine ⟨_, B6, as6, S4, M6, (rs4.mono s5 p5).mono s6 p6, rp6, (h6.bnd.nox (x' := _)).imp fun yd M7 B7 as7 s7 p7 h7 yv H7 rp7 r7 => ?_⟩
      cases qk : toK xd with
      | none => rw [qk] at h7; exact h7.elim
      | some k =>
        rw [qk] at h7
        dsimp only at h7
        by_cases hz : kd.length < sizeLine
        · rw [if_pos hz] at h7
          have := r6.toK qk
          subst this
          have rk7 := rk.mono (s3.trans (s4.trans (s5.trans (s6.trans s7)))) (p4.trans (p5.trans (p6.trans p7)))
          exact ⟨kv, k, rfl, kp rp7, by rw [rk.len]; exact hz, B7, as7, M7, pk kd k yd, putK kv k yv, s2.trans (s3.trans (s4.trans (s5.trans (s6.trans s7)))), p2.trans (p4.trans (p5.trans (p6.trans p7))), upd_same, by rw [hole_upd]; exact hol rp7, rk7.put r7, h7.unbnd⟩
        · rw [if_neg hz] at h7; exact h7.elim
  · have e : i = items.length := by omega
    subst e
    rw [List.drop_length] at h2
    unfold compK at h2
    obtain ⟨hg2, h2⟩ := h2.bnd.chk
    have h3 := h2.ret
    refine .inl ⟨io.stop _ B2 as2 H M2 s2 p2 full hg2, ?_⟩
    have := h3.ret (kv.map (·.2)) (hole H p) p rp2 rk.vals hole_at
    have e2 : upd (hole H p) p (hoT (.dct (kd.map (·.1))) (kv.map (·.2))) = H := by
      show upd (hole H p) p (HO.dK ((kd.map (·.1)).zip (kv.map (·.2)))) = H
      rw [rk.dct.1]
      exact upd_hole hH
    rw [e2] at this
    exact this
/-! ### d.update(d2) -/
def rUpdate : V → List V → Hp → VK → Prop := fun x vs H Q => ∃ d o kvs more, x = .ref d ∧ vs = [.ref o] ∧ d ≠ o ∧ H d = some (.dK kvs) ∧ H o = some (.dK more) ∧ kvs.length + more.length ≤ sizeLine ∧ Q .non (upd H d (.dK (mergeK kvs more)))
theorem mt_update : MtM X "dict.update" rUpdate := by
  intro pins s σ H x vs v us Q I rx rv h
  obtain ⟨d, o, kvs, more, rfl, rfl, hne, hd, ho, hz, q⟩ := h
  cases rx
  obtain ⟨u, rfl, ru⟩ := rv.one
  cases ru
  obtain ⟨z, hs, ws, rel, dd⟩ := dk_of I.hok hd
  obtain ⟨z2, hs2, ws2, rel2, dd2⟩ := dk_of I.hok ho
  refine PySem.call_meetsIn PySem.F.slot_dict_update dd.typeIs PySem.F.entry_dict_update (PySem.F.args_dict_update_2 _ _) (PySem.meets_dict_update (mixKind X.prog X.w) d o hne hs2) ⟨ws, ws2, dd, dd2, ?_, fun h' dd' _ hsb => ?_⟩
  · rw [← rel.length, ← rel2.length]; exact hz
  · have he : ∃ q, h'.get? d = some q := let ⟨q, _, _, hq, _⟩ := dd'; ⟨q, hq⟩
    have hl : (mergeK kvs more).length ≤ sizeLine := Nat.le_trans (length_mergeK more kvs) hz
    exact ⟨.non, _, d_write (t' := s.toks) I (by rw [hd]; exact True.intro) hsb he (dk_new hl hs (rel2.merge rel) dd'), rfl, q⟩
def isCellK : D → Ev Unit
  | .ref n => fun M => match M[n]? with
    | some (.dct _, _) => .ok () M
    | _ => .stuck
  | _ => Ev.no
def notRef (n : Nat) : D → Bool
  | .ref m => decide (m ≠ n)
  | _ => true
def updE (x : D) (args : List D) : Ev D := match x, args with
  | .ref n, [y] => (vw y).bnd fun p => fun M => match M[n]?, p.1 with
    | some (.dct ks, l), .dct ks' => if notRef n y = true ∧ ks.length = l.length ∧ ks'.length = p.2.length ∧ ks.length + ks'.length ≤ sizeLine then
        .ok .non (M.set n (.dct (((ks'.zip p.2).foldl (fun acc q => pk acc q.1 q.2) (ks.zip l)).map (·.1)), ((ks'.zip p.2).foldl (fun acc q => pk acc q.1 q.2) (ks.zip l)).map (·.2))) else .stuck
    | _, _ => .stuck
  | _, _ => Ev.no
def eBk (op : D → List D → Ev D) (fo : Lo → Ev D) (fa : Lo → Ev (List D)) : Lo → Ev D := fun S => (fo S).bnd fun x => (isCellK x).bnd fun _ => (fa S).bnd fun l => op x l
theorem Post.isCellK {α : Type} {Fr B : Hp} {as : List Addr} {d : D} {f : Unit → Ev α} {M : Store} {H : Hp} {v : V} {k : α → Store → Hp → List Addr → Prop} {x : Str → D → Store → Hp → List Addr → Prop} (h : Post B as (((DL.isCellK d).bnd f) M) k x)
    (rp : Rep (gx X) Fr B as H M) (r : R (gx X) B as v d) : tyV X.K "dict" v H ∧ Post B as (f () M) k x := by
  cases r with
  | ref ha =>
    rename_i n a
    unfold Ev.bnd DL.isCellK at h
    cases q : M[n]? with
    | none => simp only [q] at h; exact h.elim
    | some c =>
      obtain ⟨t, l⟩ := c
      simp only [q] at h
      obtain ⟨vs, mc, rs⟩ := rp.cell n a _ ha q
      cases t <;> first | exact h.elim | skip
      exact ⟨.inr (.inr (.inl ⟨rfl, .inl ⟨_, mc.1⟩⟩)), h⟩
  | _ => exact h.elim
theorem de_update {fo : Lo → Ev D} {fa : Lo → Ev (List D)} (ho : DE X W o fo) (ha : DA X W [e] fa)
    (hbase : attributeBase o "update" X.env (eval o X.env) = eval o X.env := by rfl)
    (hfew : ((backTo cpos (starEach [e] X.env)).all (fun x => !x.1) && (backToKw cpos (keywordEach [] X.env)).all (fun x => x.1.isSome)
      && decide ([e].length + ([] : List Keyword).length + (if ([] : List Keyword).isEmpty then 0 else 1) < 30)) = true := by rfl)
    (hline : (apos.endLine == cpos.line) = true := by rfl) (hs : starEach [e] X.env = (false, eval e X.env) :: starEach [] X.env := by rfl) (hplain : (backTo cpos (starEach [] X.env)).any (·.1) = false := by rfl) :
    DE X W (.Call (.Attribute o "update" apos) [e] [] cpos) (eBk updE fo fa) := by
  obtain ⟨t, p, s⟩ := ho
  obtain ⟨t', p', s'⟩ := ha
  refine ⟨_, pe_bm PySem.F.plainAttrs_dict PySem.F.slot_dict_update PySem.F.type_dict_update mt_update p p' hbase hfew hline hs hplain, fun Fr B as σ H S M Q rs rp h => ?_⟩
  refine s Fr B as σ H S M _ rs rp (h.bnd.imp fun x M1 B1 as1 s1 p1 h1 v H1 rp1 r1 => ?_)
  obtain ⟨ty, h8⟩ := h1.isCellK rp1 r1
  clear h1
  refine ⟨ty, s' Fr B1 as1 σ H1 S M1 _ (rs.mono s1 p1) rp1 (h8.bnd.imp fun l M2 B2 as2 s2 p2 h2 vs H2 rp2 r2 => ?_)⟩
  have rx := r1.mono s2 p2
  unfold updE at h2
  cases rx <;> first | (cases l <;> exact h2.elim) | skip
  rename_i n a ha
  cases r2 with
  | nil => exact h2.elim
  | cons r rr =>
    cases rr with
    | cons _ _ => exact h2.elim
    | nil =>
      rename_i yv y
      dsimp only at h2
      obtain ⟨t, m, q, ws, rfl, fc, rs3, h9, c1, c2⟩ := Post.vw2 (d := y) h2 rp2 r
      dsimp only at h9
      cases qn : M2[n]? with
      | none => rw [qn] at h9; exact h9.elim
      | some cc =>
        obtain ⟨tt, l⟩ := cc
        rw [qn] at h9
        obtain ⟨vs, mc, rsc⟩ := rp2.cell n a _ ha qn
        cases tt <;> first | exact h9.elim | skip
        cases t <;> first | exact h9.elim | skip
        rename_i ks ks'
        dsimp only at h9
        by_cases hc : notRef n y = true ∧ ks.length = l.length ∧ ks'.length = m.length ∧ ks.length + ks'.length ≤ sizeLine
        · rw [if_pos hc] at h9
          obtain ⟨hn, l1, l2, hz⟩ := hc
          have hne : a ≠ q := by
            intro z
            subst z
            have fro : (∀ k, y ≠ .ref k) → False := fun hy => by
              have := (c2 hy).1
              rw [rp2.out a (List.mem_of_getElem? ha)] at this; cases this
            cases y with
            | ref k =>
              have : k ≠ n := of_decide_eq_true hn
              exact this (nodup_ixA rp2.nd (c1 k rfl).1 ha)
            | _ => exact fro fun k hk => by cases hk
          have rk := RK.merge (rs3.rk fc.2) (rsc.rk mc.2)
          obtain ⟨z1, z2⟩ := rk.dct
          refine ⟨a, q, _, _, rfl, rfl, hne, mc.1, fc.1, by rw [List.length_zip, List.length_zip]; have := mc.2; have := fc.2; omega, ?_⟩
          refine h9.ok _ _ (rp2.write (t := .dct _) ha ?_ rk.vals) .non
          exact ⟨by rw [upd_same, z1], z2⟩
        · rw [if_neg hc] at h9; exact h9.elim
/-! ### sorted -/
theorem sort_one {ns ms : List Int} (p : ms.Perm ns) (s : ms.Pairwise (· ≤ ·)) : ms = ns.mergeSort (fun a b => decide (a ≤ b)) := by
  refine List.Perm.eq_of_pairwise (le := (· ≤ ·)) (fun a b _ _ h1 h2 => Int.le_antisymm h1 h2) s ?_ (p.trans (List.mergeSort_perm ns _).symm)
  have := List.pairwise_mergeSort (le := fun a b : Int => decide (a ≤ b)) (fun a b c h1 h2 => by simp at *; omega) (fun a b => by simp; omega) ns
  exact this.imp fun h => by simpa using h
abbrev srt (ns : List Int) : List Int := ns.mergeSort (fun a b => decide (a ≤ b))
def intKeys : List Key → Option (List Int)
  | [] => some []
  | .inl i :: r => (intKeys r).map (i :: ·)
  | _ => none
theorem intKeys_eq : ∀ {ks : List Key} {ns : List Int}, intKeys ks = some ns → ks = ns.map Sum.inl
  | [], _, h => by cases h; rfl
  | .inl i :: r, _, h => by
    unfold intKeys at h
    cases q : intKeys r with
    | none => rw [q] at h; cases h
    | some ms => rw [q] at h; cases h; rw [intKeys_eq q]; rfl
  | .inr _ :: _, _, h => by cases h
theorem intKeys_map (ns : List Int) : intKeys (ns.map Sum.inl) = some ns := by
  induction ns with
  | nil => rfl
  | cons n l ih => simp [intKeys, ih]
def sortedN (x : D) : Ev NR := (vw x).bnd fun p => match p.1 with
  | .lst => match intsOf p.2 with
    | some ns => if ns.length < 64 then Ev.ret (.n .lst ((srt ns).map D.int)) else Ev.no
    | none => Ev.no
  | .tup => match intsOf p.2 with
    | some ns => if ns.length < 64 then Ev.ret (.n .lst ((srt ns).map D.int)) else Ev.no
    | none => Ev.no
  | .dct ks => match intKeys ks with
    | some ns => if ns.length < 64 ∧ ks.length = p.2.length then Ev.ret (.n .lst ((srt ns).map D.int)) else Ev.no
    | none => Ev.no
  | .fdct ks => match intKeys ks with
    | some ns => if ns.length < 64 ∧ ks.length = p.2.length then Ev.ret (.n .lst ((srt ns).map D.int)) else Ev.no
    | none => Ev.no
  | _ => Ev.no
theorem dn_sorted {fa : Lo → Ev (List D)} (hc : X.calm = true) (hg : Gl X "sorted") (hm : X.mg "sorted" = none) (ha : DA X W [e] fa) (he : starEach [e] X.env = (false, eval e X.env) :: starEach [] X.env := by rfl) : DN X W (.Call (.Name "sorted" p) [e] [] pos) (nCall (op1 sortedN) fa) :=
  dn_callB (((cr_sorted (X := X)).or (call_sortedDI hc)).or call_sortedT) (oNN1 fun Fr B as σ H M v d Q rp r h => by
    obtain ⟨t, l, p, vs, rfl, fc, rs, h, _⟩ := Post.vw (d := d) h rp r
    cases t <;> first | exact h.elim | skip
    · dsimp only at h
      cases q : intsOf l with
      | none => rw [q] at h; exact h.elim
      | some ns =>
        rw [q] at h
        dsimp only at h
        by_cases hz : ns.length < 64
        · rw [if_pos hz] at h
          rw [intsOf_eq q] at rs
          have e := rs.ints
          subst e
          refine Or.inl (Or.inl ⟨p, ns, rfl, SqL.of fc, hz, fun ns' z hp hs hz' => ?_⟩)
          rw [sort_one hp hs]
          exact h.ret _ H z rp (Rs.ofInts _) hz'
        · rw [if_neg hz] at h; exact h.elim
    · dsimp only at h
      cases q : intsOf l with
      | none => rw [q] at h; exact h.elim
      | some ns =>
        rw [q] at h
        dsimp only at h
        by_cases hz : ns.length < 64
        · rw [if_pos hz] at h
          rw [intsOf_eq q] at rs
          have e := rs.ints
          subst e
          refine Or.inr ⟨p, ns, rfl, fc, hz, fun ns' z hp hs hz' => ?_⟩
          rw [sort_one hp hs]
          exact h.ret _ H z rp (Rs.ofInts _) hz'
        · rw [if_neg hz] at h; exact h.elim
    all_goals
      rename_i ks _
      dsimp only at h
      cases q : intKeys ks with
      | none => rw [q] at h; exact h.elim
      | some ns =>
        rw [q] at h
        dsimp only at h
        by_cases hz : ns.length < 64 ∧ ks.length = l.length
        · rw [if_pos hz] at h
          refine Or.inl (Or.inr ⟨p, ks.zip vs, ns, rfl, (by first | exact Or.inl fc.1 | exact fc_rd fc), ?_, hz.1, fun ns' z hp hs hz' => ?_⟩)
          · rw [← intKeys_eq q]
            have := fc.2
            rw [List.map_fst_zip (by omega)]
          · rw [sort_one hp hs]
            exact h.ret _ H z rp (Rs.ofInts _) hz'
        · rw [if_neg hz] at h; exact h.elim) hg hm (by decide +kernel) ha (by decide) (by decide) he
/-! ### truth -/
def truE (x : D) : Ev Bool := match x with
  | .non => Ev.ret false
  | .bl b => Ev.ret b
  | .int i => Ev.ret (i != 0)
  | .str y => if y.length ≤ sizeLine then Ev.ret ((y.length : Int) != 0) else Ev.no
  | _ => (vw x).bnd fun p => match p.1 with
    | .lst => Ev.ret (!p.2.isEmpty)
    | .slst => Ev.ret (!p.2.isEmpty)
    | .tup => Ev.ret (!p.2.isEmpty)
    | .dct ks => if ks.length = p.2.length then Ev.ret (!p.2.isEmpty) else Ev.no
    | _ => Ev.no
def eTru (f : Lo → Ev D) : Lo → Ev Bool := fun S => (f S).bnd truE
theorem Rs.empty {G : Gx} {B : Hp} {as : List Addr} {vs : List V} {l : List D} (r : Rs G B as vs l) : vs.isEmpty = l.isEmpty := by cases r <;> rfl
theorem dt_truth {g : Lo → Ev D} (h : DE X W e g) (he : ∀ whole, isTrue e X.env whole = (do let v ← whole; standAt e.pos; holding [v] (truthy v)) := by intro _; rfl) : DT X W e (eTru g) := by
  obtain ⟨t, p, s⟩ := h
  refine ⟨_, pt_truth p he, fun Fr B as σ H S M Q rs rp h => ?_⟩
  refine s Fr B as σ H S M _ rs rp (h.bnd.imp fun x M1 B1 as1 s1 p1 h1 v H1 rp1 r1 => ?_)
  have gen : Post B1 as1 (((vw x).bnd fun p => match p.1 with
    | .lst => Ev.ret (!p.2.isEmpty)
    | .slst => Ev.ret (!p.2.isEmpty)
    | .tup => Ev.ret (!p.2.isEmpty)
    | .dct ks => if ks.length = p.2.length then Ev.ret (!p.2.isEmpty) else Ev.no
    | _ => Ev.no) M1) (kB X Fr Q) (kX X Fr W σ) → ∃ k, TruV X.K v H1 k ∧ Q k H1 := fun h1 => by
    obtain ⟨t, l, q, vs, rfl, fc, rs2, h9, _⟩ := Post.vw (d := x) h1 rp1 r1
    cases t <;> first | exact h9.elim | skip
    · exact ⟨_, .inl ⟨vs, SqL.of fc, by rw [rs2.empty]⟩, h9.ret H1 rp1⟩
    · exact ⟨_, .inl ⟨vs, fc, by rw [rs2.empty]⟩, h9.ret H1 rp1⟩
    · exact ⟨_, .inr (.inl ⟨vs, fc, by rw [rs2.empty]⟩), h9.ret H1 rp1⟩
    · rename_i ks _
      dsimp only at h9
      by_cases hc : ks.length = l.length
      · rw [if_pos hc] at h9
        refine ⟨_, .inr (.inr ⟨_, fc.1, ?_⟩), h9.ret H1 rp1⟩
        have h2 := fc.2
        cases rs2 with
        | nil => cases ks <;> first | rfl | (simp at h2)
        | cons _ _ => cases ks <;> first | rfl | (simp at h2)
      · rw [if_neg hc] at h9; exact h9.elim
  cases r1 with
  | non => exact ⟨false, rfl, h1.ret H1 rp1⟩
  | bl b => exact ⟨b, rfl, h1.ret H1 rp1⟩
  | int i => exact ⟨_, rfl, h1.ret H1 rp1⟩
  | str y =>
    have h1 : Post B1 as1 ((if y.length ≤ sizeLine then Ev.ret ((y.length : Int) != 0) else Ev.no) M1) (kB X Fr Q) (kX X Fr W σ) := h1
    by_cases hc : y.length ≤ sizeLine
    · rw [if_pos hc] at h1; exact ⟨_, ⟨hc, rfl⟩, h1.ret H1 rp1⟩
    · rw [if_neg hc] at h1; exact h1.elim
  | ty n => exact h1.elim
  | gl h => exact h1.elim
  | ref h => exact gen h1
  | nd a b => exact gen h1
/-! ### isinstance of data, built-in classes -/
def tyS : Tg → Option String
  | .lst => some "list"
  | .slst => some "list"
  | .tup => some "tuple"
  | .dct _ => some "dict"
  | .fdct _ => some "dict"
  | _ => none
def tyN (x : D) : Ev String := match x with
  | .non => Ev.ret "NoneType"
  | .bl _ => Ev.ret "bool"
  | .int _ => Ev.ret "int"
  | .str _ => Ev.ret "str"
  | _ => (vw x).bnd fun p => optE (tyS p.1)
def isiB (t T : String) : Option Bool := kitB t T
def isiE (x y : D) : Ev D := (tyN x).bnd fun t => match y with
  | .ty T => (optE (isiB t T)).bnd fun b => Ev.ret (.bl b)
  | _ => Ev.no
def tysOf : List D → Option (List String)
  | [] => some []
  | .ty n :: l => (tysOf l).map (n :: ·)
  | _ => none
def isiA (t : String) : List String → Option Bool
  | [] => some false
  | T :: Ts => match isiB t T with
    | some true => some true
    | some false => isiA t Ts
    | none => none
def isiTE (x y : D) : Ev D := (tyN x).bnd fun t => (vw y).bnd fun p => match p.1, tysOf p.2 with
  | .tup, some Ts => (optE (isiA t Ts)).bnd fun b => Ev.ret (.bl b)
  | _, _ => Ev.no
theorem Post.tyN {α : Type} {Fr B : Hp} {as : List Addr} {d : D} {g : String → Ev α} {M : Store} {H : Hp} {v : V} {k : α → Store → Hp → List Addr → Prop} {x : Str → D → Store → Hp → List Addr → Prop} (h : Post B as (((DL.tyN d).bnd g) M) k x)
    (rp : Rep (gx X) Fr B as H M) (r : R (gx X) B as v d) : ∃ t, TyX X.K H v (.type t) ∧ Post B as (g t M) k x := by
  have gen : Post B as ((((DL.vw d).bnd fun p => optE (tyS p.1)).bnd g) M) k x → ∃ t, TyX X.K H v (.type t) ∧ Post B as (g t M) k x := fun h => by
    rw [bnd_bnd] at h
    obtain ⟨t, l, q, vs, rfl, fc, rs2, h9, _⟩ := Post.vw (d := d) h rp r
    cases t with
    | lst => exact ⟨"list", .base (.lst fc), h9⟩
    | slst =>
      refine ⟨"list", ?_, h9⟩
      rcases fc with (fc | ⟨o, fc⟩) | ⟨o, its, n, e, c, _⟩
      · exact .base (.lst fc)
      · exact .base (.frz fc)
      · exact .kList e c
    | tup =>
      refine ⟨"tuple", ?_, h9⟩
      rcases fc with (fc | ⟨o, fc⟩) | ⟨o, its, n, e, c, _⟩
      · exact .base (.tup fc)
      · exact .fTuple fc
      · exact .kTuple e c
    | dct ks => exact ⟨"dict", .base (.dK fc.1), h9⟩
    | fdct ks => obtain ⟨o, q⟩ := fc.1; exact ⟨"dict", .fDict q, h9⟩
    | obj c ns => exact h9.elim
    | fn k => exact h9.elim
    | iset => exact h9.elim
  cases r with
  | non => exact ⟨_, .base .non, h⟩
  | bl b => exact ⟨_, .base (.bl b), h⟩
  | int i => exact ⟨_, .base (.int i), h⟩
  | str y => exact ⟨_, .base (.str y), h⟩
  | ty n => exact h.elim
  | gl _ => exact h.elim
  | ref _ => exact gen h
  | nd _ _ => exact gen h
theorem tysOf_ok {G : Gx} {B : Hp} {as : List Addr} : ∀ {l : List D} {vs : List V} {Ts : List String}, Rs G B as vs l → tysOf l = some Ts → vs = Ts.map V.ty
  | [], _, _, .nil, h => by cases h; rfl
  | .ty n :: l, _, _, .cons r t, h => by
    unfold tysOf at h
    cases q : tysOf l with
    | none => rw [q] at h; cases h
    | some ms => rw [q] at h; cases h; cases r; rw [tysOf_ok t q]; rfl
  | .non :: _, _, _, _, h | .bl _ :: _, _, _, _, h | .int _ :: _, _, _, _, h | .str _ :: _, _, _, _, h | .gl _ :: _, _, _, _, h | .ref _ :: _, _, _, _, h | .nd _ _ :: _, _, _, _, h => by cases h
theorem isiA_ok {K : PySem.W.Frag} {t : String} : ∀ {Ts : List String} {b : Bool}, isiA t Ts = some b → PySem.W.kitAny K (.type t) (Ts.map Value.type) = some b
  | [], _, h => by cases h; rfl
  | T :: Ts, b, h => by
    unfold isiA at h
    cases q : isiB t T with
    | none => rw [q] at h; cases h
    | some c =>
      rw [q] at h
      cases c with
      | true => cases h; exact kitAny_cons (kit_ty q) (fun z => by cases z) (fun _ => rfl)
      | false => exact kitAny_cons (kit_ty q) (fun _ => isiA_ok h) (fun z => by cases z)
/-- isinstance(x, T), T a tuple of classes, however it stands -/
def rIsiS (K : PySem.W.Frag) : List V → Hp → VK → Prop := fun xs H Q => ∃ (x : V) (tp : Addr) (Ts : List String) (t : Value) (b : Bool), xs = [x, .ref tp] ∧ SqT K H tp (Ts.map V.ty) ∧ TyX K H x t ∧ PySem.W.kitAny K t (Ts.map Value.type) = some b ∧ Q (.bl b) H
theorem vals_ty : ∀ {Ts : List String} {us : List Value}, Vals (Ts.map V.ty) us → us = Ts.map Value.type
  | [], _, .nil => rfl
  | T :: Ts, _, .cons r t => by
    rw [vals_ty t, List.map_cons]
    have : _ = Value.type T := r
    rw [this]
theorem call_isiS : CallR X (.builtin "isinstance") (rIsiS X.K) := by
  intro pins s σ H xs us Q I r h
  obtain ⟨x, tp, Ts, t, b, rfl, hT, ty, e, q⟩ := h
  obtain ⟨u1, u2, rfl, r1, r2⟩ := vals2 r
  cases (show u2 = Value.ref tp from r2)
  obtain ⟨P, Z, p, hx⟩ := kit_of I r1 ty
  obtain ⟨its, rv, ⟨o, h1, h2, n, h3⟩, _⟩ := I.tuple hT
  have e3 := vals_ty rv
  subst e3
  obtain ⟨oc, od, dt, sl⟩ := o
  simp only at h2 h3
  subst h2 h3
  exact PySem.W.kia_tup Z I.kIn p h1 e hx fun tk => ⟨.bl b, H, I.tok tk, rfl, q⟩
variable {fa : Lo → Ev (List D)}
theorem de_isi (hg : Gl X "isinstance") (hm : X.mg "isinstance" = none) (ha : DA X W [a, b] fa) (he : starEach [a, b] X.env = (false, eval a X.env) :: starEach [b] X.env := by rfl) (hpl : (backTo pos (starEach [b] X.env)).any (·.1) = false := by rfl) : DE X W (.Call (.Name "isinstance" p) [a, b] [] pos) (eCall (op2 isiE) fa) :=
  de_callB call_isi (oN2 fun Fr B as σ H M v w d e Q rp r1 r2 h => by
    obtain ⟨t, ty, h9⟩ := Post.tyN (d := d) h rp r1
    clear h
    cases r2 <;> first | exact h9.elim | skip
    rename_i T
    dsimp only at h9
    cases q : isiB t T with
    | none => rw [q] at h9; exact h9.elim
    | some b => rw [q] at h9; exact ⟨v, _, _, _, b, rfl, .ty T, ty, kit_ty q, (Post.ret (a := D.bl b) h9) _ H rp (.bl b)⟩) hg hm (by decide +kernel) ha (by decide) (by decide) he hpl
theorem de_isiT (hg : Gl X "isinstance") (hm : X.mg "isinstance" = none) (ha : DA X W [a, b] fa) (he : starEach [a, b] X.env = (false, eval a X.env) :: starEach [b] X.env := by rfl) (hpl : (backTo pos (starEach [b] X.env)).any (·.1) = false := by rfl) : DE X W (.Call (.Name "isinstance" p) [a, b] [] pos) (eCall (op2 isiTE) fa) :=
  de_callB call_isiS (oN2 fun Fr B as σ H M v w d e Q rp r1 r2 h => by
    obtain ⟨t, ty, h⟩ := Post.tyN (d := d) h rp r1
    obtain ⟨tt, l, p, vs, rfl, fc, rs, h, _⟩ := Post.vw (d := e) h rp r2
    cases tt <;> first | exact h.elim | skip
    dsimp only at h
    cases q : tysOf l with
    | none => rw [q] at h; exact h.elim
    | some Ts =>
      rw [q] at h
      dsimp only at h
      cases q2 : isiA t Ts with
      | none => rw [q2] at h; exact h.elim
      | some b =>
        rw [q2] at h
        have := tysOf_ok rs q
        subst this
        exact ⟨v, p, Ts, _, b, rfl, fc, ty, isiA_ok q2, (Post.ret (a := D.bl b) h) _ H rp (.bl b)⟩) hg hm (by decide +kernel) ha (by decide) (by decide) he hpl
/-! ### a, b = x, y (two local names); y = [..] -/
def sPar (i j : Nat) (fa : Lo → Ev (List D)) : Lo → Ev Fl := fun S => Ev.flG (fa S) S fun l => match l with
  | [x, y] => Ev.ret (.nx ((S.set i (some x)).set j (some y)))
  | _ => Ev.no
theorem ds_par {ii jj : Nat} {y : Str} {px py pt : Pos} {kt k2 pt2} (hc : X.calm = true) (hN : X.N.Nodup) (hi : X.N[ii]? = some x) (hj : X.N[jj]? = some y) (hij : ii ≠ jj)
    (hx : X.env.scope.names.lookup x = some .local) (hy : X.env.scope.names.lookup y = some .local) (ha : DA X W [a, b] fa)
    (hw : swappedStores [.Tuple [.Name x px, .Name y py] kt pt] (.Tuple [a, b] k2 pt2) X.env = pure (some [x, y]))
    (hs : swapsWithSole [.Tuple [.Name x px, .Name y py] kt pt] (.Tuple [a, b] k2 pt2) pos.line X.env = pure false := by rfl) :
    DS X W (.Assign [.Tuple [.Name x px, .Name y py] kt pt] (.Tuple [a, b] k2 pt2) pos) (sPar ii jj fa) := by
  obtain ⟨t, p, s⟩ := ha
  refine ⟨_, ps_par hc hN hi hj hij hx hy p hw hs, fun Fr B as σ H S M D rs rp h => ?_⟩
  refine s Fr B as σ H S M _ rs rp ((Post.flG rs h).imp fun l M1 B1 as1 s1 p1 h1 vs H1 rp1 r1 => ?_)
  cases r1 with
  | nil => exact h1.elim
  | cons r t =>
    cases t with
    | nil => exact h1.elim
    | cons r' t =>
      cases t with
      | cons _ _ => exact h1.elim
      | nil => exact ⟨_, _, rfl, h1.ret _ H1 rp1 (((rs.mono s1 p1).set r ii).set r' jj)⟩
end
end DL

set_option Elab.async false
set_option linter.all false
set_option maxRecDepth 100000
set_option maxHeartbeats 4000000
/-! DLA: short words for printed derivations, the law's own def, the end. -/
namespace DL
open PySem L2
variable [Tb]
section
variable {X : Cx} {W : WX} {e o a b c i : Expr} {pos p apos cpos : Pos} {x m f : Str}
theorem dv (i : Nat) (hN : X.N[i]? = some x := by rfl) (hv : Vis X.env.scope x := by first | exact Or.inl rfl | exact Or.inr (Or.inl rfl) | exact Or.inr (Or.inr rfl)) (hd : (x == ("__debug__" : Str)) = false := by decide) (hcd : (x == ("__classdict__" : Str)) = false := by decide) : DE X W (.Name x pos) (eVar i) := de_var hN hv hd hcd
theorem gn (i : Nat) (hN : X.N.Nodup) (hi : X.N[i]? = some x := by rfl) (hx : Loc X.env.scope x := by first | exact Or.inl rfl | exact Or.inr rfl) (hf : X.fn x = true ∨ X.env.scope.names.lookup x = some .local := by first | exact .inl rfl | exact .inr rfl) : DG X W (.Name x pos) [i] (gNm i) := dg_name hN hi hx hf
theorem st (i : Nat) {g : Lo → Ev D} {pos' : Pos} (hN : X.N.Nodup) (he : DE X W e g) (hi : X.N[i]? = some x := by rfl) (hx : Loc X.env.scope x := by first | exact Or.inl rfl | exact Or.inr rfl) (hs : swapsWith e (some (.Name x pos')) pos.line X.env = pure false := by rfl) (hf : X.fn x = true ∨ X.env.scope.names.lookup x = some .local := by first | exact .inl rfl | exact .inr rfl) :
    DS X W (.Assign [.Name x pos'] e pos) (sAsg g (gNm i)) := ds_set hN hi hx he hs hf
theorem rs_mem {l : List Nat} {ps : List Nat} (h : (ps.all fun i => decide (i ∈ l)) = true) : ∀ i ∈ ps, i ∈ l := fun i hi => of_decide_eq_true (List.all_eq_true.mp h i hi)
theorem de_append {fo : Lo → Ev D} {fa : Lo → Ev (List D)} (ho : DE X W o fo) (ha : DA X W [e] fa) (hbase : attributeBase o "append" X.env (eval o X.env) = eval o X.env := by rfl)
    (hfew : ((backTo cpos (starEach [e] X.env)).all (fun x => !x.1) && (backToKw cpos (keywordEach [] X.env)).all (fun x => x.1.isSome)
      && decide ([e].length + ([] : List Keyword).length + (if ([] : List Keyword).isEmpty then 0 else 1) < 30)) = true := by rfl)
    (hline : (apos.endLine == cpos.line) = true := by rfl) (hs : starEach [e] X.env = (false, eval e X.env) :: starEach [] X.env := by rfl) (hplain : (backTo cpos (starEach [] X.env)).any (·.1) = false := by rfl) :
    DE X W (.Call (.Attribute o "append" apos) [e] [] cpos) (eBm (cellM opAppend) fo fa) := de_bm PySem.F.slot_list_append PySem.F.type_list_append mt_append m_append ho ha hbase hfew hline hs hplain
theorem hp_of {P : Program} {w : World} {K : PySem.W.Frag} {mg : Str → Option Value} {base : Heap} {CX : CXT} {N : List Str} {qual : Str} {scope : Scope} {f : Addr} {cd : Value} {A : Around} {outer : List Env} {s : Shared} {H : Hp} {E : XK} :
    PassesOwn (model P w) (cxOf CX P w K mg base N qual scope f cd A outer s H E).A (cxOf CX P w K mg base N qual scope f cd A outer s H E).env (cxOf CX P w K mg base N qual scope f cd A outer s H E).xe := passes_of (X := cxOf CX P w K mg base N qual scope f cd A outer s H E) rfl
/-! ### the law's own def: nothing is let out -/
def spL (G : Gx) (n : Nat) (F : List D → Ev D) : Sp := fun vs H Q _ => ∃ Fr B as M l, Rep G Fr B as H M ∧ Rs G B as vs l ∧ l.length = n ∧
  Post B as (F l M) (fun d M' B' as' => ∀ v H', Rep G Fr B' as' H' M' → R G B' as' v d → Q v H') (fun _ _ _ _ _ => False)
/-- all but the tables -/
def noTb (H : Hp) : Hp := fun b => match H b with
  | some (.tbl _) => none
  | o => o
theorem noTb_at {H : Hp} {b : Addr} {o : HO} (h : H b = some o) (ho : ∀ ps, o ≠ .tbl ps) : noTb H b = some o := by
  unfold noTb
  rw [h]
  cases o <;> first | rfl | exact (ho _ rfl).elim
theorem noTb_sub {H : Hp} : Same (noTb H) H := fun b o e => by
  unfold noTb at e
  split at e
  · cases e
  · exact e
theorem noTb_no {H : Hp} : NoT (noTb H) := fun b ps e => by
  have h := noTb_sub b _ e
  unfold noTb at e
  rw [h] at e
  cases e
/-- the script -/
abbrev scr (ns : List Int) : D := .nd .slst (ns.map D.int)
theorem spL_script {K : PySem.W.Frag} {mg : Str → Option Value} {F : List D → Ev D} {H : Hp} {a : Addr} {ns : List Int} {M' : Store} (hS : SqL K H a (ns.map V.int)) (h : F [scr ns] [] = .ok (.bl true) M') (hT : LamX.Tabs (Tb.T K) H := by intro p hp; cases hp) : spL ⟨K, mg⟩ 1 F [.ref a] H (fun v _ => v = .bl true) (fun _ _ _ => False) := by
  obtain ⟨B, hB, hS', hn⟩ : ∃ B : Hp, Same B H ∧ SqL K B a (ns.map V.int) ∧ NoB B := by
    have one : ∀ o : HO, H a = some o → (∀ ps, o ≠ .tbl ps) → (∀ ob f, o ≠ .frz ob (.ext f)) → Same (L2.upd (fun _ => none) a o) H ∧ NoB (L2.upd (fun _ => none) a o) := fun o e h1 h2 => by
      have at_ : ∀ b u, L2.upd (fun _ => none) a o b = some u → b = a ∧ u = o := fun b u q => by
        by_cases hb : b = a
        · subst hb; rw [upd_same] at q; exact ⟨rfl, (Option.some.inj q).symm⟩
        · rw [upd_ne hb] at q; cases q
      exact ⟨fun b u q => by obtain ⟨rfl, rfl⟩ := at_ b u q; exact e, fun b ps q => h1 ps (at_ b _ q).2.symm, fun b ob f v q => (h2 ob f (at_ b _ q).2.symm).elim⟩
    rcases hS with (q | ⟨o, q⟩) | q
    · obtain ⟨z1, z2⟩ := one _ q (by simp) (by simp)
      exact ⟨_, z1, .inl (.inl upd_same), z2⟩
    · obtain ⟨z1, z2⟩ := one _ q (by simp) (by simp)
      exact ⟨_, z1, .inl (.inr ⟨o, upd_same⟩), z2⟩
    · exact ⟨fun _ => none, fun b u q => (nomatch q), .inr q, fun b ps q => (nomatch q), fun b ob f v q => nomatch q⟩
  refine ⟨fun _ => none, B, [], [], [scr ns], ⟨hB, (fun b o e => by cases e), (fun a ha => by cases ha), (fun a o e => by cases e), List.nodup_nil, (fun a ha => by cases ha), rfl, (fun n a c h1 _ => by simp at h1), hn, (fun b ps e => by cases e), hT⟩, .cons (.nd (t := .slst) hS' (Rs.ofInts ns)) .nil, rfl, ?_⟩
  rw [h]
  intro B' as' _ _ v H' _ r
  cases r
  rfl
end
end DL

set_option Elab.async false
set_option linter.all false
set_option maxRecDepth 100000
set_option maxHeartbeats 4000000
/-! DLB: zip, a list read backwards, insert, break and continue. -/
namespace DL
open PySem L2
variable [Tb]
section
variable {X : Cx} {W : WX} {e o a b c i : Expr} {pos p apos cpos : Pos} {x m f : Str}
/-! ### zip of two frozen lists -/
def zpD (l k : List D) : List D := l.zipWith (fun x y => .tup [x, y]) k
def zpE : D → D → Ev (List D × Gd)
  | .nd .lst l, .nd .lst k => Ev.ret (zpD l k, none)
  | _, _ => Ev.no
def iZp (f : Lo → Ev (List D)) : Lo → Ev (List D × Gd) := fun S => (f S).bnd (op2 zpE)
theorem zpD_len (l k : List D) : (zpD l k).length = min l.length k.length := by unfold zpD; simp
theorem zpD_get {l k : List D} {i : Nat} {d : D} (h : (zpD l k)[i]? = some d) : ∃ x y, l[i]? = some x ∧ k[i]? = some y ∧ d = .tup [x, y] := by
  unfold zpD at h
  rw [List.getElem?_zipWith] at h
  cases q1 : l[i]? with
  | none => rw [q1] at h; cases h
  | some x =>
    cases q2 : k[i]? with
    | none => rw [q1, q2] at h; cases h
    | some y => rw [q1, q2] at h; cases h; exact ⟨x, y, rfl, rfl, rfl⟩
theorem di_zip {e2 : Expr} {p tpos : Pos} {elts : List Expr} {kk : Nat} {f : Lo → Ev (List D)} (hg : Gl X "zip") (hm : X.mg "zip" = none) (ha : DA X W [e, e2] f)
    (hs : starEach [e, e2] X.env = (false, eval e X.env) :: starEach [e2] X.env := by rfl) (hpl : (backTo pos (starEach [e2] X.env)).any (·.1) = false := by rfl) :
    DI X W (.Tuple elts kk tpos) (.Call (.Name "zip" p) [e, e2] [] pos) (iZp f) := by
  obtain ⟨t, pa, s⟩ := ha
  refine ⟨_, pi_zip hg hm pa hs hpl, fun Fr B as σ H S M R' rs rp h => ?_⟩
  refine s Fr B as σ H S M _ rs rp (h.bnd.imp fun l M1 B1 as1 s1 p1 h1 vs H1 rp1 r1 => ?_)
  cases r1 with
  | nil => exact h1.elim
  | cons r t =>
    cases t with
    | nil => exact h1.elim
    | cons r' t =>
      cases t with
      | cons _ _ => exact h1.elim
      | nil =>
        cases r <;> first | exact h1.elim | skip
        rename_i tg q us l fc ru
        cases r' <;> first | (cases tg <;> exact h1.elim) | skip
        rename_i tg' q' us' l' fc' ru'
        cases tg <;> first | exact h1.elim | skip
        cases tg' <;> first | exact h1.elim | skip
        have h1 : Post B1 as1 (Ev.ret (zpD l l', none) M1) (fun r M' B' as' => ∀ J H', Rep (gx X) Fr B' as' H' M' → IterOk X B' as' J r.1 r.2 → R' J H') (kX X Fr W σ) := h1
        refine ⟨q, q', us, us', rfl, SqL.of (fc.sub rp1.sub), SqL.of (fc'.sub rp1.sub), h1.ret _ H1 rp1 ?_⟩
        refine ⟨fun Fr' B' as' H' M' e pr rp' g => ?_, fun i d' hd Fr' B' as' H' M' e pr rp' g => ?_⟩
        · refine ⟨us, us', SqL.of ((fc.mono e).sub rp'.sub), SqL.of ((fc'.mono e).sub rp'.sub), ?_⟩
          have := zpD_len l l'
          have e1 := ru.length
          have e2 := ru'.length
          show us.length ≤ (zpD l l').length ∨ us'.length ≤ (zpD l l').length
          omega
        · obtain ⟨x, y, hx, hy, rfl⟩ := zpD_get hd
          have s1 := SqL.of (K := X.K) ((fc.mono e).sub rp'.sub)
          have s2 := SqL.of (K := X.K) ((fc'.mono e).sub rp'.sub)
          obtain ⟨u, hu, rx⟩ := (ru.mono e pr).get hx
          obtain ⟨u', hu', ry⟩ := (ru'.mono e pr).get hy
          refine ⟨⟨us, us', u, u', s1, s2, hu, hu'⟩, fun z H'' yl => ?_⟩
          obtain ⟨T, z1, z2, rfl, hT, rfl, y1, y2⟩ := yl
          have e1 := y1 us s1
          have e2 := y2 us' s2
          rw [hu] at e1; cases e1
          rw [hu'] at e2; cases e2
          have nb := (rp'.fresh hT).1
          exact ⟨_, same_upd nb, rp'.froze hT, .nd (t := .tup) (SqT.of upd_same) (.cons (rx.mono (same_upd nb) (List.prefix_refl _)) (.cons (ry.mono (same_upd nb) (List.prefix_refl _)) .nil))⟩
/-! ### break, continue -/
/-! ### insert -/
theorem Rs.ins {G : Gx} {B : Hp} {as : List Addr} {vs : List V} {l : List D} {v : V} {d : D} (n : Nat) (r : Rs G B as vs l) (h : R G B as v d) : Rs G B as (vs.take n ++ [v] ++ vs.drop n) (l.take n ++ [d] ++ l.drop n) :=
  ((r.take n).app (Rs.one h)).app (r.drop n)
/-! ### xs[::-1] -/
theorem Rs.rev {G : Gx} {B : Hp} {as : List Addr} : ∀ {vs : List V} {l : List D}, Rs G B as vs l → Rs G B as vs.reverse l.reverse
  | _, _, .nil => .nil
  | _, _, .cons h r => by rw [List.reverse_cons, List.reverse_cons]; exact (Rs.rev r).app (Rs.one h)
end
end DL

set_option Elab.async false
set_option linter.all false
set_option maxRecDepth 100000
set_option maxHeartbeats 4000000
/-! DLC: len of an own object. -/
namespace DL
open PySem PySem.Spec PyProof.Rows L2
variable [Tb]
section
variable {X : Cx} {CX : CXT} {k : Nat} {f C : Addr} {fd : FuncData} {ps : List Str} {sp : Sp} {E : XK}
theorem call_lenOwn (c : Cls X.K C) (hm : Meth X.K C "__len__" f) (F : FnOk X.prog X.w X.K X.mg X.base CX k f fd ps sp) (hr : Room (k + 1) X.A) (hb : Binds X.K fd ps []) (hx : Passes CX X E) :
    CallR X (.builtin "len") (fun xs H Q => ∃ a dx fs, xs = [.ref a] ∧ H a = some (.ins C dx fs) ∧ sp [.ref a] H (fun v H2 => ∃ n : Nat, v = .int n ∧ (n : Int) < 2 ^ 63 ∧ Q (.int n) H2) E) := by
  intro pins s σ H xs us Q I r h
  obtain ⟨a, dx, fs, rfl, ea, hs⟩ := h
  obtain ⟨u, rfl, ru⟩ := vals1 r
  obtain rfl : u = Value.ref a := ru
  obtain ⟨mA, O, ro, _, _, _⟩ := ins_get I.hok ea
  have hl : [Value.ref a].length = ps.length := F.len _ _ _ _ hs
  refine Calls.call_function_entry kind_len plain_len entry_len (args_len1 _) ?_
  unfold Builtin.«len»
  refine wpAny_bind (m := oneArg "len" _) (wpAny_pure ?_)
  refine wpAny_bind (m := callSpecial? (.ref a) (PySem.Str.ofString "__len__")) ?_
  unfold callSpecial? specialOf
  have O2 : PySem.W.Looks (model X.prog X.w) s.heap (typeOf (.ref a)) (.ref C) := NwA.type_at O.obj rfl
  refine wpAny_bind (wpAny_bind (O2.here ((PySem.W.looks_findIn I.kIn hm.at_).here ?_)))
  refine wpAny_holding ?_
  refine wpAny_bind ((PySem.W.bind_fn I.kIn _ (by have := hm.fn; unfold PySem.W.isFn at this; exact eq_of_beq this)).here ?_)
  refine wpAny_bind (wpAny_call (codeAny_mono (F.run X.A.in1 X.stack s H ⟨[.ref a], []⟩ [.ref a] [.ref a] _ E hr.in1 I.env0.in1 (by have := hb s [.ref a] I.kIn (by simpa using hl); simpa using this) (.cons rfl .nil) hs) fun r s' hq => ?_))
  cases r with
  | error e => exact hx pins σ H s e s' I hq
  | ok fl =>
    cases fl with
    | next => exact False.elim hq
    | brk => exact False.elim hq
    | cont => exact False.elim hq
    | ret u =>
      obtain ⟨v, H2, I2, rv, n, rfl, hn, q⟩ := I.after hq
      obtain ⟨t, rfl⟩ := rv
      refine wpAny_pure ?_
      refine wpAny_bind (wpAny_holding (wpAny_pure ?_))
      refine wpAny_bind (wpAny_letGo ?_)
      show wpAny _ _ (if ((n : Nat) : Int) < 0 then _ else _) _ _ _
      rw [if_neg (by omega)]
      show wpAny _ _ (if ((n : Nat) : Int) ≥ 2 ^ 63 then _ else _) _ _ _
      rw [if_neg (by omega)]
      exact wpAny_bind (wpAny_mkInt (wpAny_pure ⟨_, rfl, .int n, H2, I2.tok _, ⟨_, rfl⟩, q⟩))
def LenI (n : Int) : Prop := 0 ≤ n ∧ n < 2 ^ 63
open Classical in
noncomputable def lenB (n : Int) : Bool := decide (LenI n)
theorem lenB_iff {n : Int} : lenB n = true ↔ 0 ≤ n ∧ n < 2 ^ 63 := by unfold lenB; exact @decide_eq_true_iff (LenI n) (Classical.propDecidable _)
noncomputable def lenK : D → Ev D
  | .int n => if lenB n = true then Ev.ret (.int n) else Ev.no
  | _ => Ev.no
noncomputable def lenO (cn : Str) (F : List D → Ev D) (x : D) : Ev D := (DL.isObj cn "__len__" x).bnd fun _ => (callD 1 F [x]).bnd lenK
theorem de_lenO {e : Expr} {p pos : Pos} {cn : Str} {F : List D → Ev D} {fa : Lo → Ev (List D)} {ps : List Str} (c : ClsD X cn C) (hm : Meth X.K C "__len__" f) (FO : FnOk X.prog X.w X.K X.mg X.base (CXX X) k f fd ps (spD (gx X) 1 F)) (hr : Room (k + 1) X.A) (hb : Binds X.K fd ps []) (hx : Passes (CXX X) X E)
    (hg : Gl X "len") (hmm : X.mg "len" = none) (ha : DA X (WF E) [e] fa) (he : starEach [e] X.env = (false, eval e X.env) :: starEach [] X.env := by rfl) : DE X (WF E) (.Call (.Name "len" p) [e] [] pos) (eCall (op1 (lenO cn F)) fa) :=
  de_callB (call_lenOwn c.cl hm FO hr hb hx) (oN1 fun Fr B as σ H M v d Q rp r h => by
    obtain ⟨a, dx, fs, rfl, hH, _, h⟩ := h.isObj c rp r
    refine ⟨a, dx, fs, rfl, hH, ?_⟩
    refine spD_of (W := WF E) (σ := σ) rp (.cons r .nil) (h.bnd.imp fun x M1 B1 as1 s1 p1 h1 v H1 rp1 r1 => ?_)
    cases x <;> first | exact h1.elim | skip
    rename_i n
    cases r1
    unfold lenK at h1
    dsimp only at h1
    by_cases hb : lenB n = true
    · rw [if_pos hb] at h1
      have hc := lenB_iff.mp hb
      obtain ⟨j, rfl⟩ := Int.eq_ofNat_of_zero_le hc.1
      exact ⟨j, rfl, hc.2, h1.ret _ H1 rp1 (.int _)⟩
    · rw [if_neg hb] at h1; exact h1.elim) hg hmm (by decide +kernel) ha (by decide) (by decide) he
end
end DL

set_option Elab.async false
set_option linter.all false
set_option maxRecDepth 100000
set_option maxHeartbeats 4000000
/-! DLD: int, objects made by positional arguments, defaults, own facts of the top. -/
namespace DL
open PySem L2
variable [Tb]
section
variable {X : Cx} {W : WX} {e o a b c i : Expr} {pos p apos cpos : Pos} {x m f : Str}
/-! ### int(x) -/
/-! ### a call whose defaults fill up -/
/-! ### C(..), positional -/
def eMakeP (cn : Str) (n : Nat) (dd : List D) (F : List D → Ev D) (f : Lo → Ev (List D)) : Lo → Ev D := fun S => (f S).bnd fun l => if l.length + dd.length + 1 = n then makeD cn F (fun d => d :: (l ++ dd)) else Ev.no
theorem de_makeP {E : XK} {cn : Str} {C : Addr} {k n : Nat} {fI : Addr} {fd : FuncData} {ps : List Str} {F : List D → Ev D} {es : List Expr} {g : Lo → Ev (List D)} {dvs : List V} {ds : List Value} {dd : List D} (c : ClsD X cn C) (Mk' : Mk X.K C fI) (FO : FnOk X.prog X.w X.K X.mg X.base (CXX X) k fI fd ps (spD (gx X) n F)) (hr : Room (k + 1) X.A) (hg : Gl X cn) (hb : Binds X.K fd ps ds) (hd : Vals dvs ds) (hdd : ∀ B as, Rs (gx X) B as dvs dd)
    (hx : Passes (CXX X) X E) (ha : DA X (WF E) (e :: es) g) (hdb : (cn == ("__debug__" : Str)) = false := by decide) (he : starEach (e :: es) X.env = (false, eval e X.env) :: starEach es X.env := by rfl) (hpl : (backTo pos (starEach es X.env)).any (·.1) = false := by rfl) :
    DE X (WF E) (.Call (.Name cn p) (e :: es) [] pos) (eMakeP cn n dd F g) := by
  obtain ⟨t, pa, s⟩ := ha
  refine ⟨_, pe_make Mk' FO hr hg c.mg hb hd hx pa hdb he hpl, fun Fr B as σ H S M Q rs rp h => ?_⟩
  refine s Fr B as σ H S M _ rs rp (h.bnd.imp fun l M1 B1 as1 s1 p1 h1 vs H1 rp1 r1 => ?_)
  by_cases hl : l.length + dd.length + 1 = n
  · rw [if_pos hl] at h1
    exact make_of (gV := fun v => v :: (vs ++ dvs)) (gD := fun d => d :: (l ++ dd)) c rp1 (fun d => by simp; omega) (fun B3 as3 v d e3 p3 r3 => .cons r3 ((r1.mono e3 p3).app (hdd B3 as3))) h1
  · rw [if_neg hl] at h1; exact h1.elim
end
end DL
/-! ### own facts of the top -/
namespace He
open PySem L2
structure SaysQ (fa : List Fa) (fn : List DefD) (ex : PySem.W.Frag → Bool) (K : PySem.W.Frag) : Prop where
  d : SaysD fa fn K
  ex : ex K = true
end He

set_option Elab.async false
set_option linter.all false
set_option maxRecDepth 100000
set_option maxHeartbeats 4000000
/-! DLE: len(set(xs)). -/
namespace DL
open PySem PySem.Spec PyProof.Rows L2
variable [Tb]
section
variable {X : Cx} {W : WX} {e o a b c i : Expr} {pos p p2 q apos cpos : Pos} {x m f : Str}
/-- the different numbers, in the order of their first places -/
def dd (ns : List Int) : List Int := PyProof.Rows.firstMet (fun i => ns.getD i 0) ns.length
def LsOk (n : Nat) : Prop := n ≤ 4000
instance (n : Nat) : Decidable (LsOk n) := by unfold LsOk; infer_instance
theorem intsAre_vals : ∀ {ns : List Int} {us : List Value}, Vals (ns.map V.int) us → PyProof.Rows.IntsAre us ns
  | [], _, .nil => .nil
  | n :: ns, _, .cons r t => by
    obtain ⟨k, rfl⟩ := r
    exact .cons n k (intsAre_vals t)
end
end DL

set_option Elab.async false
set_option linter.all false
set_option maxRecDepth 100000
set_option maxHeartbeats 6400000
/-! DP1: sorted(set(xs)). -/
namespace DL
open PySem PySem.Spec PyProof.Rows L2
variable [Tb]
section
variable {P : Program} {w : World} {A : Around} {E : Value → Shared → Prop} {z : Shared}
end

section
variable {X : Cx} {W : WX} {e a : Expr} {pos p p2 q : Pos}
end
end DL

set_option Elab.async false
set_option linter.all false
set_option maxRecDepth 100000
set_option maxHeartbeats 6400000
/-! DQ1: {e for t in xs if c}, for any kind of member that set.add can take; numbers. -/
namespace DL
open PySem PySem.Spec PyProof.Rows L2 PpSet
variable [Tb]
section
variable {Y : Cx} {κ : Type}
end
end DL

set_option Elab.async false
set_option linter.all false
set_option maxRecDepth 100000
set_option maxHeartbeats 6400000
/-! DQ2: set comprehensions of numbers as data: sorted({..}), len({..}), a set kept, x in a set. -/
namespace DL
open PySem PySem.Spec PyProof.Rows L2
variable [Tb]
/-- a heap that holds code-like things alone -/
theorem set_no_code {w : World} {D c : Addr} {S : Int → Bool} {n : Nat} {q : Str} : SetO w D S n ≠ LamX.CodeO c q := fun e => by
  unfold SetO LamX.CodeO at e
  injection e with e
  have e2 := congrFun e { objs := Array.replicate (c + 1) { cls := .none, data := .fields #[.none, .str q default] } }
  have g : ∀ a : Addr, a < c + 1 → Heap.get? { objs := Array.replicate (c + 1) { cls := .none, data := .fields #[.none, .str q default] } } a = some { cls := .none, data := .fields #[.none, .str q default] } := fun a ha => by
    unfold Heap.get?
    simp [ha]
  have r : (∃ (oc : Obj) (vs : Array Value) (t : Tok), Heap.get? { objs := Array.replicate (c + 1) { cls := .none, data := .fields #[.none, .str q default] } } c = some oc ∧ oc.data = .fields vs ∧ vs[1]? = some (.str q t)) := ⟨_, _, _, g c (Nat.lt_succ_self c), rfl, rfl⟩
  rw [← e2] at r
  obtain ⟨o, es, ep, t, ho, _, hd, _⟩ := r
  have lt : D < c + 1 := by
    have := Heap.lt_size ho
    simpa using this
  rw [g D lt] at ho
  cases ho
  cases hd
theorem Pln.set {w : World} {H : Hp} {a D : Addr} {S : Int → Bool} {n : Nat} (h : H a = some (SetO w D S n)) : Pln H a :=
  ⟨fun ps e => (by rw [h] at e; cases e), fun c q e => (by rw [h] at e; exact set_no_code (Option.some.inj e)), fun o f v e => (by rw [h] at e; cases e)⟩
section
variable {X : Cx} {W : WX}
/-- a new set -/
def kS (X : Cx) (Fr : Hp) (Q : VK) : List Int → Store → Hp → List Addr → Prop := fun l M B as => ∀ H p, Rep (gx X) Fr B as H M → H p = none → l.Nodup → Q (.ref p) (upd H p (SetO X.w p (fun i => decide (i ∈ l)) l.length))
end
end DL

set_option Elab.async false
set_option linter.all false
set_option maxRecDepth 100000
set_option maxHeartbeats 6400000
/-! DQ3: sorted({..}), len({..}), a set of numbers kept, x in it. -/
namespace DL
open PySem PySem.Spec PyProof.Rows L2
variable [Tb]
section
variable {X : Cx} {W : WX} {e a b elt tg iter : Expr} {ifs : List Expr} {scope : Scope} {own : List (Str × Nat)} {ps : List Nat} {fi : Lo → Ev (List D × Gd)} {ft : D → Lo → Ev Lo} {fc : Lo → Ev Bool} {fe : Lo → Ev D} {pos p spos : Pos}
structure Scp (X : Cx) (W : WX) (elt tg iter : Expr) (ifs : List Expr) (scope : Scope) (own : List (Str × Nat)) (f : Lo → Ev (List Int)) : Prop where
  pe : ∀ pos, ∃ t, PE X (.SetComp elt [⟨tg, iter, ifs, 0⟩] scope pos) t ∧ ∀ Fr B as σ H S M Q, RS (gx X) B as σ S → Rep (gx X) Fr B as H M → Post B as (f S M) (kS X Fr Q) (kX X Fr W σ) → t σ H Q
end
end DL

set_option Elab.async false
set_option linter.all false
set_option maxRecDepth 100000
set_option maxHeartbeats 4000000
/-! DS1: a dict compared with the empty dict. -/
namespace DL
open PySem PySem.Spec L2
variable [Tb]
section
variable {X : Cx} {W : WX} {a b : Expr} {fa fb : Lo → Ev D} {pos : Pos}
/-- len(d) -/
def lenDc (x : D) : Ev D := (vw x).bnd fun p => match p.1 with
  | .dct ks => if ks.length = p.2.length then Ev.ret (.int ks.length) else Ev.no
  | .fdct ks => if ks.length = p.2.length then Ev.ret (.int ks.length) else Ev.no
  | _ => Ev.no
theorem call_lenDc : CallR X (.builtin "len") (fun xs H Q => ∃ p kvs, xs = [.ref p] ∧ Rd H p (.dK kvs) ∧ Q (.int kvs.length) H) := by
  intro pins s σ H xs us Q I r h
  obtain ⟨p, kvs, rfl, hq, q⟩ := h
  obtain ⟨u, rfl, rx⟩ := vals1 r
  cases rx
  exact d_len I hq fun t s' I' => ⟨.int kvs.length, H, I', ⟨t, rfl⟩, q⟩
theorem o_lenDc : OpN X W (fun xs H Q => ∃ p kvs, xs = [.ref p] ∧ Rd H p (.dK kvs) ∧ Q (.int kvs.length) H) (op1 lenDc) := oN1 fun Fr B as σ H M v d Q rp r h => by
  obtain ⟨t, l, q, vs, rfl, fc, rs2, h9, _⟩ := Post.vw (d := d) h rp r
  dsimp only at h9
  split at h9
  · rename_i ks _
    split at h9
    · rename_i hl
      refine ⟨_, _, rfl, .inl fc.1, ?_⟩
      rw [List.length_zip, ← fc.2, Nat.min_self]
      exact (Post.ret (a := D.int ks.length) h9) _ H rp (.int _)
    · exact h9.elim
  · rename_i ks _
    split at h9
    · rename_i hl
      refine ⟨_, _, rfl, fc_rd fc, ?_⟩
      rw [List.length_zip, ← fc.2, Nat.min_self]
      exact (Post.ret (a := D.int ks.length) h9) _ H rp (.int _)
    · exact h9.elim
  · exact h9.elim
theorem de_lenDc {e : Expr} {p : Pos} {f : Lo → Ev (List D)} (hg : Gl X "len") (hm : X.mg "len" = none) (ha : DA X W [e] f) (he : starEach [e] X.env = (false, eval e X.env) :: starEach [] X.env := by rfl) : DE X W (.Call (.Name "len" p) [e] [] pos) (eCall (op1 lenDc) f) :=
  de_callB call_lenDc o_lenDc hg hm PySem.boot_len ha (by decide) (by decide) he
end
end DL

set_option Elab.async false
set_option linter.all false
set_option maxRecDepth 100000
set_option maxHeartbeats 4000000
/-! DV1: the observation of a large top without tables: what the names reach, each address once, told by a mask. -/
namespace He
open PySem L2
def newV (k : Nat → List Addr → List Addr) : Nat → List Addr → List Addr → List Addr
  | m, out, [] => k m out
  | m, out, a :: as => match Nat.testBit m a with
    | true => newV k m out as
    | false => newV k (m ||| (1 <<< a)) (a :: out) as
def lvV (g : Addr → Option Obj) : Nat → Nat → List Addr → List Addr
  | 0, _, fr => fr
  | n + 1, m, fr => fr ++ newV (fun m out => lvV g n m out) m [] (fr.flatMap fun a => match g a with
    | some o => refsD o
    | none => [])
def asV (g : Addr → Option Obj) (n : Nat) : List Addr := lvV g n (1 <<< mainGlobals) [mainGlobals] ++ [cStatics, sysModules]
def obsV (n : Nat) (fa : List Fa) (fn : List DefD) (ex : PySem.W.Frag → Bool) (g : Addr → Option Obj) : AlD × Bool := (obsD fa fn (frG g (asV g n)), ex (frG g (asV g n)))
def hookV (n : Nat) (fa : List Fa) (fn : List DefD) (ex : PySem.W.Frag → Bool) : PySem.W.Hook where
  α := AlD × Bool
  obs := fun s => obsV n fa fn ex s.heap.get?
  val := fun _ => (valD fn, true)
  says := fun _ h => ∃ K : PySem.W.Frag, K.In h ∧ SaysQ fa fn ex K
  of := fun _ _ e => ⟨_, frG_in, congrArg Prod.fst e, congrArg Prod.snd e⟩
  keeps := fun _ _ _ ⟨K, hK, c⟩ k => ⟨K, PySem.W.Frag.In.keeps hK k, c⟩
theorem obsV_eq {n : Nat} {fa : List Fa} {fn : List DefD} {ex : PySem.W.Frag → Bool} {g : Addr → Option Obj} {s : Shared} (h : ∀ a, g a = s.heap.get? a) : obsV n fa fn ex g = (hookV n fa fn ex).obs s := by
  have e : g = s.heap.get? := funext h
  rw [e] <;> rfl
end He

set_option Elab.async false
set_option linter.all false
set_option maxRecDepth 100000
set_option maxHeartbeats 4000000
/-! DLF: a dict is locked; walks over the items of a locked dict. -/
namespace DL
open PySem L2
variable [Tb]
section
variable {X : Cx} {W : WX} {e o a b c i : Expr} {pos p p2 q apos cpos : Pos} {x m f : Str}
def tLk (t : TE) : TE := fun σ H Q => t σ H fun v H1 => ∃ d u, v = .ref d ∧ H1 d = some u ∧ Mut (some u) ∧ ∀ od, Q v (upd H1 d (.frz od u))
theorem pe_lk {t : TE} (h : PE X e t) : PE X e (tLk t) := by
  refine ⟨fun pins s σ H Q I hw => ?_⟩
  refine thn (h.run pins s σ H _ I hw) fun v s1 ⟨x, H1, I1, r, d, u, e1, hd, mu, q⟩ => ?_
  obtain ⟨od, I2⟩ := I1.lock hd mu
  exact ⟨x, _, I2, r, q od⟩
/-- the own dict is locked from now on -/
def lkE : D → Ev D
  | .ref n => fun M => match M[n]? with
    | some (.dct ks, l) => .ok (.ref n) (M.set n (.fdct ks, l))
    | _ => .stuck
  | _ => Ev.no
theorem de_lk {f : Lo → Ev D} (h : DE X W e f) : DE X W e (e1 lkE f) := by
  obtain ⟨t, p, s⟩ := h
  refine ⟨_, pe_lk p, fun Fr B as σ H S M Q rs rp h => ?_⟩
  refine s Fr B as σ H S M _ rs rp (h.bnd.imp fun d M1 B1 as1 s1 p1 h1 v H1 rp1 r1 => ?_)
  cases r1 with
  | ref ha =>
    rename_i n a
    unfold lkE at h1
    dsimp only at h1
    cases hM : M1[n]? with
    | none => rw [hM] at h1; exact h1.elim
    | some c =>
      obtain ⟨t, l⟩ := c
      rw [hM] at h1
      cases t <;> first | exact h1.elim | skip
      rename_i ks
      obtain ⟨vs, mc, rv⟩ := rp1.cell n a _ ha hM
      refine ⟨a, _, rfl, mc.1, trivial, fun od => ?_⟩
      exact (Post.ok h1) _ _ (rp1.write (t := .fdct ks) ha ⟨⟨od, upd_same⟩, mc.2⟩ rv) (.ref ha)
  | _ => exact h1.elim
def kD' : Key → D
  | .inl i => .int i
  | .inr x => .str x
theorem R.key {G : Gx} {B : Hp} {as : List Addr} (k : Key) : R G B as (kV k) (kD' k) := by
  cases k with
  | inl i => exact .int i
  | inr x => exact .str x
end
end DL

set_option Elab.async false
set_option linter.all false
set_option maxRecDepth 100000
set_option maxHeartbeats 4000000
/-! DLZ: zip of three lists. -/
namespace DL
open PySem PySem.Spec PyProof.Rows L2
variable [Tb]
section
variable {X : Cx} {W : WX} {e o a b c i : Expr} {pos p apos cpos : Pos} {x m f : Str}
end
end DL

set_option Elab.async false
set_option linter.all false
set_option maxRecDepth 100000
set_option maxHeartbeats 4000000
/-! DLG: never, keywords of own defs, augmented stores, tuple(x), or of values, lists unpacked. -/
namespace L2
open PySem
section
variable {K : PySem.W.Frag} {x qual : Str} {params : Arguments} {body : List Stmt} {scope : Scope} {dvs : List V} {kws : List (Str × V)} {f : Addr} {fd : FuncData} {ps : List Str}
end
end L2
namespace DL
open PySem PySem.Spec PyProof.Rows L2
variable [Tb]
section
variable {X : Cx} {W : WX} {e o a b c i : Expr} {pos p apos cpos : Pos} {x m f : Str}
/-! ### x op= e -/
theorem ds_aug {op : Operator} {r : R2} {f : D → D → Ev D} {j : Nat} {y : Str} {g : Lo → Ev D} {pos' : Pos} (ho : OpR X (inplaceOp op) r) (hp : Op2 X W r f) (hN : X.N.Nodup) (he : DE X W e g) (hi : X.N[j]? = some y := by rfl) (hx : Loc X.env.scope y := by first | exact Or.inl rfl | exact Or.inr rfl)
    (hf : X.fn y = true ∨ X.env.scope.names.lookup y = some .local := by first | exact .inl rfl | exact .inr rfl | assumption) :
    DS X W (.AugAssign (.Name y pos') op e pos) (sAsg (e2 f (eVar j) g) (gNm j)) := by
  obtain ⟨t, pe, s⟩ := he
  refine ⟨_, ps_aug hN hi hx pe ho hf, fun Fr B as σ H S M D rs rp h => ?_⟩
  have h := Post.fl rs h
  unfold e2 at h
  have h := h.bnd
  unfold eVar at h
  cases q : S[j]? with
  | none => rw [q] at h; exact h.elim
  | some od =>
    cases od with
    | none => rw [q] at h; exact h.elim
    | some d0 =>
      rw [q] at h
      have h := h.ret
      obtain ⟨v0, hv0, r0⟩ := rs.at_ j d0 q
      refine ⟨v0, hv0, s Fr B as σ H S M _ rs rp (h.bnd.imp fun y M1 B1 as1 s1 p1 h1 u H1 rp1 r1 => ?_)⟩
      refine hp Fr B1 as1 σ H1 M1 _ _ _ _ _ rp1 (r0.mono s1 p1) r1 (h1.imp fun z M2 B2 as2 s2 p2 h2 w H2 rp2 r2 => ?_)
      exact (Post.ret (a := Fl.nx (S.set j (some z))) h2) _ H2 rp2 (((rs.mono s1 p1).mono s2 p2).set r2 j)
/-! ### tuple(x) -/
/-! ### x or y, any values -/
/-! ### a, b = list -/
end
end DL

set_option Elab.async false
set_option linter.all false
set_option maxRecDepth 100000
set_option maxHeartbeats 4000000
/-! DLH: (a, b)[::k] and xs[::k], k = 1 or -1. -/
namespace DL
open PySem PySem.Spec PyProof.Rows L2 HT
variable [Tb]
section
variable {prog : Program} {w : World} {A : Around} {E : Value → Shared → Prop} {s : Shared}
end
section
variable {X : Cx} {W : WX} {e o a b c i : Expr} {pos p p3 apos cpos : Pos} {x m f : Str}
end
end DL

set_option Elab.async false
set_option linter.all false
set_option maxRecDepth 100000
set_option maxHeartbeats 4000000
/-! DLI: in, items of any depth; whole numbers added. -/
namespace DL
open PySem PySem.Spec PyProof.Rows L2
variable [Tb]
section
variable {X : Cx} {W : WX} {e o a b c i : Expr} {pos p apos cpos : Pos} {x m f : Str} {fa fb : Lo → Ev D}
theorem o_mulI : Op2 X W (rI CMul fun i j => .int (i * j)) mulE := o_intC fun _ _ _ _ _ => .int _
end
end DL

set_option Elab.async false
set_option linter.all false
set_option maxRecDepth 100000
set_option maxHeartbeats 4000000
/-! DLJ: repr. A repr asks that no repr of a list is under way around it (guards): defs whose promise holds there. -/
namespace DL
open PySem PySem.Spec PyProof.Rows L2
variable [Tb]
/-- a def's promise where no guard stands -/
structure FnOkG (P : Program) (w : World) (K : PySem.W.Frag) (mg : Str → Option Value) (base : Heap) (CX : CXT) (k : Nat) (f : Addr) (fd : FuncData) (ps : List Str) (sp : Sp) : Prop where
  len : ∀ vs H Q E, sp vs H Q E → vs.length = ps.length
  run : ∀ (A : Around) (outer : List Env) (s : Shared) (H : Hp) (args : Args) (us : List Value) (vs : List V) (Q : VK) (E : XK), Room k A → A.guards = some [] → Env0 P w K mg base A outer s H → BindsTo s fd args (ps.zip us) → Vals vs us → sp vs H Q E →
    codeAny (model P w) A (.call (.ref f) args) (CR CX outer P w H s Q E) s
theorem FnOkG.of {P : Program} {w : World} {K : PySem.W.Frag} {mg : Str → Option Value} {base : Heap} {CX : CXT} {k : Nat} {f : Addr} {fd : FuncData} {ps : List Str} {sp : Sp} (F : FnOk P w K mg base CX k f fd ps sp) : FnOkG P w K mg base CX k f fd ps sp :=
  ⟨F.len, fun A outer s H args us vs Q E hr _ => F.run A outer s H args us vs Q E hr⟩
/-- by its body -/
theorem okG {P : Program} {w : World} {K : PySem.W.Frag} {mg : Str → Option Value} {base : Heap} {CX : CXT} {x qual : Str} {params : Arguments} {body : List Stmt} {scope : Scope} {dvs : List V} {kws : List (Str × V)} {f : Addr} {fd : FuncData} {N ps : List Str} {k : Nat} {sp : Sp}
    (F : FunD K x qual params body scope dvs kws f fd) (S : FnScope N ps scope) (len : ∀ vs H Q E, sp vs H Q E → vs.length = ps.length)
    (hbody : ∀ (cdv : Value) (A : Around) (outer : List Env) (s : Shared) (H : Hp) (vs : List V) (Q : VK) (E : XK), Room k (A.deeper (envOfC qual scope s.heap.objs.size f cdv)) → A.guards = some [] → sp vs H Q E →
      ∃ t, PSs (cxOf CX P w K mg base N qual scope f cdv A outer s H E) body t ∧ t { nx := fun _ H' => Q .non H', rt := Q } (start N vs) H) : FnOkG P w K mg base CX (k + 1) f fd ps sp := by
  obtain ⟨oc, od, dV, kV, doc, pm, an, cdv, ct, osl, rfl, lk, hcd, _, _⟩ := F.ex
  refine ⟨len, fun A outer s H args us vs Q E hr hgu e0 hb r hsp => ?_⟩
  have KX : K.In s.heap := e0.mod.kin.keeps fun b o e => (e0.bs b o e).1
  obtain ⟨t, ht, hq⟩ := hbody cdv A outer s H vs Q E (hr.deeper _) hgu hsp
  refine codeAny_call_function hr.depth (KX _ _ lk) rfl S.co S.gen rfl (PySem.W.codeRec_of KX hcd) (hb _ _ _ _ (wpAny_newFunctionEnv_cells S.kind (fun y hy => ?_) fun env he s1 x => ?_))
  · rcases S.par y.1 (List.of_mem_zip hy).1 with q | q
    · exact .inl q
    · exact .inr ⟨q, PySem.W.cellsFrom_some _ _ _ (.inl q)⟩
  subst he
  refine ⟨Heap.NoLimit.keeps (e0.mod.nolimit.keeps fun b o e => (e0.bs b o e).1) x.toInCall.keep, codeAny_func (wpAny_mono (ht.run [] s1 (start N vs) H _ (inv_start S hr.hd e0 (len _ _ _ _ hsp) r x) hq) (fun fl s' hs => ?_) fun e s' hs => hs)⟩
  cases fl with
  | ret u => exact let ⟨v, _, H', J, rv, q⟩ := hs; ⟨v, H', J.os, J.bare, J.base, J.hok, rv, q⟩
  | next => exact let ⟨_, H', J, q⟩ := hs; ⟨.non, H', J.os, J.bare, J.base, J.hok, rfl, q⟩
  | brk => exact let ⟨_, _, _, q⟩ := hs; q.elim
  | cont => exact let ⟨_, _, _, q⟩ := hs; q.elim
theorem fn_dG {P : Program} {w : World} {K : PySem.W.Frag} {mg : Str → Option Value} {base : Heap} {x qual : Str} {params : Arguments} {body : List Stmt} {scope : Scope} {dvs : List V} {kws : List (Str × V)} {f : Addr} {fd : FuncData} {N ps : List Str} {k : Nat} {g : Lo → Ev Fl}
    (F : FunD K x qual params body scope dvs kws f fd) (S : FnScope N ps scope)
    (hb : ∀ (cdv : Value) (A : Around) (outer : List Env) (s : Shared) (H : Hp) (E : XK), Room k (A.deeper (PyProof.Rows.envOfC qual scope s.heap.objs.size f cdv)) → (cxOf (L2.CX P w) P w K mg base N qual scope f cdv A outer s H E).A.guards = some [] → Takes (cxOf (L2.CX P w) P w K mg base N qual scope f cdv A outer s H E) (WF E) →
      DSs (cxOf (L2.CX P w) P w K mg base N qual scope f cdv A outer s H E) (WF E) body g) : FnOkG P w K mg base (L2.CX P w) (k + 1) f fd ps (spD ⟨K, mg⟩ ps.length (runF N.length g)) := by
  refine okG F S (fun vs H Q E h => ?_) (fun cdv A outer s H vs Q E hr hgu h => ?_)
  · obtain ⟨Fr, B, as, M, l, rp, rs, hl, _⟩ := h
    rw [rs.length, hl]
  · obtain ⟨Fr, B, as, M, l, rp, rs, hl, h⟩ := h
    obtain ⟨t, p, sd⟩ := hb cdv A outer s H E hr hgu (takes_of rfl rfl rfl rfl)
    refine ⟨t, p, sd Fr B as _ H (startD N.length l) M _ (RS.start rs) rp ((h.bnd.nox (x' := fun _ _ _ _ _ => False)).imp fun fl M1 B1 as1 s1 p1 h1 => ?_)⟩
    cases fl with
    | nx S' => exact fun σ' H' rp' rs' => h1.ret .non H' rp' .non
    | rt d => exact fun v H' rp' rv => h1.ret v H' rp' rv
    | bk S' => exact h1.elim
    | ct S' => exact h1.elim
    | xc c d S' => exact fun σ' cls dx H' rp' rs' xr => h1 B1 as1 (Same.refl _) (List.prefix_refl _) cls dx H' rp' xr
theorem fn_lG {P : Program} {w : World} {K : PySem.W.Frag} {mg : Str → Option Value} {base : Heap} {x qual : Str} {params : Arguments} {body : List Stmt} {scope : Scope} {dvs : List V} {kws : List (Str × V)} {f : Addr} {fd : FuncData} {N ps : List Str} {k : Nat} {g : Lo → Ev Fl}
    (F : FunD K x qual params body scope dvs kws f fd) (S : FnScope N ps scope)
    (hb : ∀ (cdv : Value) (A : Around) (outer : List Env) (s : Shared) (H : Hp) (E : XK), Room k (A.deeper (PyProof.Rows.envOfC qual scope s.heap.objs.size f cdv)) → (cxOf CX0 P w K mg base N qual scope f cdv A outer s H E).A.guards = some [] →
      DSs (cxOf CX0 P w K mg base N qual scope f cdv A outer s H E) (WF E0) body g) : FnOkG P w K mg base CX0 (k + 1) f fd ps (spL ⟨K, mg⟩ ps.length (runF N.length g)) := by
  refine okG F S (fun vs H Q E h => ?_) (fun cdv A outer s H vs Q E hr hgu h => ?_)
  · obtain ⟨Fr, B, as, M, l, rp, rs, hl, _⟩ := h
    rw [rs.length, hl]
  · obtain ⟨Fr, B, as, M, l, rp, rs, hl, h⟩ := h
    obtain ⟨t, p, sd⟩ := hb cdv A outer s H E hr hgu
    refine ⟨t, p, sd Fr B as _ H (startD N.length l) M _ (RS.start rs) rp ((h.bnd.nox (x' := fun _ _ _ _ _ => False)).imp fun fl M1 B1 as1 s1 p1 h1 => ?_)⟩
    cases fl with
    | nx S' => exact fun σ' H' rp' rs' => h1.ret .non H' rp' .non
    | rt d => exact fun v H' rp' rv => h1.ret v H' rp' rv
    | bk S' => exact h1.elim
    | ct S' => exact h1.elim
    | xc c d S' => exact (h1 B1 as1 (Same.refl _) (List.prefix_refl _)).elim
section
variable {X : Cx} {W : WX} {e o a b c : Expr} {pos p apos : Pos} {x m f : Str}
/-- f(..) where no guard stands -/
theorem pe_callG {CX : CXT} {E : L2.St → XK} {k : Nat} {f : Addr} {fd : FuncData} {ps : List Str} {sp : Sp} {es : List Expr} {t : TA} (F : FnOkG X.prog X.w X.K X.mg X.base CX k f fd ps sp) (hr : Room k X.A) (hgu : X.A.guards = some []) (hg : Gl X x) (hm : X.mg x = some (.ref f)) (hk : PySem.W.keepIn X.K (.ref f) = true) (hb : Binds X.K fd ps []) (hx : ∀ σ, PassesAt CX X σ (E σ))
    (ha : PA X (e :: es) t) (hdb : (x == ("__debug__" : Str)) = false) (he : starEach (e :: es) X.env = (false, eval e X.env) :: starEach es X.env) (hpl : (backTo pos (starEach es X.env)).any (·.1) = false) :
    PE X (.Call (.Name x p) (e :: es) [] pos) (tCallS sp E t) := by
  refine ⟨fun pins s σ H Q I h => wpAny_Call_Name_kw (ld_glob I hg hm (PySem.W.callWith_K (h₀ := X.base) I.ok.mod.kin hk (thn (ha.run pos pins s σ H _ I h) fun us s1 ⟨vs, H1, I1, r, q⟩ => ⟨I1.kIn, ?_⟩) he hpl) hdb)⟩
  have hl : us.length = ps.length := by rw [← r.length]; exact F.len _ _ _ _ q
  have b := hb s1 us I1.kIn (by rw [List.append_nil]; exact hl)
  rw [List.append_nil] at b
  refine wpAny_call (codeAny_mono (F.run X.A X.stack s1 H1 ⟨us, []⟩ us vs Q (E σ) hr hgu I1.env0 b r q) fun r s' hq => ?_)
  match r, hq with
  | .error e, hq => exact hx σ pins H1 s1 e s' I1 hq
  | .ok (.ret u), hq => exact I1.after hq
  | .ok .next, hq => exact False.elim hq
  | .ok .brk, hq => exact False.elim hq
  | .ok .cont, hq => exact False.elim hq
theorem de_callG {k n : Nat} {fa : Addr} {fd : FuncData} {ps : List Str} {F : List D → Ev D} {es : List Expr} {g : Lo → Ev (List D)} (FO : FnOkG X.prog X.w X.K X.mg X.base (CXX X) k fa fd ps (spD (gx X) n F)) (hr : Room k X.A) (hgu : X.A.guards = some []) (hg : Gl X x) (hm : X.mg x = some (.ref fa)) (hk : PySem.W.keepIn X.K (.ref fa) = true) (hb : Binds X.K fd ps [])
    (tk : Takes X W) (ha : DA X W (e :: es) g) (hdb : (x == ("__debug__" : Str)) = false := by decide) (he : starEach (e :: es) X.env = (false, eval e X.env) :: starEach es X.env := by rfl) (hpl : (backTo pos (starEach es X.env)).any (·.1) = false := by rfl) :
    DE X W (.Call (.Name x p) (e :: es) [] pos) (eCall (callD n F) g) := by
  obtain ⟨t, pa, s⟩ := ha
  refine ⟨_, pe_callG (E := WE W) FO hr hgu hg hm hk hb (fun σ => passAt tk σ) pa hdb he hpl, fun Fr B as σ H S M Q rs rp h => ?_⟩
  exact s Fr B as σ H S M _ rs rp (h.bnd.imp fun l M1 B1 as1 s1 p1 h1 vs H1 rp1 r1 => spD_of rp1 r1 h1)
/-! ### repr -/
def RpOk (d : PyData) : Prop := d.showable = true ∧ d.hasDict = false ∧ d.shown.length ≤ sizeLine
instance (d : PyData) : Decidable (RpOk d) := by unfold RpOk; infer_instance
def rRepr (K : PySem.W.Frag) : List V → Hp → VK → Prop := fun xs H Q => ∃ v d, xs = [v] ∧ Dp K H v d ∧ d.depth ≤ 14 ∧ RpOk d ∧ Q (.str d.shown) H
theorem call_repr (hgu : X.A.guards = some []) (hu : X.A.units + 64 < cLine) : CallR X (.builtin "repr") (rRepr X.K) := by
  intro pins s σ H xs us Q I r h
  obtain ⟨v, d, rfl, hd, hp, ⟨h1, h2, h3⟩, q⟩ := h
  obtain ⟨u, rfl, ru⟩ := vals1 r
  obtain ⟨as, rd⟩ := Dp.reads I d v u hd ru
  by_cases hdis : isDisplay d = true
  · obtain ⟨a, rfl⟩ := isRef_of_reads rd hdis
    exact repr_of_reads' rd h1 (PyData.noDict_hsm h2) hgu (by omega) (fun _ _ e => e) (fun h' t tk hk => ⟨.str d.shown, H, I.kept hk, ⟨t, rfl⟩, q⟩) h3
  · cases rd with
    | none => exact PySem.P.repr_of_none ⟨.str _, H, I.tok _, ⟨_, rfl⟩, q⟩
    | bool b => exact PySem.P.repr_of_bool ⟨.str _, H, I.tok _, ⟨_, rfl⟩, by cases b <;> exact q⟩
    | int i t => exact PySem.P.repr_of_int (by simpa [PyData.showable] using h1) ⟨.str _, H, I.tok _, ⟨_, rfl⟩, q⟩
    | str y t => exact PySem.P.repr_of_str ⟨.str _, H, I.tok _, ⟨_, rfl⟩, q⟩ h3
    | list _ _ _ _ => exact (hdis rfl).elim
    | tuple _ _ _ _ => exact (hdis rfl).elim
    | dict _ _ _ _ _ => cases h2
def reprE (x : D) : Ev D := fun M => match py M 14 x with
  | some d => if RpOk d then .ok (.str d.shown) M else .stuck
  | none => .stuck
theorem de_repr {f : Lo → Ev (List D)} (hgu : X.A.guards = some []) (hu : X.A.units + 64 < cLine) (hg : Gl X "repr") (hm : X.mg "repr" = none) (ha : DA X W [e] f) (he : starEach [e] X.env = (false, eval e X.env) :: starEach [] X.env := by rfl) :
    DE X W (.Call (.Name "repr" p) [e] [] pos) (eCall (op1 reprE) f) :=
  de_callB (call_repr hgu hu) (oN1 fun Fr B as σ H M v d Q rp r h => by
    unfold reprE at h
    cases q : py M 14 d with
    | none => simp only [q] at h; exact h.elim
    | some a =>
      simp only [q] at h
      by_cases c : RpOk a
      · rw [if_pos c] at h
        obtain ⟨h1, h2, h3⟩ := py_ok rp 14 d v a r q
        exact ⟨v, a, rfl, h1, h3, c, h.ok _ H rp (.str _)⟩
      · rw [if_neg c] at h; exact h.elim) hg hm (by decide +kernel) ha (by decide) (by decide) he
end
end DL

set_option Elab.async false
set_option linter.all false
set_option maxRecDepth 100000
set_option maxHeartbeats 4000000
/-! DLK: the end of a law whose promise asks that no guard stands. -/
namespace DL
open PySem PySem.Spec PyProof.Rows L2
variable [Tb]
/-- the heap as a law meets it: the script stands, unless it is written -/
def scH (K : PySem.W.Frag) (a : Addr) (vs : List Value) (ns : List Int) : Hp := fun b => if b = a ∧ K.lookup a = none then some (.frz { cls := .type "list", data := .seq vs.toArray } (.lst (ns.map V.int))) else none
theorem walk_ofG {l : PySem.W.OpenLaw} {n k : Nat} {q : Program} {loose : List Str} {XP : (Str → Option Value) → Heap → Prop} {YP : World → Heap → Prop} {d : DefRec} {CX : CXT} {x : Str}
    (hn : l.most = some n) (hn2 : n ≤ sizeLine) (hdf : d.params.defaults = []) (hr : Room k callerA)
    (F : ∀ (w : World) (mg : Str → Option Value) (fa : Addr) (h : Heap), YP w h → h.Ns mainGlobals mg → mg d.name = some (.ref fa) →
      ∃ (K : PySem.W.Frag) (fd : FuncData) (sp : Sp), K.In h ∧ (∀ (s : Shared) (u : Value), BindsTo s fd ⟨[u], []⟩ [(x, u)]) ∧
        (∀ (H : Hp) (a : Addr) (ns : List Int), ns.length ≤ n → Only H → SqL K H a (ns.map V.int) → sp [.ref a] H (fun v _ => v = .bl true) fun _ _ _ => False) ∧
        ∀ base : Heap, K.In base → base.Ns mainGlobals mg → FnOkG l.prog w K mg base CX k fa fd [x] sp)
    (hCX : ∀ (H : Hp) (s : Shared) (e : Value) (s' : Shared), CX [] H s (fun _ _ _ => False) e s' → False) :
    PySem.W.WalkO q loose XP YP l.row.toRowW d [] (fun f vs => PySem.call f vs) := by
  refine Att.attach_call hn hdf fun w s₀ s₁ mg mb fa o pm cd doc a vs ns G Y ho hd hcd hmg hobj hints hlen hg => ?_
  obtain ⟨K, fd, sp, KX, hb, hsp, hF⟩ := F w mg fa _ Y G.T.g hmg
  have rv := vals_ints hints
  have hls : ns.length ≤ sizeLine := Nat.le_trans hlen hn2
  have hA : ∀ b u, scH K a vs ns b = some u → b = a ∧ K.lookup a = none ∧ u = .frz { cls := .type "list", data := .seq vs.toArray } (.lst (ns.map V.int)) := fun b u e => by
    unfold scH at e
    split at e
    · rename_i c; cases e; exact ⟨c.1, c.2, rfl⟩
    · cases e
  have hN : ∀ {b : Addr} {o : Obj}, s₁.heap.get? b = some o → (b = a → K.lookup a ≠ none) → (hidT s₁.heap (scH K a vs ns)).get? b = some o := fun {b o} e h => hidT_get e (by
    cases q : scH K a vs ns b with
    | none => rfl
    | some u => exact (h (hA b u q).1 (hA b u q).2.1).elim)
  have noD : ∀ {b : Addr} {o : Obj} {es : Array DictEntry} {ep : Nat}, s₁.heap.get? b = some o → o.data = .dict es ep → b ≠ a := fun {b o es ep} e d z => by
    subst z; rw [hobj] at e; cases e; cases d
  have nsK : ∀ {b : Addr} {m : Str → Option Value}, s₁.heap.Ns b m → (hidT s₁.heap (scH K a vs ns)).Ns b m := fun {b m} ⟨o, es, ep, e, d, r⟩ => ⟨o, es, ep, hN e (fun z => (noD e d z).elim), d, r⟩
  have hKb : K.In (hidT s₁.heap (scH K a vs ns)) := fun b o e => hN (KX b o e) (fun z => by subst z; rw [e]; simp)
  have hM : Mod K mg (hidT s₁.heap (scH K a vs ns)) := ⟨hKb, nsK G.T.g, ⟨mb, nsK G.T.b, G.T.builtins⟩, let ⟨mc, h1, h2⟩ := G.T.nolimit; ⟨mc, nsK h1, h2⟩⟩
  have hok : HOk l.prog w (scH K a vs ns) s₁.heap := fun b u z => by
    obtain ⟨rfl, _, rfl⟩ := hA b u z
    exact ⟨hobj, by rw [List.length_map]; exact hls, vs, _, rv, hobj⟩
  have e0 : Env0 l.prog w K mg (hidT s₁.heap (scH K a vs ns)) callerA [] s₁ (scH K a vs ns) := ⟨rfl, hM, fun b o e => of_hidT e, Nat.le_of_eq (hidT_size _ _), trivial, fun b hb => absurd (show b ∈ ([] : List Addr) from hb) (by simp), hok, .of_eq hg⟩
  have hO : Only (scH K a vs ns) := fun b => by
    cases q : scH K a vs ns b with
    | none => exact .inl rfl
    | some u => exact .inr ⟨_, _, by rw [(hA b u q).2.2]⟩
  have hS : SqL K (scH K a vs ns) a (ns.map V.int) := by
    cases hk : K.lookup a with
    | none => exact .inl (.inr ⟨{ cls := .type "list", data := .seq vs.toArray }, if_pos ⟨rfl, hk⟩⟩)
    | some o =>
      have e := KX a o hk
      rw [hobj] at e
      cases e
      exact .inr ⟨_, vs.toArray, _, hk, rfl, rfl, rfl, by rw [List.size_toArray, hints.length]; exact hls, by simpa using rv⟩
  refine codeAny_mono ((hF _ hKb (nsK G.T.g)).run callerA [] s₁ _ ⟨[.ref a], []⟩ [.ref a] [.ref a] _ _ hr rfl e0 (hb s₁ (.ref a)) (.cons rfl .nil) (hsp _ a ns hlen hO hS)) fun r s' h => ?_
  match r, h with
  | .error e, h => exact (hCX _ s₁ e s' h).elim
  | .ok .next, h => exact False.elim h
  | .ok .brk, h => exact False.elim h
  | .ok .cont, h => exact False.elim h
  | .ok (.ret u), h =>
    obtain ⟨v, H', os, bare, un, hok', r', q⟩ := h
    have q' : v = .bl true := q
    subst q'
    obtain rfl : u = Value.bool true := r'
    refine ⟨rfl, OldK.of_keep fun b o e => ?_, os, bare⟩
    cases q : scH K a vs ns b with
    | none => exact un.keep b o e q (by intro z; exact absurd (show b ∈ ([] : List Addr) from z) (by simp)) (by simp)
    | some u =>
      have hu := (hA b u q).2.2
      rw [hu] at q
      obtain ⟨e1, _⟩ := hok b _ q
      obtain ⟨e2, _⟩ := hok' b _ (un.frzs b _ _ q)
      rw [e] at e1; cases e1
      exact e2
end DL

set_option Elab.async false
set_option linter.all false
set_option maxRecDepth 100000
set_option maxHeartbeats 4000000
/-! DLL: x is True, x is not True. -/
namespace DL
open PySem PySem.Spec L2
variable [Tb]
section
variable {X : Cx} {W : WX} {a b : Expr} {pos : Pos} {fa fb : Lo → Ev D}
end
end DL

set_option Elab.async false
set_option linter.all false
set_option maxRecDepth 100000
set_option maxHeartbeats 4000000
/-! DLM: a dict is filled by two statements, then locked and frozen: a value from there on. -/
namespace DL
open PySem PySem.Spec L2
variable [Tb]
section
variable {X : Cx} {W : WX} {st st1 st2 : Stmt} {rest : List Stmt}
theorem RS.thaw {G : Gx} {Fr B1 : Hp} {as as1 : List Addr} {H1 : Hp} {M1 : Store} {n : Nat} {σ : St} {S : Lo} (rp1 : Rep G Fr B1 as1 H1 M1) (rs : RS G B1 as1 σ S) (et : as1.take n = as) : RS G (bz as1 n B1 H1) as σ (S.map fun o => o.bind fun d => fz M1 n 9 d) := by
  refine ⟨by rw [List.length_map]; exact rs.len, fun i d h => ?_⟩
  rw [List.getElem?_map] at h
  cases q : S[i]? with
  | none => rw [q] at h; cases h
  | some o =>
    rw [q] at h
    cases o with
    | none => cases h
    | some e =>
      have h : fz M1 n 9 e = some d := by simpa using h
      obtain ⟨v, hv, r⟩ := rs.at_ i e q
      have r2 := fz_ok rp1 9 e v d r h
      rw [et] at r2
      exact ⟨v, hv, r2⟩
/-! ### for k in d, d a locked dict -/
/-! ### an expression read in one of two ways -/
end
end DL

set_option Elab.async false
set_option linter.all false
set_option maxRecDepth 100000
set_option maxHeartbeats 4000000
/-! DLN: dict(pairs), d.get(k, x). -/
namespace DL
open PySem PySem.Spec PyProof.Rows L2
variable [Tb]
section
variable {X : Cx} {W : WX} {e o a b c : Expr} {pos p apos cpos : Pos} {x m f : Str}
/-! ### d.get(k, x) -/
/-! ### a new dict, locked at once -/
end
end DL

set_option Elab.async false
set_option linter.all false
set_option maxRecDepth 100000
set_option maxHeartbeats 4000000
/-! DLO: raise C(x), C an exception class of the program with the field value. -/
namespace DL
open PySem PySem.Spec PyProof.Rows L2
variable [Tb]
/-! ### what the written part says of the class -/
def oexB (K : PySem.W.Frag) (C : Addr) : Bool := match K.lookup C with
  | some ⟨.type "type", _, .cls cd, sl⟩ => (match cd.mro, sl.toList with
    | .ref C' :: bm, [_, _, _, _, some (.builtin n), _] => decide (C' = C) && (decide (n = "ValueError.__new__") && (decide (cd.hasDel = false) && (cd.hasDict && PySem.HandSPX.refsVE bm)))
    | _, _ => false)
  | _ => false
def bAll : List Bool → Bool
  | [] => true
  | b :: l => b && bAll l
theorem bAll_get : ∀ {l : List Bool} {i : Nat} {b : Bool}, bAll l = true → l[i]? = some b → b = true
  | [], i, b, _, h => by simp at h
  | x :: l, 0, b, h, e => by simp at e; subst e; exact (Bool.and_eq_true_iff.mp h).1
  | x :: l, i + 1, b, h, e => bAll_get (Bool.and_eq_true_iff.mp h).2 (by simpa using e)
/-- of the class named c: made as an exception, its __init__ a def, no attribute 'value' of its own -/
def xcB (K : PySem.W.Frag) (c : Str) : Bool := bAll [oexB K (He.ga K c), decide (PySem.W.findIn K (.ref (He.ga K c)) "__setattr__" = some (some (.builtin "object.__setattr__"))), decide (PySem.W.subIn K (.ref (He.ga K c)) (.type "BaseException") = some true),
  decide (PySem.W.typeIn K (.ref (He.ga K c)) = some (.type "type")), PySem.W.keepIn K (.ref (He.ga K c)), decide (PySem.W.findIn K (.ref (He.ga K c)) "value" = some none),
  decide (PySem.W.findIn K (.ref (He.ga K c)) "__init__" = some (some (.ref (He.ma K (He.ga K c) "__init__")))), decide (PySem.W.typeIn K (.ref (He.ma K (He.ga K c) "__init__")) = some (.type "function"))]
structure XcC (K : PySem.W.Frag) (C fI : Addr) : Prop where
  ox : OexC K C
  vno : PySem.W.findIn K (.ref C) "value" = some none
  iC : PySem.W.findIn K (.ref C) "__init__" = some (some (.ref fI))
  tI : PySem.W.typeIn K (.ref fI) = some (.type "function")
theorem oexB_ok {K : PySem.W.Frag} {C : Addr} (h : oexB K C = true) : ∃ nm q N bs bm sn sub ab col dd k0 k1 k2 k3 k5, K.lookup C = some (excClassObj nm q C N bs bm true sn sub ab col dd k0 k1 k2 k3 k5 "ValueError.__new__") ∧ PySem.HandSPX.refsVE bm = true := by
  unfold oexB at h
  cases q : K.lookup C with
  | none => rw [q] at h; cases h
  | some o =>
    rw [q] at h
    obtain ⟨oc, od, dt, sl⟩ := o
    split at h
    · rename_i x1 x2 x3 x4 e
      cases e
      obtain ⟨nm, bs, mro, ns, qn, hd, sn, sb, ab, col, del⟩ := x3
      dsimp only at h
      split at h
      · rename_i C' bm a0 a1 a2 a3 n a5 e1 e2
        obtain ⟨h1, h⟩ := Bool.and_eq_true_iff.mp h
        obtain ⟨h2, h⟩ := Bool.and_eq_true_iff.mp h
        obtain ⟨h3, h⟩ := Bool.and_eq_true_iff.mp h
        obtain ⟨h4, h5⟩ := Bool.and_eq_true_iff.mp h
        have h1 := of_decide_eq_true h1
        have h2 := of_decide_eq_true h2
        have h3 := of_decide_eq_true h3
        try dsimp only at h3 h4
        subst h1 h2 h3 h4
        obtain ⟨l⟩ := sl
        have e2' := e2
        dsimp only at e2'
        subst e2'
        exact ⟨_, _, _, _, _, _, _, _, _, _, _, _, _, _, _, rfl, h5⟩
      · cases h
    · cases h
theorem xcB_ok {K : PySem.W.Frag} {c : Str} (h : xcB K c = true) : XcC K (He.ga K c) (He.ma K (He.ga K c) "__init__") := by
  have g := fun (i : Nat) (b : Bool) e => bAll_get (i := i) (b := b) h e
  exact ⟨⟨oexB_ok (g 0 _ rfl), of_decide_eq_true (g 1 _ rfl), of_decide_eq_true (g 2 _ rfl), of_decide_eq_true (g 3 _ rfl), g 4 _ rfl⟩, of_decide_eq_true (g 5 _ rfl), of_decide_eq_true (g 6 _ rfl), of_decide_eq_true (g 7 _ rfl)⟩
/-- of the class named b: its __init__ is that of ValueError -/
def xbB (K : PySem.W.Frag) (b : Str) : Bool := bAll [decide (PySem.W.specialIn K (.ref (He.ga K b)) "__getattribute__" = some (some (.builtin "type.__getattribute__"))), PySem.W.readsIn K (He.ga K b) (.type "type"),
  (match PySem.W.findCls K (.ref (He.ga K b)) (.type "type") "__init__" with
    | some (.val (.builtin n)) => decide (n = "ValueError.__init__")
    | _ => false)]
structure XcB (K : PySem.W.Frag) (Cb : Addr) : Prop where
  ga : PySem.W.specialIn K (.ref Cb) "__getattribute__" = some (some (.builtin "type.__getattribute__"))
  rd : PySem.W.readsIn K Cb (.type "type") = true
  fc : PySem.W.findCls K (.ref Cb) (.type "type") "__init__" = some (.val (.builtin "ValueError.__init__"))
theorem xbB_ok {K : PySem.W.Frag} {b : Str} (h : xbB K b = true) : XcB K (He.ga K b) := by
  have g := fun (i : Nat) (b : Bool) e => bAll_get (i := i) (b := b) h e
  refine ⟨of_decide_eq_true (g 0 _ rfl), g 1 _ rfl, ?_⟩
  have h2 := g 2 _ rfl
  split at h2
  · rename_i n e
    rw [e, of_decide_eq_true h2]
  · cases h2
section
variable {X : Cx} {W : WX} {o e : Expr} {es : List Expr} {ta : TA} {b c : Str} {p p1 p2 pos pos' : Pos}
/-- Base.__init__(self, ..), Base an own class over ValueError without __init__ -/
theorem pe_xinit {Cb : Addr} {pl : Sem Bool} (T : XcB X.K Cb) (hg : Gl X b) (hm : X.mg b = some (.ref Cb)) (ha : PA X (e :: es) ta)
    (hc : eval (.Call (.Attribute (.Name b p1) "__init__" p2) (e :: es) [] pos) X.env = (do
      let ov ← eval (.Name b p1) X.env; standAt p2.atName
      let (f, first) ← holding [ov] (getMethod ov "__init__" pl); callWith pos f first (backTo pos (starEach (e :: es) X.env)) (backToKw pos (keywordEach [] X.env))) := by rfl)
    (hdb : (b == ("__debug__" : Str)) = false := by decide) (he : starEach (e :: es) X.env = (false, eval e X.env) :: starEach es X.env := by rfl) (hpl : (backTo pos (starEach es X.env)).any (·.1) = false := by rfl) :
    PE X (.Call (.Attribute (.Name b p1) "__init__" p2) (e :: es) [] pos) (tVeI X.K ta) := by
  refine ⟨fun pins s σ H Q I h => PySem.W.methodCall_KW (ld_glob I hg hm ?_ hdb) hc⟩
  refine PySem.W.method_cls I.kIn T.ga (PySem.W.cls_value I.kIn T.rd T.fc (by decide +kernel) ?_)
  show wpAny _ _ (callWith pos (Value.builtin "ValueError.__init__") [] (backTo pos (starEach (e :: es) X.env)) []) _ _ _
  refine PyProof.Rows.callWith_method1 (thn (ha.run pos pins _ σ H _ (I.tok _) h) fun us s1 hz => ?_) he hpl
  obtain ⟨vs, H1, I1, r1, a, C, ws, ev, hl, To, ea, q⟩ := hz
  subst ev
  cases r1 with
  | @cons _ u0 _ ur ra rest =>
    obtain rfl : u0 = Value.ref a := ra
    refine oinit_ok To I1 ea ?_ fun s' J => ⟨.non, H1, J, rfl, q⟩
    rw [← Paired.length rest, sizeLine_eq]
    omega
end
/-- what such an __init__ does -/
def spXI (K : PySem.W.Frag) : Sp := fun vs H Q _ => ∃ (a C : Addr) (v : V), vs = [.ref a, v] ∧ OexC K C ∧ PySem.W.findIn K (.ref C) "value" = some none ∧ H a = some (exo a C none) ∧ ∀ dx, H dx = none → dx ≠ a → Q .non (upd (upd H dx (exd dx [("value", v)])) a (exo a C (some dx)))
theorem xi_len {K : PySem.W.Frag} {vs : List V} {H : Hp} {Q : VK} {E : XK} (h : spXI K vs H Q E) : vs.length = ["self", "value"].length := by
  obtain ⟨_, _, _, rfl, _⟩ := h
  rfl
theorem xi_end {K : PySem.W.Frag} {vs : List V} {H : Hp} {Q : VK} {E : XK} (h : spXI K vs H Q E) :
    tSeq (tDrop (tVeI K (tCons (tVar 0) (tCons (tVar 1) tNil)))) (tOst K "value" (tVar 0) (tVar 1)) { nx := fun _ H' => Q .non H', rt := Q } (L2.start ["self", "value"] vs) H := by
  obtain ⟨a, C, v, rfl, To, hno, ea, q⟩ := h
  refine ⟨.ref a, rfl, v, rfl, a, C, [v], rfl, by simp, To, ea, ?_⟩
  exact ⟨v, rfl, .ref a, rfl, a, C, rfl, To, hno, .inl ⟨ea, fun dx hn ne => q dx hn ne⟩⟩
section
variable {X : Cx} {W : WX} {e : Expr} {c : Str} {p pos pos' : Pos}
def sRaise (c : Str) (f : Lo → Ev D) : Lo → Ev Fl := fun S => (f S).fl S fun d => Ev.ret (.xc c d S)
theorem ds_raise {C fI : Addr} {k : Nat} {fd : FuncData} {f : Lo → Ev D} (hc : X.calm = true) (tk : Takes X W) (T : XcC X.K C fI) (FO : FnOk X.prog X.w X.K X.mg X.base (CXX X) k fI fd ["self", "value"] (spXI X.K)) (hr : Room (k + 1) X.A) (hb : Binds X.K fd ["self", "value"] [])
    (hg : Gl X c) (hm : X.mg c = some (.ref C)) (ha : DE X W e f) (hdb : (c == ("__debug__" : Str)) = false := by decide) (he : starEach [e] X.env = (false, eval e X.env) :: starEach [] X.env := by rfl) :
    DS X W (.Raise (some (.Call (.Name c p) [e] [] pos)) none pos') (sRaise c f) := by
  obtain ⟨t, pe, s⟩ := ha
  refine ⟨_, ps_raise hc tk (pmk_oex T.ox T.iC T.tI FO hr hb .nil passL hg hm (pa_cons pe pa_nil he) hdb he), fun Fr B as σ H S M D rs rp h => ?_⟩
  refine s Fr B as σ H S M _ rs rp ((Post.fl rs h).imp fun d M1 B1 as1 s1 p1 h1 v H1 rp1 r1 => ?_)
  refine ⟨by simp, fun a ha => ⟨a, C, v, rfl, T.ox, T.vno, upd_same, fun dx hn ne => ?_⟩⟩
  have n1 : H1 dx = none := by rw [upd_ne ne] at hn; exact hn
  refine ⟨rfl, dx, _, upd_same, by rw [upd_ne ne, upd_same], n1, ?_⟩
  have eu : upd (del (upd (upd (upd H1 a (exo a C none)) dx (exd dx [("value", v)])) a (exo a C (some dx))) a) dx (.xd [("value", v)]) = upd H1 dx (.xd [("value", v)]) := by
    funext q
    by_cases h1 : q = dx
    · subst h1; rw [upd_same, upd_same]
    · rw [upd_ne h1, upd_ne h1]
      by_cases h2 : q = a
      · subst h2; rw [del_same, ha]
      · rw [del_ne h2, upd_ne h2, upd_ne h1, upd_ne h2]
  rw [eu]
  exact (Post.ret (a := Fl.xc c d S) h1) σ (.ref C) (some dx) _ (rp1.laid n1) (rs.mono s1 p1) ⟨C, dx, v, rfl, hm, rfl, upd_same, r1, (rp1.fresh n1).1, (rp1.fresh n1).2⟩
end
end DL

set_option Elab.async false
set_option linter.all false
set_option maxRecDepth 100000
set_option maxHeartbeats 4000000
/-! DLP: try with several clauses 'except C as e'. -/
namespace DL
open PySem PySem.Spec PyProof.Rows L2
variable [Tb]
/-! ### the rule over the model -/
abbrev HdT := Value × Option Nat × (Addr → Value → Option Addr → TS)
inductive HdsA (X : Cx) : List ExceptHandler → List HdT → Prop
  | nil : HdsA X [] []
  | as_ {x n : Str} {c : Value} {i : Nat} {ts : Addr → Value → Option Addr → TS} {s0 : Stmt} {su : List Stmt} {np ps : Pos} {hds : List ExceptHandler} {l : List HdT} (hc : Names X x c) (hi : X.N[i]? = some n) (hln : X.env.kindOf n = some .local)
      (hsu : ∀ (a : Addr) (oe : Obj) (cls : Value) (dx : Option Addr) (pn : List (Addr × Obj)), Zc cls dx oe → (∃ vs, oe.data = .fields vs) → PSs (X.suite a ((a, oe) :: pn)) (s0 :: su) (ts a cls dx)) (r : HdsA X hds l) :
      HdsA X (.ExceptHandler (some (.Name x np)) (some n) (s0 :: su) ps :: hds) ((c, some i, ts) :: l)
  | bare {x : Str} {c : Value} {ts : Addr → Value → Option Addr → TS} {s0 : Stmt} {su : List Stmt} {np ps : Pos} {hds : List ExceptHandler} {l : List HdT} (hc : Names X x c)
      (hsu : ∀ (a : Addr) (oe : Obj) (cls : Value) (dx : Option Addr) (pn : List (Addr × Obj)), Zc cls dx oe → (∃ vs, oe.data = .fields vs) → PSs (X.suite a ((a, oe) :: pn)) (s0 :: su) (ts a cls dx)) (r : HdsA X hds l) :
      HdsA X (.ExceptHandler (some (.Name x np)) none (s0 :: su) ps :: hds) ((c, none, ts) :: l)
section
variable {X : Cx} {body : List Stmt} {h0 : ExceptHandler} {hds : List ExceptHandler} {l : List HdT} {pos : Pos} {tb : WX → TS} {Wo : WX}
end
end DL

set_option Elab.async false
set_option linter.all false
set_option maxRecDepth 100000
set_option maxHeartbeats 4000000
/-! DLQ: try over data. -/
namespace DL
open PySem PySem.Spec PyProof.Rows L2
variable [Tb]
def tSs (X : Cx) (W : WX) (f : Lo → Ev Fl) : TS := fun D σ H => ∃ Fr B as S M, RS (gx X) B as σ S ∧ Rep (gx X) Fr B as H M ∧ Post B as (f S M) (kF X Fr W D) (fun _ _ _ _ _ => False)
theorem DSs.pss {X : Cx} {W : WX} {st : List Stmt} {f : Lo → Ev Fl} (h : DSs X W st f) : PSs X st (tSs X W f) := by
  obtain ⟨t, p, s⟩ := h
  exact ⟨fun pins s' σ H D I hw => let ⟨Fr, B, as, S, M, a, b, c⟩ := hw; p.run pins s' σ H D I (s Fr B as σ H S M D a b c)⟩
/-! ### except suites -/
/-- where a suite stands: its exception's field value is d, its class one of L -/
def XIn (G : Gx) (L : List Addr) (a : Addr) (cls : Value) (dx : Option Addr) (oi : Option Nat) (Fr B : Hp) (as : List Addr) (σ : L2.St) (d : D) : Prop :=
  ∃ C dd v, cls = .ref C ∧ C ∈ L ∧ dx = some dd ∧ Fr dd = some (.xd [("value", v)]) ∧ R G B as v d ∧ ∀ i, oi = some i → σ[i]? = some (some (.ref a))
theorem XIn.mono {G : Gx} {L : List Addr} {a : Addr} {cls : Value} {dx : Option Addr} {oi : Option Nat} {Fr B B' : Hp} {as as' : List Addr} {σ : L2.St} {d : D} (h : XIn G L a cls dx oi Fr B as σ d) (e : Same B B') (p : as <+: as') : XIn G L a cls dx oi Fr B' as' σ d := by
  obtain ⟨C, dd, v, h1, h2, h3, h4, h5, h6⟩ := h
  exact ⟨C, dd, v, h1, h2, h3, h4, h5.mono e p, h6⟩
section
variable (X : Cx) (L : List Addr) (a : Addr) (cls : Value) (dx : Option Addr) (oi : Option Nat)
def XSs (st : List Stmt) (f : D → Lo → Ev Fl) : Prop := ∃ t, PSs X st t ∧ ∀ Fr B as σ H S M D d, XIn (gx X) L a cls dx oi Fr B as σ d → RS (gx X) B as σ S → Rep (gx X) Fr B as H M → Post B as (f d S M) (kF X Fr W0 D) (fun _ _ _ _ _ => False) → t D σ H
end
def tX (X : Cx) (L : List Addr) (oi : Option Nat) (f : D → Lo → Ev Fl) (a : Addr) (cls : Value) (dx : Option Addr) : TS := fun D σ H => ∃ Fr B as S M d, XIn (gx X) L a cls dx oi Fr B as σ d ∧ RS (gx X) B as σ S ∧ Rep (gx X) Fr B as H M ∧ Post B as (f d S M) (kF X Fr W0 D) (fun _ _ _ _ _ => False)
theorem XSs.pss {X : Cx} {L : List Addr} {a : Addr} {cls : Value} {dx : Option Addr} {oi : Option Nat} {st : List Stmt} {f : D → Lo → Ev Fl} (h : XSs X L a cls dx oi st f) : PSs X st (tX X L oi f a cls dx) := by
  obtain ⟨t, p, s⟩ := h
  exact ⟨fun pins s' σ H D I hw => let ⟨Fr, B, as, S, M, d, x, a, b, c⟩ := hw; p.run pins s' σ H D I (s Fr B as σ H S M D d x a b c)⟩
/-! ### the clauses -/
abbrev HdF := Option Nat × (D → Lo → Ev Fl)
inductive DHs (X : Cx) (L : List Addr) : List ExceptHandler → List HdF → List Value → Prop
  | nil : DHs X L [] [] []
  | as_ {x n : Str} {c : Value} {i : Nat} {f : D → Lo → Ev Fl} {s0 : Stmt} {su : List Stmt} {np ps : Pos} {hds : List ExceptHandler} {l : List HdF} {cs : List Value} (hc : Names X x c) (hi : X.N[i]? = some n) (hln : X.env.kindOf n = some .local)
      (hsu : ∀ (a : Addr) (oe : Obj) (cls : Value) (dx : Option Addr) (pn : List (Addr × Obj)), Zc cls dx oe → (∃ vs, oe.data = .fields vs) → XSs (X.suite a ((a, oe) :: pn)) L a cls dx (some i) (s0 :: su) f) (r : DHs X L hds l cs) :
      DHs X L (.ExceptHandler (some (.Name x np)) (some n) (s0 :: su) ps :: hds) ((some i, f) :: l) (c :: cs)
  | bare {x : Str} {c : Value} {f : D → Lo → Ev Fl} {s0 : Stmt} {su : List Stmt} {np ps : Pos} {hds : List ExceptHandler} {l : List HdF} {cs : List Value} (hc : Names X x c)
      (hsu : ∀ (a : Addr) (oe : Obj) (cls : Value) (dx : Option Addr) (pn : List (Addr × Obj)), Zc cls dx oe → (∃ vs, oe.data = .fields vs) → XSs (X.suite a ((a, oe) :: pn)) L a cls dx none (s0 :: su) f) (r : DHs X L hds l cs) :
      DHs X L (.ExceptHandler (some (.Name x np)) none (s0 :: su) ps :: hds) ((none, f) :: l) (c :: cs)
def hdT (X : Cx) (L : List Addr) : List HdF → List Value → List HdT
  | (oi, f) :: l, c :: cs => (c, oi, tX X L oi f) :: hdT X L l cs
  | _, _ => []
theorem DHs.hds {X : Cx} {L : List Addr} : ∀ {hs : List ExceptHandler} {l : List HdF} {cs : List Value}, DHs X L hs l cs → HdsA X hs (hdT X L l cs)
  | _, _, _, .nil => .nil
  | _, _, _, .as_ hc hi hln hsu r => .as_ hc hi hln (fun a oe cls dx pn z v => (hsu a oe cls dx pn z v).pss) r.hds
  | _, _, _, .bare hc hsu r => .bare hc (fun a oe cls dx pn z v => (hsu a oe cls dx pn z v).pss) r.hds
def offL (oi : Option Nat) (S : Lo) : Lo := match oi with
  | none => S
  | some i => S.set i none
def offE (oi : Option Nat) : Fl → Ev Fl
  | .nx S => Ev.ret (.nx (offL oi S))
  | .rt d => Ev.ret (.rt d)
  | .bk S => Ev.ret (.bk (offL oi S))
  | .ct S => Ev.ret (.ct (offL oi S))
  | .xc _ _ _ => Ev.no
def fits (oi : Option Nat) (S : Lo) : Bool := match oi with
  | none => true
  | some i => decide (i < S.length)
theorem RS.off {G : Gx} {B : Hp} {as : List Addr} {σ : L2.St} {S : Lo} (h : RS G B as σ S) (i : Nat) (o : Option V) : RS G B as (σ.set i o) (S.set i none) := by
  refine ⟨by simp [h.len], fun j d q => ?_⟩
  by_cases hj : i = j
  · subst hj
    by_cases hi : i < S.length
    · rw [List.getElem?_set_self hi] at q; cases q
    · rw [List.getElem?_eq_none (by simpa using hi)] at q; cases q
  · rw [List.getElem?_set_ne hj] at q
    obtain ⟨v, a, r⟩ := h.at_ j d q
    exact ⟨v, by rw [List.getElem?_set_ne hj]; exact a, r⟩
section
variable {X : Cx} {W : WX}
theorem DHs.len {L : List Addr} : ∀ {hs : List ExceptHandler} {l : List HdF} {cs : List Value}, DHs X L hs l cs → l.length = cs.length
  | _, _, _, .nil => rfl
  | _, _, _, .as_ _ _ _ _ r => congrArg (· + 1) r.len
  | _, _, _, .bare _ _ r => congrArg (· + 1) r.len
end
end DL

set_option Elab.async false
set_option linter.all false
set_option maxRecDepth 100000
set_option maxHeartbeats 4000000
/-! DLR: the expressions of except suites. -/
namespace DL
open PySem PySem.Spec PyProof.Rows L2
variable [Tb]
section
variable {X : Cx} {L : List Addr} {a : Addr} {cls : Value} {dx : Option Addr} {oi : Option Nat} {e e1 e2 : Expr} {es : List Expr} {pos p : Pos} {x : Str}
/-! ### statements -/
end
/-! ### e.value -/
section
variable {X : Cx} {L : List Addr} {a : Addr} {oe : Obj} {cls : Value} {dx : Option Addr} {pn : List (Addr × Obj)} {pos p : Pos} {x : Str}
end
end DL

set_option Elab.async false
set_option linter.all false
set_option maxRecDepth 100000
set_option maxHeartbeats 4000000
/-! DLS: list(zip(a, b)) of two lists. -/
namespace DL
open PySem PySem.Spec PyProof.Rows L2
variable [Tb]
/-- the zip at turn i, while the list at S keeps what came out -/
structure Zd (z TI TO i1 i2 l1 l2 S : Addr) (xs ys : Array Value) (i : Nat) (h : Heap) : Prop where
  ti : IsPair h TI (.ref i1) (.ref i2)
  t1 : h.IsListIter i1 l1 i
  t2 : h.IsListIter i2 l2 i
  a1 : h.IsList l1 xs
  a2 : h.IsList l2 ys
  zz : (IsZip h z TI TO .none ∧ ∃ a b, IsPair h TO a b) ∨ ∃ T f oT, IsZipHeld h z TI TO T f ∧ h.get? T = some oT ∧ T ≠ z ∧ T ≠ i1 ∧ T ≠ i2 ∧ T ≠ S
structure Zo (z TI TO i1 i2 l1 l2 S : Addr) : Prop where
  oz : z ≠ S
  oI : TI ≠ S
  oO : TO ≠ S
  o1 : i1 ≠ S
  o2 : i2 ≠ S
  q1 : l1 ≠ S
  q2 : l2 ≠ S
structure Zg (xs ys : Array Value) (lo : Addr) (h : Heap) (as : List Addr) : Prop where
  up : as.Pairwise (· < ·)
  ab : ∀ a ∈ as, lo < a
  pr : ∀ (j : Nat) (a : Addr), as[j]? = some a → ∃ u v, xs[j]? = some u ∧ ys[j]? = some v ∧ IsPair h a u v
section
variable {prog : Program} {w : World} {A : Around} {E : Value → Shared → Prop} {s : Shared}
variable {z TI TO i1 i2 l1 l2 S : Addr} {xs ys : Array Value} {i : Nat}
theorem Zd.mv {h h' : Heap} (x : Zd z TI TO i1 i2 l1 l2 S xs ys i h) (o : Zo z TI TO i1 i2 l1 l2 S) (k : ∀ b o, b ≠ S → h.get? b = some o → h'.get? b = some o) : Zd z TI TO i1 i2 l1 l2 S xs ys i h' := by
  obtain ⟨c1, c2, c3, c4, c5, c6⟩ := x
  refine ⟨k _ _ o.oI c1, c2.at fun v e => k _ v o.o1 e, c3.at fun v e => k _ v o.o2 e, c4.at fun v e => k _ v o.q1 e, c5.at fun v e => k _ v o.q2 e, ?_⟩
  rcases c6 with ⟨d1, a, b, d2⟩ | ⟨T, f, oT, d1, d2, d3, d4, d5, d6⟩
  · exact .inl ⟨k _ _ o.oz d1, a, b, k _ _ o.oO d2⟩
  · exact .inr ⟨T, f, oT, k _ _ o.oz d1, k _ _ d6 d2, d3, d4, d5, d6⟩
end
section
variable {prog : Program} {w : World} {A : Around} {s : Shared} {R : Result → Shared → Prop}
variable {z TI TO i1 i2 l1 l2 S : Addr} {xs ys : Array Value}
end
section
variable {prog : Program} {w : World} {A : Around} {E : Value → Shared → Prop} {s : Shared}
variable {z TI TO i1 i2 l1 l2 : Addr} {xs ys : Array Value}
end
/-! ### over the model's abstract heap -/
section
variable {X : Cx} {e e2 : Expr} {p p2 pos pos2 : Pos}
/-! ### over data -/
end
end DL

set_option Elab.async false
set_option linter.all false
set_option maxRecDepth 100000
set_option maxHeartbeats 4000000
/-! DLT: repr of data with dicts. -/
namespace DL
open PySem PySem.Spec PyProof.Rows L2
variable [Tb]
/-- what stands at the table of modules is known and no list -/
def smB (K : PySem.W.Frag) : Bool := match K.lookup sysModules with
  | some o => decide (o.cls ≠ .type "list")
  | none => false
def keyPd : Key → PyData
  | .inl i => .int i
  | .inr x => .str x
mutual
inductive Dq (K : PySem.W.Frag) (H : Hp) : V → PyData → Prop
  | non : Dq K H .non .none
  | bl (b : Bool) : Dq K H (.bl b) (.bool b)
  | int (i : Int) : Dq K H (.int i) (.int i)
  | str (x : Str) : Dq K H (.str x) (.str x)
  | lst {a : Addr} {xs : List V} {ds : List PyData} : SqL K H a xs → DqAll K H xs ds → Dq K H (.ref a) (.list ds)
  | tup {a : Addr} {xs : List V} {ds : List PyData} : SqT K H a xs → DqAll K H xs ds → Dq K H (.ref a) (.tuple ds)
  | dct {a : Addr} {ks : List Key} {xs : List V} {ds : List PyData} : Rd H a (.dK (ks.zip xs)) → ks.length = xs.length → DqAll K H xs ds → Dq K H (.ref a) (.dict ((ks.map keyPd).zip ds))
inductive DqAll (K : PySem.W.Frag) (H : Hp) : List V → List PyData → Prop
  | nil : DqAll K H [] []
  | cons {v : V} {vs : List V} {d : PyData} {ds : List PyData} : Dq K H v d → DqAll K H vs ds → DqAll K H (v :: vs) (d :: ds)
end
theorem DqAll.len {K : PySem.W.Frag} {H : Hp} : ∀ {vs : List V} {ds : List PyData}, DqAll K H vs ds → vs.length = ds.length
  | _, _, .nil => rfl
  | _, _, .cons _ r => congrArg (· + 1) r.len
theorem pairs_keys {P : Program} {w : World} {h : Heap} : ∀ {es : List DictEntry} {vs : List (Key × Value)}, Pairs (mixKind P w) es vs → ReadsAll h (es.map (·.key)) (vs.map fun q => keyPd q.1) [] ∧ es.map (·.val) = vs.map (·.2)
  | _, _, .nil => ⟨.nil, rfl⟩
  | e :: es, kv :: kvs, .cons h1 h2 r => by
    obtain ⟨r1, r2⟩ := pairs_keys (h := h) r
    have hk : Reads h e.key (keyPd kv.1) [] := by
      have h1' : keyIs kv.1 e.key = true := h1
      rcases keyIs_shape h1' with ⟨i, t, q1, q2⟩ | ⟨x, t, q1, q2⟩ <;> rw [q1, q2]
      · exact .int i t
      · exact .str x t
    refine ⟨?_, by rw [List.map_cons, List.map_cons, h2, r2]⟩
    exact ReadsAll.cons (as := []) (bs := []) hk r1
theorem kv_zip : ∀ {ks : List Key} {xs : List V} {vs : List (Key × Value)}, ks.length = xs.length → KV (ks.zip xs) vs → vs.map (·.1) = ks ∧ Vals xs (vs.map (·.2))
  | [], [], _, _, h => by cases h; exact ⟨rfl, .nil⟩
  | k :: ks, x :: xs, _, hl, h => by
    cases h with
    | cons a r =>
      obtain ⟨e1, e2⟩ := kv_zip (by simpa using hl) r
      exact ⟨by rw [List.map_cons, e1, ← a.1], .cons a.2 e2⟩
  | [], _ :: _, _, hl, _ => by simp at hl
  | _ :: _, [], _, hl, _ => by simp at hl
section
variable {X : Cx} {pins : List (Addr × Obj)} {σ : L2.St} {H : Hp} {s : Shared}
theorem sm_ne (I : Inv X pins σ H s) (hb : smB X.K = true) {a : Addr} {o : Obj} (ho : s.heap.get? a = some o) (hc : o.cls = .type "list") : sysModules ≠ a := fun e => by
  subst e
  unfold smB at hb
  cases q : X.K.lookup sysModules with
  | none => rw [q] at hb; cases hb
  | some o' =>
    rw [q] at hb
    have := I.kIn _ _ q
    rw [ho] at this
    cases this
    exact of_decide_eq_true hb hc
mutual
theorem Dq.reads (I : Inv X pins σ H s) (hb : smB X.K = true) : ∀ {v : V} {d : PyData} {u : Value}, Dq X.K H v d → RelV v u → ∃ as, Reads s.heap u d as ∧ sysModules ∉ as
  | _, _, _, .non, r => by cases r; exact ⟨_, Reads.none, by simp⟩
  | _, _, _, .bl b, r => by cases r; exact ⟨_, Reads.bool b, by simp⟩
  | _, _, _, .int i, r => by obtain ⟨t, rfl⟩ := r; exact ⟨_, Reads.int i t, by simp⟩
  | _, _, _, .str x, r => by obtain ⟨t, rfl⟩ := r; exact ⟨_, Reads.str x t, by simp⟩
  | _, _, _, .lst hs ha, r => by
    cases r
    obtain ⟨its, rv, ⟨o, n, ho, hc, _, hd⟩, _⟩ := I.list hs
    obtain ⟨as, hr, hn⟩ := DqAll.reads I hb ha rv
    refine ⟨_, Reads.list ho hc hd hr, ?_⟩
    simp only [List.mem_cons, not_or]
    exact ⟨sm_ne I hb ho hc, hn⟩
  | _, _, _, .tup hs ha, r => by
    cases r
    obtain ⟨its, rv, ⟨o, ho, hc, n, hd⟩, _⟩ := I.tuple hs
    obtain ⟨as, hr, hn⟩ := DqAll.reads I hb ha rv
    exact ⟨_, Reads.tuple ho hc hd hr, hn⟩
  | _, _, _, .dct (ks := ks) (xs := xs) (ds := ds) hs hl ha, r => by
    cases r
    obtain ⟨_, hne, vs, kv, o, es, ep, ho, hx, hd, _, pr, _⟩ := dk_rd I.hok hs
    obtain ⟨e1, e2⟩ := kv_zip hl kv
    obtain ⟨r1, r2⟩ := pairs_keys (h := s.heap) pr
    obtain ⟨as, hr, hn⟩ := DqAll.reads I hb ha e2
    have hz : (ks.map keyPd).length = ds.length := by rw [List.length_map, hl, ha.len]
    refine ⟨_, Reads.dict ho hx.1 hd (as := []) (bs := as) ?_ ?_, ?_⟩
    · rw [List.map_fst_zip (by omega), ← e1, List.map_map]; exact r1
    · rw [List.map_snd_zip (by omega), r2]; exact hr
    · simp only [List.append_nil, List.cons_append, List.nil_append, List.mem_cons, not_or]
      exact ⟨fun e => by rw [← e] at hne; simp at hne, hn⟩
theorem DqAll.reads (I : Inv X pins σ H s) (hb : smB X.K = true) : ∀ {vs : List V} {ds : List PyData} {us : List Value}, DqAll X.K H vs ds → Vals vs us → ∃ as, ReadsAll s.heap us ds as ∧ sysModules ∉ as
  | _, _, _, .nil, r => by cases r; exact ⟨_, ReadsAll.nil, by simp⟩
  | _, _, _, .cons h1 h2, r => by
    cases r with
    | cons r1 r2 =>
      obtain ⟨as, q1, n1⟩ := Dq.reads I hb h1 r1
      obtain ⟨bs, q2, n2⟩ := DqAll.reads I hb h2 r2
      refine ⟨_, ReadsAll.cons q1 q2, ?_⟩
      simp only [List.mem_append, not_or]
      exact ⟨n1, n2⟩
end
end
mutual
def pyR (M : Store) : Nat → D → Option PyData
  | 0, _ => none
  | k + 1, d => match d with
    | .non => some .none
    | .bl b => some (.bool b)
    | .int i => some (.int i)
    | .str x => some (.str x)
    | .nd .lst l => (pyRs M k l).map .list
    | .nd .slst l => (pyRs M k l).map .list
    | .nd .tup l => (pyRs M k l).map .tuple
    | .nd (.dct ks) l => if ks.length = l.length then (pyRs M k l).map fun ds => .dict ((ks.map keyPd).zip ds) else none
    | .nd (.fdct ks) l => if ks.length = l.length then (pyRs M k l).map fun ds => .dict ((ks.map keyPd).zip ds) else none
    | .ref n => match M[n]? with
      | some (.lst, l) => (pyRs M k l).map .list
      | _ => none
    | _ => none
  termination_by k _ => (k, 0)
def pyRs (M : Store) : Nat → List D → Option (List PyData)
  | _, [] => some []
  | k, d :: l => match pyR M k d, pyRs M k l with
    | some a, some as => some (a :: as)
    | _, _ => none
  termination_by k l => (k, l.length + 1)
end
mutual
theorem pyR_ok {G : Gx} {Fr B H : Hp} {as : List Addr} {M : Store} (rp : Rep G Fr B as H M) : ∀ (k : Nat) (d : D) (v : V) (a : PyData), R G B as v d → pyR M k d = some a → Dq G.K H v a
  | 0, d, v, a, r, h => by unfold pyR at h; cases h
  | k + 1, d, v, a, r, h => by
    have one : ∀ (p : Addr) (vs : List V) (l : List D) (a : PyData), SqL G.K H p vs → Rs G B as vs l → (pyRs M k l).map PyData.list = some a → Dq G.K H (.ref p) a := fun p vs l a sl rs h => by
      cases q : pyRs M k l with
      | none => rw [q] at h; cases h
      | some ds => rw [q] at h; cases h; exact .lst sl (pyRs_ok rp k l vs ds rs q)
    cases r with
    | non => unfold pyR at h; cases h; exact .non
    | bl b => unfold pyR at h; cases h; exact .bl b
    | int i => unfold pyR at h; cases h; exact .int i
    | str x => unfold pyR at h; cases h; exact .str x
    | ty n => unfold pyR at h; cases h
    | gl x => unfold pyR at h; cases h
    | ref ha =>
      rename_i n p
      unfold pyR at h; dsimp only at h
      cases q : M[n]? with
      | none => rw [q] at h; cases h
      | some c =>
        obtain ⟨t, l⟩ := c
        rw [q] at h
        obtain ⟨vs, mc, rs⟩ := rp.cell n p (t, l) ha q
        cases t <;> first | (cases h; done) | skip
        exact one p vs l a (SqL.of mc) rs h
    | nd fc rs =>
      rename_i t p vs l
      unfold pyR at h
      have dc : ∀ ks : List Key, Rd H p (.dK (ks.zip vs)) → ks.length = vs.length → (if ks.length = l.length then (pyRs M k l).map fun ds => PyData.dict ((ks.map keyPd).zip ds) else none) = some a → Dq G.K H (.ref p) a := fun ks rd hl h => by
        by_cases c : ks.length = l.length
        · rw [if_pos c] at h
          cases q : pyRs M k l with
          | none => rw [q] at h; cases h
          | some ds => rw [q] at h; cases h; exact .dct rd hl (pyRs_ok rp k l vs ds rs q)
        · rw [if_neg c] at h; cases h
      cases t with
      | lst => exact one p vs l a (SqL.of (rp.sub _ _ fc)) rs h
      | slst => exact one p vs l a (rp.sub.seq fc) rs h
      | tup =>
        dsimp only at h
        cases q : pyRs M k l with
        | none => rw [q] at h; cases h
        | some ds => rw [q] at h; cases h; exact .tup (sqT_mono rp.sub fc) (pyRs_ok rp k l vs ds rs q)
      | dct ks => exact dc ks (.inl (rp.sub _ _ fc.1)) fc.2 h
      | fdct ks => exact dc ks (.inr (let ⟨o, q⟩ := fc.1; ⟨o, rp.sub _ _ q⟩)) fc.2 h
      | obj c ns => cases h
      | fn k => cases h
      | iset => cases h
  termination_by k _ => (k, 0)
theorem pyRs_ok {G : Gx} {Fr B H : Hp} {as : List Addr} {M : Store} (rp : Rep G Fr B as H M) : ∀ (k : Nat) (l : List D) (vs : List V) (ds : List PyData), Rs G B as vs l → pyRs M k l = some ds → DqAll G.K H vs ds
  | k, [], vs, ds, rs, h => by unfold pyRs at h; cases h; cases rs; exact .nil
  | k, d :: l, vs, ds, rs, h => by
    cases rs with
    | cons r t =>
      unfold pyRs at h
      cases q1 : pyR M k d with
      | none => simp only [q1] at h; cases h
      | some a =>
        cases q2 : pyRs M k l with
        | none => simp only [q1, q2] at h; cases h
        | some as' =>
          simp only [q1, q2] at h
          cases h
          exact .cons (pyR_ok rp k d _ a r q1) (pyRs_ok rp k l _ as' t q2)
  termination_by k l => (k, l.length + 1)
end
/-- what can be shown -/
structure RpF (d : PyData) : Prop where
  sh : d.showable = true
  de : d.depth ≤ 14
  le : d.shown.length ≤ sizeLine
noncomputable instance (d : PyData) : Decidable (RpF d) := Classical.propDecidable _
section
variable {X : Cx} {W : WX} {e : Expr} {pos p : Pos}
noncomputable def reprF (x : D) : Ev D := fun M => match pyR M 14 x with
  | some d => if RpF d then .ok (.str d.shown) M else .stuck
  | none => .stuck
end
end DL

set_option Elab.async false
set_option linter.all false
set_option maxRecDepth 100000
set_option maxHeartbeats 4000000
/-! DLV: a lambda without parameters handed to a def that calls it inside try. -/
namespace DL
open PySem PySem.Spec PyProof.Rows L2 LamX
variable [Tb]
def kXE (X : Cx) (Fr : Hp) (E : XK) : Str → D → Store → Hp → List Addr → Prop := fun c d M B as => ∀ cls dx H, Rep (gx X) Fr B as H M → XR (gx X) B as H c d cls dx → E cls dx H
/-- what the def makes of the lambda's outcome -/
def TTd (X : Cx) (le : Out D → Out D) (tl : XK → Hp → VK → Prop) (H : Hp) (Q : VK) : Prop :=
  ∃ Fr B as M o, Rep (gx X) Fr B as H M ∧ (∀ E' Q', Post B as o (kD X Fr Q') (kXE X Fr E') → tl E' H Q') ∧ Post B as (le o) (kD X Fr Q) (fun _ _ _ _ _ => False)
section
variable {X : Cx}
end
/-! ### x(lambda: body) -/
theorem Rep.extN {G : Gx} {Fr B : Hp} {as : List Addr} {H H1 : Hp} {M : Store} (rp : Rep G Fr B as H M) (e : ExtN H H1) (t : LamX.Tabs (Tb.T G.K) H1) : Rep G Fr B as H1 M :=
  ⟨fun b o h => e b o (rp.sub b o h) fun ps z => rp.nB.1 b ps (by rw [h, z]), fun b o h => e b o (rp.frm b o h) fun ps z => rp.nF b ps (by rw [h, z]), rp.fout, rp.dis, rp.nd, rp.out, rp.len, fun n a c ha hc => by
    obtain ⟨vs, m, r⟩ := rp.cell n a c ha hc
    have pl := m.pln
    exact ⟨vs, m.keep (fun o h => e a o h fun ps z => pl.1 ps (by rw [h, z])) (fun _ _ l => l.to (fun o z _ => e _ _ z (by simp)) (fun c q z => e _ _ z (by simp [LamX.CodeO])) fun d o v z _ => e _ _ z (by simp)), r⟩, rp.nB, rp.nF, t⟩
section
variable {X : Cx} {W : WX}
end
/-! ### the def that calls what it gets -/
/-- x calls what it gets inside try and makes le of the outcome -/
structure Door (X : Cx) (x : Str) (g : Addr) (q : Str) (le : Out D → Out D) : Prop where
  ex : ∃ (a : Str) (pg : Arguments) (bg : List Stmt) (sg : Scope) (dV kV doc pm cdv ct oc : Value) (an od : Option Addr) (osl : Array (Option Value)) (Ng : List Str),
    X.K.lookup g = some ⟨oc, od, .func (PySem.W.fnOf x x pg bg sg dV kV doc pm an cdv ct), osl⟩ ∧ PySem.W.codeIn X.K cdv x = true ∧ L2.Binds X.K (PySem.W.fnOf x x pg bg sg dV kV doc pm an cdv ct) [a] [] ∧ FnScope Ng [a] sg ∧ Ng[0]? = some a ∧ Vis sg a ∧
      GivesTo X Ng x sg g cdv bg a q (TTd X le) ∧ (a == ("__debug__" : Str)) = false ∧ (a == ("__classdict__" : Str)) = false
section
variable {X : Cx} {W : WX}
end
/-! ### own defs called with nothing -/
section
variable {X : Cx} {W : WX} {x : Str} {pos p : Pos} {k n : Nat} {fa : Addr} {fd : FuncData} {ps : List Str} {F : List D → Ev D}
end
end DL

set_option Elab.async false
set_option linter.all false
set_option maxRecDepth 100000
set_option maxHeartbeats 4000000
/-! DLX: a text times a number. -/
namespace DL
open PySem L2
variable [Tb]
/-! ### tuple(range(..)) -/
/-! ### str(int) -/
end DL

set_option Elab.async false
set_option linter.all false
set_option maxRecDepth 100000
set_option maxHeartbeats 4000000
/-! DLY: list.index of a list of numbers. -/
namespace DL
open PySem L2
variable [Tb]
end DL

set_option Elab.async false
set_option linter.all false
set_option maxRecDepth 100000
set_option maxHeartbeats 4000000
/-! DLU: a != b of objects whose class has an own __eq__; isinstance of an own class. -/
namespace DL
open PySem L2
variable [Tb]
section
variable {prog : Program} {w : World} {A : Around} {E : Value → Shared → Prop} {s : Shared} {K : PySem.W.Frag} {x C f L : Addr} {h₀ : Heap} {m : Str → Option Value} {ox : Obj} {od : Option Obj} {b tb : Value}
end
section
variable {X : Cx}
/-- what isinstance asks of an own class -/
def isoB (K : PySem.W.Frag) (C : Addr) : Bool := decide (PySem.W.findIn K (.ref C) "__class__" = some (some (.builtin "object.__class__"))) && (decide (PySem.W.specialIn K (.builtin "object.__class__") "__get__" = some (some (.builtin "getset_descriptor.__get__"))) &&
  (decide (PySem.W.takesIn K (.builtin "object.__class__") = some true) && (decide (PySem.W.mroIn K C (.type "object") = some true) && decide (PySem.W.findIn K (.ref C) "__ne__" = some (some (.builtin "object.__ne__"))))))
structure IsoC (K : PySem.W.Frag) (C : Addr) : Prop where
  ha : PySem.W.findIn K (.ref C) "__class__" = some (some (.builtin "object.__class__"))
  hn : PySem.W.specialIn K (.builtin "object.__class__") "__get__" = some (some (.builtin "getset_descriptor.__get__"))
  ht : PySem.W.takesIn K (.builtin "object.__class__") = some true
  hm : PySem.W.mroIn K C (.type "object") = some true
  hne : PySem.W.findIn K (.ref C) "__ne__" = some (some (.builtin "object.__ne__"))
def eIsO (cn : Str) (fe : Lo → Ev D) : Lo → Ev D := fun S => (fe S).bnd fun x => (isObj cn "__eq__" x).bnd fun _ => Ev.ret (.bl true)
theorem de_isO {W : WX} {cn : Str} {C : Addr} {e : Expr} {p q pos : Pos} {fe : Lo → Ev D} (c : ClsD X cn C) (i : IsoC X.K C) (hg : Gl X "isinstance") (hm : X.mg "isinstance" = none) (hgc : Gl X cn) (ha : DE X W e fe) (hd : (cn == ("__debug__" : Str)) = false := by decide)
    (he : starEach [e, .Name cn q] X.env = (false, eval e X.env) :: starEach [.Name cn q] X.env := by rfl) (he2 : starEach [.Name cn q] X.env = (false, eval (.Name cn q) X.env) :: starEach [] X.env := by rfl) (hpl : (backTo pos (starEach [.Name cn q] X.env)).any (·.1) = false := by rfl) :
    DE X W (.Call (.Name "isinstance" p) [e, .Name cn q] [] pos) (eIsO cn fe) := by
  obtain ⟨te, pe, se⟩ := ha
  have pc : PE X (.Name cn q) (tC (.ref C)) := pe_glob hgc c.mg rfl hd
  refine ⟨_, pe_callB call_isi hg hm (by decide +kernel) (pa_cons pe (pa_cons pc pa_nil he2) he) (by decide) (by decide) he hpl, fun Fr B as σ H S M Q rs rp h => ?_⟩
  refine se Fr B as σ H S M _ rs rp (h.bnd.imp fun x M1 B1 as1 s1 p1 h1 v H1 rp1 r1 => ?_)
  obtain ⟨a, dx, fs, rfl, hH, _, h1⟩ := Post.isObj h1 c rp1 r1
  refine ⟨.ref a, .ref C, .ref C, .ref C, true, rfl, .own C, .base (.ins hH c.cl i.ha i.hn i.ht i.hm), ?_, h1.ret _ H1 rp1 (.bl true)⟩
  unfold PySem.W.kitOne
  rw [if_pos (by simp)]
end
theorem fz_bl {M : Store} {n k : Nat} {d : D} {b : Bool} (h : DL.fz M n k d = some (.bl b)) : d = .bl b := by
  cases d with
  | bl c => unfold DL.fz at h; cases h; rfl
  | ref m =>
    unfold DL.fz at h
    split at h
    · cases h
    · cases k with
      | zero => cases h
      | succ k =>
        dsimp only at h
        split at h
        · rename_i t l _
          cases q : fzs M n k l with
          | none => rw [q] at h; cases h
          | some l' => rw [q] at h; cases h
        · cases h
  | nd t l =>
    unfold DL.fz at h
    cases q : fzs M n k l with
    | none => rw [q] at h; cases h
    | some l' => rw [q] at h; cases h
  | _ => unfold DL.fz at h; cases h
theorem DT.fz {X : Cx} {W : WX} {e : Expr} {f : Lo → Ev D} (h : DT X W e (eB f)) : DT X W e (eB (eFz f)) := by
  obtain ⟨t, p, s⟩ := h
  refine ⟨t, p, fun Fr B as σ H S M Q rs rp h => s Fr B as σ H S M Q rs rp ?_⟩
  unfold eB Ev.bnd eFz fzE at h
  unfold eB Ev.bnd
  cases q : f S M with
  | stuck => rw [q] at h; exact h
  | exc c d M' => rw [q] at h; exact h
  | ok d M' =>
    rw [q] at h
    dsimp only at h
    by_cases k : Kept M M'
    · rw [if_pos k] at h
      cases q2 : DL.fz M' M.length 9 d with
      | none => rw [q2] at h; exact h.elim
      | some d' =>
        rw [q2] at h
        cases d' with
        | bl b =>
          have := fz_bl q2
          subst this
          intro B1 as1 s1 p1 H1 rp1
          obtain ⟨rp2, et⟩ := rp.thaw rp1 p1 k
          exact h _ as (s1.trans (bz_same rp1)) (List.prefix_refl _) H1 rp2
        | _ => exact h.elim
    · rw [if_neg k] at h; exact h.elim
end DL

set_option Elab.async false
set_option linter.all false
set_option maxRecDepth 100000
set_option maxHeartbeats 4000000
/-! DM1: zip(a, b, strict=True) of two lists of one length. -/
namespace DL
open PySem PySem.Spec PyProof.Rows L2
variable [Tb]
/-- the six cells of a strict zip of two lists: the zip, its two tuples, the two iterators, and how far they are -/
structure ZC where
  z : Addr
  ti : Addr
  to : Addr
  i : Addr
  j : Addr
  a : Addr
  b : Addr
def zrec (c : ZC) (f : Value) : Obj := { cls := .type "zip", dict := none, data := .fields #[f, .bool false, .bool true, .ref c.ti, .ref c.to], slots := #[] }
structure ZS (c : ZC) (h : Heap) (f : Value) (m n : Nat) (u v : Value) (xs ys : Array Value) : Prop where
  zip : h.get? c.z = some (zrec c f)
  its : IsPair h c.ti (.ref c.i) (.ref c.j)
  own : IsPair h c.to u v
  one : h.IsListIter c.i c.a m
  two : h.IsListIter c.j c.b n
  la : h.IsList c.a xs
  lb : h.IsList c.b ys
abbrev ZC.Ap (c : ZC) : Prop := ZipApart c.z c.ti c.to c.i c.j c.a c.b
/-- what a turn may not touch -/
def Far (c : ZC) (h h' : Heap) : Prop := ∀ b o, b ≠ c.z → b ≠ c.to → b ≠ c.i → b ≠ c.j → h.get? b = some o → h'.get? b = some o
section
variable {c : ZC} {h h' h2 : Heap} {f f' : Value} {m n : Nat} {u v u' v' : Value} {xs ys : Array Value}
theorem Far.refl : Far c h h := fun _ _ _ _ _ _ e => e
theorem ZS.more (S : ZS c h f m n u v xs ys) (k : ∀ b o, h.get? b = some o → h'.get? b = some o) : ZS c h' f m n u v xs ys :=
  ⟨k _ _ S.zip, k _ _ S.its, k _ _ S.own, S.one.at fun o => k _ o, S.two.at fun o => k _ o, S.la.at fun o => k _ o, S.lb.at fun o => k _ o⟩
end
section
variable {P : Program} {w : World} {A : Around} {E : Value → Shared → Prop} {s : Shared} {c : ZC} {m n : Nat} {u v x y : Value} {xs ys : Array Value}
end
/-! ### a strict zip made -/
/-- the zip at turn i, the lists left out -/
structure ZT (c : ZC) (i : Nat) (h : Heap) : Prop where
  zip : h.get? c.z = some (zrec c .none)
  its : IsPair h c.ti (.ref c.i) (.ref c.j)
  own : ∃ u v, IsPair h c.to u v
  one : h.IsListIter c.i c.a i
  two : h.IsListIter c.j c.b i
theorem ZT.at {c : ZC} {i : Nat} {h h' : Heap} (T : ZT c i h) (k : ∀ b ∈ [c.z, c.ti, c.to, c.i, c.j], ∀ o, h.get? b = some o → h'.get? b = some o) : ZT c i h' := by
  obtain ⟨u, v, e⟩ := T.own
  exact ⟨k _ (by simp) _ T.zip, k _ (by simp) _ T.its, ⟨u, v, k _ (by simp) _ e⟩, T.one.at fun o => k _ (by simp) o, T.two.at fun o => k _ (by simp) o⟩
theorem ZT.lt {c : ZC} {i : Nat} {h : Heap} (T : ZT c i h) {b : Addr} (hb : b ∈ [c.z, c.ti, c.to, c.i, c.j]) : ∃ o, h.get? b = some o ∧ ∀ v, o.data ≠ .cell v := by
  obtain ⟨u, v, e⟩ := T.own
  obtain ⟨o1, e1, _, d1⟩ := T.one
  obtain ⟨o2, e2, _, d2⟩ := T.two
  simp only [List.mem_cons, List.not_mem_nil, or_false] at hb
  rcases hb with rfl | rfl | rfl | rfl | rfl
  · exact ⟨_, T.zip, fun v => nofun⟩
  · exact ⟨_, T.its, fun v => nofun⟩
  · exact ⟨_, e, fun v => nofun⟩
  · exact ⟨_, e1, fun v z => by rw [d1] at z; cases z⟩
  · exact ⟨_, e2, fun v z => by rw [d2] at z; cases z⟩
theorem Far.out {c : ZC} {h h' : Heap} (F : Far c h h') {b : Addr} {o : Obj} (hb : b ∉ [c.z, c.ti, c.to, c.i, c.j]) (e : h.get? b = some o) : h'.get? b = some o := by
  simp only [List.mem_cons, List.not_mem_nil, or_false, not_or] at hb
  exact F b o hb.1 hb.2.2.1 hb.2.2.2.1 hb.2.2.2.2 e
/-! ### a class of Python called with keywords -/
/-! ### over data -/
end DL

set_option Elab.async false
set_option linter.all false
set_option maxRecDepth 100000
set_option maxHeartbeats 4000000
/-! DM2: four statements, and what they made is frozen. -/
namespace DL
open PySem L2
variable [Tb]
section
variable {X : Cx} {W : WX} {st1 st2 st3 st4 : Stmt} {rest : List Stmt}
end
end DL

set_option Elab.async false
set_option linter.all false
set_option maxRecDepth 100000
set_option maxHeartbeats 4000000
/-! DM3: a[i] op= v on an own list. -/
namespace DL
open PySem L2
variable [Tb]
section
variable {X : Cx} {W : WX} {o i e : Expr} {pos tpos : Pos}
end
end DL

set_option Elab.async false
set_option linter.all false
set_option maxRecDepth 100000
set_option maxHeartbeats 4000000
namespace Lw
open PySem L2 DL
def top (i : Nat) : Stmt := PySem.Challenge.pw_turnedties_k18_whole_classes_by_going_th.main.body.getD i (.Pass ⟨0, 0, 0, 0⟩)
abbrev s_InvalidModulus___init__ : Stmt := inClass (top 2) 0
def d_InvalidModulus___init__ : He.DefD := ⟨("InvalidModulus", some "__init__"), "__init__", "InvalidModulus.__init__", defArgs s_InvalidModulus___init__, defBody s_InvalidModulus___init__, defScope s_InvalidModulus___init__, [], []⟩
abbrev s_InvalidSize___init__ : Stmt := inClass (top 3) 0
def d_InvalidSize___init__ : He.DefD := ⟨("InvalidSize", some "__init__"), "__init__", "InvalidSize.__init__", defArgs s_InvalidSize___init__, defBody s_InvalidSize___init__, defScope s_InvalidSize___init__, [], []⟩
abbrev s_InvalidEdge___init__ : Stmt := inClass (top 4) 0
def d_InvalidEdge___init__ : He.DefD := ⟨("InvalidEdge", some "__init__"), "__init__", "InvalidEdge.__init__", defArgs s_InvalidEdge___init__, defBody s_InvalidEdge___init__, defScope s_InvalidEdge___init__, [], []⟩
abbrev s_InvalidWalk___init__ : Stmt := inClass (top 6) 0
def d_InvalidWalk___init__ : He.DefD := ⟨("InvalidWalk", some "__init__"), "__init__", "InvalidWalk.__init__", defArgs s_InvalidWalk___init__, defBody s_InvalidWalk___init__, defScope s_InvalidWalk___init__, [], []⟩
abbrev s_InvalidAmount___init__ : Stmt := inClass (top 7) 0
def d_InvalidAmount___init__ : He.DefD := ⟨("InvalidAmount", some "__init__"), "__init__", "InvalidAmount.__init__", defArgs s_InvalidAmount___init__, defBody s_InvalidAmount___init__, defScope s_InvalidAmount___init__, [], []⟩
abbrev s_InvalidGains___init__ : Stmt := inClass (top 8) 0
def d_InvalidGains___init__ : He.DefD := ⟨("InvalidGains", some "__init__"), "__init__", "InvalidGains.__init__", defArgs s_InvalidGains___init__, defBody s_InvalidGains___init__, defScope s_InvalidGains___init__, [], []⟩
abbrev s_reduced_number : Stmt := top 12
def d_reduced_number : He.DefD := ⟨("reduced_number", none), "reduced_number", "reduced_number", defArgs s_reduced_number, defBody s_reduced_number, defScope s_reduced_number, [], []⟩
abbrev s_forest_of : Stmt := top 13
def d_forest_of : He.DefD := ⟨("forest_of", none), "forest_of", "forest_of", defArgs s_forest_of, defBody s_forest_of, defScope s_forest_of, [], []⟩
abbrev s_links_of : Stmt := top 14
def d_links_of : He.DefD := ⟨("links_of", none), "links_of", "links_of", defArgs s_links_of, defBody s_links_of, defScope s_links_of, [], []⟩
abbrev s_walk_paths : Stmt := top 15
def d_walk_paths : He.DefD := ⟨("walk_paths", none), "walk_paths", "walk_paths", defArgs s_walk_paths, defBody s_walk_paths, defScope s_walk_paths, [], []⟩
abbrev s_components_of : Stmt := top 16
def d_components_of : He.DefD := ⟨("components_of", none), "components_of", "components_of", defArgs s_components_of, defBody s_components_of, defScope s_components_of, [], []⟩
abbrev s_is_integer : Stmt := top 21
def d_is_integer : He.DefD := ⟨("is_integer", none), "is_integer", "is_integer", defArgs s_is_integer, defBody s_is_integer, defScope s_is_integer, [], []⟩
abbrev s_is_within : Stmt := top 22
def d_is_within : He.DefD := ⟨("is_within", none), "is_within", "is_within", defArgs s_is_within, defBody s_is_within, defScope s_is_within, [], []⟩
abbrev s_is_edge : Stmt := top 23
def d_is_edge : He.DefD := ⟨("is_edge", none), "is_edge", "is_edge", defArgs s_is_edge, defBody s_is_edge, defScope s_is_edge, [], []⟩
abbrev s_is_modulus : Stmt := top 24
def d_is_modulus : He.DefD := ⟨("is_modulus", none), "is_modulus", "is_modulus", defArgs s_is_modulus, defBody s_is_modulus, defScope s_is_modulus, [], []⟩
abbrev s_check_edges : Stmt := top 25
def d_check_edges : He.DefD := ⟨("check_edges", none), "check_edges", "check_edges", defArgs s_check_edges, defBody s_check_edges, defScope s_check_edges, [], []⟩
abbrev s_Web___init__ : Stmt := inClass (top 26) 0
def d_Web___init__ : He.DefD := ⟨("Web", some "__init__"), "__init__", "Web.__init__", defArgs s_Web___init__, defBody s_Web___init__, defScope s_Web___init__, [.adr (He.dflAt ("Web", some "__init__") 0)], [("modulus", .int 0)]⟩
abbrev s_Web_modulus : Stmt := inClass (top 26) 2
def d_Web_modulus : He.DefD := ⟨("Web", some "modulus"), "modulus", "Web.modulus", defArgs s_Web_modulus, defBody s_Web_modulus, defScope s_Web_modulus, [], []⟩
abbrev s_Web_edge : Stmt := inClass (top 26) 4
def d_Web_edge : He.DefD := ⟨("Web", some "edge"), "edge", "Web.edge", defArgs s_Web_edge, defBody s_Web_edge, defScope s_Web_edge, [], []⟩
abbrev s_Web_components : Stmt := inClass (top 26) 5
def d_Web_components : He.DefD := ⟨("Web", some "components"), "components", "Web.components", defArgs s_Web_components, defBody s_Web_components, defScope s_Web_components, [], []⟩
abbrev s_Web_forest : Stmt := inClass (top 26) 6
def d_Web_forest : He.DefD := ⟨("Web", some "forest"), "forest", "Web.forest", defArgs s_Web_forest, defBody s_Web_forest, defScope s_Web_forest, [], []⟩
abbrev s_Web_cycles : Stmt := inClass (top 26) 8
def d_Web_cycles : He.DefD := ⟨("Web", some "cycles"), "cycles", "Web.cycles", defArgs s_Web_cycles, defBody s_Web_cycles, defScope s_Web_cycles, [], []⟩
abbrev s_Web___len__ : Stmt := inClass (top 26) 9
def d_Web___len__ : He.DefD := ⟨("Web", some "__len__"), "__len__", "Web.__len__", defArgs s_Web___len__, defBody s_Web___len__, defScope s_Web___len__, [], []⟩
abbrev s_is_step : Stmt := top 28
def d_is_step : He.DefD := ⟨("is_step", none), "is_step", "is_step", defArgs s_is_step, defBody s_is_step, defScope s_is_step, [], []⟩
abbrev s_step_ends : Stmt := top 29
def d_step_ends : He.DefD := ⟨("step_ends", none), "step_ends", "step_ends", defArgs s_step_ends, defBody s_step_ends, defScope s_step_ends, [], []⟩
abbrev s_is_walk : Stmt := top 30
def d_is_walk : He.DefD := ⟨("is_walk", none), "is_walk", "is_walk", defArgs s_is_walk, defBody s_is_walk, defScope s_is_walk, [], []⟩
abbrev s_residue : Stmt := top 32
def d_residue : He.DefD := ⟨("residue", none), "residue", "residue", defArgs s_residue, defBody s_residue, defScope s_residue, [], []⟩
abbrev s_is_residue : Stmt := top 33
def d_is_residue : He.DefD := ⟨("is_residue", none), "is_residue", "is_residue", defArgs s_is_residue, defBody s_is_residue, defScope s_is_residue, [], []⟩
abbrev s_are_residues : Stmt := top 34
def d_are_residues : He.DefD := ⟨("are_residues", none), "are_residues", "are_residues", defArgs s_are_residues, defBody s_are_residues, defScope s_are_residues, [], []⟩
abbrev s_is_gains : Stmt := top 35
def d_is_gains : He.DefD := ⟨("is_gains", none), "is_gains", "is_gains", defArgs s_is_gains, defBody s_is_gains, defScope s_is_gains, [], []⟩
abbrev s_check_gains : Stmt := top 36
def d_check_gains : He.DefD := ⟨("check_gains", none), "check_gains", "check_gains", defArgs s_check_gains, defBody s_check_gains, defScope s_check_gains, [], []⟩
abbrev s_walk_sum : Stmt := top 37
def d_walk_sum : He.DefD := ⟨("walk_sum", none), "walk_sum", "walk_sum", defArgs s_walk_sum, defBody s_walk_sum, defScope s_walk_sum, [], []⟩
abbrev s_cycle_sums : Stmt := top 39
def d_cycle_sums : He.DefD := ⟨("cycle_sums", none), "cycle_sums", "cycle_sums", defArgs s_cycle_sums, defBody s_cycle_sums, defScope s_cycle_sums, [], []⟩
abbrev s_normal : Stmt := top 40
def d_normal : He.DefD := ⟨("normal", none), "normal", "normal", defArgs s_normal, defBody s_normal, defScope s_normal, [], []⟩
abbrev s_power_of : Stmt := top 41
def d_power_of : He.DefD := ⟨("power_of", none), "power_of", "power_of", defArgs s_power_of, defBody s_power_of, defScope s_power_of, [], []⟩
abbrev s_class_size : Stmt := top 42
def d_class_size : He.DefD := ⟨("class_size", none), "class_size", "class_size", defArgs s_class_size, defBody s_class_size, defScope s_class_size, [], []⟩
abbrev s_class_count : Stmt := top 43
def d_class_count : He.DefD := ⟨("class_count", none), "class_count", "class_count", defArgs s_class_count, defBody s_class_count, defScope s_class_count, [], []⟩
abbrev s_potential_count : Stmt := top 44
def d_potential_count : He.DefD := ⟨("potential_count", none), "potential_count", "potential_count", defArgs s_potential_count, defBody s_potential_count, defScope s_potential_count, [], []⟩
abbrev s__law_pool : Stmt := top 46
def d__law_pool : He.DefD := ⟨("_law_pool", none), "_law_pool", "_law_pool", defArgs s__law_pool, defBody s__law_pool, defScope s__law_pool, [], []⟩
abbrev s__law_take : Stmt := top 47
def d__law_take : He.DefD := ⟨("_law_take", none), "_law_take", "_law_take", defArgs s__law_take, defBody s__law_take, defScope s__law_take, [], []⟩
abbrev s__law_links : Stmt := top 49
def d__law_links : He.DefD := ⟨("_law_links", none), "_law_links", "_law_links", defArgs s__law_links, defBody s__law_links, defScope s__law_links, [], []⟩
abbrev s__law_low : Stmt := top 50
def d__law_low : He.DefD := ⟨("_law_low", none), "_law_low", "_law_low", defArgs s__law_low, defBody s__law_low, defScope s__law_low, [], []⟩
abbrev s__law_put : Stmt := top 53
def d__law_put : He.DefD := ⟨("_law_put", none), "_law_put", "_law_put", defArgs s__law_put, defBody s__law_put, defScope s__law_put, [], []⟩
abbrev s__law_all : Stmt := top 54
def d__law_all : He.DefD := ⟨("_law_all", none), "_law_all", "_law_all", defArgs s__law_all, defBody s__law_all, defScope s__law_all, [], []⟩
abbrev s__law_unlike : Stmt := top 55
def d__law_unlike : He.DefD := ⟨("_law_unlike", none), "_law_unlike", "_law_unlike", defArgs s__law_unlike, defBody s__law_unlike, defScope s__law_unlike, [], []⟩
abbrev s__law_endless : Stmt := top 56
def d__law_endless : He.DefD := ⟨("_law_endless", none), "_law_endless", "_law_endless", defArgs s__law_endless, defBody s__law_endless, defScope s__law_endless, [], []⟩
abbrev s__law_great : Stmt := top 57
def d__law_great : He.DefD := ⟨("_law_great", none), "_law_great", "_law_great", defArgs s__law_great, defBody s__law_great, defScope s__law_great, [], []⟩
abbrev s_law : Stmt := top 58
def d_law : He.DefD := ⟨("law", none), "law", "law", defArgs s_law, defBody s_law, defScope s_law, [], []⟩
def fn : List He.DefD := [d_InvalidModulus___init__, d_InvalidSize___init__, d_InvalidEdge___init__, d_InvalidWalk___init__, d_InvalidAmount___init__, d_InvalidGains___init__, d_reduced_number, d_forest_of, d_links_of, d_walk_paths, d_components_of, d_is_integer, d_is_within, d_is_edge, d_is_modulus, d_check_edges, d_Web___init__, d_Web_modulus, d_Web_edge, d_Web_components, d_Web_forest, d_Web_cycles, d_Web___len__, d_is_step, d_step_ends, d_is_walk, d_residue, d_is_residue, d_are_residues, d_is_gains, d_check_gains, d_walk_sum, d_cycle_sums, d_normal, d_power_of, d_class_size, d_class_count, d_potential_count, d__law_pool, d__law_take, d__law_links, d__law_low, d__law_put, d__law_all, d__law_unlike, d__law_endless, d__law_great, d_law]
def fa : List He.Fa := [.free "len", .glo "_law_take", .free "range", .free "isinstance", .free "int", .free "bool", .glo "is_integer", .glo "WebError", .free "tuple", .glo "is_within", .free "list", .glo "InvalidEdge", .glo "is_edge", .int "MOST_EDGES" 60, .int "MOST_MODULUS" 60, .free "enumerate", .int "MOST_NODES" 30, .glo "InvalidSize", .glo "check_edges", .glo "is_modulus", .glo "InvalidModulus", .glo "Web", .cls "Web", .noat "Web" "own_size", .noat "Web" "own_edges", .noat "Web" "own_modulus", .glo "forest_of", .noat "Web" "own_forest", .glo "links_of", .noat "Web" "links", .free "zip", .glo "_law_low", .meth "Web" "modulus", .glo "power_of", .meth "Web" "forest", .free "repr", .meth "Web" "__len__", .free "all", .glo "is_residue", .glo "are_residues", .glo "is_gains", .glo "InvalidGains", .glo "walk_paths", .meth "Web" "edge", .glo "is_step", .glo "step_ends", .glo "InvalidAmount", .glo "reduced_number", .glo "check_gains", .glo "is_walk", .glo "InvalidWalk", .glo "residue", .free "sum", .meth "Web" "cycles", .glo "walk_sum", .glo "cycle_sums", .free "sorted", .glo "components_of", .meth "Web" "components", .glo "_law_links", .mkr "Web", .glo "class_size", .glo "class_count", .glo "potential_count", .free "max", .free "min", .glo "_law_pool", .glo "_law_all", .glo "_law_put", .glo "_law_unlike", .glo "normal", .glo "_law_endless", .glo "_law_great", .glo "law"]
def exF : List (PySem.W.Frag → Bool) := [(fun K => xbB K ("WebError" : Str)), (fun K => xcB K ("InvalidEdge" : Str)), (fun K => xcB K ("InvalidSize" : Str)), (fun K => xcB K ("InvalidModulus" : Str)), (fun K => xcB K ("InvalidGains" : Str)), (fun K => xcB K ("InvalidAmount" : Str)), (fun K => xcB K ("InvalidWalk" : Str))]
end Lw
set_option Elab.async false
set_option linter.all false
set_option maxRecDepth 100000
set_option maxHeartbeats 0
namespace Lw
open PySem PySem.Spec PyProof.Rows L2
def loose0 : List Str := ["__name__", "WebError", "InvalidModulus", "InvalidSize", "InvalidEdge", "InvalidNode", "InvalidWalk", "InvalidAmount", "InvalidGains", "NoEdge", "TooMany", "reduced_number", "forest_of", "links_of", "walk_paths", "components_of", "MOST_NODES", "MOST_EDGES", "MOST_MODULUS", "is_integer", "is_within", "is_edge", "is_modulus", "check_edges", "Web", "check_node", "is_step", "step_ends", "is_walk", "residue"]
def loose1 : List Str := ["is_residue", "are_residues", "is_gains", "check_gains", "walk_sum", "cycle_sums", "normal", "power_of", "class_size", "class_count", "potential_count", "_law_pool", "_law_take", "_law_modulus", "_law_links", "_law_low", "_law_number", "_law_numbers", "_law_put", "_law_all", "_law_unlike", "_law_endless", "_law_great"]
def loose : List Str := loose0 ++ loose1
abbrev rowR : PySem.W.OpenRow := PySem.W.OpenLaw.row PySem.Challenge.rw_turnedties_k18_whole_classes_by_going_th
abbrev hkD : PySem.W.Hook := He.hookV 4 fa fn (fun K => exF.all fun f => f K)
def obD (s : PySem.W.SharedT) : He.AlD × Bool := He.obsV 4 fa fn (fun K => exF.all fun f => f K) (HandSHeadRun.getT s)
theorem obD_eq (s : PySem.W.SharedT) : obD s = hkD.obs s.abs := He.obsV_eq (HandSHeadRun.getT_eq s)
theorem runD (w : World) : HandSHeadRun.RunEq rowR (PySem.W.view rowR.prog [58]) hkD obD 100000 loose w := by
  intro os
  kernel_rfl
end Lw

set_option Elab.async false
set_option linter.all false
set_option maxRecDepth 100000
set_option maxHeartbeats 4000000
namespace Lw
open PySem L2 DL
noncomputable def g_forest_of : Lo → Ev Fl := sSeq (sAsg (eF (lrN (r1E (eVar 0)))) (gNm 2)) (sSeq (sAsg (eCl (nNew .lst eA0)) (gNm 3)) (sSeq (sFor (iEn (eAc (eVar 1) eA0)) (gTp 2 (gCn (gNm 4) (gCn (gTp 2 (gCn (gNm 5) (gCn (gNm 6) gNl))) gNl))) (sIf (eB (e2 (eqE true) (e2 ixE (eVar 2) (eVar 5)) (e2 ixE (eVar 2) (eVar 6)))) (sSeq (sExp (eBm (cellM opAppend) (eVar 3) (eAc (eVar 4) eA0))) (sAsg (eF (nLc (iSeq (eVar 2)) (gNm 7) tYesD (eIf (eB (e2 (eqE false) (eVar 7) (e2 ixE (eVar 2) (eVar 6)))) (e2 ixE (eVar 2) (eVar 5)) (eVar 7)) [7])) (gNm 2))) sNext)) (sRet (eVar 3))))
noncomputable def F_forest_of : List D → Ev D := runF 8 g_forest_of
noncomputable def g_links_of : Lo → Ev Fl := sSeq (sAsg (fun S => (nLc (iR1 (eAc (eVar 0) eA0)) (gNm 7) tYesD (eCl (nNew .lst eA0)) [7] S).bnd frz) (gNm 3)) (sSeq (sFor (iSeq (eVar 2)) (gNm 4) (sSeq (sAsg (e2 ixE (eVar 1) (eVar 4)) (gTp 2 (gCn (gNm 5) (gCn (gNm 6) gNl)))) (sSeq (sExp (eBm (cellM opAppend) (e2 ixE (eVar 3) (eVar 5)) (eAc (eF (nNew .tup (eAc (eVar 4) (eAc (eC (.int 1)) (eAc (eVar 6) eA0))))) eA0))) (sExp (eBm (cellM opAppend) (e2 ixE (eVar 3) (eVar 6)) (eAc (eF (nNew .tup (eAc (eVar 4) (eAc (e1 negE (eC (.int 1))) (eAc (eVar 5) eA0))))) eA0)))))) (sRet (eVar 3)))
noncomputable def F_links_of : List D → Ev D := runF 8 g_links_of
noncomputable def g_is_integer : Lo → Ev Fl := sRet (eAndV (eCall (op2 isiE) (eAc (eVar 0) (eAc (eC (.ty "int")) eA0))) (eNotV (eCall (op2 isiE) (eAc (eVar 0) (eAc (eC (.ty "bool")) eA0)))))
noncomputable def F_is_integer : List D → Ev D := runF 1 g_is_integer
noncomputable def g_is_within : Lo → Ev Fl := sRet (eAndV (eFz (eCall (callD 1 F_is_integer) (eAc (eVar 0) eA0))) (eChain leE leE (eVar 1) (eVar 0) (eVar 2)))
noncomputable def F_is_within : List D → Ev D := runF 3 g_is_within
noncomputable def g_is_edge : Lo → Ev Fl := sSeq (sIf (eOr (eNot (eTru (eCall (op2 isiE) (eAc (eVar 0) (eAc (eC (.ty "tuple")) eA0))))) (eB (e2 (eqE true) (eCall (op1 lenE) (eAc (eVar 0) eA0)) (eC (.int 2))))) (sRet (eC (.bl false))) sNext) (sRet (eAndV (eFz (eCall (callD 3 F_is_within) (eAc (e2 ixE (eVar 0) (eC (.int 0))) (eAc (eC (.int 0)) (eAc (e2 subE (eVar 1) (eC (.int 1))) eA0))))) (eFz (eCall (callD 3 F_is_within) (eAc (e2 ixE (eVar 0) (eC (.int 1))) (eAc (eC (.int 0)) (eAc (e2 subE (eVar 1) (eC (.int 1))) eA0)))))))
noncomputable def F_is_edge : List D → Ev D := runF 2 g_is_edge
noncomputable def g_is_modulus : Lo → Ev Fl := sRet (eAndV (eFz (eCall (callD 3 F_is_within) (eAc (eVar 0) (eAc (eC (.int 0)) (eAc (eC (.int 60)) eA0))))) (e2 (eqE true) (eVar 0) (eC (.int 1))))
noncomputable def F_is_modulus : List D → Ev D := runF 1 g_is_modulus
noncomputable def g_check_edges : Lo → Ev Fl := sSeq (sIf (eNot (eTru (eCall (op2 isiTE) (eAc (eVar 1) (eAc (eF (nNew .tup (eAc (eC (.ty "list")) (eAc (eC (.ty "tuple")) eA0)))) eA0))))) (sRaise ("InvalidEdge" : Str) (eVar 1)) sNext) (sSeq (sFor (iSeq (eVar 1)) (gNm 2) (sIf (eNot (eTru (eFz (eCall (callD 2 F_is_edge) (eAc (eVar 2) (eAc (eVar 0) eA0)))))) (sRaise ("InvalidEdge" : Str) (eVar 2)) sNext)) (sIf (eB (e2 gtE (eCall (op1 lenE) (eAc (eVar 1) eA0)) (eC (.int 60)))) sNo sNext))
noncomputable def F_check_edges : List D → Ev D := runF 3 g_check_edges
noncomputable def g_Web___init__ : Lo → Ev Fl := sSeq (sIf (eNot (eTru (eFz (eCall (callD 3 F_is_within) (eAc (eVar 1) (eAc (eC (.int 1)) (eAc (eC (.int 30)) eA0))))))) (sRaise ("InvalidSize" : Str) (eVar 1)) sNext) (sSeq (sExp (eFz (eCall (callD 2 F_check_edges) (eAc (eVar 1) (eAc (eVar 2) eA0))))) (sSeq (sIf (eNot (eTru (eFz (eCall (callD 1 F_is_modulus) (eAc (eVar 3) eA0))))) (sRaise ("InvalidModulus" : Str) (eVar 3)) sNext) (sSeq (sFldD ("Web" : Str) ("own_size" : Str) (eVar 0) (eVar 1)) (sSeq (sFldD ("Web" : Str) ("own_edges" : Str) (eVar 0) (eF (nCall (op1 listN) (eAc (eVar 2) eA0)))) (sSeq (sFldD ("Web" : Str) ("own_modulus" : Str) (eVar 0) (eVar 3)) (sSeq (sFldD ("Web" : Str) ("own_forest" : Str) (eVar 0) (eFz (eCall (callD 2 F_forest_of) (eAc (eVar 1) (eAc (eVar 2) eA0))))) (sFldD ("Web" : Str) ("links" : Str) (eVar 0) (eFz (eCall (callD 3 F_links_of) (eAc (eVar 1) (eAc (eVar 2) (eAc (e1 (fldE ("Web" : Str) ("own_forest" : Str)) (eVar 0)) eA0))))))))))))
noncomputable def F_Web___init__ : List D → Ev D := runF 4 g_Web___init__
noncomputable def g_Web_modulus : Lo → Ev Fl := sRet (e1 (fldE ("Web" : Str) ("own_modulus" : Str)) (eVar 0))
noncomputable def F_Web_modulus : List D → Ev D := runF 1 g_Web_modulus
noncomputable def g_Web_edge : Lo → Ev Fl := sSeq (sIf (eNot (eTru (eFz (eCall (callD 3 F_is_within) (eAc (eVar 1) (eAc (eC (.int 0)) (eAc (e2 subE (eCall (op1 lenE) (eAc (e1 (fldE ("Web" : Str) ("own_edges" : Str)) (eVar 0)) eA0)) (eC (.int 1))) eA0))))))) sNo sNext) (sRet (e2 ixE (e1 (fldE ("Web" : Str) ("own_edges" : Str)) (eVar 0)) (eVar 1)))
noncomputable def F_Web_edge : List D → Ev D := runF 2 g_Web_edge
noncomputable def g_Web_forest : Lo → Ev Fl := sRet (eF (nCall (op1 listN) (eAc (e1 (fldE ("Web" : Str) ("own_forest" : Str)) (eVar 0)) eA0)))
noncomputable def F_Web_forest : List D → Ev D := runF 1 g_Web_forest
noncomputable def g_Web___len__ : Lo → Ev Fl := sRet (eCall (op1 lenE) (eAc (e1 (fldE ("Web" : Str) ("own_edges" : Str)) (eVar 0)) eA0))
noncomputable def F_Web___len__ : List D → Ev D := runF 1 g_Web___len__
noncomputable def g__law_pool : Lo → Ev Fl := sSeq (sAsg (eC (.int 0)) (gNm 2)) (sSeq (sIf (eB (e2 ltE (eVar 1) (eCall (op1 lenE) (eAc (eVar 0) eA0)))) (sAsg (e2 ixE (eVar 0) (eVar 1)) (gNm 2)) sNext) (sSeq (sAsg (e2 modE (e2 mulE (eF (n2 addN (eF (n2 addN (e2 modE (eVar 2) (eC (.int 2147483629))) (e2 mulE (e2 mulE (eC (.int 7919)) (eVar 1)) (eVar 1)))) (eC (.int 13)))) (eC (.int 48271))) (eC (.int 2147483647))) (gNm 3)) (sSeq (sIf (eB (e2 ltE (eVar 2) (e2 powE (eC (.int 10)) (eC (.int 18))))) (sAsg (eC (.int 0)) (gNm 2)) sNext) (sRet (eCl (nNew .lst (eAc (eVar 2) (eAc (eF (n2 addN (e2 modE (e2 mulE (eVar 3) (eVar 3)) (eC (.int 2147483587))) (eC (.int 1)))) eA0))))))))
noncomputable def F__law_pool : List D → Ev D := runF 4 g__law_pool
noncomputable def g__law_take : Lo → Ev Fl := sSeq (sIf (eB (e2 gtE (e2 ixE (eVar 0) (eC (.int 0))) (eC (.int 0)))) (sSeq (sAsg (e2 modE (e2 ixE (eVar 0) (eC (.int 0))) (eVar 1)) (gNm 2)) (sSeq (sAsg (e2 divE (e2 ixE (eVar 0) (eC (.int 0))) (eVar 1)) (gSet (eVar 0) (eC (.int 0)))) (sRet (eVar 2)))) sNext) (sSeq (sAsg (e2 modE (eF (n2 addN (e2 mulE (e2 ixE (eVar 0) (eC (.int 1))) (eC (.int 48271))) (eC (.int 11)))) (eC (.int 2147483647))) (gSet (eVar 0) (eC (.int 1)))) (sRet (e2 modE (e2 divE (e2 modE (e2 mulE (e2 ixE (eVar 0) (eC (.int 1))) (e2 ixE (eVar 0) (eC (.int 1)))) (eC (.int 2147483629))) (eC (.int 64))) (eVar 1))))
noncomputable def F__law_take : List D → Ev D := runF 3 g__law_take
noncomputable def g__law_links : Lo → Ev Fl := sSeq (sAsg (eCl (nNew .lst eA0)) (gNm 3)) (sSeq (sFor (iR1 (eAc (eFz (eCall (callD 2 F__law_take) (eAc (eVar 0) (eAc (eF (n2 addN (eVar 2) (eC (.int 1)))) eA0)))) eA0)) (gNm 4) (sExp (eBm (cellM opAppend) (eVar 3) (eAc (eF (nNew .tup (eAc (eFz (eCall (callD 2 F__law_take) (eAc (eVar 0) (eAc (eVar 1) eA0)))) (eAc (eFz (eCall (callD 2 F__law_take) (eAc (eVar 0) (eAc (eVar 1) eA0)))) eA0)))) eA0)))) (sRet (eVar 3)))
noncomputable def F__law_links : List D → Ev D := runF 5 g__law_links
noncomputable def g_walk_paths : Lo → Ev Fl := sSeq (sAsg (eCl (nDisp (pCons (eVar 1) (eF (nNew .lst eA0)) pNil))) (gNm 2)) (sSeq (sAsg (eCl (nNew .lst (eAc (eVar 1) eA0))) (gNm 3)) (sSeq (whileL (eTru (eVar 3)) (sSeq (sAsg (eCl (nNew .lst eA0)) (gNm 4)) (sSeq (sFor (iSeq (eVar 3)) (gNm 5) (sFor (iSeq (e2 ixE (eVar 0) (eVar 5))) (gTp 3 (gCn (gNm 6) (gCn (gNm 7) (gCn (gNm 8) gNl)))) (sIf (eB (e2 (inK true) (eVar 8) (eVar 2))) (sSeq (sDPutD (eVar 2) (eVar 8) (eF (n2 addN (e2 getK (eVar 2) (eVar 5)) (eF (nNew .lst (eAc (eF (nNew .tup (eAc (eVar 6) (eAc (eVar 7) eA0)))) eA0)))))) (sExp (eBm (cellM opAppend) (eVar 4) (eAc (eVar 8) eA0)))) sNext))) (sAsg (eVar 4) (gNm 3)))) 1000) (sRet (e1 lkE (eVar 2)))))
noncomputable def F_walk_paths : List D → Ev D := runF 9 g_walk_paths
noncomputable def g_components_of : Lo → Ev Fl := sSeq (sAsg (eCl (nNew .lst eA0)) (gNm 1)) (sSeq (sAsg (eCl (fun _ => Ev.ret (NR.n (.dct []) []))) (gNm 2)) (sSeq (sFor (iR1 (eAc (eCall (op1 lenE) (eAc (eVar 0) eA0)) eA0)) (gNm 3) (sIf (eB (e2 (inK true) (eVar 3) (eVar 2))) (sSeq (sAsg (eF (nCall (op1 sortedN) (eAc (eFz (eCall (callD 2 F_walk_paths) (eAc (eVar 0) (eAc (eVar 3) eA0)))) eA0))) (gNm 4)) (sSeq (sExp (eBk updE (eVar 2) (eAc (eF (nDc (iSeq (eVar 4)) (gNm 5) tYesD (eVar 5) (eC (.bl true)) [5])) eA0))) (sExp (eBm (cellM opAppend) (eVar 1) (eAc (eVar 4) eA0))))) sNext)) (sRet (eVar 1))))
noncomputable def F_components_of : List D → Ev D := runF 6 g_components_of
noncomputable def g_Web_components : Lo → Ev Fl := sRet (eFz (eCall (callD 1 F_components_of) (eAc (e1 (fldE ("Web" : Str) ("links" : Str)) (eVar 0)) eA0)))
noncomputable def F_Web_components : List D → Ev D := runF 1 g_Web_components
noncomputable def g_is_residue : Lo → Ev Fl := sSeq (sIf (eB (e2 (eqE false) (eFz (eMeth ("Web" : Str) ("modulus" : Str) 1 F_Web_modulus [] (eVar 0) eA0)) (eC (.int 0)))) (sRet (eFz (eCall (callD 1 F_is_integer) (eAc (eVar 1) eA0)))) sNext) (sRet (eFz (eCall (callD 3 F_is_within) (eAc (eVar 1) (eAc (eC (.int 0)) (eAc (e2 subE (eFz (eMeth ("Web" : Str) ("modulus" : Str) 1 F_Web_modulus [] (eVar 0) eA0)) (eC (.int 1))) eA0))))))
noncomputable def F_is_residue : List D → Ev D := runF 2 g_is_residue
noncomputable def g_are_residues : Lo → Ev Fl := sRet (eAndV (eCall (op2 isiE) (eAc (eVar 1) (eAc (eC (.ty "list")) eA0))) (eAndV (e2 (eqE false) (eCall (op1 lenE) (eAc (eVar 1) eA0)) (eVar 2)) (eCall (op1 allE) (eAc (eF (nLc (iSeq (eVar 1)) (gNm 3) tYesD (eFz (eCall (callD 2 F_is_residue) (eAc (eVar 0) (eAc (eVar 3) eA0)))) [3])) eA0))))
noncomputable def F_are_residues : List D → Ev D := runF 4 g_are_residues
noncomputable def g_is_gains : Lo → Ev Fl := sRet (eFz (eCall (callD 3 F_are_residues) (eAc (eVar 0) (eAc (eVar 1) (eAc (eCall (op1 (lenO ("Web" : Str) F_Web___len__)) (eAc (eVar 0) eA0)) eA0)))))
noncomputable def F_is_gains : List D → Ev D := runF 2 g_is_gains
noncomputable def g_check_gains : Lo → Ev Fl := sIf (eNot (eTru (eFz (eCall (callD 2 F_is_gains) (eAc (eVar 0) (eAc (eVar 1) eA0)))))) (sRaise ("InvalidGains" : Str) (eVar 1)) sNext
noncomputable def F_check_gains : List D → Ev D := runF 2 g_check_gains
noncomputable def g_Web_cycles : Lo → Ev Fl := sSeq (sAsg (eCl (nNew .lst eA0)) (gNm 1)) (sSeq (sFor (iEn (eAc (e1 (fldE ("Web" : Str) ("own_edges" : Str)) (eVar 0)) eA0)) (gTp 2 (gCn (gNm 2) (gCn (gTp 2 (gCn (gNm 3) (gCn (gNm 4) gNl))) gNl))) (sIf (eB (e2 (inE true) (eVar 2) (e1 (fldE ("Web" : Str) ("own_forest" : Str)) (eVar 0)))) (sExp (eBm (cellM opAppend) (eVar 1) (eAc (eF (n2 addN (eF (nNew .lst (eAc (eF (nNew .tup (eAc (eVar 2) (eAc (eC (.int 1)) eA0)))) eA0))) (e2 getK (eFz (eCall (callD 2 F_walk_paths) (eAc (e1 (fldE ("Web" : Str) ("links" : Str)) (eVar 0)) (eAc (eVar 4) eA0)))) (eVar 3)))) eA0))) sNext)) (sRet (eVar 1)))
noncomputable def F_Web_cycles : List D → Ev D := runF 5 g_Web_cycles
noncomputable def g_is_step : Lo → Ev Fl := sSeq (sIf (eOr (eNot (eTru (eCall (op2 isiE) (eAc (eVar 1) (eAc (eC (.ty "tuple")) eA0))))) (eB (e2 (eqE true) (eCall (op1 lenE) (eAc (eVar 1) eA0)) (eC (.int 2))))) (sRet (eC (.bl false))) sNext) (sRet (eAndV (eFz (eCall (callD 3 F_is_within) (eAc (e2 ixE (eVar 1) (eC (.int 0))) (eAc (eC (.int 0)) (eAc (e2 subE (eCall (op1 (lenO ("Web" : Str) F_Web___len__)) (eAc (eVar 0) eA0)) (eC (.int 1))) eA0))))) (eAndV (eFz (eCall (callD 3 F_is_within) (eAc (e2 ixE (eVar 1) (eC (.int 1))) (eAc (e1 negE (eC (.int 1))) (eAc (eC (.int 1)) eA0))))) (e2 (eqE true) (e2 ixE (eVar 1) (eC (.int 1))) (eC (.int 0))))))
noncomputable def F_is_step : List D → Ev D := runF 2 g_is_step
noncomputable def g_step_ends : Lo → Ev Fl := sSeq (sAsg (eVar 1) (gTp 2 (gCn (gNm 2) (gCn (gNm 3) gNl)))) (sSeq (sAsg (eFz (eMeth ("Web" : Str) ("edge" : Str) 2 F_Web_edge [] (eVar 0) (eAc (eVar 2) eA0))) (gTp 2 (gCn (gNm 4) (gCn (gNm 5) gNl)))) (sRet (eIf (eB (e2 (eqE false) (eVar 3) (eC (.int 1)))) (eF (nNew .tup (eAc (eVar 4) (eAc (eVar 5) eA0)))) (eF (nNew .tup (eAc (eVar 5) (eAc (eVar 4) eA0)))))))
noncomputable def F_step_ends : List D → Ev D := runF 6 g_step_ends
noncomputable def g_is_walk : Lo → Ev Fl := sSeq (sIf (eOr (eNot (eTru (eCall (op2 isiE) (eAc (eVar 1) (eAc (eC (.ty "list")) eA0))))) (eB (e2 (eqE false) (eVar 1) (eF (nNew .lst eA0))))) (sRet (eC (.bl false))) sNext) (sSeq (sIf (eNot (eTru (eCall (op1 allE) (eAc (eF (nLc (iSeq (eVar 1)) (gNm 3) tYesD (eFz (eCall (callD 2 F_is_step) (eAc (eVar 0) (eAc (eVar 3) eA0)))) [3])) eA0)))) (sRet (eC (.bl false))) sNext) (sSeq (sAsg (fun S => (nLc (iSeq (eVar 1)) (gNm 3) tYesD (eFz (eCall (callD 2 F_step_ends) (eAc (eVar 0) (eAc (eVar 3) eA0)))) [3] S).bnd frz) (gNm 2)) (sRet (eCall (op1 allE) (eAc (eF (nLc (iZp (eAc (eVar 2) (eAc (eF (nSl (eVar 2) (oSo (eC (.int 1))) oNo)) eA0))) (gTp 2 (gCn (gNm 4) (gCn (gNm 5) gNl))) tYesD (e2 (eqE false) (e2 ixE (eVar 4) (eC (.int 1))) (e2 ixE (eVar 5) (eC (.int 0)))) [4, 5])) eA0)))))
noncomputable def F_is_walk : List D → Ev D := runF 6 g_is_walk
noncomputable def g_reduced_number : Lo → Ev Fl := sRet (eIf (eB (e2 gtE (eVar 1) (eC (.int 0)))) (e2 modE (eVar 0) (eVar 1)) (eVar 0))
noncomputable def F_reduced_number : List D → Ev D := runF 2 g_reduced_number
noncomputable def g_residue : Lo → Ev Fl := sSeq (sIf (eNot (eTru (eFz (eCall (callD 1 F_is_integer) (eAc (eVar 1) eA0))))) (sRaise ("InvalidAmount" : Str) (eVar 1)) sNext) (sRet (eFz (eCall (callD 2 F_reduced_number) (eAc (eVar 1) (eAc (eFz (eMeth ("Web" : Str) ("modulus" : Str) 1 F_Web_modulus [] (eVar 0) eA0)) eA0)))))
noncomputable def F_residue : List D → Ev D := runF 2 g_residue
noncomputable def g__law_low : Lo → Ev Fl := sRet (eIf (eB (e2 gtE (eVar 1) (eC (.int 0)))) (e2 modE (eVar 0) (eVar 1)) (eVar 0))
noncomputable def F__law_low : List D → Ev D := runF 2 g__law_low
noncomputable def g_walk_sum : Lo → Ev Fl := sSeq (sExp (eFz (eCall (callD 2 F_check_gains) (eAc (eVar 0) (eAc (eVar 1) eA0))))) (sSeq (sIf (eNot (eTru (eFz (eCall (callD 2 F_is_walk) (eAc (eVar 0) (eAc (eVar 2) eA0)))))) (sRaise ("InvalidWalk" : Str) (eVar 2)) sNext) (sRet (eFz (eCall (callD 2 F_residue) (eAc (eVar 0) (eAc (eCall (op1 sumE) (eAc (eF (nLc (iSeq (eVar 2)) (gTp 2 (gCn (gNm 3) (gCn (gNm 4) gNl))) tYesD (e2 mulE (eVar 4) (e2 ixE (eVar 1) (eVar 3))) [3, 4])) eA0)) eA0))))))
noncomputable def F_walk_sum : List D → Ev D := runF 5 g_walk_sum
noncomputable def g__law_put : Lo → Ev Fl := sSeq (sAsg (eCl (nNew .lst eA0)) (gNm 4)) (sSeq (sFor (iZp (eAc (eVar 2) (eAc (eVar 0) eA0))) (gTp 2 (gCn (gNm 5) (gCn (gTp 2 (gCn (gNm 6) (gCn (gNm 7) gNl))) gNl))) (sExp (eBm (cellM opAppend) (eVar 4) (eAc (eFz (eCall (callD 2 F__law_low) (eAc (e2 subE (eF (n2 addN (eVar 5) (e2 ixE (eVar 3) (eVar 6)))) (e2 ixE (eVar 3) (eVar 7))) (eAc (eVar 1) eA0)))) eA0)))) (sRet (eVar 4)))
noncomputable def F__law_put : List D → Ev D := runF 8 g__law_put
noncomputable def g__law_all : Lo → Ev Fl := sSeq (sAsg (eF (nNew .lst (eAc (eF (nNew .lst eA0)) eA0))) (gNm 2)) (sSeq (sFor (iR1 (eAc (eVar 0) eA0)) (gNm 3) (sSeq (sAsg (eF (nNew .lst eA0)) (gNm 4)) (sSeq (sFor (iSeq (eVar 2)) (gNm 5) (sAsg (eF (n2 addN (eVar 4) (eF (nLc (iR1 (eAc (eVar 1) eA0)) (gNm 6) tYesD (eF (n2 addN (eVar 5) (eF (nNew .lst (eAc (eVar 6) eA0))))) [6])))) (gNm 4))) (sAsg (eVar 4) (gNm 2))))) (sRet (eVar 2)))
noncomputable def F__law_all : List D → Ev D := runF 7 g__law_all
noncomputable def g_cycle_sums : Lo → Ev Fl := sSeq (sExp (eFz (eCall (callD 2 F_check_gains) (eAc (eVar 0) (eAc (eVar 1) eA0))))) (sRet (eCl (nLc (iSeq (eFz (eMeth ("Web" : Str) ("cycles" : Str) 1 F_Web_cycles [] (eVar 0) eA0))) (gNm 2) tYesD (eFz (eCall (callD 3 F_walk_sum) (eAc (eVar 0) (eAc (eVar 1) (eAc (eVar 2) eA0))))) [2])))
noncomputable def F_cycle_sums : List D → Ev D := runF 3 g_cycle_sums
noncomputable def g_normal : Lo → Ev Fl := sSeq (sAsg (eFz (eCall (callD 2 F_cycle_sums) (eAc (eVar 0) (eAc (eVar 1) eA0)))) (gNm 2)) (sSeq (sAsg (eCl (n2 repN (eF (nNew .lst (eAc (eC (.int 0)) eA0))) (eCall (op1 (lenO ("Web" : Str) F_Web___len__)) (eAc (eVar 0) eA0)))) (gNm 3)) (sSeq (sFor (iZp (eAc (eFz (eMeth ("Web" : Str) ("cycles" : Str) 1 F_Web_cycles [] (eVar 0) eA0)) (eAc (eVar 2) eA0))) (gTp 2 (gCn (gNm 4) (gCn (gNm 5) gNl))) (sAsg (eVar 5) (gSet (eVar 3) (e2 ixE (e2 ixE (eVar 4) (eC (.int 0))) (eC (.int 0)))))) (sRet (eVar 3))))
noncomputable def F_normal : List D → Ev D := runF 6 g_normal
noncomputable def g_power_of : Lo → Ev Fl := sSeq (sIf (eB (e2 gtE (eFz (eMeth ("Web" : Str) ("modulus" : Str) 1 F_Web_modulus [] (eVar 0) eA0)) (eC (.int 0)))) (sSeq (sAsg (eC (.int 1)) (gNm 2)) (sSeq (sFor (iR1 (eAc (eVar 1) eA0)) (gNm 3) (sAsg (e2 mulE (eVar 2) (eFz (eMeth ("Web" : Str) ("modulus" : Str) 1 F_Web_modulus [] (eVar 0) eA0))) (gNm 2))) (sRet (eVar 2)))) sNext) (sRet (eIf (eB (e2 (eqE false) (eVar 1) (eC (.int 0)))) (eC (.int 1)) (eC .non)))
noncomputable def F_power_of : List D → Ev D := runF 4 g_power_of
noncomputable def g_class_size : Lo → Ev Fl := sRet (eFz (eCall (callD 2 F_power_of) (eAc (eVar 0) (eAc (eCall (op1 lenE) (eAc (eFz (eMeth ("Web" : Str) ("forest" : Str) 1 F_Web_forest [] (eVar 0) eA0)) eA0)) eA0))))
noncomputable def F_class_size : List D → Ev D := runF 1 g_class_size
noncomputable def g_class_count : Lo → Ev Fl := sRet (eFz (eCall (callD 2 F_power_of) (eAc (eVar 0) (eAc (e2 subE (eCall (op1 (lenO ("Web" : Str) F_Web___len__)) (eAc (eVar 0) eA0)) (eCall (op1 lenE) (eAc (eFz (eMeth ("Web" : Str) ("forest" : Str) 1 F_Web_forest [] (eVar 0) eA0)) eA0))) eA0))))
noncomputable def F_class_count : List D → Ev D := runF 1 g_class_count
noncomputable def g_potential_count : Lo → Ev Fl := sRet (eFz (eCall (callD 2 F_power_of) (eAc (eVar 0) (eAc (eCall (op1 lenE) (eAc (eFz (eMeth ("Web" : Str) ("components" : Str) 1 F_Web_components [] (eVar 0) eA0)) eA0)) eA0))))
noncomputable def F_potential_count : List D → Ev D := runF 1 g_potential_count
end Lw

set_option Elab.async false
set_option linter.all false
set_option maxRecDepth 100000
set_option maxHeartbeats 4000000
namespace Lw
open PySem L2 DL
noncomputable def g__law_unlike : Lo → Ev Fl := sSeq (sAsg (eCl (fun _ => Ev.ret (NR.n (.dct []) []))) (gNm 1)) (sSeq (sFor (iSeq (eVar 0)) (gNm 2) (sDPutD (eVar 1) (eCall (op1 reprE) (eAc (eVar 2) eA0)) (eC (.bl true)))) (sRet (eCall (op1 lenDc) (eAc (eVar 1) eA0))))
noncomputable def F__law_unlike : List D → Ev D := runF 3 g__law_unlike
noncomputable def g__law_endless : Lo → Ev Fl := sSeq (sAsg (eF (n2 addN (eC (.int 1)) (eFz (eCall (callD 2 F__law_take) (eAc (eVar 0) (eAc (eC (.int 30)) eA0)))))) (gNm 1)) (sSeq (sAsg (eFz (eCall (callD 3 F__law_links) (eAc (eVar 0) (eAc (eVar 1) (eAc (e2 ixE (eF (nNew .lst (eAc (eC (.int 2)) (eAc (eC (.int 60)) eA0)))) (eFz (eCall (callD 2 F__law_take) (eAc (eVar 0) (eAc (eC (.int 2)) eA0))))) eA0))))) (gNm 2)) (sSeq (sAsg (eFz (eMakeP ("Web" : Str) 4 [.int 0] F_Web___init__ (eAc (eVar 1) (eAc (eVar 2) eA0)))) (gNm 3)) (sSeq (sAsg (fun S => (nLc (iSeq (eVar 2)) (gNm 6) (eB (e2 (eqE true) (e2 ixE (eVar 6) (eC (.int 0))) (e2 ixE (eVar 6) (eC (.int 1))))) (eVar 6) [6] S).bnd frz) (gNm 4)) (sSeq (sAsg (eF (nNew .lst (eAc (eIf (eB (e2 (eqE true) (eVar 4) (eF (nNew .lst eA0)))) (eC .non) (eC (.int 1))) (eAc (eIf (eB (e2 (eqE false) (eCall (op1 lenE) (eAc (eFz (eMeth ("Web" : Str) ("forest" : Str) 1 F_Web_forest [] (eVar 3) eA0)) eA0)) (eCall (op1 lenE) (eAc (eVar 2) eA0)))) (eC (.int 1)) (eC .non)) (eAc (eC .non) eA0))))) (gNm 5)) (sRet (e2 (eqE false) (eF (nNew .lst (eAc (eFz (eCall (callD 1 F_class_size) (eAc (eVar 3) eA0))) (eAc (eFz (eCall (callD 1 F_class_count) (eAc (eVar 3) eA0))) (eAc (eFz (eCall (callD 1 F_potential_count) (eAc (eVar 3) eA0))) eA0))))) (eVar 5)))))))
noncomputable def F__law_endless : List D → Ev D := runF 7 g__law_endless
noncomputable def g__law_great : Lo → Ev Fl := sSeq (sPar 1 2 (eAc (eF (n2 addN (eC (.int 1)) (eFz (eCall (callD 2 F__law_take) (eAc (eVar 0) (eAc (eC (.int 30)) eA0)))))) (eAc (eF (n2 addN (eC (.int 2)) (eFz (eCall (callD 2 F__law_take) (eAc (eVar 0) (eAc (eC (.int 59)) eA0)))))) eA0))) (sSeq (sAsg (eFz (eCall (callD 3 F__law_links) (eAc (eVar 0) (eAc (eVar 1) (eAc (eC (.int 60)) eA0))))) (gNm 3)) (sSeq (sAsg (eF (lrN (r1E (eVar 1)))) (gNm 4)) (sSeq (sAsg (eC (.int 0)) (gNm 5)) (sSeq (sFor (iSeq (eVar 3)) (gTp 2 (gCn (gNm 6) (gCn (gNm 7) gNl))) (sIf (eB (e2 (eqE true) (e2 ixE (eVar 4) (eVar 6)) (e2 ixE (eVar 4) (eVar 7)))) (sSeq (sAsg (eF (nLc (iSeq (eVar 4)) (gNm 13) tYesD (eIf (eB (e2 (eqE false) (eVar 13) (e2 ixE (eVar 4) (eVar 7)))) (e2 ixE (eVar 4) (eVar 6)) (eVar 13)) [13])) (gNm 4)) (sAsg (eF (n2 addN (eVar 5) (eC (.int 1)))) (gNm 5))) sNext)) (sSeq (sAsg (eCl (nNew .lst eA0)) (gNm 8)) (sSeq (sFor (iSeq (eF (nNew .lst (eAc (eVar 5) (eAc (e2 subE (eCall (op1 lenE) (eAc (eVar 3) eA0)) (eVar 5)) (eAc (e2 subE (eVar 1) (eVar 5)) eA0)))))) (gNm 9) (sSeq (sAsg (eC (.int 1)) (gNm 10)) (sSeq (sFor (iR1 (eAc (eVar 9) eA0)) (gNm 11) (sAsg (e2 mulE (eVar 10) (eVar 2)) (gNm 10))) (sExp (eBm (cellM opAppend) (eVar 8) (eAc (eVar 10) eA0)))))) (sSeq (sAsg (eFz (eMake ("Web" : Str) 4 2 1 (fun d l z => d :: (l ++ z)) F_Web___init__ (eAc (eVar 1) (eAc (eVar 3) eA0)) (eAc (eVar 2) eA0))) (gNm 12)) (sRet (e2 (eqE false) (eCall (op1 reprE) (eAc (eF (nNew .lst (eAc (eFz (eCall (callD 1 F_class_size) (eAc (eVar 12) eA0))) (eAc (eFz (eCall (callD 1 F_class_count) (eAc (eVar 12) eA0))) (eAc (eFz (eCall (callD 1 F_potential_count) (eAc (eVar 12) eA0))) eA0))))) eA0)) (eCall (op1 reprE) (eAc (eVar 8) eA0)))))))))))
noncomputable def F__law_great : List D → Ev D := runF 14 g__law_great
noncomputable def g_law : Lo → Ev Fl := sSeq (sFor (iR1 (eAc (eCall (op2 maxE) (eAc (eC (.int 1)) (eAc (eCall (op2 minE) (eAc (eCall (op1 lenE) (eAc (eVar 0) eA0)) (eAc (eC (.int 3)) eA0))) eA0))) eA0)) (gNm 1) (sSeq (sAsg (eCall (callD 2 F__law_pool) (eAc (eVar 0) (eAc (eVar 1) eA0))) (gNm 2)) (sSeq (sAsg (eF (nNew .tup (eAc (eF (n2 addN (eC (.int 1)) (eFz (eCall (callD 2 F__law_take) (eAc (eVar 2) (eAc (eC (.int 4)) eA0)))))) (eAc (eF (n2 addN (eC (.int 2)) (eFz (eCall (callD 2 F__law_take) (eAc (eVar 2) (eAc (eC (.int 3)) eA0)))))) eA0)))) (gTp 2 (gCn (gNm 3) (gCn (gNm 4) gNl)))) (sSeq (sAsg (eFz (eCall (callD 3 F__law_links) (eAc (eVar 2) (eAc (eVar 3) (eAc (eC (.int 4)) eA0))))) (gNm 5)) (sSeq (sAsg (eFz (eMake ("Web" : Str) 4 2 1 (fun d l z => d :: (l ++ z)) F_Web___init__ (eAc (eVar 3) (eAc (eVar 5) eA0)) (eAc (eVar 4) eA0))) (gNm 6)) (sSeq (sAsg (eFz (eCall (callD 2 F__law_all) (eAc (eVar 3) (eAc (eVar 4) eA0)))) (gNm 7)) (sSeq (sAsg (eFz (eCall (callD 2 F__law_all) (eAc (eCall (op1 lenE) (eAc (eVar 5) eA0)) (eAc (eVar 4) eA0)))) (gNm 8)) (sSeq (sAsg (e2 ixE (eVar 8) (eFz (eCall (callD 2 F__law_take) (eAc (eVar 2) (eAc (eCall (op1 lenE) (eAc (eVar 8) eA0)) eA0))))) (gNm 9)) (sSeq (sAsg (fun S => (nLc (iSeq (eVar 7)) (gNm 11) tYesD (eFz (eCall (callD 4 F__law_put) (eAc (eVar 5) (eAc (eVar 4) (eAc (eVar 9) (eAc (eVar 11) eA0)))))) [11] S).bnd frz) (gNm 10)) (sSeq (sIf (eB (e2 (eqE true) (eCall (op1 reprE) (eAc (eFz (eCall (callD 1 F_class_size) (eAc (eVar 6) eA0))) eA0)) (eCall (op1 reprE) (eAc (eFz (eCall (callD 1 F__law_unlike) (eAc (eVar 10) eA0))) eA0)))) (sRet (eC (.bl false))) sNext) (sSeq (sIf (eB (e2 (eqE true) (eCall (op1 reprE) (eAc (eFz (eCall (callD 1 F_class_count) (eAc (eVar 6) eA0))) eA0)) (eCall (op1 reprE) (eAc (eFz (eCall (callD 1 F__law_unlike) (eAc (eF (nLc (iSeq (eVar 8)) (gNm 11) tYesD (eFz (eCall (callD 2 F_normal) (eAc (eVar 6) (eAc (eVar 11) eA0)))) [11])) eA0))) eA0)))) (sRet (eC (.bl false))) sNext) (sSeq (sIf (eB (e2 (eqE true) (eCall (op1 reprE) (eAc (eFz (eCall (callD 1 F_potential_count) (eAc (eVar 6) eA0))) eA0)) (eCall (op1 reprE) (eAc (eCall (op1 lenE) (eAc (eF (nLc (iSeq (eVar 10)) (gNm 11) (eB (e2 (eqE false) (eVar 11) (eVar 9))) (eVar 11) [11])) eA0)) eA0)))) (sRet (eC (.bl false))) sNext) (sIf (eOr (eNot (eTru (eFz (eCall (callD 1 F__law_endless) (eAc (eVar 2) eA0))))) (eNot (eTru (eFz (eCall (callD 1 F__law_great) (eAc (eVar 2) eA0)))))) (sRet (eC (.bl false))) sNext))))))))))))) (sRet (eC (.bl true)))
noncomputable def F_law : List D → Ev D := runF 12 g_law
end Lw

set_option Elab.async false
set_option linter.all false
set_option maxRecDepth 100000
set_option maxHeartbeats 4000000
namespace Lw
open PySem L2 DL
theorem sc__law_pool : FnScope ["_law_script", "_law_k", "_law_cell", "_law_seed"] ["_law_script", "_law_k"] (defScope s__law_pool) := ⟨rfl, rfl, rfl, by decide +kernel, rfl, by decide +kernel, by decide +kernel⟩
theorem ok__law_pool {P : Program} {w : World} {K : PySem.W.Frag} {h : Heap} {mg : Str → Option Value} {base : Heap} (KX : K.In h) (G : h.Ns mainGlobals mg) (c : He.SaysD fa fn K) (cx : (exF.all fun f => f K) = true) : ∃ fd, Binds K fd ["_law_script", "_law_k"] [] ∧ FnOk P w K mg base (L2.CX P w) 1 (He.fAd K d__law_pool.at_) fd ["_law_script", "_law_k"] (spD ⟨K, mg⟩ 2 F__law_pool) := by
  obtain ⟨fd, F⟩ := c.def_ 38 (d := d__law_pool) rfl
  have z_len : mg "len" = none := He.free_ok KX G (c.fact 0 rfl)
  refine ⟨fd, FunD.bindsN F (fun _ _ _ _ _ _ us hl => match us, hl with | [_, _], _ => rfl), fn_d (k := 0) F sc__law_pool (fun cdv A outer s H E hr tk => ?_)⟩
  have hx : Passes (L2.CX P w) (cxOf (L2.CX P w) P w K mg base ["_law_script", "_law_k", "_law_cell", "_law_seed"] d__law_pool.qual d__law_pool.scope (He.fAd K d__law_pool.at_) cdv A outer s H E) E := passes_call tk (fun _ _ _ _ z => z)
  have hu64 := hr.units
  have hu := hu_of hr
  exact dss_cons (st 2 sc__law_pool.nd de_int) (dss_cons (ds_if (dt_lt (dv 1) (de_len rfl z_len (da_cons (dv 0) da_nil))) (dss_one (st 2 sc__law_pool.nd (de_ix (dv 0) (dv 1) (fun _ _ => rfl)))) dss_nil) (dss_cons (st 3 sc__law_pool.nd (de_mod (de_mul (DN.frz (dn_add (DN.frz (dn_add (de_mod (dv 2) de_int) (de_mul (de_mul de_int (dv 1)) (dv 1)))) de_int)) de_int) de_int)) (dss_cons (ds_if (dt_lt (dv 2) (de_pow de_int de_int)) (dss_one (st 2 sc__law_pool.nd de_int)) dss_nil) (dss_one (ds_ret (DN.cel (dn_lst (da_cons (dv 2) (da_cons (DN.frz (dn_add (de_mod (de_mul (dv 3) (dv 3)) de_int) de_int)) da_nil)))))))))
theorem sc__law_take : FnScope ["_law_pool_here", "_law_sides", "_law_found"] ["_law_pool_here", "_law_sides"] (defScope s__law_take) := ⟨rfl, rfl, rfl, by decide +kernel, rfl, by decide +kernel, by decide +kernel⟩
theorem ok__law_take {P : Program} {w : World} {K : PySem.W.Frag} {h : Heap} {mg : Str → Option Value} {base : Heap} (KX : K.In h) (G : h.Ns mainGlobals mg) (c : He.SaysD fa fn K) (cx : (exF.all fun f => f K) = true) : ∃ fd, Binds K fd ["_law_pool_here", "_law_sides"] [] ∧ FnOk P w K mg base (L2.CX P w) 1 (He.fAd K d__law_take.at_) fd ["_law_pool_here", "_law_sides"] (spD ⟨K, mg⟩ 2 F__law_take) := by
  obtain ⟨fd, F⟩ := c.def_ 39 (d := d__law_take) rfl
  refine ⟨fd, FunD.bindsN F (fun _ _ _ _ _ _ us hl => match us, hl with | [_, _], _ => rfl), fn_d (k := 0) F sc__law_take (fun cdv A outer s H E hr tk => ?_)⟩
  have hx : Passes (L2.CX P w) (cxOf (L2.CX P w) P w K mg base ["_law_pool_here", "_law_sides", "_law_found"] d__law_take.qual d__law_take.scope (He.fAd K d__law_take.at_) cdv A outer s H E) E := passes_call tk (fun _ _ _ _ z => z)
  have hu64 := hr.units
  have hu := hu_of hr
  exact dss_cons (ds_if (dt_gt (de_ix (dv 0) de_int (fun _ _ => rfl)) de_int) (dss_cons (st 2 sc__law_take.nd (de_mod (de_ix (dv 0) de_int (fun _ _ => rfl)) (dv 1))) (dss_cons (ds_asg (de_div (de_ix (dv 0) de_int (fun _ _ => rfl)) (dv 1)) (dg_sub (dv 0) de_int)) (dss_one (ds_ret (dv 2))))) dss_nil) (dss_cons (ds_asg (de_mod (DN.frz (dn_add (de_mul (de_ix (dv 0) de_int (fun _ _ => rfl)) de_int) de_int)) de_int) (dg_sub (dv 0) de_int)) (dss_one (ds_ret (de_mod (de_div (de_mod (de_mul (de_ix (dv 0) de_int (fun _ _ => rfl)) (de_ix (dv 0) de_int (fun _ _ => rfl))) de_int) de_int) (dv 1)))))
theorem sc__law_links : FnScope ["_law_pool_here", "_law_nodes", "_law_most", "_law_found", "_law_turn"] ["_law_pool_here", "_law_nodes", "_law_most"] (defScope s__law_links) := ⟨rfl, rfl, rfl, by decide +kernel, rfl, by decide +kernel, by decide +kernel⟩
theorem ok__law_links {P : Program} {w : World} {K : PySem.W.Frag} {h : Heap} {mg : Str → Option Value} {base : Heap} (KX : K.In h) (G : h.Ns mainGlobals mg) (c : He.SaysD fa fn K) (cx : (exF.all fun f => f K) = true) : ∃ fd, Binds K fd ["_law_pool_here", "_law_nodes", "_law_most"] [] ∧ FnOk P w K mg base (L2.CX P w) 2 (He.fAd K d__law_links.at_) fd ["_law_pool_here", "_law_nodes", "_law_most"] (spD ⟨K, mg⟩ 3 F__law_links) := by
  obtain ⟨fd, F⟩ := c.def_ 40 (d := d__law_links) rfl
  obtain ⟨fd__law_take, b__law_take, FO__law_take⟩ := ok__law_take (P := P) (w := w) (base := base) KX G c cx
  have g_f__law_take : mg "_law_take" = some (.ref (He.ga K "_law_take")) := He.glo_ok KX G (c.fact 1 rfl)
  have kp__law_take : PySem.W.keepIn K (.ref (He.ga K "_law_take")) = true := by
    obtain ⟨_, FF⟩ := c.def_ 39 (d := d__law_take) rfl
    exact FF.kp
  have z_range : mg "range" = none := He.free_ok KX G (c.fact 2 rfl)
  refine ⟨fd, FunD.bindsN F (fun _ _ _ _ _ _ us hl => match us, hl with | [_, _, _], _ => rfl), fn_d (k := 1) F sc__law_links (fun cdv A outer s H E hr tk => ?_)⟩
  have hx : Passes (L2.CX P w) (cxOf (L2.CX P w) P w K mg base ["_law_pool_here", "_law_nodes", "_law_most", "_law_found", "_law_turn"] d__law_links.qual d__law_links.scope (He.fAd K d__law_links.at_) cdv A outer s H E) E := passes_call tk (fun _ _ _ _ z => z)
  have hu64 := hr.units
  have hu := hu_of hr
  exact dss_cons (st 3 sc__law_links.nd (DN.cel (dn_lst da_nil))) (dss_cons (ds_for hp_of rfl (di_range1 rfl z_range (da_cons (DE.fz (de_call FO__law_take (hr.mono (by decide)) rfl g_f__law_take kp__law_take b__law_take tk (da_cons (dv 0) (da_cons (DN.frz (dn_add (dv 2) de_int)) da_nil)))) da_nil)) (gn 4 sc__law_links.nd) (dss_one (ds_expr (de_append (dv 3) (da_cons (DN.frz (dn_tup (da_cons (DE.fz (de_call FO__law_take (hr.mono (by decide)) rfl g_f__law_take kp__law_take b__law_take tk (da_cons (dv 0) (da_cons (dv 1) da_nil)))) (da_cons (DE.fz (de_call FO__law_take (hr.mono (by decide)) rfl g_f__law_take kp__law_take b__law_take tk (da_cons (dv 0) (da_cons (dv 1) da_nil)))) da_nil)))) da_nil))))) (dss_one (ds_ret (dv 3))))
theorem sc_is_integer : FnScope ["thing"] ["thing"] (defScope s_is_integer) := ⟨rfl, rfl, rfl, by decide +kernel, rfl, by decide +kernel, by decide +kernel⟩
theorem ok_is_integer {P : Program} {w : World} {K : PySem.W.Frag} {h : Heap} {mg : Str → Option Value} {base : Heap} (KX : K.In h) (G : h.Ns mainGlobals mg) (c : He.SaysD fa fn K) (cx : (exF.all fun f => f K) = true) : ∃ fd, Binds K fd ["thing"] [] ∧ FnOk P w K mg base (L2.CX P w) 1 (He.fAd K d_is_integer.at_) fd ["thing"] (spD ⟨K, mg⟩ 1 F_is_integer) := by
  obtain ⟨fd, F⟩ := c.def_ 11 (d := d_is_integer) rfl
  have z_isinstance : mg "isinstance" = none := He.free_ok KX G (c.fact 3 rfl)
  have z_int : mg "int" = none := He.free_ok KX G (c.fact 4 rfl)
  have z_bool : mg "bool" = none := He.free_ok KX G (c.fact 5 rfl)
  refine ⟨fd, FunD.bindsN F (fun _ _ _ _ _ _ us hl => match us, hl with | [_], _ => rfl), fn_d (k := 0) F sc_is_integer (fun cdv A outer s H E hr tk => ?_)⟩
  have hx : Passes (L2.CX P w) (cxOf (L2.CX P w) P w K mg base ["thing"] d_is_integer.qual d_is_integer.scope (He.fAd K d_is_integer.at_) cdv A outer s H E) E := passes_call tk (fun _ _ _ _ z => z)
  have hu64 := hr.units
  have hu := hu_of hr
  exact dss_one (ds_ret (de_and (de_isi rfl z_isinstance (da_cons (dv 0) (da_cons (de_ty rfl z_int (by decide +kernel)) da_nil))) (de_one (de_not (de_isi rfl z_isinstance (da_cons (dv 0) (da_cons (de_ty rfl z_bool (by decide +kernel)) da_nil)))))))
theorem sc_is_within : FnScope ["thing", "least", "most"] ["thing", "least", "most"] (defScope s_is_within) := ⟨rfl, rfl, rfl, by decide +kernel, rfl, by decide +kernel, by decide +kernel⟩
theorem ok_is_within {P : Program} {w : World} {K : PySem.W.Frag} {h : Heap} {mg : Str → Option Value} {base : Heap} (KX : K.In h) (G : h.Ns mainGlobals mg) (c : He.SaysD fa fn K) (cx : (exF.all fun f => f K) = true) : ∃ fd, Binds K fd ["thing", "least", "most"] [] ∧ FnOk P w K mg base (L2.CX P w) 2 (He.fAd K d_is_within.at_) fd ["thing", "least", "most"] (spD ⟨K, mg⟩ 3 F_is_within) := by
  obtain ⟨fd, F⟩ := c.def_ 12 (d := d_is_within) rfl
  obtain ⟨fd_is_integer, b_is_integer, FO_is_integer⟩ := ok_is_integer (P := P) (w := w) (base := base) KX G c cx
  have g_f_is_integer : mg "is_integer" = some (.ref (He.ga K "is_integer")) := He.glo_ok KX G (c.fact 6 rfl)
  have kp_is_integer : PySem.W.keepIn K (.ref (He.ga K "is_integer")) = true := by
    obtain ⟨_, FF⟩ := c.def_ 11 (d := d_is_integer) rfl
    exact FF.kp
  refine ⟨fd, FunD.bindsN F (fun _ _ _ _ _ _ us hl => match us, hl with | [_, _, _], _ => rfl), fn_d (k := 1) F sc_is_within (fun cdv A outer s H E hr tk => ?_)⟩
  have hx : Passes (L2.CX P w) (cxOf (L2.CX P w) P w K mg base ["thing", "least", "most"] d_is_within.qual d_is_within.scope (He.fAd K d_is_within.at_) cdv A outer s H E) E := passes_call tk (fun _ _ _ _ z => z)
  have hu64 := hr.units
  have hu := hu_of hr
  exact dss_one (ds_ret (de_and (DE.fz (de_call FO_is_integer (hr.mono (by decide)) rfl g_f_is_integer kp_is_integer b_is_integer tk (da_cons (dv 0) da_nil))) (de_one (de_lele (dv 1) (dv 0) (dv 2)))))
theorem sc_InvalidSize___init__ : FnScope ["self", "value"] ["self", "value"] (defScope s_InvalidSize___init__) := ⟨rfl, rfl, rfl, by decide +kernel, rfl, by decide +kernel, by decide +kernel⟩
theorem ok_InvalidSize___init__ {P : Program} {w : World} {K : PySem.W.Frag} {h : Heap} {mg : Str → Option Value} {base : Heap} (KX : K.In h) (G : h.Ns mainGlobals mg) (c : He.SaysD fa fn K) (cx : (exF.all fun f => f K) = true) : ∃ fd, Binds K fd ["self", "value"] [] ∧ FnOk P w K mg base (L2.CX P w) 1 (He.fAd K d_InvalidSize___init__.at_) fd ["self", "value"] (spXI K) := by
  obtain ⟨fd, F⟩ := c.def_ 1 (d := d_InvalidSize___init__) rfl
  have gb : mg ("WebError" : Str) = some (.ref (He.ga K ("WebError" : Str))) := He.glo_ok KX G (c.fact 7 rfl)
  have tb : XcB K (He.ga K ("WebError" : Str)) := xbB_ok (List.all_eq_true.mp cx (exF[0]) (List.getElem_mem (by decide)))
  refine ⟨fd, FunD.bindsN F (fun _ _ _ _ _ _ us hl => match us, hl with | [_, _], _ => rfl), F.ok sc_InvalidSize___init__ (fun vs H Q E h => xi_len h) (fun cdv A outer s H vs Q E hr h => ?_)⟩
  exact ⟨_, pss_cons (ps_expr (pe_xinit tb rfl gb (pa_cons (pe_var (i := 0) rfl (.inl rfl)) (pa_cons (pe_var (i := 1) rfl (.inl rfl)) pa_nil)))) (pss_one (ps_ost (pe_var (i := 0) rfl (.inl rfl)) (pe_var (i := 1) rfl (.inl rfl)))), xi_end h⟩
theorem sc_InvalidEdge___init__ : FnScope ["self", "value"] ["self", "value"] (defScope s_InvalidEdge___init__) := ⟨rfl, rfl, rfl, by decide +kernel, rfl, by decide +kernel, by decide +kernel⟩
theorem ok_InvalidEdge___init__ {P : Program} {w : World} {K : PySem.W.Frag} {h : Heap} {mg : Str → Option Value} {base : Heap} (KX : K.In h) (G : h.Ns mainGlobals mg) (c : He.SaysD fa fn K) (cx : (exF.all fun f => f K) = true) : ∃ fd, Binds K fd ["self", "value"] [] ∧ FnOk P w K mg base (L2.CX P w) 1 (He.fAd K d_InvalidEdge___init__.at_) fd ["self", "value"] (spXI K) := by
  obtain ⟨fd, F⟩ := c.def_ 2 (d := d_InvalidEdge___init__) rfl
  have gb : mg ("WebError" : Str) = some (.ref (He.ga K ("WebError" : Str))) := He.glo_ok KX G (c.fact 7 rfl)
  have tb : XcB K (He.ga K ("WebError" : Str)) := xbB_ok (List.all_eq_true.mp cx (exF[0]) (List.getElem_mem (by decide)))
  refine ⟨fd, FunD.bindsN F (fun _ _ _ _ _ _ us hl => match us, hl with | [_, _], _ => rfl), F.ok sc_InvalidEdge___init__ (fun vs H Q E h => xi_len h) (fun cdv A outer s H vs Q E hr h => ?_)⟩
  exact ⟨_, pss_cons (ps_expr (pe_xinit tb rfl gb (pa_cons (pe_var (i := 0) rfl (.inl rfl)) (pa_cons (pe_var (i := 1) rfl (.inl rfl)) pa_nil)))) (pss_one (ps_ost (pe_var (i := 0) rfl (.inl rfl)) (pe_var (i := 1) rfl (.inl rfl)))), xi_end h⟩
theorem sc_is_edge : FnScope ["thing", "size"] ["thing", "size"] (defScope s_is_edge) := ⟨rfl, rfl, rfl, by decide +kernel, rfl, by decide +kernel, by decide +kernel⟩
theorem ok_is_edge {P : Program} {w : World} {K : PySem.W.Frag} {h : Heap} {mg : Str → Option Value} {base : Heap} (KX : K.In h) (G : h.Ns mainGlobals mg) (c : He.SaysD fa fn K) (cx : (exF.all fun f => f K) = true) : ∃ fd, Binds K fd ["thing", "size"] [] ∧ FnOk P w K mg base (L2.CX P w) 3 (He.fAd K d_is_edge.at_) fd ["thing", "size"] (spD ⟨K, mg⟩ 2 F_is_edge) := by
  obtain ⟨fd, F⟩ := c.def_ 13 (d := d_is_edge) rfl
  have z_isinstance : mg "isinstance" = none := He.free_ok KX G (c.fact 3 rfl)
  have z_tuple : mg "tuple" = none := He.free_ok KX G (c.fact 8 rfl)
  have z_len : mg "len" = none := He.free_ok KX G (c.fact 0 rfl)
  obtain ⟨fd_is_within, b_is_within, FO_is_within⟩ := ok_is_within (P := P) (w := w) (base := base) KX G c cx
  have g_f_is_within : mg "is_within" = some (.ref (He.ga K "is_within")) := He.glo_ok KX G (c.fact 9 rfl)
  have kp_is_within : PySem.W.keepIn K (.ref (He.ga K "is_within")) = true := by
    obtain ⟨_, FF⟩ := c.def_ 12 (d := d_is_within) rfl
    exact FF.kp
  refine ⟨fd, FunD.bindsN F (fun _ _ _ _ _ _ us hl => match us, hl with | [_, _], _ => rfl), fn_d (k := 2) F sc_is_edge (fun cdv A outer s H E hr tk => ?_)⟩
  have hx : Passes (L2.CX P w) (cxOf (L2.CX P w) P w K mg base ["thing", "size"] d_is_edge.qual d_is_edge.scope (He.fAd K d_is_edge.at_) cdv A outer s H E) E := passes_call tk (fun _ _ _ _ z => z)
  have hu64 := hr.units
  have hu := hu_of hr
  exact dss_cons (ds_if (dt_w (dw_or (dt_not (dt_truth (de_isi rfl z_isinstance (da_cons (dv 0) (da_cons (de_ty rfl z_tuple (by decide +kernel)) da_nil))))) (dw_or1 (dt_ne hu64 (de_len rfl z_len (da_cons (dv 0) da_nil)) de_int)))) (dss_one (ds_ret de_bl)) dss_nil) (dss_one (ds_ret (de_and (DE.fz (de_call FO_is_within (hr.mono (by decide)) rfl g_f_is_within kp_is_within b_is_within tk (da_cons (de_ix (dv 0) de_int (fun _ _ => rfl)) (da_cons de_int (da_cons (de_sub (dv 1) de_int) da_nil))))) (de_one (DE.fz (de_call FO_is_within (hr.mono (by decide)) rfl g_f_is_within kp_is_within b_is_within tk (da_cons (de_ix (dv 0) de_int (fun _ _ => rfl)) (da_cons de_int (da_cons (de_sub (dv 1) de_int) da_nil)))))))))
theorem sc_check_edges : FnScope ["size", "edges", "edge"] ["size", "edges"] (defScope s_check_edges) := ⟨rfl, rfl, rfl, by decide +kernel, rfl, by decide +kernel, by decide +kernel⟩
theorem ok_check_edges {P : Program} {w : World} {K : PySem.W.Frag} {h : Heap} {mg : Str → Option Value} {base : Heap} (KX : K.In h) (G : h.Ns mainGlobals mg) (c : He.SaysD fa fn K) (cx : (exF.all fun f => f K) = true) : ∃ fd, Binds K fd ["size", "edges"] [] ∧ FnOk P w K mg base (L2.CX P w) 4 (He.fAd K d_check_edges.at_) fd ["size", "edges"] (spD ⟨K, mg⟩ 2 F_check_edges) := by
  obtain ⟨fd, F⟩ := c.def_ 15 (d := d_check_edges) rfl
  have z_isinstance : mg "isinstance" = none := He.free_ok KX G (c.fact 3 rfl)
  have z_list : mg "list" = none := He.free_ok KX G (c.fact 10 rfl)
  have z_tuple : mg "tuple" = none := He.free_ok KX G (c.fact 8 rfl)
  have gc_InvalidEdge : mg "InvalidEdge" = some (.ref (He.ga K "InvalidEdge")) := He.glo_ok KX G (c.fact 11 rfl)
  obtain ⟨fd_InvalidEdge___init__, b_InvalidEdge___init__, FO_InvalidEdge___init__⟩ := ok_InvalidEdge___init__ (P := P) (w := w) (base := base) KX G c cx
  have tx_InvalidEdge : XcC K (He.ga K "InvalidEdge") (He.ma K (He.ga K "InvalidEdge") "__init__") := xcB_ok (List.all_eq_true.mp cx (exF[1]) (List.getElem_mem (by decide)))
  obtain ⟨fd_is_edge, b_is_edge, FO_is_edge⟩ := ok_is_edge (P := P) (w := w) (base := base) KX G c cx
  have g_f_is_edge : mg "is_edge" = some (.ref (He.ga K "is_edge")) := He.glo_ok KX G (c.fact 12 rfl)
  have kp_is_edge : PySem.W.keepIn K (.ref (He.ga K "is_edge")) = true := by
    obtain ⟨_, FF⟩ := c.def_ 13 (d := d_is_edge) rfl
    exact FF.kp
  have z_len : mg "len" = none := He.free_ok KX G (c.fact 0 rfl)
  have i_MOST_EDGES : ∃ t, mg "MOST_EDGES" = some (.int 60 t) := He.int_ok KX G (c.fact 13 rfl)
  refine ⟨fd, FunD.bindsN F (fun _ _ _ _ _ _ us hl => match us, hl with | [_, _], _ => rfl), fn_d (k := 3) F sc_check_edges (fun cdv A outer s H E hr tk => ?_)⟩
  have hx : Passes (L2.CX P w) (cxOf (L2.CX P w) P w K mg base ["size", "edges", "edge"] d_check_edges.qual d_check_edges.scope (He.fAd K d_check_edges.at_) cdv A outer s H E) E := passes_call tk (fun _ _ _ _ z => z)
  have hu64 := hr.units
  have hu := hu_of hr
  exact dss_cons (ds_if (dt_not (dt_truth (de_isiT rfl z_isinstance (da_cons (dv 1) (da_cons (DN.frz (dn_tup (da_cons (de_ty rfl z_list (by decide +kernel)) (da_cons (de_ty rfl z_tuple (by decide +kernel)) da_nil)))) da_nil))))) (dss_one (ds_raise rfl tk tx_InvalidEdge FO_InvalidEdge___init__ (hr.mono (by decide)) b_InvalidEdge___init__ rfl gc_InvalidEdge (dv 1))) dss_nil) (dss_cons (ds_for hp_of rfl (di_sq (dv 1)) (gn 2 sc_check_edges.nd) (dss_one (ds_if (dt_not (dt_truth (DE.fz (de_call FO_is_edge (hr.mono (by decide)) rfl g_f_is_edge kp_is_edge b_is_edge tk (da_cons (dv 2) (da_cons (dv 0) da_nil)))))) (dss_one (ds_raise rfl tk tx_InvalidEdge FO_InvalidEdge___init__ (hr.mono (by decide)) b_InvalidEdge___init__ rfl gc_InvalidEdge (dv 2))) dss_nil))) (dss_one (ds_if (dt_gt (de_len rfl z_len (da_cons (dv 1) da_nil)) (de_globI rfl i_MOST_EDGES)) (dss_one ds_never) dss_nil)))
theorem sc_is_modulus : FnScope ["thing"] ["thing"] (defScope s_is_modulus) := ⟨rfl, rfl, rfl, by decide +kernel, rfl, by decide +kernel, by decide +kernel⟩
theorem ok_is_modulus {P : Program} {w : World} {K : PySem.W.Frag} {h : Heap} {mg : Str → Option Value} {base : Heap} (KX : K.In h) (G : h.Ns mainGlobals mg) (c : He.SaysD fa fn K) (cx : (exF.all fun f => f K) = true) : ∃ fd, Binds K fd ["thing"] [] ∧ FnOk P w K mg base (L2.CX P w) 3 (He.fAd K d_is_modulus.at_) fd ["thing"] (spD ⟨K, mg⟩ 1 F_is_modulus) := by
  obtain ⟨fd, F⟩ := c.def_ 14 (d := d_is_modulus) rfl
  obtain ⟨fd_is_within, b_is_within, FO_is_within⟩ := ok_is_within (P := P) (w := w) (base := base) KX G c cx
  have g_f_is_within : mg "is_within" = some (.ref (He.ga K "is_within")) := He.glo_ok KX G (c.fact 9 rfl)
  have kp_is_within : PySem.W.keepIn K (.ref (He.ga K "is_within")) = true := by
    obtain ⟨_, FF⟩ := c.def_ 12 (d := d_is_within) rfl
    exact FF.kp
  have i_MOST_MODULUS : ∃ t, mg "MOST_MODULUS" = some (.int 60 t) := He.int_ok KX G (c.fact 14 rfl)
  refine ⟨fd, FunD.bindsN F (fun _ _ _ _ _ _ us hl => match us, hl with | [_], _ => rfl), fn_d (k := 2) F sc_is_modulus (fun cdv A outer s H E hr tk => ?_)⟩
  have hx : Passes (L2.CX P w) (cxOf (L2.CX P w) P w K mg base ["thing"] d_is_modulus.qual d_is_modulus.scope (He.fAd K d_is_modulus.at_) cdv A outer s H E) E := passes_call tk (fun _ _ _ _ z => z)
  have hu64 := hr.units
  have hu := hu_of hr
  exact dss_one (ds_ret (de_and (DE.fz (de_call FO_is_within (hr.mono (by decide)) rfl g_f_is_within kp_is_within b_is_within tk (da_cons (dv 0) (da_cons de_int (da_cons (de_globI rfl i_MOST_MODULUS) da_nil))))) (de_one (de_ne hu64 (dv 0) de_int))))
theorem sc_InvalidModulus___init__ : FnScope ["self", "value"] ["self", "value"] (defScope s_InvalidModulus___init__) := ⟨rfl, rfl, rfl, by decide +kernel, rfl, by decide +kernel, by decide +kernel⟩
theorem ok_InvalidModulus___init__ {P : Program} {w : World} {K : PySem.W.Frag} {h : Heap} {mg : Str → Option Value} {base : Heap} (KX : K.In h) (G : h.Ns mainGlobals mg) (c : He.SaysD fa fn K) (cx : (exF.all fun f => f K) = true) : ∃ fd, Binds K fd ["self", "value"] [] ∧ FnOk P w K mg base (L2.CX P w) 1 (He.fAd K d_InvalidModulus___init__.at_) fd ["self", "value"] (spXI K) := by
  obtain ⟨fd, F⟩ := c.def_ 0 (d := d_InvalidModulus___init__) rfl
  have gb : mg ("WebError" : Str) = some (.ref (He.ga K ("WebError" : Str))) := He.glo_ok KX G (c.fact 7 rfl)
  have tb : XcB K (He.ga K ("WebError" : Str)) := xbB_ok (List.all_eq_true.mp cx (exF[0]) (List.getElem_mem (by decide)))
  refine ⟨fd, FunD.bindsN F (fun _ _ _ _ _ _ us hl => match us, hl with | [_, _], _ => rfl), F.ok sc_InvalidModulus___init__ (fun vs H Q E h => xi_len h) (fun cdv A outer s H vs Q E hr h => ?_)⟩
  exact ⟨_, pss_cons (ps_expr (pe_xinit tb rfl gb (pa_cons (pe_var (i := 0) rfl (.inl rfl)) (pa_cons (pe_var (i := 1) rfl (.inl rfl)) pa_nil)))) (pss_one (ps_ost (pe_var (i := 0) rfl (.inl rfl)) (pe_var (i := 1) rfl (.inl rfl)))), xi_end h⟩
theorem sc_forest_of : FnScope ["size", "pairs", "groups", "found", "index", "tail", "head", "group"] ["size", "pairs"] (defScope s_forest_of) := ⟨rfl, rfl, rfl, by decide +kernel, rfl, by decide +kernel, by decide +kernel⟩
theorem ok_forest_of {P : Program} {w : World} {K : PySem.W.Frag} {h : Heap} {mg : Str → Option Value} {base : Heap} (KX : K.In h) (G : h.Ns mainGlobals mg) (c : He.SaysD fa fn K) (cx : (exF.all fun f => f K) = true) : ∃ fd, Binds K fd ["size", "pairs"] [] ∧ FnOk P w K mg base (L2.CX P w) 1 (He.fAd K d_forest_of.at_) fd ["size", "pairs"] (spD ⟨K, mg⟩ 2 F_forest_of) := by
  obtain ⟨fd, F⟩ := c.def_ 7 (d := d_forest_of) rfl
  have z_list : mg "list" = none := He.free_ok KX G (c.fact 10 rfl)
  have z_range : mg "range" = none := He.free_ok KX G (c.fact 2 rfl)
  have z_enumerate : mg "enumerate" = none := He.free_ok KX G (c.fact 15 rfl)
  refine ⟨fd, FunD.bindsN F (fun _ _ _ _ _ _ us hl => match us, hl with | [_, _], _ => rfl), fn_d (k := 0) F sc_forest_of (fun cdv A outer s H E hr tk => ?_)⟩
  have hx : Passes (L2.CX P w) (cxOf (L2.CX P w) P w K mg base ["size", "pairs", "groups", "found", "index", "tail", "head", "group"] d_forest_of.qual d_forest_of.scope (He.fAd K d_forest_of.at_) cdv A outer s H E) E := passes_call tk (fun _ _ _ _ z => z)
  have hu64 := hr.units
  have hu := hu_of hr
  exact dss_cons (st 2 sc_forest_of.nd (DN.frz (dn_listRg rfl rfl z_list (dr_1 rfl z_range (dv 0))))) (dss_cons (st 3 sc_forest_of.nd (DN.cel (dn_lst da_nil))) (dss_cons (ds_for hp_of rfl (di_enum rfl z_enumerate (da_cons (dv 1) da_nil)) (dg_tup rfl (dgs_cons (gn 4 sc_forest_of.nd) (dgs_cons (dg_tup rfl (dgs_cons (gn 5 sc_forest_of.nd) (dgs_cons (gn 6 sc_forest_of.nd) dgs_nil))) dgs_nil))) (dss_one (ds_if (dt_ne hu64 (de_ix (dv 2) (dv 5) (fun _ _ => rfl)) (de_ix (dv 2) (dv 6) (fun _ _ => rfl))) (dss_cons (ds_expr (de_append (dv 3) (da_cons (dv 4) da_nil))) (dss_one (st 2 sc_forest_of.nd (DN.frz (dn_lc (own := [(("group" : Str), 7)]) rfl sc_forest_of.nd (di_sq (dv 2)) (blkOk_by rfl) (fun _ _ _ _ _ => gn 7 sc_forest_of.nd) (fun _ _ _ _ _ => dts_nil) (fun _ _ _ _ _ => de_ifExp (dt_eq hu64 (dv 7) (de_ix (dv 2) (dv 6) (fun _ _ => rfl))) (de_ix (dv 2) (dv 5) (fun _ _ => rfl)) (dv 7)) (rs_mem rfl)))))) dss_nil))) (dss_one (ds_ret (dv 3)))))
theorem sc_links_of : FnScope ["size", "pairs", "forest", "found", "index", "tail", "head", "node"] ["size", "pairs", "forest"] (defScope s_links_of) := ⟨rfl, rfl, rfl, by decide +kernel, rfl, by decide +kernel, by decide +kernel⟩
theorem ok_links_of {P : Program} {w : World} {K : PySem.W.Frag} {h : Heap} {mg : Str → Option Value} {base : Heap} (KX : K.In h) (G : h.Ns mainGlobals mg) (c : He.SaysD fa fn K) (cx : (exF.all fun f => f K) = true) : ∃ fd, Binds K fd ["size", "pairs", "forest"] [] ∧ FnOk P w K mg base (L2.CX P w) 1 (He.fAd K d_links_of.at_) fd ["size", "pairs", "forest"] (spD ⟨K, mg⟩ 3 F_links_of) := by
  obtain ⟨fd, F⟩ := c.def_ 8 (d := d_links_of) rfl
  have z_range : mg "range" = none := He.free_ok KX G (c.fact 2 rfl)
  refine ⟨fd, FunD.bindsN F (fun _ _ _ _ _ _ us hl => match us, hl with | [_, _, _], _ => rfl), fn_d (k := 0) F sc_links_of (fun cdv A outer s H E hr tk => ?_)⟩
  have hx : Passes (L2.CX P w) (cxOf (L2.CX P w) P w K mg base ["size", "pairs", "forest", "found", "index", "tail", "head", "node"] d_links_of.qual d_links_of.scope (He.fAd K d_links_of.at_) cdv A outer s H E) E := passes_call tk (fun _ _ _ _ z => z)
  have hu64 := hr.units
  have hu := hu_of hr
  exact dss_cons (ds_setLc (own := [(("node" : Str), 7)]) kN_frz rfl sc_links_of.nd (show _ from rfl) rfl (sw_true rfl rfl rfl (by decide +kernel)) (di_range1 rfl z_range (da_cons (dv 0) da_nil)) (blkOk_by rfl) (fun _ _ _ _ _ => gn 7 sc_links_of.nd) (fun _ _ _ _ _ => dts_nil) (fun _ _ _ _ _ => DN.cel (dn_lst da_nil)) (rs_mem rfl)) (dss_cons (ds_for hp_of rfl (di_sq (dv 2)) (gn 4 sc_links_of.nd) (dss_cons (ds_asg (de_ix (dv 1) (dv 4) (fun _ _ => rfl)) (dg_tup rfl (dgs_cons (gn 5 sc_links_of.nd) (dgs_cons (gn 6 sc_links_of.nd) dgs_nil)))) (dss_cons (ds_expr (de_append (de_ix (dv 3) (dv 5) (fun _ _ => rfl)) (da_cons (DN.frz (dn_tup (da_cons (dv 4) (da_cons de_int (da_cons (dv 6) da_nil))))) da_nil))) (dss_one (ds_expr (de_append (de_ix (dv 3) (dv 6) (fun _ _ => rfl)) (da_cons (DN.frz (dn_tup (da_cons (dv 4) (da_cons (de_neg de_int) (da_cons (dv 5) da_nil))))) da_nil))))))) (dss_one (ds_ret (dv 3))))
theorem sc_Web___init__ : FnScope ["self", "size", "edges", "modulus"] ["self", "size", "edges", "modulus"] (defScope s_Web___init__) := ⟨rfl, rfl, rfl, by decide +kernel, rfl, by decide +kernel, by decide +kernel⟩
theorem ok_Web___init__ {P : Program} {w : World} {K : PySem.W.Frag} {h : Heap} {mg : Str → Option Value} {base : Heap} (KX : K.In h) (G : h.Ns mainGlobals mg) (c : He.SaysD fa fn K) (cx : (exF.all fun f => f K) = true) : ∃ fd, FunD K d_Web___init__.name d_Web___init__.qual d_Web___init__.params d_Web___init__.body d_Web___init__.scope (d_Web___init__.dvs K) (d_Web___init__.kws K) (He.fAd K d_Web___init__.at_) fd ∧ FnOk P w K mg base (L2.CX P w) 5 (He.fAd K d_Web___init__.at_) fd ["self", "size", "edges", "modulus"] (spD ⟨K, mg⟩ 4 F_Web___init__) := by
  obtain ⟨fd, F⟩ := c.def_ 16 (d := d_Web___init__) rfl
  obtain ⟨fd_is_within, b_is_within, FO_is_within⟩ := ok_is_within (P := P) (w := w) (base := base) KX G c cx
  have g_f_is_within : mg "is_within" = some (.ref (He.ga K "is_within")) := He.glo_ok KX G (c.fact 9 rfl)
  have kp_is_within : PySem.W.keepIn K (.ref (He.ga K "is_within")) = true := by
    obtain ⟨_, FF⟩ := c.def_ 12 (d := d_is_within) rfl
    exact FF.kp
  have i_MOST_NODES : ∃ t, mg "MOST_NODES" = some (.int 30 t) := He.int_ok KX G (c.fact 16 rfl)
  have gc_InvalidSize : mg "InvalidSize" = some (.ref (He.ga K "InvalidSize")) := He.glo_ok KX G (c.fact 17 rfl)
  obtain ⟨fd_InvalidSize___init__, b_InvalidSize___init__, FO_InvalidSize___init__⟩ := ok_InvalidSize___init__ (P := P) (w := w) (base := base) KX G c cx
  have tx_InvalidSize : XcC K (He.ga K "InvalidSize") (He.ma K (He.ga K "InvalidSize") "__init__") := xcB_ok (List.all_eq_true.mp cx (exF[2]) (List.getElem_mem (by decide)))
  obtain ⟨fd_check_edges, b_check_edges, FO_check_edges⟩ := ok_check_edges (P := P) (w := w) (base := base) KX G c cx
  have g_f_check_edges : mg "check_edges" = some (.ref (He.ga K "check_edges")) := He.glo_ok KX G (c.fact 18 rfl)
  have kp_check_edges : PySem.W.keepIn K (.ref (He.ga K "check_edges")) = true := by
    obtain ⟨_, FF⟩ := c.def_ 15 (d := d_check_edges) rfl
    exact FF.kp
  obtain ⟨fd_is_modulus, b_is_modulus, FO_is_modulus⟩ := ok_is_modulus (P := P) (w := w) (base := base) KX G c cx
  have g_f_is_modulus : mg "is_modulus" = some (.ref (He.ga K "is_modulus")) := He.glo_ok KX G (c.fact 19 rfl)
  have kp_is_modulus : PySem.W.keepIn K (.ref (He.ga K "is_modulus")) = true := by
    obtain ⟨_, FF⟩ := c.def_ 14 (d := d_is_modulus) rfl
    exact FF.kp
  have gc_InvalidModulus : mg "InvalidModulus" = some (.ref (He.ga K "InvalidModulus")) := He.glo_ok KX G (c.fact 20 rfl)
  obtain ⟨fd_InvalidModulus___init__, b_InvalidModulus___init__, FO_InvalidModulus___init__⟩ := ok_InvalidModulus___init__ (P := P) (w := w) (base := base) KX G c cx
  have tx_InvalidModulus : XcC K (He.ga K "InvalidModulus") (He.ma K (He.ga K "InvalidModulus") "__init__") := xcB_ok (List.all_eq_true.mp cx (exF[3]) (List.getElem_mem (by decide)))
  have gc_Web : mg "Web" = some (.ref (He.ga K "Web")) := He.glo_ok KX G (c.fact 21 rfl)
  have cl_Web : Cls K (He.ga K "Web") := He.cls_ok (c.fact 22 rfl)
  have n_Web_own_size : NoAttr K (He.ga K "Web") "own_size" := He.noat_ok (c.fact 23 rfl)
  have z_list : mg "list" = none := He.free_ok KX G (c.fact 10 rfl)
  have n_Web_own_edges : NoAttr K (He.ga K "Web") "own_edges" := He.noat_ok (c.fact 24 rfl)
  have n_Web_own_modulus : NoAttr K (He.ga K "Web") "own_modulus" := He.noat_ok (c.fact 25 rfl)
  obtain ⟨fd_forest_of, b_forest_of, FO_forest_of⟩ := ok_forest_of (P := P) (w := w) (base := base) KX G c cx
  have g_f_forest_of : mg "forest_of" = some (.ref (He.ga K "forest_of")) := He.glo_ok KX G (c.fact 26 rfl)
  have kp_forest_of : PySem.W.keepIn K (.ref (He.ga K "forest_of")) = true := by
    obtain ⟨_, FF⟩ := c.def_ 7 (d := d_forest_of) rfl
    exact FF.kp
  have n_Web_own_forest : NoAttr K (He.ga K "Web") "own_forest" := He.noat_ok (c.fact 27 rfl)
  obtain ⟨fd_links_of, b_links_of, FO_links_of⟩ := ok_links_of (P := P) (w := w) (base := base) KX G c cx
  have g_f_links_of : mg "links_of" = some (.ref (He.ga K "links_of")) := He.glo_ok KX G (c.fact 28 rfl)
  have kp_links_of : PySem.W.keepIn K (.ref (He.ga K "links_of")) = true := by
    obtain ⟨_, FF⟩ := c.def_ 8 (d := d_links_of) rfl
    exact FF.kp
  have n_Web_links : NoAttr K (He.ga K "Web") "links" := He.noat_ok (c.fact 29 rfl)
  refine ⟨fd, F, fn_d (k := 4) F sc_Web___init__ (fun cdv A outer s H E hr tk => ?_)⟩
  have hx : Passes (L2.CX P w) (cxOf (L2.CX P w) P w K mg base ["self", "size", "edges", "modulus"] d_Web___init__.qual d_Web___init__.scope (He.fAd K d_Web___init__.at_) cdv A outer s H E) E := passes_call tk (fun _ _ _ _ z => z)
  have hu64 := hr.units
  have hu := hu_of hr
  have c_Web : ∀ {Y : Cx}, Y.mg = mg → Y.K = K → ClsD Y "Web" (He.ga K "Web") := fun h1 h2 => ⟨by rw [h1]; exact gc_Web, by rw [h2]; exact cl_Web⟩
  exact dss_cons (ds_if (dt_not (dt_truth (DE.fz (de_call FO_is_within (hr.mono (by decide)) rfl g_f_is_within kp_is_within b_is_within tk (da_cons (dv 1) (da_cons de_int (da_cons (de_globI rfl i_MOST_NODES) da_nil))))))) (dss_one (ds_raise rfl tk tx_InvalidSize FO_InvalidSize___init__ (hr.mono (by decide)) b_InvalidSize___init__ rfl gc_InvalidSize (dv 1))) dss_nil) (dss_cons (ds_expr (DE.fz (de_call FO_check_edges (hr.mono (by decide)) rfl g_f_check_edges kp_check_edges b_check_edges tk (da_cons (dv 1) (da_cons (dv 2) da_nil))))) (dss_cons (ds_if (dt_not (dt_truth (DE.fz (de_call FO_is_modulus (hr.mono (by decide)) rfl g_f_is_modulus kp_is_modulus b_is_modulus tk (da_cons (dv 3) da_nil))))) (dss_one (ds_raise rfl tk tx_InvalidModulus FO_InvalidModulus___init__ (hr.mono (by decide)) b_InvalidModulus___init__ rfl gc_InvalidModulus (dv 3))) dss_nil) (dss_cons (ds_fld (c_Web rfl rfl) n_Web_own_size (dv 0) (dv 1)) (dss_cons (ds_fld (c_Web rfl rfl) n_Web_own_edges (dv 0) (DN.frz (dn_list rfl z_list (da_cons (dv 2) da_nil)))) (dss_cons (ds_fld (c_Web rfl rfl) n_Web_own_modulus (dv 0) (dv 3)) (dss_cons (ds_fld (c_Web rfl rfl) n_Web_own_forest (dv 0) (DE.fz (de_call FO_forest_of (hr.mono (by decide)) rfl g_f_forest_of kp_forest_of b_forest_of tk (da_cons (dv 1) (da_cons (dv 2) da_nil))))) (dss_one (ds_fld (c_Web rfl rfl) n_Web_links (dv 0) (DE.fz (de_call FO_links_of (hr.mono (by decide)) rfl g_f_links_of kp_links_of b_links_of tk (da_cons (dv 1) (da_cons (dv 2) (da_cons (de_fld (c_Web rfl rfl) n_Web_own_forest (dv 0)) da_nil)))))))))))))
theorem sc__law_all : FnScope ["_law_count", "_law_dial", "_law_found", "_law_turn", "_law_longer", "_law_row", "_law_one"] ["_law_count", "_law_dial"] (defScope s__law_all) := ⟨rfl, rfl, rfl, by decide +kernel, rfl, by decide +kernel, by decide +kernel⟩
theorem ok__law_all {P : Program} {w : World} {K : PySem.W.Frag} {h : Heap} {mg : Str → Option Value} {base : Heap} (KX : K.In h) (G : h.Ns mainGlobals mg) (c : He.SaysD fa fn K) (cx : (exF.all fun f => f K) = true) : ∃ fd, Binds K fd ["_law_count", "_law_dial"] [] ∧ FnOk P w K mg base (L2.CX P w) 1 (He.fAd K d__law_all.at_) fd ["_law_count", "_law_dial"] (spD ⟨K, mg⟩ 2 F__law_all) := by
  obtain ⟨fd, F⟩ := c.def_ 43 (d := d__law_all) rfl
  have z_range : mg "range" = none := He.free_ok KX G (c.fact 2 rfl)
  refine ⟨fd, FunD.bindsN F (fun _ _ _ _ _ _ us hl => match us, hl with | [_, _], _ => rfl), fn_d (k := 0) F sc__law_all (fun cdv A outer s H E hr tk => ?_)⟩
  have hx : Passes (L2.CX P w) (cxOf (L2.CX P w) P w K mg base ["_law_count", "_law_dial", "_law_found", "_law_turn", "_law_longer", "_law_row", "_law_one"] d__law_all.qual d__law_all.scope (He.fAd K d__law_all.at_) cdv A outer s H E) E := passes_call tk (fun _ _ _ _ z => z)
  have hu64 := hr.units
  have hu := hu_of hr
  exact dss_cons (st 2 sc__law_all.nd (DN.frz (dn_lst (da_cons (DN.frz (dn_lst da_nil)) da_nil)))) (dss_cons (ds_for hp_of rfl (di_range1 rfl z_range (da_cons (dv 0) da_nil)) (gn 3 sc__law_all.nd) (dss_cons (st 4 sc__law_all.nd (DN.frz (dn_lst da_nil))) (dss_cons (ds_for hp_of rfl (di_sq (dv 2)) (gn 5 sc__law_all.nd) (dss_one (st 4 sc__law_all.nd (DN.frz (dn_add (dv 4) (DN.frz (dn_lc (own := [(("_law_one" : Str), 6)]) rfl sc__law_all.nd (di_range1 rfl z_range (da_cons (dv 1) da_nil)) (blkOk_by rfl) (fun _ _ _ _ _ => gn 6 sc__law_all.nd) (fun _ _ _ _ _ => dts_nil) (fun _ _ _ _ _ => DN.frz (dn_add (dv 5) (DN.frz (dn_lst (da_cons (dv 6) da_nil))))) (rs_mem rfl)))))))) (dss_one (st 2 sc__law_all.nd (dv 4)))))) (dss_one (ds_ret (dv 2))))
theorem sc__law_low : FnScope ["_law_number_here", "_law_dial"] ["_law_number_here", "_law_dial"] (defScope s__law_low) := ⟨rfl, rfl, rfl, by decide +kernel, rfl, by decide +kernel, by decide +kernel⟩
theorem ok__law_low {P : Program} {w : World} {K : PySem.W.Frag} {h : Heap} {mg : Str → Option Value} {base : Heap} (KX : K.In h) (G : h.Ns mainGlobals mg) (c : He.SaysD fa fn K) (cx : (exF.all fun f => f K) = true) : ∃ fd, Binds K fd ["_law_number_here", "_law_dial"] [] ∧ FnOk P w K mg base (L2.CX P w) 1 (He.fAd K d__law_low.at_) fd ["_law_number_here", "_law_dial"] (spD ⟨K, mg⟩ 2 F__law_low) := by
  obtain ⟨fd, F⟩ := c.def_ 41 (d := d__law_low) rfl
  refine ⟨fd, FunD.bindsN F (fun _ _ _ _ _ _ us hl => match us, hl with | [_, _], _ => rfl), fn_d (k := 0) F sc__law_low (fun cdv A outer s H E hr tk => ?_)⟩
  have hx : Passes (L2.CX P w) (cxOf (L2.CX P w) P w K mg base ["_law_number_here", "_law_dial"] d__law_low.qual d__law_low.scope (He.fAd K d__law_low.at_) cdv A outer s H E) E := passes_call tk (fun _ _ _ _ z => z)
  have hu64 := hr.units
  have hu := hu_of hr
  exact dss_one (ds_ret (de_ifExp (dt_gt (dv 1) de_int) (de_mod (dv 0) (dv 1)) (dv 0)))
theorem sc__law_put : FnScope ["_law_links_here", "_law_dial", "_law_gains_here", "_law_levels", "_law_found", "_law_gain", "_law_tail", "_law_head"] ["_law_links_here", "_law_dial", "_law_gains_here", "_law_levels"] (defScope s__law_put) := ⟨rfl, rfl, rfl, by decide +kernel, rfl, by decide +kernel, by decide +kernel⟩
theorem ok__law_put {P : Program} {w : World} {K : PySem.W.Frag} {h : Heap} {mg : Str → Option Value} {base : Heap} (KX : K.In h) (G : h.Ns mainGlobals mg) (c : He.SaysD fa fn K) (cx : (exF.all fun f => f K) = true) : ∃ fd, Binds K fd ["_law_links_here", "_law_dial", "_law_gains_here", "_law_levels"] [] ∧ FnOk P w K mg base (L2.CX P w) 2 (He.fAd K d__law_put.at_) fd ["_law_links_here", "_law_dial", "_law_gains_here", "_law_levels"] (spD ⟨K, mg⟩ 4 F__law_put) := by
  obtain ⟨fd, F⟩ := c.def_ 42 (d := d__law_put) rfl
  have z_zip : mg "zip" = none := He.free_ok KX G (c.fact 30 rfl)
  obtain ⟨fd__law_low, b__law_low, FO__law_low⟩ := ok__law_low (P := P) (w := w) (base := base) KX G c cx
  have g_f__law_low : mg "_law_low" = some (.ref (He.ga K "_law_low")) := He.glo_ok KX G (c.fact 31 rfl)
  have kp__law_low : PySem.W.keepIn K (.ref (He.ga K "_law_low")) = true := by
    obtain ⟨_, FF⟩ := c.def_ 41 (d := d__law_low) rfl
    exact FF.kp
  refine ⟨fd, FunD.bindsN F (fun _ _ _ _ _ _ us hl => match us, hl with | [_, _, _, _], _ => rfl), fn_d (k := 1) F sc__law_put (fun cdv A outer s H E hr tk => ?_)⟩
  have hx : Passes (L2.CX P w) (cxOf (L2.CX P w) P w K mg base ["_law_links_here", "_law_dial", "_law_gains_here", "_law_levels", "_law_found", "_law_gain", "_law_tail", "_law_head"] d__law_put.qual d__law_put.scope (He.fAd K d__law_put.at_) cdv A outer s H E) E := passes_call tk (fun _ _ _ _ z => z)
  have hu64 := hr.units
  have hu := hu_of hr
  exact dss_cons (st 4 sc__law_put.nd (DN.cel (dn_lst da_nil))) (dss_cons (ds_for hp_of rfl (di_zip rfl z_zip (da_cons (dv 2) (da_cons (dv 0) da_nil))) (dg_tup rfl (dgs_cons (gn 5 sc__law_put.nd) (dgs_cons (dg_tup rfl (dgs_cons (gn 6 sc__law_put.nd) (dgs_cons (gn 7 sc__law_put.nd) dgs_nil))) dgs_nil))) (dss_one (ds_expr (de_append (dv 4) (da_cons (DE.fz (de_call FO__law_low (hr.mono (by decide)) rfl g_f__law_low kp__law_low b__law_low tk (da_cons (de_sub (DN.frz (dn_add (dv 5) (de_ix (dv 3) (dv 6) (fun _ _ => rfl)))) (de_ix (dv 3) (dv 7) (fun _ _ => rfl))) (da_cons (dv 1) da_nil)))) da_nil))))) (dss_one (ds_ret (dv 4))))
theorem sc_Web_modulus : FnScope ["self"] ["self"] (defScope s_Web_modulus) := ⟨rfl, rfl, rfl, by decide +kernel, rfl, by decide +kernel, by decide +kernel⟩
theorem ok_Web_modulus {P : Program} {w : World} {K : PySem.W.Frag} {h : Heap} {mg : Str → Option Value} {base : Heap} (KX : K.In h) (G : h.Ns mainGlobals mg) (c : He.SaysD fa fn K) (cx : (exF.all fun f => f K) = true) : ∃ fd, Binds K fd ["self"] [] ∧ FnOk P w K mg base (L2.CX P w) 1 (He.fAd K d_Web_modulus.at_) fd ["self"] (spD ⟨K, mg⟩ 1 F_Web_modulus) := by
  obtain ⟨fd, F⟩ := c.def_ 17 (d := d_Web_modulus) rfl
  have gc_Web : mg "Web" = some (.ref (He.ga K "Web")) := He.glo_ok KX G (c.fact 21 rfl)
  have cl_Web : Cls K (He.ga K "Web") := He.cls_ok (c.fact 22 rfl)
  have n_Web_own_modulus : NoAttr K (He.ga K "Web") "own_modulus" := He.noat_ok (c.fact 25 rfl)
  refine ⟨fd, FunD.bindsN F (fun _ _ _ _ _ _ us hl => match us, hl with | [_], _ => rfl), fn_d (k := 0) F sc_Web_modulus (fun cdv A outer s H E hr tk => ?_)⟩
  have hx : Passes (L2.CX P w) (cxOf (L2.CX P w) P w K mg base ["self"] d_Web_modulus.qual d_Web_modulus.scope (He.fAd K d_Web_modulus.at_) cdv A outer s H E) E := passes_call tk (fun _ _ _ _ z => z)
  have hu64 := hr.units
  have hu := hu_of hr
  have c_Web : ∀ {Y : Cx}, Y.mg = mg → Y.K = K → ClsD Y "Web" (He.ga K "Web") := fun h1 h2 => ⟨by rw [h1]; exact gc_Web, by rw [h2]; exact cl_Web⟩
  exact dss_one (ds_ret (de_fld (c_Web rfl rfl) n_Web_own_modulus (dv 0)))
theorem sc_power_of : FnScope ["web", "exponent", "found", "turn"] ["web", "exponent"] (defScope s_power_of) := ⟨rfl, rfl, rfl, by decide +kernel, rfl, by decide +kernel, by decide +kernel⟩
theorem ok_power_of {P : Program} {w : World} {K : PySem.W.Frag} {h : Heap} {mg : Str → Option Value} {base : Heap} (KX : K.In h) (G : h.Ns mainGlobals mg) (c : He.SaysD fa fn K) (cx : (exF.all fun f => f K) = true) : ∃ fd, Binds K fd ["web", "exponent"] [] ∧ FnOk P w K mg base (L2.CX P w) 2 (He.fAd K d_power_of.at_) fd ["web", "exponent"] (spD ⟨K, mg⟩ 2 F_power_of) := by
  obtain ⟨fd, F⟩ := c.def_ 34 (d := d_power_of) rfl
  obtain ⟨fd_Web_modulus, b_Web_modulus, FO_Web_modulus⟩ := ok_Web_modulus (P := P) (w := w) (base := base) KX G c cx
  have gc_Web : mg "Web" = some (.ref (He.ga K "Web")) := He.glo_ok KX G (c.fact 21 rfl)
  have cl_Web : Cls K (He.ga K "Web") := He.cls_ok (c.fact 22 rfl)
  have m_Web_modulus : Meth K (He.ga K "Web") "modulus" (He.ma K (He.ga K "Web") "modulus") := He.meth_ok (c.fact 32 rfl)
  have z_range : mg "range" = none := He.free_ok KX G (c.fact 2 rfl)
  refine ⟨fd, FunD.bindsN F (fun _ _ _ _ _ _ us hl => match us, hl with | [_, _], _ => rfl), fn_d (k := 1) F sc_power_of (fun cdv A outer s H E hr tk => ?_)⟩
  have hx : Passes (L2.CX P w) (cxOf (L2.CX P w) P w K mg base ["web", "exponent", "found", "turn"] d_power_of.qual d_power_of.scope (He.fAd K d_power_of.at_) cdv A outer s H E) E := passes_call tk (fun _ _ _ _ z => z)
  have hu64 := hr.units
  have hu := hu_of hr
  have c_Web : ∀ {Y : Cx}, Y.mg = mg → Y.K = K → ClsD Y "Web" (He.ga K "Web") := fun h1 h2 => ⟨by rw [h1]; exact gc_Web, by rw [h2]; exact cl_Web⟩
  exact dss_cons (ds_if (dt_gt (DE.fz (de_meth0 (pl := _) (c_Web rfl rfl) m_Web_modulus FO_Web_modulus (hr.mono (by decide)) b_Web_modulus .nil (fun _ _ => .nil) hx (dv 0))) de_int) (dss_cons (st 2 sc_power_of.nd de_int) (dss_cons (ds_for hp_of rfl (di_range1 rfl z_range (da_cons (dv 1) da_nil)) (gn 3 sc_power_of.nd) (dss_one (ds_aug iop_mul o_mulI sc_power_of.nd (DE.fz (de_meth0 (pl := _) (c_Web rfl rfl) m_Web_modulus FO_Web_modulus (hr.mono (by decide)) b_Web_modulus .nil (fun _ _ => .nil) hx (dv 0)))))) (dss_one (ds_ret (dv 2))))) dss_nil) (dss_one (ds_ret (de_ifExp (dt_eq hu64 (dv 1) de_int) de_int de_non)))
theorem sc_Web_forest : FnScope ["self"] ["self"] (defScope s_Web_forest) := ⟨rfl, rfl, rfl, by decide +kernel, rfl, by decide +kernel, by decide +kernel⟩
theorem ok_Web_forest {P : Program} {w : World} {K : PySem.W.Frag} {h : Heap} {mg : Str → Option Value} {base : Heap} (KX : K.In h) (G : h.Ns mainGlobals mg) (c : He.SaysD fa fn K) (cx : (exF.all fun f => f K) = true) : ∃ fd, Binds K fd ["self"] [] ∧ FnOk P w K mg base (L2.CX P w) 1 (He.fAd K d_Web_forest.at_) fd ["self"] (spD ⟨K, mg⟩ 1 F_Web_forest) := by
  obtain ⟨fd, F⟩ := c.def_ 20 (d := d_Web_forest) rfl
  have z_list : mg "list" = none := He.free_ok KX G (c.fact 10 rfl)
  have gc_Web : mg "Web" = some (.ref (He.ga K "Web")) := He.glo_ok KX G (c.fact 21 rfl)
  have cl_Web : Cls K (He.ga K "Web") := He.cls_ok (c.fact 22 rfl)
  have n_Web_own_forest : NoAttr K (He.ga K "Web") "own_forest" := He.noat_ok (c.fact 27 rfl)
  refine ⟨fd, FunD.bindsN F (fun _ _ _ _ _ _ us hl => match us, hl with | [_], _ => rfl), fn_d (k := 0) F sc_Web_forest (fun cdv A outer s H E hr tk => ?_)⟩
  have hx : Passes (L2.CX P w) (cxOf (L2.CX P w) P w K mg base ["self"] d_Web_forest.qual d_Web_forest.scope (He.fAd K d_Web_forest.at_) cdv A outer s H E) E := passes_call tk (fun _ _ _ _ z => z)
  have hu64 := hr.units
  have hu := hu_of hr
  have c_Web : ∀ {Y : Cx}, Y.mg = mg → Y.K = K → ClsD Y "Web" (He.ga K "Web") := fun h1 h2 => ⟨by rw [h1]; exact gc_Web, by rw [h2]; exact cl_Web⟩
  exact dss_one (ds_ret (DN.frz (dn_list rfl z_list (da_cons (de_fld (c_Web rfl rfl) n_Web_own_forest (dv 0)) da_nil))))
theorem sc_class_size : FnScope ["web"] ["web"] (defScope s_class_size) := ⟨rfl, rfl, rfl, by decide +kernel, rfl, by decide +kernel, by decide +kernel⟩
theorem ok_class_size {P : Program} {w : World} {K : PySem.W.Frag} {h : Heap} {mg : Str → Option Value} {base : Heap} (KX : K.In h) (G : h.Ns mainGlobals mg) (c : He.SaysD fa fn K) (cx : (exF.all fun f => f K) = true) : ∃ fd, Binds K fd ["web"] [] ∧ FnOk P w K mg base (L2.CX P w) 3 (He.fAd K d_class_size.at_) fd ["web"] (spD ⟨K, mg⟩ 1 F_class_size) := by
  obtain ⟨fd, F⟩ := c.def_ 35 (d := d_class_size) rfl
  obtain ⟨fd_power_of, b_power_of, FO_power_of⟩ := ok_power_of (P := P) (w := w) (base := base) KX G c cx
  have g_f_power_of : mg "power_of" = some (.ref (He.ga K "power_of")) := He.glo_ok KX G (c.fact 33 rfl)
  have kp_power_of : PySem.W.keepIn K (.ref (He.ga K "power_of")) = true := by
    obtain ⟨_, FF⟩ := c.def_ 34 (d := d_power_of) rfl
    exact FF.kp
  have z_len : mg "len" = none := He.free_ok KX G (c.fact 0 rfl)
  obtain ⟨fd_Web_forest, b_Web_forest, FO_Web_forest⟩ := ok_Web_forest (P := P) (w := w) (base := base) KX G c cx
  have gc_Web : mg "Web" = some (.ref (He.ga K "Web")) := He.glo_ok KX G (c.fact 21 rfl)
  have cl_Web : Cls K (He.ga K "Web") := He.cls_ok (c.fact 22 rfl)
  have m_Web_forest : Meth K (He.ga K "Web") "forest" (He.ma K (He.ga K "Web") "forest") := He.meth_ok (c.fact 34 rfl)
  refine ⟨fd, FunD.bindsN F (fun _ _ _ _ _ _ us hl => match us, hl with | [_], _ => rfl), fn_d (k := 2) F sc_class_size (fun cdv A outer s H E hr tk => ?_)⟩
  have hx : Passes (L2.CX P w) (cxOf (L2.CX P w) P w K mg base ["web"] d_class_size.qual d_class_size.scope (He.fAd K d_class_size.at_) cdv A outer s H E) E := passes_call tk (fun _ _ _ _ z => z)
  have hu64 := hr.units
  have hu := hu_of hr
  have c_Web : ∀ {Y : Cx}, Y.mg = mg → Y.K = K → ClsD Y "Web" (He.ga K "Web") := fun h1 h2 => ⟨by rw [h1]; exact gc_Web, by rw [h2]; exact cl_Web⟩
  exact dss_one (ds_ret (DE.fz (de_call FO_power_of (hr.mono (by decide)) rfl g_f_power_of kp_power_of b_power_of tk (da_cons (dv 0) (da_cons (de_len rfl z_len (da_cons (DE.fz (de_meth0 (pl := _) (c_Web rfl rfl) m_Web_forest FO_Web_forest (hr.mono (by decide)) b_Web_forest .nil (fun _ _ => .nil) hx (dv 0))) da_nil)) da_nil)))))
theorem sc__law_unlike : FnScope ["_law_rows", "_law_seen", "_law_row"] ["_law_rows"] (defScope s__law_unlike) := ⟨rfl, rfl, rfl, by decide +kernel, rfl, by decide +kernel, by decide +kernel⟩
theorem ok__law_unlike {P : Program} {w : World} {K : PySem.W.Frag} {h : Heap} {mg : Str → Option Value} {base : Heap} (KX : K.In h) (G : h.Ns mainGlobals mg) (c : He.SaysD fa fn K) (cx : (exF.all fun f => f K) = true) : ∃ fd, Binds K fd ["_law_rows"] [] ∧ FnOkG P w K mg base (L2.CX P w) 1 (He.fAd K d__law_unlike.at_) fd ["_law_rows"] (spD ⟨K, mg⟩ 1 F__law_unlike) := by
  obtain ⟨fd, F⟩ := c.def_ 44 (d := d__law_unlike) rfl
  have z_repr : mg "repr" = none := He.free_ok KX G (c.fact 35 rfl)
  have z_len : mg "len" = none := He.free_ok KX G (c.fact 0 rfl)
  refine ⟨fd, FunD.bindsN F (fun _ _ _ _ _ _ us hl => match us, hl with | [_], _ => rfl), fn_dG (k := 0) F sc__law_unlike (fun cdv A outer s H E hr hgu tk => ?_)⟩
  have hx : Passes (L2.CX P w) (cxOf (L2.CX P w) P w K mg base ["_law_rows", "_law_seen", "_law_row"] d__law_unlike.qual d__law_unlike.scope (He.fAd K d__law_unlike.at_) cdv A outer s H E) E := passes_call tk (fun _ _ _ _ z => z)
  have hu64 := hr.units
  have hu := hu_of hr
  exact dss_cons (st 1 sc__law_unlike.nd (DN.cel dn_dnew)) (dss_cons (ds_for hp_of rfl (di_sq (dv 0)) (gn 2 sc__law_unlike.nd) (dss_one (ds_dput hu (dv 1) (de_repr hgu hu64 rfl z_repr (da_cons (dv 2) da_nil)) de_bl))) (dss_one (ds_ret (de_lenDc rfl z_len (da_cons (dv 1) da_nil)))))
theorem sc_Web___len__ : FnScope ["self"] ["self"] (defScope s_Web___len__) := ⟨rfl, rfl, rfl, by decide +kernel, rfl, by decide +kernel, by decide +kernel⟩
theorem ok_Web___len__ {P : Program} {w : World} {K : PySem.W.Frag} {h : Heap} {mg : Str → Option Value} {base : Heap} (KX : K.In h) (G : h.Ns mainGlobals mg) (c : He.SaysD fa fn K) (cx : (exF.all fun f => f K) = true) : ∃ fd, Binds K fd ["self"] [] ∧ FnOk P w K mg base (L2.CX P w) 1 (He.fAd K d_Web___len__.at_) fd ["self"] (spD ⟨K, mg⟩ 1 F_Web___len__) := by
  obtain ⟨fd, F⟩ := c.def_ 22 (d := d_Web___len__) rfl
  have z_len : mg "len" = none := He.free_ok KX G (c.fact 0 rfl)
  have gc_Web : mg "Web" = some (.ref (He.ga K "Web")) := He.glo_ok KX G (c.fact 21 rfl)
  have cl_Web : Cls K (He.ga K "Web") := He.cls_ok (c.fact 22 rfl)
  have n_Web_own_edges : NoAttr K (He.ga K "Web") "own_edges" := He.noat_ok (c.fact 24 rfl)
  refine ⟨fd, FunD.bindsN F (fun _ _ _ _ _ _ us hl => match us, hl with | [_], _ => rfl), fn_d (k := 0) F sc_Web___len__ (fun cdv A outer s H E hr tk => ?_)⟩
  have hx : Passes (L2.CX P w) (cxOf (L2.CX P w) P w K mg base ["self"] d_Web___len__.qual d_Web___len__.scope (He.fAd K d_Web___len__.at_) cdv A outer s H E) E := passes_call tk (fun _ _ _ _ z => z)
  have hu64 := hr.units
  have hu := hu_of hr
  have c_Web : ∀ {Y : Cx}, Y.mg = mg → Y.K = K → ClsD Y "Web" (He.ga K "Web") := fun h1 h2 => ⟨by rw [h1]; exact gc_Web, by rw [h2]; exact cl_Web⟩
  exact dss_one (ds_ret (de_len rfl z_len (da_cons (de_fld (c_Web rfl rfl) n_Web_own_edges (dv 0)) da_nil)))
theorem sc_class_count : FnScope ["web"] ["web"] (defScope s_class_count) := ⟨rfl, rfl, rfl, by decide +kernel, rfl, by decide +kernel, by decide +kernel⟩
theorem ok_class_count {P : Program} {w : World} {K : PySem.W.Frag} {h : Heap} {mg : Str → Option Value} {base : Heap} (KX : K.In h) (G : h.Ns mainGlobals mg) (c : He.SaysD fa fn K) (cx : (exF.all fun f => f K) = true) : ∃ fd, Binds K fd ["web"] [] ∧ FnOk P w K mg base (L2.CX P w) 3 (He.fAd K d_class_count.at_) fd ["web"] (spD ⟨K, mg⟩ 1 F_class_count) := by
  obtain ⟨fd, F⟩ := c.def_ 36 (d := d_class_count) rfl
  obtain ⟨fd_power_of, b_power_of, FO_power_of⟩ := ok_power_of (P := P) (w := w) (base := base) KX G c cx
  have g_f_power_of : mg "power_of" = some (.ref (He.ga K "power_of")) := He.glo_ok KX G (c.fact 33 rfl)
  have kp_power_of : PySem.W.keepIn K (.ref (He.ga K "power_of")) = true := by
    obtain ⟨_, FF⟩ := c.def_ 34 (d := d_power_of) rfl
    exact FF.kp
  have z_len : mg "len" = none := He.free_ok KX G (c.fact 0 rfl)
  obtain ⟨fd_Web___len__, b_Web___len__, FO_Web___len__⟩ := ok_Web___len__ (P := P) (w := w) (base := base) KX G c cx
  have gc_Web : mg "Web" = some (.ref (He.ga K "Web")) := He.glo_ok KX G (c.fact 21 rfl)
  have cl_Web : Cls K (He.ga K "Web") := He.cls_ok (c.fact 22 rfl)
  have m_Web___len__ : Meth K (He.ga K "Web") "__len__" (He.ma K (He.ga K "Web") "__len__") := He.meth_ok (c.fact 36 rfl)
  obtain ⟨fd_Web_forest, b_Web_forest, FO_Web_forest⟩ := ok_Web_forest (P := P) (w := w) (base := base) KX G c cx
  have m_Web_forest : Meth K (He.ga K "Web") "forest" (He.ma K (He.ga K "Web") "forest") := He.meth_ok (c.fact 34 rfl)
  refine ⟨fd, FunD.bindsN F (fun _ _ _ _ _ _ us hl => match us, hl with | [_], _ => rfl), fn_d (k := 2) F sc_class_count (fun cdv A outer s H E hr tk => ?_)⟩
  have hx : Passes (L2.CX P w) (cxOf (L2.CX P w) P w K mg base ["web"] d_class_count.qual d_class_count.scope (He.fAd K d_class_count.at_) cdv A outer s H E) E := passes_call tk (fun _ _ _ _ z => z)
  have hu64 := hr.units
  have hu := hu_of hr
  have c_Web : ∀ {Y : Cx}, Y.mg = mg → Y.K = K → ClsD Y "Web" (He.ga K "Web") := fun h1 h2 => ⟨by rw [h1]; exact gc_Web, by rw [h2]; exact cl_Web⟩
  exact dss_one (ds_ret (DE.fz (de_call FO_power_of (hr.mono (by decide)) rfl g_f_power_of kp_power_of b_power_of tk (da_cons (dv 0) (da_cons (de_sub (de_lenO (c_Web rfl rfl) m_Web___len__ FO_Web___len__ (hr.mono (by decide)) b_Web___len__ hx rfl z_len (da_cons (dv 0) da_nil)) (de_len rfl z_len (da_cons (DE.fz (de_meth0 (pl := _) (c_Web rfl rfl) m_Web_forest FO_Web_forest (hr.mono (by decide)) b_Web_forest .nil (fun _ _ => .nil) hx (dv 0))) da_nil))) da_nil)))))
theorem sc_is_residue : FnScope ["web", "thing"] ["web", "thing"] (defScope s_is_residue) := ⟨rfl, rfl, rfl, by decide +kernel, rfl, by decide +kernel, by decide +kernel⟩
theorem ok_is_residue {P : Program} {w : World} {K : PySem.W.Frag} {h : Heap} {mg : Str → Option Value} {base : Heap} (KX : K.In h) (G : h.Ns mainGlobals mg) (c : He.SaysD fa fn K) (cx : (exF.all fun f => f K) = true) : ∃ fd, Binds K fd ["web", "thing"] [] ∧ FnOk P w K mg base (L2.CX P w) 3 (He.fAd K d_is_residue.at_) fd ["web", "thing"] (spD ⟨K, mg⟩ 2 F_is_residue) := by
  obtain ⟨fd, F⟩ := c.def_ 27 (d := d_is_residue) rfl
  obtain ⟨fd_Web_modulus, b_Web_modulus, FO_Web_modulus⟩ := ok_Web_modulus (P := P) (w := w) (base := base) KX G c cx
  have gc_Web : mg "Web" = some (.ref (He.ga K "Web")) := He.glo_ok KX G (c.fact 21 rfl)
  have cl_Web : Cls K (He.ga K "Web") := He.cls_ok (c.fact 22 rfl)
  have m_Web_modulus : Meth K (He.ga K "Web") "modulus" (He.ma K (He.ga K "Web") "modulus") := He.meth_ok (c.fact 32 rfl)
  obtain ⟨fd_is_integer, b_is_integer, FO_is_integer⟩ := ok_is_integer (P := P) (w := w) (base := base) KX G c cx
  have g_f_is_integer : mg "is_integer" = some (.ref (He.ga K "is_integer")) := He.glo_ok KX G (c.fact 6 rfl)
  have kp_is_integer : PySem.W.keepIn K (.ref (He.ga K "is_integer")) = true := by
    obtain ⟨_, FF⟩ := c.def_ 11 (d := d_is_integer) rfl
    exact FF.kp
  obtain ⟨fd_is_within, b_is_within, FO_is_within⟩ := ok_is_within (P := P) (w := w) (base := base) KX G c cx
  have g_f_is_within : mg "is_within" = some (.ref (He.ga K "is_within")) := He.glo_ok KX G (c.fact 9 rfl)
  have kp_is_within : PySem.W.keepIn K (.ref (He.ga K "is_within")) = true := by
    obtain ⟨_, FF⟩ := c.def_ 12 (d := d_is_within) rfl
    exact FF.kp
  refine ⟨fd, FunD.bindsN F (fun _ _ _ _ _ _ us hl => match us, hl with | [_, _], _ => rfl), fn_d (k := 2) F sc_is_residue (fun cdv A outer s H E hr tk => ?_)⟩
  have hx : Passes (L2.CX P w) (cxOf (L2.CX P w) P w K mg base ["web", "thing"] d_is_residue.qual d_is_residue.scope (He.fAd K d_is_residue.at_) cdv A outer s H E) E := passes_call tk (fun _ _ _ _ z => z)
  have hu64 := hr.units
  have hu := hu_of hr
  have c_Web : ∀ {Y : Cx}, Y.mg = mg → Y.K = K → ClsD Y "Web" (He.ga K "Web") := fun h1 h2 => ⟨by rw [h1]; exact gc_Web, by rw [h2]; exact cl_Web⟩
  exact dss_cons (ds_if (dt_eq hu64 (DE.fz (de_meth0 (pl := _) (c_Web rfl rfl) m_Web_modulus FO_Web_modulus (hr.mono (by decide)) b_Web_modulus .nil (fun _ _ => .nil) hx (dv 0))) de_int) (dss_one (ds_ret (DE.fz (de_call FO_is_integer (hr.mono (by decide)) rfl g_f_is_integer kp_is_integer b_is_integer tk (da_cons (dv 1) da_nil))))) dss_nil) (dss_one (ds_ret (DE.fz (de_call FO_is_within (hr.mono (by decide)) rfl g_f_is_within kp_is_within b_is_within tk (da_cons (dv 1) (da_cons de_int (da_cons (de_sub (DE.fz (de_meth0 (pl := _) (c_Web rfl rfl) m_Web_modulus FO_Web_modulus (hr.mono (by decide)) b_Web_modulus .nil (fun _ _ => .nil) hx (dv 0))) de_int) da_nil)))))))
theorem sc_are_residues : FnScope ["web", "thing", "count", "one"] ["web", "thing", "count"] (defScope s_are_residues) := ⟨rfl, rfl, rfl, by decide +kernel, rfl, by decide +kernel, by decide +kernel⟩
theorem ok_are_residues {P : Program} {w : World} {K : PySem.W.Frag} {h : Heap} {mg : Str → Option Value} {base : Heap} (KX : K.In h) (G : h.Ns mainGlobals mg) (c : He.SaysD fa fn K) (cx : (exF.all fun f => f K) = true) : ∃ fd, Binds K fd ["web", "thing", "count"] [] ∧ FnOk P w K mg base (L2.CX P w) 4 (He.fAd K d_are_residues.at_) fd ["web", "thing", "count"] (spD ⟨K, mg⟩ 3 F_are_residues) := by
  obtain ⟨fd, F⟩ := c.def_ 28 (d := d_are_residues) rfl
  have z_isinstance : mg "isinstance" = none := He.free_ok KX G (c.fact 3 rfl)
  have z_list : mg "list" = none := He.free_ok KX G (c.fact 10 rfl)
  have z_len : mg "len" = none := He.free_ok KX G (c.fact 0 rfl)
  have z_all : mg "all" = none := He.free_ok KX G (c.fact 37 rfl)
  obtain ⟨fd_is_residue, b_is_residue, FO_is_residue⟩ := ok_is_residue (P := P) (w := w) (base := base) KX G c cx
  have g_f_is_residue : mg "is_residue" = some (.ref (He.ga K "is_residue")) := He.glo_ok KX G (c.fact 38 rfl)
  have kp_is_residue : PySem.W.keepIn K (.ref (He.ga K "is_residue")) = true := by
    obtain ⟨_, FF⟩ := c.def_ 27 (d := d_is_residue) rfl
    exact FF.kp
  refine ⟨fd, FunD.bindsN F (fun _ _ _ _ _ _ us hl => match us, hl with | [_, _, _], _ => rfl), fn_d (k := 3) F sc_are_residues (fun cdv A outer s H E hr tk => ?_)⟩
  have hx : Passes (L2.CX P w) (cxOf (L2.CX P w) P w K mg base ["web", "thing", "count", "one"] d_are_residues.qual d_are_residues.scope (He.fAd K d_are_residues.at_) cdv A outer s H E) E := passes_call tk (fun _ _ _ _ z => z)
  have hu64 := hr.units
  have hu := hu_of hr
  exact dss_one (ds_ret (de_and (de_isi rfl z_isinstance (da_cons (dv 1) (da_cons (de_ty rfl z_list (by decide +kernel)) da_nil))) (de_and (de_eq hu64 (de_len rfl z_len (da_cons (dv 1) da_nil)) (dv 2)) (de_one (de_all rfl rfl z_all (da_cons (DN.frz (dn_lc (own := [(("one" : Str), 3)]) rfl sc_are_residues.nd (di_sq (dv 1)) (blkOk_by rfl) (fun _ _ _ _ _ => gn 3 sc_are_residues.nd) (fun _ _ _ _ _ => dts_nil) (fun _ _ _ _ _ => DE.fz (de_call FO_is_residue (hr.mono (by decide)) rfl g_f_is_residue kp_is_residue b_is_residue takes0 (da_cons (dv 0) (da_cons (dv 3) da_nil)))) (rs_mem rfl))) da_nil))))))
theorem sc_is_gains : FnScope ["web", "thing"] ["web", "thing"] (defScope s_is_gains) := ⟨rfl, rfl, rfl, by decide +kernel, rfl, by decide +kernel, by decide +kernel⟩
theorem ok_is_gains {P : Program} {w : World} {K : PySem.W.Frag} {h : Heap} {mg : Str → Option Value} {base : Heap} (KX : K.In h) (G : h.Ns mainGlobals mg) (c : He.SaysD fa fn K) (cx : (exF.all fun f => f K) = true) : ∃ fd, Binds K fd ["web", "thing"] [] ∧ FnOk P w K mg base (L2.CX P w) 5 (He.fAd K d_is_gains.at_) fd ["web", "thing"] (spD ⟨K, mg⟩ 2 F_is_gains) := by
  obtain ⟨fd, F⟩ := c.def_ 29 (d := d_is_gains) rfl
  obtain ⟨fd_are_residues, b_are_residues, FO_are_residues⟩ := ok_are_residues (P := P) (w := w) (base := base) KX G c cx
  have g_f_are_residues : mg "are_residues" = some (.ref (He.ga K "are_residues")) := He.glo_ok KX G (c.fact 39 rfl)
  have kp_are_residues : PySem.W.keepIn K (.ref (He.ga K "are_residues")) = true := by
    obtain ⟨_, FF⟩ := c.def_ 28 (d := d_are_residues) rfl
    exact FF.kp
  have z_len : mg "len" = none := He.free_ok KX G (c.fact 0 rfl)
  obtain ⟨fd_Web___len__, b_Web___len__, FO_Web___len__⟩ := ok_Web___len__ (P := P) (w := w) (base := base) KX G c cx
  have gc_Web : mg "Web" = some (.ref (He.ga K "Web")) := He.glo_ok KX G (c.fact 21 rfl)
  have cl_Web : Cls K (He.ga K "Web") := He.cls_ok (c.fact 22 rfl)
  have m_Web___len__ : Meth K (He.ga K "Web") "__len__" (He.ma K (He.ga K "Web") "__len__") := He.meth_ok (c.fact 36 rfl)
  refine ⟨fd, FunD.bindsN F (fun _ _ _ _ _ _ us hl => match us, hl with | [_, _], _ => rfl), fn_d (k := 4) F sc_is_gains (fun cdv A outer s H E hr tk => ?_)⟩
  have hx : Passes (L2.CX P w) (cxOf (L2.CX P w) P w K mg base ["web", "thing"] d_is_gains.qual d_is_gains.scope (He.fAd K d_is_gains.at_) cdv A outer s H E) E := passes_call tk (fun _ _ _ _ z => z)
  have hu64 := hr.units
  have hu := hu_of hr
  have c_Web : ∀ {Y : Cx}, Y.mg = mg → Y.K = K → ClsD Y "Web" (He.ga K "Web") := fun h1 h2 => ⟨by rw [h1]; exact gc_Web, by rw [h2]; exact cl_Web⟩
  exact dss_one (ds_ret (DE.fz (de_call FO_are_residues (hr.mono (by decide)) rfl g_f_are_residues kp_are_residues b_are_residues tk (da_cons (dv 0) (da_cons (dv 1) (da_cons (de_lenO (c_Web rfl rfl) m_Web___len__ FO_Web___len__ (hr.mono (by decide)) b_Web___len__ hx rfl z_len (da_cons (dv 0) da_nil)) da_nil))))))
theorem sc_InvalidGains___init__ : FnScope ["self", "value"] ["self", "value"] (defScope s_InvalidGains___init__) := ⟨rfl, rfl, rfl, by decide +kernel, rfl, by decide +kernel, by decide +kernel⟩
theorem ok_InvalidGains___init__ {P : Program} {w : World} {K : PySem.W.Frag} {h : Heap} {mg : Str → Option Value} {base : Heap} (KX : K.In h) (G : h.Ns mainGlobals mg) (c : He.SaysD fa fn K) (cx : (exF.all fun f => f K) = true) : ∃ fd, Binds K fd ["self", "value"] [] ∧ FnOk P w K mg base (L2.CX P w) 1 (He.fAd K d_InvalidGains___init__.at_) fd ["self", "value"] (spXI K) := by
  obtain ⟨fd, F⟩ := c.def_ 5 (d := d_InvalidGains___init__) rfl
  have gb : mg ("WebError" : Str) = some (.ref (He.ga K ("WebError" : Str))) := He.glo_ok KX G (c.fact 7 rfl)
  have tb : XcB K (He.ga K ("WebError" : Str)) := xbB_ok (List.all_eq_true.mp cx (exF[0]) (List.getElem_mem (by decide)))
  refine ⟨fd, FunD.bindsN F (fun _ _ _ _ _ _ us hl => match us, hl with | [_, _], _ => rfl), F.ok sc_InvalidGains___init__ (fun vs H Q E h => xi_len h) (fun cdv A outer s H vs Q E hr h => ?_)⟩
  exact ⟨_, pss_cons (ps_expr (pe_xinit tb rfl gb (pa_cons (pe_var (i := 0) rfl (.inl rfl)) (pa_cons (pe_var (i := 1) rfl (.inl rfl)) pa_nil)))) (pss_one (ps_ost (pe_var (i := 0) rfl (.inl rfl)) (pe_var (i := 1) rfl (.inl rfl)))), xi_end h⟩
theorem sc_check_gains : FnScope ["web", "gains"] ["web", "gains"] (defScope s_check_gains) := ⟨rfl, rfl, rfl, by decide +kernel, rfl, by decide +kernel, by decide +kernel⟩
theorem ok_check_gains {P : Program} {w : World} {K : PySem.W.Frag} {h : Heap} {mg : Str → Option Value} {base : Heap} (KX : K.In h) (G : h.Ns mainGlobals mg) (c : He.SaysD fa fn K) (cx : (exF.all fun f => f K) = true) : ∃ fd, Binds K fd ["web", "gains"] [] ∧ FnOk P w K mg base (L2.CX P w) 6 (He.fAd K d_check_gains.at_) fd ["web", "gains"] (spD ⟨K, mg⟩ 2 F_check_gains) := by
  obtain ⟨fd, F⟩ := c.def_ 30 (d := d_check_gains) rfl
  obtain ⟨fd_is_gains, b_is_gains, FO_is_gains⟩ := ok_is_gains (P := P) (w := w) (base := base) KX G c cx
  have g_f_is_gains : mg "is_gains" = some (.ref (He.ga K "is_gains")) := He.glo_ok KX G (c.fact 40 rfl)
  have kp_is_gains : PySem.W.keepIn K (.ref (He.ga K "is_gains")) = true := by
    obtain ⟨_, FF⟩ := c.def_ 29 (d := d_is_gains) rfl
    exact FF.kp
  have gc_InvalidGains : mg "InvalidGains" = some (.ref (He.ga K "InvalidGains")) := He.glo_ok KX G (c.fact 41 rfl)
  obtain ⟨fd_InvalidGains___init__, b_InvalidGains___init__, FO_InvalidGains___init__⟩ := ok_InvalidGains___init__ (P := P) (w := w) (base := base) KX G c cx
  have tx_InvalidGains : XcC K (He.ga K "InvalidGains") (He.ma K (He.ga K "InvalidGains") "__init__") := xcB_ok (List.all_eq_true.mp cx (exF[4]) (List.getElem_mem (by decide)))
  refine ⟨fd, FunD.bindsN F (fun _ _ _ _ _ _ us hl => match us, hl with | [_, _], _ => rfl), fn_d (k := 5) F sc_check_gains (fun cdv A outer s H E hr tk => ?_)⟩
  have hx : Passes (L2.CX P w) (cxOf (L2.CX P w) P w K mg base ["web", "gains"] d_check_gains.qual d_check_gains.scope (He.fAd K d_check_gains.at_) cdv A outer s H E) E := passes_call tk (fun _ _ _ _ z => z)
  have hu64 := hr.units
  have hu := hu_of hr
  exact dss_one (ds_if (dt_not (dt_truth (DE.fz (de_call FO_is_gains (hr.mono (by decide)) rfl g_f_is_gains kp_is_gains b_is_gains tk (da_cons (dv 0) (da_cons (dv 1) da_nil)))))) (dss_one (ds_raise rfl tk tx_InvalidGains FO_InvalidGains___init__ (hr.mono (by decide)) b_InvalidGains___init__ rfl gc_InvalidGains (dv 1))) dss_nil)
theorem sc_walk_paths : FnScope ["links", "start", "paths", "level", "later", "node", "index", "way", "other"] ["links", "start"] (defScope s_walk_paths) := ⟨rfl, rfl, rfl, by decide +kernel, rfl, by decide +kernel, by decide +kernel⟩
theorem ok_walk_paths {P : Program} {w : World} {K : PySem.W.Frag} {h : Heap} {mg : Str → Option Value} {base : Heap} (KX : K.In h) (G : h.Ns mainGlobals mg) (c : He.SaysD fa fn K) (cx : (exF.all fun f => f K) = true) : ∃ fd, Binds K fd ["links", "start"] [] ∧ FnOk P w K mg base (L2.CX P w) 1 (He.fAd K d_walk_paths.at_) fd ["links", "start"] (spD ⟨K, mg⟩ 2 F_walk_paths) := by
  obtain ⟨fd, F⟩ := c.def_ 9 (d := d_walk_paths) rfl
  refine ⟨fd, FunD.bindsN F (fun _ _ _ _ _ _ us hl => match us, hl with | [_, _], _ => rfl), fn_d (k := 0) F sc_walk_paths (fun cdv A outer s H E hr tk => ?_)⟩
  have hx : Passes (L2.CX P w) (cxOf (L2.CX P w) P w K mg base ["links", "start", "paths", "level", "later", "node", "index", "way", "other"] d_walk_paths.qual d_walk_paths.scope (He.fAd K d_walk_paths.at_) cdv A outer s H E) E := passes_call tk (fun _ _ _ _ z => z)
  have hu64 := hr.units
  have hu := hu_of hr
  exact dss_cons (st 2 sc_walk_paths.nd (DN.cel (dn_disp (dps_cons (dv 1) (DN.frz (dn_lst da_nil)) dps_nil)))) (dss_cons (st 3 sc_walk_paths.nd (DN.cel (dn_lst (da_cons (dv 1) da_nil)))) (dss_cons (ds_while 1000 hp_of (dt_truth (dv 3)) (dss_cons (st 4 sc_walk_paths.nd (DN.cel (dn_lst da_nil))) (dss_cons (ds_for hp_of rfl (di_sq (dv 3)) (gn 5 sc_walk_paths.nd) (dss_one (ds_for hp_of rfl (di_sq (de_ix (dv 0) (dv 5) (fun _ _ => rfl))) (dg_tup rfl (dgs_cons (gn 6 sc_walk_paths.nd) (dgs_cons (gn 7 sc_walk_paths.nd) (dgs_cons (gn 8 sc_walk_paths.nd) dgs_nil)))) (dss_one (ds_if (dt_dnotin hu (dv 8) (dv 2)) (dss_cons (ds_dput hu (dv 2) (dv 8) (DN.frz (dn_add (de_dget hu (dv 2) (dv 5) (fun _ _ => rfl)) (DN.frz (dn_lst (da_cons (DN.frz (dn_tup (da_cons (dv 6) (da_cons (dv 7) da_nil)))) da_nil)))))) (dss_one (ds_expr (de_append (dv 4) (da_cons (dv 8) da_nil))))) dss_nil))))) (dss_one (st 3 sc_walk_paths.nd (dv 4)))))) (dss_one (ds_ret (de_lk (dv 2))))))
theorem sc_Web_cycles : FnScope ["self", "found", "number", "tail", "head"] ["self"] (defScope s_Web_cycles) := ⟨rfl, rfl, rfl, by decide +kernel, rfl, by decide +kernel, by decide +kernel⟩
theorem ok_Web_cycles {P : Program} {w : World} {K : PySem.W.Frag} {h : Heap} {mg : Str → Option Value} {base : Heap} (KX : K.In h) (G : h.Ns mainGlobals mg) (c : He.SaysD fa fn K) (cx : (exF.all fun f => f K) = true) : ∃ fd, Binds K fd ["self"] [] ∧ FnOk P w K mg base (L2.CX P w) 2 (He.fAd K d_Web_cycles.at_) fd ["self"] (spD ⟨K, mg⟩ 1 F_Web_cycles) := by
  obtain ⟨fd, F⟩ := c.def_ 21 (d := d_Web_cycles) rfl
  have gc_Web : mg "Web" = some (.ref (He.ga K "Web")) := He.glo_ok KX G (c.fact 21 rfl)
  have cl_Web : Cls K (He.ga K "Web") := He.cls_ok (c.fact 22 rfl)
  have n_Web_own_edges : NoAttr K (He.ga K "Web") "own_edges" := He.noat_ok (c.fact 24 rfl)
  have z_enumerate : mg "enumerate" = none := He.free_ok KX G (c.fact 15 rfl)
  have n_Web_own_forest : NoAttr K (He.ga K "Web") "own_forest" := He.noat_ok (c.fact 27 rfl)
  obtain ⟨fd_walk_paths, b_walk_paths, FO_walk_paths⟩ := ok_walk_paths (P := P) (w := w) (base := base) KX G c cx
  have g_f_walk_paths : mg "walk_paths" = some (.ref (He.ga K "walk_paths")) := He.glo_ok KX G (c.fact 42 rfl)
  have kp_walk_paths : PySem.W.keepIn K (.ref (He.ga K "walk_paths")) = true := by
    obtain ⟨_, FF⟩ := c.def_ 9 (d := d_walk_paths) rfl
    exact FF.kp
  have n_Web_links : NoAttr K (He.ga K "Web") "links" := He.noat_ok (c.fact 29 rfl)
  refine ⟨fd, FunD.bindsN F (fun _ _ _ _ _ _ us hl => match us, hl with | [_], _ => rfl), fn_d (k := 1) F sc_Web_cycles (fun cdv A outer s H E hr tk => ?_)⟩
  have hx : Passes (L2.CX P w) (cxOf (L2.CX P w) P w K mg base ["self", "found", "number", "tail", "head"] d_Web_cycles.qual d_Web_cycles.scope (He.fAd K d_Web_cycles.at_) cdv A outer s H E) E := passes_call tk (fun _ _ _ _ z => z)
  have hu64 := hr.units
  have hu := hu_of hr
  have c_Web : ∀ {Y : Cx}, Y.mg = mg → Y.K = K → ClsD Y "Web" (He.ga K "Web") := fun h1 h2 => ⟨by rw [h1]; exact gc_Web, by rw [h2]; exact cl_Web⟩
  exact dss_cons (st 1 sc_Web_cycles.nd (DN.cel (dn_lst da_nil))) (dss_cons (ds_for hp_of rfl (di_enum rfl z_enumerate (da_cons (de_fld (c_Web rfl rfl) n_Web_own_edges (dv 0)) da_nil)) (dg_tup rfl (dgs_cons (gn 2 sc_Web_cycles.nd) (dgs_cons (dg_tup rfl (dgs_cons (gn 3 sc_Web_cycles.nd) (dgs_cons (gn 4 sc_Web_cycles.nd) dgs_nil))) dgs_nil))) (dss_one (ds_if (dt_notIn (dv 2) (de_fld (c_Web rfl rfl) n_Web_own_forest (dv 0))) (dss_one (ds_expr (de_append (dv 1) (da_cons (DN.frz (dn_add (DN.frz (dn_lst (da_cons (DN.frz (dn_tup (da_cons (dv 2) (da_cons de_int da_nil)))) da_nil))) (de_dget hu (DE.fz (de_call FO_walk_paths (hr.mono (by decide)) rfl g_f_walk_paths kp_walk_paths b_walk_paths tk (da_cons (de_fld (c_Web rfl rfl) n_Web_links (dv 0)) (da_cons (dv 4) da_nil)))) (dv 3) (fun _ _ => rfl)))) da_nil)))) dss_nil))) (dss_one (ds_ret (dv 1))))
theorem sc_is_step : FnScope ["web", "thing"] ["web", "thing"] (defScope s_is_step) := ⟨rfl, rfl, rfl, by decide +kernel, rfl, by decide +kernel, by decide +kernel⟩
theorem ok_is_step {P : Program} {w : World} {K : PySem.W.Frag} {h : Heap} {mg : Str → Option Value} {base : Heap} (KX : K.In h) (G : h.Ns mainGlobals mg) (c : He.SaysD fa fn K) (cx : (exF.all fun f => f K) = true) : ∃ fd, Binds K fd ["web", "thing"] [] ∧ FnOk P w K mg base (L2.CX P w) 3 (He.fAd K d_is_step.at_) fd ["web", "thing"] (spD ⟨K, mg⟩ 2 F_is_step) := by
  obtain ⟨fd, F⟩ := c.def_ 23 (d := d_is_step) rfl
  have z_isinstance : mg "isinstance" = none := He.free_ok KX G (c.fact 3 rfl)
  have z_tuple : mg "tuple" = none := He.free_ok KX G (c.fact 8 rfl)
  have z_len : mg "len" = none := He.free_ok KX G (c.fact 0 rfl)
  obtain ⟨fd_is_within, b_is_within, FO_is_within⟩ := ok_is_within (P := P) (w := w) (base := base) KX G c cx
  have g_f_is_within : mg "is_within" = some (.ref (He.ga K "is_within")) := He.glo_ok KX G (c.fact 9 rfl)
  have kp_is_within : PySem.W.keepIn K (.ref (He.ga K "is_within")) = true := by
    obtain ⟨_, FF⟩ := c.def_ 12 (d := d_is_within) rfl
    exact FF.kp
  obtain ⟨fd_Web___len__, b_Web___len__, FO_Web___len__⟩ := ok_Web___len__ (P := P) (w := w) (base := base) KX G c cx
  have gc_Web : mg "Web" = some (.ref (He.ga K "Web")) := He.glo_ok KX G (c.fact 21 rfl)
  have cl_Web : Cls K (He.ga K "Web") := He.cls_ok (c.fact 22 rfl)
  have m_Web___len__ : Meth K (He.ga K "Web") "__len__" (He.ma K (He.ga K "Web") "__len__") := He.meth_ok (c.fact 36 rfl)
  refine ⟨fd, FunD.bindsN F (fun _ _ _ _ _ _ us hl => match us, hl with | [_, _], _ => rfl), fn_d (k := 2) F sc_is_step (fun cdv A outer s H E hr tk => ?_)⟩
  have hx : Passes (L2.CX P w) (cxOf (L2.CX P w) P w K mg base ["web", "thing"] d_is_step.qual d_is_step.scope (He.fAd K d_is_step.at_) cdv A outer s H E) E := passes_call tk (fun _ _ _ _ z => z)
  have hu64 := hr.units
  have hu := hu_of hr
  have c_Web : ∀ {Y : Cx}, Y.mg = mg → Y.K = K → ClsD Y "Web" (He.ga K "Web") := fun h1 h2 => ⟨by rw [h1]; exact gc_Web, by rw [h2]; exact cl_Web⟩
  exact dss_cons (ds_if (dt_w (dw_or (dt_not (dt_truth (de_isi rfl z_isinstance (da_cons (dv 1) (da_cons (de_ty rfl z_tuple (by decide +kernel)) da_nil))))) (dw_or1 (dt_ne hu64 (de_len rfl z_len (da_cons (dv 1) da_nil)) de_int)))) (dss_one (ds_ret de_bl)) dss_nil) (dss_one (ds_ret (de_and (DE.fz (de_call FO_is_within (hr.mono (by decide)) rfl g_f_is_within kp_is_within b_is_within tk (da_cons (de_ix (dv 1) de_int (fun _ _ => rfl)) (da_cons de_int (da_cons (de_sub (de_lenO (c_Web rfl rfl) m_Web___len__ FO_Web___len__ (hr.mono (by decide)) b_Web___len__ hx rfl z_len (da_cons (dv 0) da_nil)) de_int) da_nil))))) (de_and (DE.fz (de_call FO_is_within (hr.mono (by decide)) rfl g_f_is_within kp_is_within b_is_within tk (da_cons (de_ix (dv 1) de_int (fun _ _ => rfl)) (da_cons (de_neg de_int) (da_cons de_int da_nil))))) (de_one (de_ne hu64 (de_ix (dv 1) de_int (fun _ _ => rfl)) de_int))))))
theorem sc_Web_edge : FnScope ["self", "number"] ["self", "number"] (defScope s_Web_edge) := ⟨rfl, rfl, rfl, by decide +kernel, rfl, by decide +kernel, by decide +kernel⟩
theorem ok_Web_edge {P : Program} {w : World} {K : PySem.W.Frag} {h : Heap} {mg : Str → Option Value} {base : Heap} (KX : K.In h) (G : h.Ns mainGlobals mg) (c : He.SaysD fa fn K) (cx : (exF.all fun f => f K) = true) : ∃ fd, Binds K fd ["self", "number"] [] ∧ FnOk P w K mg base (L2.CX P w) 3 (He.fAd K d_Web_edge.at_) fd ["self", "number"] (spD ⟨K, mg⟩ 2 F_Web_edge) := by
  obtain ⟨fd, F⟩ := c.def_ 18 (d := d_Web_edge) rfl
  obtain ⟨fd_is_within, b_is_within, FO_is_within⟩ := ok_is_within (P := P) (w := w) (base := base) KX G c cx
  have g_f_is_within : mg "is_within" = some (.ref (He.ga K "is_within")) := He.glo_ok KX G (c.fact 9 rfl)
  have kp_is_within : PySem.W.keepIn K (.ref (He.ga K "is_within")) = true := by
    obtain ⟨_, FF⟩ := c.def_ 12 (d := d_is_within) rfl
    exact FF.kp
  have z_len : mg "len" = none := He.free_ok KX G (c.fact 0 rfl)
  have gc_Web : mg "Web" = some (.ref (He.ga K "Web")) := He.glo_ok KX G (c.fact 21 rfl)
  have cl_Web : Cls K (He.ga K "Web") := He.cls_ok (c.fact 22 rfl)
  have n_Web_own_edges : NoAttr K (He.ga K "Web") "own_edges" := He.noat_ok (c.fact 24 rfl)
  refine ⟨fd, FunD.bindsN F (fun _ _ _ _ _ _ us hl => match us, hl with | [_, _], _ => rfl), fn_d (k := 2) F sc_Web_edge (fun cdv A outer s H E hr tk => ?_)⟩
  have hx : Passes (L2.CX P w) (cxOf (L2.CX P w) P w K mg base ["self", "number"] d_Web_edge.qual d_Web_edge.scope (He.fAd K d_Web_edge.at_) cdv A outer s H E) E := passes_call tk (fun _ _ _ _ z => z)
  have hu64 := hr.units
  have hu := hu_of hr
  have c_Web : ∀ {Y : Cx}, Y.mg = mg → Y.K = K → ClsD Y "Web" (He.ga K "Web") := fun h1 h2 => ⟨by rw [h1]; exact gc_Web, by rw [h2]; exact cl_Web⟩
  exact dss_cons (ds_if (dt_not (dt_truth (DE.fz (de_call FO_is_within (hr.mono (by decide)) rfl g_f_is_within kp_is_within b_is_within tk (da_cons (dv 1) (da_cons de_int (da_cons (de_sub (de_len rfl z_len (da_cons (de_fld (c_Web rfl rfl) n_Web_own_edges (dv 0)) da_nil)) de_int) da_nil))))))) (dss_one ds_never) dss_nil) (dss_one (ds_ret (de_ix (de_fld (c_Web rfl rfl) n_Web_own_edges (dv 0)) (dv 1) (fun _ _ => rfl))))
theorem sc_step_ends : FnScope ["web", "step", "number", "way", "tail", "head"] ["web", "step"] (defScope s_step_ends) := ⟨rfl, rfl, rfl, by decide +kernel, rfl, by decide +kernel, by decide +kernel⟩
theorem ok_step_ends {P : Program} {w : World} {K : PySem.W.Frag} {h : Heap} {mg : Str → Option Value} {base : Heap} (KX : K.In h) (G : h.Ns mainGlobals mg) (c : He.SaysD fa fn K) (cx : (exF.all fun f => f K) = true) : ∃ fd, Binds K fd ["web", "step"] [] ∧ FnOk P w K mg base (L2.CX P w) 4 (He.fAd K d_step_ends.at_) fd ["web", "step"] (spD ⟨K, mg⟩ 2 F_step_ends) := by
  obtain ⟨fd, F⟩ := c.def_ 24 (d := d_step_ends) rfl
  obtain ⟨fd_Web_edge, b_Web_edge, FO_Web_edge⟩ := ok_Web_edge (P := P) (w := w) (base := base) KX G c cx
  have gc_Web : mg "Web" = some (.ref (He.ga K "Web")) := He.glo_ok KX G (c.fact 21 rfl)
  have cl_Web : Cls K (He.ga K "Web") := He.cls_ok (c.fact 22 rfl)
  have m_Web_edge : Meth K (He.ga K "Web") "edge" (He.ma K (He.ga K "Web") "edge") := He.meth_ok (c.fact 43 rfl)
  refine ⟨fd, FunD.bindsN F (fun _ _ _ _ _ _ us hl => match us, hl with | [_, _], _ => rfl), fn_d (k := 3) F sc_step_ends (fun cdv A outer s H E hr tk => ?_)⟩
  have hx : Passes (L2.CX P w) (cxOf (L2.CX P w) P w K mg base ["web", "step", "number", "way", "tail", "head"] d_step_ends.qual d_step_ends.scope (He.fAd K d_step_ends.at_) cdv A outer s H E) E := passes_call tk (fun _ _ _ _ z => z)
  have hu64 := hr.units
  have hu := hu_of hr
  have c_Web : ∀ {Y : Cx}, Y.mg = mg → Y.K = K → ClsD Y "Web" (He.ga K "Web") := fun h1 h2 => ⟨by rw [h1]; exact gc_Web, by rw [h2]; exact cl_Web⟩
  exact dss_cons (ds_asg (dv 1) (dg_tup rfl (dgs_cons (gn 2 sc_step_ends.nd) (dgs_cons (gn 3 sc_step_ends.nd) dgs_nil)))) (dss_cons (ds_asg (DE.fz (de_meth (pl := _) (c_Web rfl rfl) m_Web_edge FO_Web_edge (hr.mono (by decide)) b_Web_edge .nil (fun _ _ => .nil) hx (dv 0) (da_cons (dv 2) da_nil))) (dg_tup rfl (dgs_cons (gn 4 sc_step_ends.nd) (dgs_cons (gn 5 sc_step_ends.nd) dgs_nil)))) (dss_one (ds_ret (de_ifExp (dt_eq hu64 (dv 3) de_int) (DN.frz (dn_tup (da_cons (dv 4) (da_cons (dv 5) da_nil)))) (DN.frz (dn_tup (da_cons (dv 5) (da_cons (dv 4) da_nil))))))))
theorem sc_is_walk : FnScope ["web", "thing", "ends", "step", "one", "other"] ["web", "thing"] (defScope s_is_walk) := ⟨rfl, rfl, rfl, by decide +kernel, rfl, by decide +kernel, by decide +kernel⟩
theorem ok_is_walk {P : Program} {w : World} {K : PySem.W.Frag} {h : Heap} {mg : Str → Option Value} {base : Heap} (KX : K.In h) (G : h.Ns mainGlobals mg) (c : He.SaysD fa fn K) (cx : (exF.all fun f => f K) = true) : ∃ fd, Binds K fd ["web", "thing"] [] ∧ FnOk P w K mg base (L2.CX P w) 5 (He.fAd K d_is_walk.at_) fd ["web", "thing"] (spD ⟨K, mg⟩ 2 F_is_walk) := by
  obtain ⟨fd, F⟩ := c.def_ 25 (d := d_is_walk) rfl
  have z_isinstance : mg "isinstance" = none := He.free_ok KX G (c.fact 3 rfl)
  have z_list : mg "list" = none := He.free_ok KX G (c.fact 10 rfl)
  have z_all : mg "all" = none := He.free_ok KX G (c.fact 37 rfl)
  obtain ⟨fd_is_step, b_is_step, FO_is_step⟩ := ok_is_step (P := P) (w := w) (base := base) KX G c cx
  have g_f_is_step : mg "is_step" = some (.ref (He.ga K "is_step")) := He.glo_ok KX G (c.fact 44 rfl)
  have kp_is_step : PySem.W.keepIn K (.ref (He.ga K "is_step")) = true := by
    obtain ⟨_, FF⟩ := c.def_ 23 (d := d_is_step) rfl
    exact FF.kp
  obtain ⟨fd_step_ends, b_step_ends, FO_step_ends⟩ := ok_step_ends (P := P) (w := w) (base := base) KX G c cx
  have g_f_step_ends : mg "step_ends" = some (.ref (He.ga K "step_ends")) := He.glo_ok KX G (c.fact 45 rfl)
  have kp_step_ends : PySem.W.keepIn K (.ref (He.ga K "step_ends")) = true := by
    obtain ⟨_, FF⟩ := c.def_ 24 (d := d_step_ends) rfl
    exact FF.kp
  have z_zip : mg "zip" = none := He.free_ok KX G (c.fact 30 rfl)
  refine ⟨fd, FunD.bindsN F (fun _ _ _ _ _ _ us hl => match us, hl with | [_, _], _ => rfl), fn_d (k := 4) F sc_is_walk (fun cdv A outer s H E hr tk => ?_)⟩
  have hx : Passes (L2.CX P w) (cxOf (L2.CX P w) P w K mg base ["web", "thing", "ends", "step", "one", "other"] d_is_walk.qual d_is_walk.scope (He.fAd K d_is_walk.at_) cdv A outer s H E) E := passes_call tk (fun _ _ _ _ z => z)
  have hu64 := hr.units
  have hu := hu_of hr
  exact dss_cons (ds_if (dt_w (dw_or (dt_not (dt_truth (de_isi rfl z_isinstance (da_cons (dv 1) (da_cons (de_ty rfl z_list (by decide +kernel)) da_nil))))) (dw_or1 (dt_eq hu64 (dv 1) (DN.frz (dn_lst da_nil)))))) (dss_one (ds_ret de_bl)) dss_nil) (dss_cons (ds_if (dt_not (dt_truth (de_all rfl rfl z_all (da_cons (DN.frz (dn_lc (own := [(("step" : Str), 3)]) rfl sc_is_walk.nd (di_sq (dv 1)) (blkOk_by rfl) (fun _ _ _ _ _ => gn 3 sc_is_walk.nd) (fun _ _ _ _ _ => dts_nil) (fun _ _ _ _ _ => DE.fz (de_call FO_is_step (hr.mono (by decide)) rfl g_f_is_step kp_is_step b_is_step takes0 (da_cons (dv 0) (da_cons (dv 3) da_nil)))) (rs_mem rfl))) da_nil)))) (dss_one (ds_ret de_bl)) dss_nil) (dss_cons (ds_setLc (own := [(("step" : Str), 3)]) kN_frz rfl sc_is_walk.nd (show _ from rfl) rfl (sw_true rfl rfl rfl (by decide +kernel)) (di_sq (dv 1)) (blkOk_by rfl) (fun _ _ _ _ _ => gn 3 sc_is_walk.nd) (fun _ _ _ _ _ => dts_nil) (fun _ _ _ _ _ => DE.fz (de_call FO_step_ends (hr.mono (by decide)) rfl g_f_step_ends kp_step_ends b_step_ends takes0 (da_cons (dv 0) (da_cons (dv 3) da_nil)))) (rs_mem rfl)) (dss_one (ds_ret (de_all rfl rfl z_all (da_cons (DN.frz (dn_lc (own := [(("one" : Str), 4), (("other" : Str), 5)]) rfl sc_is_walk.nd (di_zip rfl z_zip (da_cons (dv 2) (da_cons (DN.frz (dn_slice (dv 2) (do_some de_int) do_none)) da_nil))) (blkOk_by rfl) (fun _ _ _ _ _ => dg_tup rfl (dgs_cons (gn 4 sc_is_walk.nd) (dgs_cons (gn 5 sc_is_walk.nd) dgs_nil))) (fun _ _ _ _ _ => dts_nil) (fun _ _ _ _ _ => de_eq hu64 (de_ix (dv 4) de_int (fun _ _ => rfl)) (de_ix (dv 5) de_int (fun _ _ => rfl))) (rs_mem rfl))) da_nil))))))
theorem sc_InvalidWalk___init__ : FnScope ["self", "value"] ["self", "value"] (defScope s_InvalidWalk___init__) := ⟨rfl, rfl, rfl, by decide +kernel, rfl, by decide +kernel, by decide +kernel⟩
theorem ok_InvalidWalk___init__ {P : Program} {w : World} {K : PySem.W.Frag} {h : Heap} {mg : Str → Option Value} {base : Heap} (KX : K.In h) (G : h.Ns mainGlobals mg) (c : He.SaysD fa fn K) (cx : (exF.all fun f => f K) = true) : ∃ fd, Binds K fd ["self", "value"] [] ∧ FnOk P w K mg base (L2.CX P w) 1 (He.fAd K d_InvalidWalk___init__.at_) fd ["self", "value"] (spXI K) := by
  obtain ⟨fd, F⟩ := c.def_ 3 (d := d_InvalidWalk___init__) rfl
  have gb : mg ("WebError" : Str) = some (.ref (He.ga K ("WebError" : Str))) := He.glo_ok KX G (c.fact 7 rfl)
  have tb : XcB K (He.ga K ("WebError" : Str)) := xbB_ok (List.all_eq_true.mp cx (exF[0]) (List.getElem_mem (by decide)))
  refine ⟨fd, FunD.bindsN F (fun _ _ _ _ _ _ us hl => match us, hl with | [_, _], _ => rfl), F.ok sc_InvalidWalk___init__ (fun vs H Q E h => xi_len h) (fun cdv A outer s H vs Q E hr h => ?_)⟩
  exact ⟨_, pss_cons (ps_expr (pe_xinit tb rfl gb (pa_cons (pe_var (i := 0) rfl (.inl rfl)) (pa_cons (pe_var (i := 1) rfl (.inl rfl)) pa_nil)))) (pss_one (ps_ost (pe_var (i := 0) rfl (.inl rfl)) (pe_var (i := 1) rfl (.inl rfl)))), xi_end h⟩
theorem sc_InvalidAmount___init__ : FnScope ["self", "value"] ["self", "value"] (defScope s_InvalidAmount___init__) := ⟨rfl, rfl, rfl, by decide +kernel, rfl, by decide +kernel, by decide +kernel⟩
theorem ok_InvalidAmount___init__ {P : Program} {w : World} {K : PySem.W.Frag} {h : Heap} {mg : Str → Option Value} {base : Heap} (KX : K.In h) (G : h.Ns mainGlobals mg) (c : He.SaysD fa fn K) (cx : (exF.all fun f => f K) = true) : ∃ fd, Binds K fd ["self", "value"] [] ∧ FnOk P w K mg base (L2.CX P w) 1 (He.fAd K d_InvalidAmount___init__.at_) fd ["self", "value"] (spXI K) := by
  obtain ⟨fd, F⟩ := c.def_ 4 (d := d_InvalidAmount___init__) rfl
  have gb : mg ("WebError" : Str) = some (.ref (He.ga K ("WebError" : Str))) := He.glo_ok KX G (c.fact 7 rfl)
  have tb : XcB K (He.ga K ("WebError" : Str)) := xbB_ok (List.all_eq_true.mp cx (exF[0]) (List.getElem_mem (by decide)))
  refine ⟨fd, FunD.bindsN F (fun _ _ _ _ _ _ us hl => match us, hl with | [_, _], _ => rfl), F.ok sc_InvalidAmount___init__ (fun vs H Q E h => xi_len h) (fun cdv A outer s H vs Q E hr h => ?_)⟩
  exact ⟨_, pss_cons (ps_expr (pe_xinit tb rfl gb (pa_cons (pe_var (i := 0) rfl (.inl rfl)) (pa_cons (pe_var (i := 1) rfl (.inl rfl)) pa_nil)))) (pss_one (ps_ost (pe_var (i := 0) rfl (.inl rfl)) (pe_var (i := 1) rfl (.inl rfl)))), xi_end h⟩
theorem sc_reduced_number : FnScope ["number", "modulus"] ["number", "modulus"] (defScope s_reduced_number) := ⟨rfl, rfl, rfl, by decide +kernel, rfl, by decide +kernel, by decide +kernel⟩
theorem ok_reduced_number {P : Program} {w : World} {K : PySem.W.Frag} {h : Heap} {mg : Str → Option Value} {base : Heap} (KX : K.In h) (G : h.Ns mainGlobals mg) (c : He.SaysD fa fn K) (cx : (exF.all fun f => f K) = true) : ∃ fd, Binds K fd ["number", "modulus"] [] ∧ FnOk P w K mg base (L2.CX P w) 1 (He.fAd K d_reduced_number.at_) fd ["number", "modulus"] (spD ⟨K, mg⟩ 2 F_reduced_number) := by
  obtain ⟨fd, F⟩ := c.def_ 6 (d := d_reduced_number) rfl
  refine ⟨fd, FunD.bindsN F (fun _ _ _ _ _ _ us hl => match us, hl with | [_, _], _ => rfl), fn_d (k := 0) F sc_reduced_number (fun cdv A outer s H E hr tk => ?_)⟩
  have hx : Passes (L2.CX P w) (cxOf (L2.CX P w) P w K mg base ["number", "modulus"] d_reduced_number.qual d_reduced_number.scope (He.fAd K d_reduced_number.at_) cdv A outer s H E) E := passes_call tk (fun _ _ _ _ z => z)
  have hu64 := hr.units
  have hu := hu_of hr
  exact dss_one (ds_ret (de_ifExp (dt_gt (dv 1) de_int) (de_mod (dv 0) (dv 1)) (dv 0)))
theorem sc_residue : FnScope ["web", "number"] ["web", "number"] (defScope s_residue) := ⟨rfl, rfl, rfl, by decide +kernel, rfl, by decide +kernel, by decide +kernel⟩
theorem ok_residue {P : Program} {w : World} {K : PySem.W.Frag} {h : Heap} {mg : Str → Option Value} {base : Heap} (KX : K.In h) (G : h.Ns mainGlobals mg) (c : He.SaysD fa fn K) (cx : (exF.all fun f => f K) = true) : ∃ fd, Binds K fd ["web", "number"] [] ∧ FnOk P w K mg base (L2.CX P w) 3 (He.fAd K d_residue.at_) fd ["web", "number"] (spD ⟨K, mg⟩ 2 F_residue) := by
  obtain ⟨fd, F⟩ := c.def_ 26 (d := d_residue) rfl
  obtain ⟨fd_is_integer, b_is_integer, FO_is_integer⟩ := ok_is_integer (P := P) (w := w) (base := base) KX G c cx
  have g_f_is_integer : mg "is_integer" = some (.ref (He.ga K "is_integer")) := He.glo_ok KX G (c.fact 6 rfl)
  have kp_is_integer : PySem.W.keepIn K (.ref (He.ga K "is_integer")) = true := by
    obtain ⟨_, FF⟩ := c.def_ 11 (d := d_is_integer) rfl
    exact FF.kp
  have gc_InvalidAmount : mg "InvalidAmount" = some (.ref (He.ga K "InvalidAmount")) := He.glo_ok KX G (c.fact 46 rfl)
  obtain ⟨fd_InvalidAmount___init__, b_InvalidAmount___init__, FO_InvalidAmount___init__⟩ := ok_InvalidAmount___init__ (P := P) (w := w) (base := base) KX G c cx
  have tx_InvalidAmount : XcC K (He.ga K "InvalidAmount") (He.ma K (He.ga K "InvalidAmount") "__init__") := xcB_ok (List.all_eq_true.mp cx (exF[5]) (List.getElem_mem (by decide)))
  obtain ⟨fd_reduced_number, b_reduced_number, FO_reduced_number⟩ := ok_reduced_number (P := P) (w := w) (base := base) KX G c cx
  have g_f_reduced_number : mg "reduced_number" = some (.ref (He.ga K "reduced_number")) := He.glo_ok KX G (c.fact 47 rfl)
  have kp_reduced_number : PySem.W.keepIn K (.ref (He.ga K "reduced_number")) = true := by
    obtain ⟨_, FF⟩ := c.def_ 6 (d := d_reduced_number) rfl
    exact FF.kp
  obtain ⟨fd_Web_modulus, b_Web_modulus, FO_Web_modulus⟩ := ok_Web_modulus (P := P) (w := w) (base := base) KX G c cx
  have gc_Web : mg "Web" = some (.ref (He.ga K "Web")) := He.glo_ok KX G (c.fact 21 rfl)
  have cl_Web : Cls K (He.ga K "Web") := He.cls_ok (c.fact 22 rfl)
  have m_Web_modulus : Meth K (He.ga K "Web") "modulus" (He.ma K (He.ga K "Web") "modulus") := He.meth_ok (c.fact 32 rfl)
  refine ⟨fd, FunD.bindsN F (fun _ _ _ _ _ _ us hl => match us, hl with | [_, _], _ => rfl), fn_d (k := 2) F sc_residue (fun cdv A outer s H E hr tk => ?_)⟩
  have hx : Passes (L2.CX P w) (cxOf (L2.CX P w) P w K mg base ["web", "number"] d_residue.qual d_residue.scope (He.fAd K d_residue.at_) cdv A outer s H E) E := passes_call tk (fun _ _ _ _ z => z)
  have hu64 := hr.units
  have hu := hu_of hr
  have c_Web : ∀ {Y : Cx}, Y.mg = mg → Y.K = K → ClsD Y "Web" (He.ga K "Web") := fun h1 h2 => ⟨by rw [h1]; exact gc_Web, by rw [h2]; exact cl_Web⟩
  exact dss_cons (ds_if (dt_not (dt_truth (DE.fz (de_call FO_is_integer (hr.mono (by decide)) rfl g_f_is_integer kp_is_integer b_is_integer tk (da_cons (dv 1) da_nil))))) (dss_one (ds_raise rfl tk tx_InvalidAmount FO_InvalidAmount___init__ (hr.mono (by decide)) b_InvalidAmount___init__ rfl gc_InvalidAmount (dv 1))) dss_nil) (dss_one (ds_ret (DE.fz (de_call FO_reduced_number (hr.mono (by decide)) rfl g_f_reduced_number kp_reduced_number b_reduced_number tk (da_cons (dv 1) (da_cons (DE.fz (de_meth0 (pl := _) (c_Web rfl rfl) m_Web_modulus FO_Web_modulus (hr.mono (by decide)) b_Web_modulus .nil (fun _ _ => .nil) hx (dv 0))) da_nil))))))
theorem sc_walk_sum : FnScope ["web", "gains", "walk", "number", "way"] ["web", "gains", "walk"] (defScope s_walk_sum) := ⟨rfl, rfl, rfl, by decide +kernel, rfl, by decide +kernel, by decide +kernel⟩
theorem ok_walk_sum {P : Program} {w : World} {K : PySem.W.Frag} {h : Heap} {mg : Str → Option Value} {base : Heap} (KX : K.In h) (G : h.Ns mainGlobals mg) (c : He.SaysD fa fn K) (cx : (exF.all fun f => f K) = true) : ∃ fd, Binds K fd ["web", "gains", "walk"] [] ∧ FnOk P w K mg base (L2.CX P w) 7 (He.fAd K d_walk_sum.at_) fd ["web", "gains", "walk"] (spD ⟨K, mg⟩ 3 F_walk_sum) := by
  obtain ⟨fd, F⟩ := c.def_ 31 (d := d_walk_sum) rfl
  obtain ⟨fd_check_gains, b_check_gains, FO_check_gains⟩ := ok_check_gains (P := P) (w := w) (base := base) KX G c cx
  have g_f_check_gains : mg "check_gains" = some (.ref (He.ga K "check_gains")) := He.glo_ok KX G (c.fact 48 rfl)
  have kp_check_gains : PySem.W.keepIn K (.ref (He.ga K "check_gains")) = true := by
    obtain ⟨_, FF⟩ := c.def_ 30 (d := d_check_gains) rfl
    exact FF.kp
  obtain ⟨fd_is_walk, b_is_walk, FO_is_walk⟩ := ok_is_walk (P := P) (w := w) (base := base) KX G c cx
  have g_f_is_walk : mg "is_walk" = some (.ref (He.ga K "is_walk")) := He.glo_ok KX G (c.fact 49 rfl)
  have kp_is_walk : PySem.W.keepIn K (.ref (He.ga K "is_walk")) = true := by
    obtain ⟨_, FF⟩ := c.def_ 25 (d := d_is_walk) rfl
    exact FF.kp
  have gc_InvalidWalk : mg "InvalidWalk" = some (.ref (He.ga K "InvalidWalk")) := He.glo_ok KX G (c.fact 50 rfl)
  obtain ⟨fd_InvalidWalk___init__, b_InvalidWalk___init__, FO_InvalidWalk___init__⟩ := ok_InvalidWalk___init__ (P := P) (w := w) (base := base) KX G c cx
  have tx_InvalidWalk : XcC K (He.ga K "InvalidWalk") (He.ma K (He.ga K "InvalidWalk") "__init__") := xcB_ok (List.all_eq_true.mp cx (exF[6]) (List.getElem_mem (by decide)))
  obtain ⟨fd_residue, b_residue, FO_residue⟩ := ok_residue (P := P) (w := w) (base := base) KX G c cx
  have g_f_residue : mg "residue" = some (.ref (He.ga K "residue")) := He.glo_ok KX G (c.fact 51 rfl)
  have kp_residue : PySem.W.keepIn K (.ref (He.ga K "residue")) = true := by
    obtain ⟨_, FF⟩ := c.def_ 26 (d := d_residue) rfl
    exact FF.kp
  have z_sum : mg "sum" = none := He.free_ok KX G (c.fact 52 rfl)
  refine ⟨fd, FunD.bindsN F (fun _ _ _ _ _ _ us hl => match us, hl with | [_, _, _], _ => rfl), fn_d (k := 6) F sc_walk_sum (fun cdv A outer s H E hr tk => ?_)⟩
  have hx : Passes (L2.CX P w) (cxOf (L2.CX P w) P w K mg base ["web", "gains", "walk", "number", "way"] d_walk_sum.qual d_walk_sum.scope (He.fAd K d_walk_sum.at_) cdv A outer s H E) E := passes_call tk (fun _ _ _ _ z => z)
  have hu64 := hr.units
  have hu := hu_of hr
  exact dss_cons (ds_expr (DE.fz (de_call FO_check_gains (hr.mono (by decide)) rfl g_f_check_gains kp_check_gains b_check_gains tk (da_cons (dv 0) (da_cons (dv 1) da_nil))))) (dss_cons (ds_if (dt_not (dt_truth (DE.fz (de_call FO_is_walk (hr.mono (by decide)) rfl g_f_is_walk kp_is_walk b_is_walk tk (da_cons (dv 0) (da_cons (dv 2) da_nil)))))) (dss_one (ds_raise rfl tk tx_InvalidWalk FO_InvalidWalk___init__ (hr.mono (by decide)) b_InvalidWalk___init__ rfl gc_InvalidWalk (dv 2))) dss_nil) (dss_one (ds_ret (DE.fz (de_call FO_residue (hr.mono (by decide)) rfl g_f_residue kp_residue b_residue tk (da_cons (dv 0) (da_cons (de_sum rfl rfl z_sum (da_cons (DN.frz (dn_lc (own := [(("number" : Str), 3), (("way" : Str), 4)]) rfl sc_walk_sum.nd (di_sq (dv 2)) (blkOk_by rfl) (fun _ _ _ _ _ => dg_tup rfl (dgs_cons (gn 3 sc_walk_sum.nd) (dgs_cons (gn 4 sc_walk_sum.nd) dgs_nil))) (fun _ _ _ _ _ => dts_nil) (fun _ _ _ _ _ => de_mul (dv 4) (de_ix (dv 1) (dv 3) (fun _ _ => rfl))) (rs_mem rfl))) da_nil)) da_nil)))))))
theorem sc_cycle_sums : FnScope ["web", "gains", "cycle"] ["web", "gains"] (defScope s_cycle_sums) := ⟨rfl, rfl, rfl, by decide +kernel, rfl, by decide +kernel, by decide +kernel⟩
theorem ok_cycle_sums {P : Program} {w : World} {K : PySem.W.Frag} {h : Heap} {mg : Str → Option Value} {base : Heap} (KX : K.In h) (G : h.Ns mainGlobals mg) (c : He.SaysD fa fn K) (cx : (exF.all fun f => f K) = true) : ∃ fd, Binds K fd ["web", "gains"] [] ∧ FnOk P w K mg base (L2.CX P w) 8 (He.fAd K d_cycle_sums.at_) fd ["web", "gains"] (spD ⟨K, mg⟩ 2 F_cycle_sums) := by
  obtain ⟨fd, F⟩ := c.def_ 32 (d := d_cycle_sums) rfl
  obtain ⟨fd_check_gains, b_check_gains, FO_check_gains⟩ := ok_check_gains (P := P) (w := w) (base := base) KX G c cx
  have g_f_check_gains : mg "check_gains" = some (.ref (He.ga K "check_gains")) := He.glo_ok KX G (c.fact 48 rfl)
  have kp_check_gains : PySem.W.keepIn K (.ref (He.ga K "check_gains")) = true := by
    obtain ⟨_, FF⟩ := c.def_ 30 (d := d_check_gains) rfl
    exact FF.kp
  obtain ⟨fd_Web_cycles, b_Web_cycles, FO_Web_cycles⟩ := ok_Web_cycles (P := P) (w := w) (base := base) KX G c cx
  have gc_Web : mg "Web" = some (.ref (He.ga K "Web")) := He.glo_ok KX G (c.fact 21 rfl)
  have cl_Web : Cls K (He.ga K "Web") := He.cls_ok (c.fact 22 rfl)
  have m_Web_cycles : Meth K (He.ga K "Web") "cycles" (He.ma K (He.ga K "Web") "cycles") := He.meth_ok (c.fact 53 rfl)
  obtain ⟨fd_walk_sum, b_walk_sum, FO_walk_sum⟩ := ok_walk_sum (P := P) (w := w) (base := base) KX G c cx
  have g_f_walk_sum : mg "walk_sum" = some (.ref (He.ga K "walk_sum")) := He.glo_ok KX G (c.fact 54 rfl)
  have kp_walk_sum : PySem.W.keepIn K (.ref (He.ga K "walk_sum")) = true := by
    obtain ⟨_, FF⟩ := c.def_ 31 (d := d_walk_sum) rfl
    exact FF.kp
  refine ⟨fd, FunD.bindsN F (fun _ _ _ _ _ _ us hl => match us, hl with | [_, _], _ => rfl), fn_d (k := 7) F sc_cycle_sums (fun cdv A outer s H E hr tk => ?_)⟩
  have hx : Passes (L2.CX P w) (cxOf (L2.CX P w) P w K mg base ["web", "gains", "cycle"] d_cycle_sums.qual d_cycle_sums.scope (He.fAd K d_cycle_sums.at_) cdv A outer s H E) E := passes_call tk (fun _ _ _ _ z => z)
  have hu64 := hr.units
  have hu := hu_of hr
  have c_Web : ∀ {Y : Cx}, Y.mg = mg → Y.K = K → ClsD Y "Web" (He.ga K "Web") := fun h1 h2 => ⟨by rw [h1]; exact gc_Web, by rw [h2]; exact cl_Web⟩
  exact dss_cons (ds_expr (DE.fz (de_call FO_check_gains (hr.mono (by decide)) rfl g_f_check_gains kp_check_gains b_check_gains tk (da_cons (dv 0) (da_cons (dv 1) da_nil))))) (dss_one (ds_ret (DN.cel (dn_lc (own := [(("cycle" : Str), 2)]) rfl sc_cycle_sums.nd (di_sq (DE.fz (de_meth0 (pl := _) (c_Web rfl rfl) m_Web_cycles FO_Web_cycles (hr.mono (by decide)) b_Web_cycles .nil (fun _ _ => .nil) hx (dv 0)))) (blkOk_by rfl) (fun _ _ _ _ _ => gn 2 sc_cycle_sums.nd) (fun _ _ _ _ _ => dts_nil) (fun _ _ _ _ _ => DE.fz (de_call FO_walk_sum (hr.mono (by decide)) rfl g_f_walk_sum kp_walk_sum b_walk_sum takes0 (da_cons (dv 0) (da_cons (dv 1) (da_cons (dv 2) da_nil))))) (rs_mem rfl)))))
theorem sc_normal : FnScope ["web", "gains", "sums", "found", "cycle", "total"] ["web", "gains"] (defScope s_normal) := ⟨rfl, rfl, rfl, by decide +kernel, rfl, by decide +kernel, by decide +kernel⟩
theorem ok_normal {P : Program} {w : World} {K : PySem.W.Frag} {h : Heap} {mg : Str → Option Value} {base : Heap} (KX : K.In h) (G : h.Ns mainGlobals mg) (c : He.SaysD fa fn K) (cx : (exF.all fun f => f K) = true) : ∃ fd, Binds K fd ["web", "gains"] [] ∧ FnOk P w K mg base (L2.CX P w) 9 (He.fAd K d_normal.at_) fd ["web", "gains"] (spD ⟨K, mg⟩ 2 F_normal) := by
  obtain ⟨fd, F⟩ := c.def_ 33 (d := d_normal) rfl
  obtain ⟨fd_cycle_sums, b_cycle_sums, FO_cycle_sums⟩ := ok_cycle_sums (P := P) (w := w) (base := base) KX G c cx
  have g_f_cycle_sums : mg "cycle_sums" = some (.ref (He.ga K "cycle_sums")) := He.glo_ok KX G (c.fact 55 rfl)
  have kp_cycle_sums : PySem.W.keepIn K (.ref (He.ga K "cycle_sums")) = true := by
    obtain ⟨_, FF⟩ := c.def_ 32 (d := d_cycle_sums) rfl
    exact FF.kp
  have z_len : mg "len" = none := He.free_ok KX G (c.fact 0 rfl)
  obtain ⟨fd_Web___len__, b_Web___len__, FO_Web___len__⟩ := ok_Web___len__ (P := P) (w := w) (base := base) KX G c cx
  have gc_Web : mg "Web" = some (.ref (He.ga K "Web")) := He.glo_ok KX G (c.fact 21 rfl)
  have cl_Web : Cls K (He.ga K "Web") := He.cls_ok (c.fact 22 rfl)
  have m_Web___len__ : Meth K (He.ga K "Web") "__len__" (He.ma K (He.ga K "Web") "__len__") := He.meth_ok (c.fact 36 rfl)
  obtain ⟨fd_Web_cycles, b_Web_cycles, FO_Web_cycles⟩ := ok_Web_cycles (P := P) (w := w) (base := base) KX G c cx
  have m_Web_cycles : Meth K (He.ga K "Web") "cycles" (He.ma K (He.ga K "Web") "cycles") := He.meth_ok (c.fact 53 rfl)
  have z_zip : mg "zip" = none := He.free_ok KX G (c.fact 30 rfl)
  refine ⟨fd, FunD.bindsN F (fun _ _ _ _ _ _ us hl => match us, hl with | [_, _], _ => rfl), fn_d (k := 8) F sc_normal (fun cdv A outer s H E hr tk => ?_)⟩
  have hx : Passes (L2.CX P w) (cxOf (L2.CX P w) P w K mg base ["web", "gains", "sums", "found", "cycle", "total"] d_normal.qual d_normal.scope (He.fAd K d_normal.at_) cdv A outer s H E) E := passes_call tk (fun _ _ _ _ z => z)
  have hu64 := hr.units
  have hu := hu_of hr
  have c_Web : ∀ {Y : Cx}, Y.mg = mg → Y.K = K → ClsD Y "Web" (He.ga K "Web") := fun h1 h2 => ⟨by rw [h1]; exact gc_Web, by rw [h2]; exact cl_Web⟩
  exact dss_cons (st 2 sc_normal.nd (DE.fz (de_call FO_cycle_sums (hr.mono (by decide)) rfl g_f_cycle_sums kp_cycle_sums b_cycle_sums tk (da_cons (dv 0) (da_cons (dv 1) da_nil))))) (dss_cons (st 3 sc_normal.nd (DN.cel (dn_rep (DN.frz (dn_lst (da_cons de_int da_nil))) (de_lenO (c_Web rfl rfl) m_Web___len__ FO_Web___len__ (hr.mono (by decide)) b_Web___len__ hx rfl z_len (da_cons (dv 0) da_nil))))) (dss_cons (ds_for hp_of rfl (di_zip rfl z_zip (da_cons (DE.fz (de_meth0 (pl := _) (c_Web rfl rfl) m_Web_cycles FO_Web_cycles (hr.mono (by decide)) b_Web_cycles .nil (fun _ _ => .nil) hx (dv 0))) (da_cons (dv 2) da_nil))) (dg_tup rfl (dgs_cons (gn 4 sc_normal.nd) (dgs_cons (gn 5 sc_normal.nd) dgs_nil))) (dss_one (ds_asg (dv 5) (dg_sub (dv 3) (de_ix (de_ix (dv 4) de_int (fun _ _ => rfl)) de_int (fun _ _ => rfl)))))) (dss_one (ds_ret (dv 3)))))
theorem sc_components_of : FnScope ["links", "found", "seen", "node", "component", "other"] ["links"] (defScope s_components_of) := ⟨rfl, rfl, rfl, by decide +kernel, rfl, by decide +kernel, by decide +kernel⟩
theorem ok_components_of {P : Program} {w : World} {K : PySem.W.Frag} {h : Heap} {mg : Str → Option Value} {base : Heap} (KX : K.In h) (G : h.Ns mainGlobals mg) (c : He.SaysD fa fn K) (cx : (exF.all fun f => f K) = true) : ∃ fd, Binds K fd ["links"] [] ∧ FnOk P w K mg base (L2.CX P w) 2 (He.fAd K d_components_of.at_) fd ["links"] (spD ⟨K, mg⟩ 1 F_components_of) := by
  obtain ⟨fd, F⟩ := c.def_ 10 (d := d_components_of) rfl
  have z_len : mg "len" = none := He.free_ok KX G (c.fact 0 rfl)
  have z_range : mg "range" = none := He.free_ok KX G (c.fact 2 rfl)
  have z_sorted : mg "sorted" = none := He.free_ok KX G (c.fact 56 rfl)
  obtain ⟨fd_walk_paths, b_walk_paths, FO_walk_paths⟩ := ok_walk_paths (P := P) (w := w) (base := base) KX G c cx
  have g_f_walk_paths : mg "walk_paths" = some (.ref (He.ga K "walk_paths")) := He.glo_ok KX G (c.fact 42 rfl)
  have kp_walk_paths : PySem.W.keepIn K (.ref (He.ga K "walk_paths")) = true := by
    obtain ⟨_, FF⟩ := c.def_ 9 (d := d_walk_paths) rfl
    exact FF.kp
  refine ⟨fd, FunD.bindsN F (fun _ _ _ _ _ _ us hl => match us, hl with | [_], _ => rfl), fn_d (k := 1) F sc_components_of (fun cdv A outer s H E hr tk => ?_)⟩
  have hx : Passes (L2.CX P w) (cxOf (L2.CX P w) P w K mg base ["links", "found", "seen", "node", "component", "other"] d_components_of.qual d_components_of.scope (He.fAd K d_components_of.at_) cdv A outer s H E) E := passes_call tk (fun _ _ _ _ z => z)
  have hu64 := hr.units
  have hu := hu_of hr
  exact dss_cons (st 1 sc_components_of.nd (DN.cel (dn_lst da_nil))) (dss_cons (st 2 sc_components_of.nd (DN.cel dn_dnew)) (dss_cons (ds_for hp_of rfl (di_range1 rfl z_range (da_cons (de_len rfl z_len (da_cons (dv 0) da_nil)) da_nil)) (gn 3 sc_components_of.nd) (dss_one (ds_if (dt_dnotin hu (dv 3) (dv 2)) (dss_cons (st 4 sc_components_of.nd (DN.frz (dn_sorted rfl rfl z_sorted (da_cons (DE.fz (de_call FO_walk_paths (hr.mono (by decide)) rfl g_f_walk_paths kp_walk_paths b_walk_paths tk (da_cons (dv 0) (da_cons (dv 3) da_nil)))) da_nil)))) (dss_cons (ds_expr (de_update (dv 2) (da_cons (DN.frz (dn_dc (own := [(("other" : Str), 5)]) rfl sc_components_of.nd (di_sq (dv 4)) (blkOk_by rfl) (fun _ _ _ _ _ => gn 5 sc_components_of.nd) (fun _ _ _ _ _ => dts_nil) (fun _ _ _ _ _ => dv 5) (fun _ _ _ _ _ => de_bl) (rs_mem rfl))) da_nil))) (dss_one (ds_expr (de_append (dv 1) (da_cons (dv 4) da_nil)))))) dss_nil))) (dss_one (ds_ret (dv 1)))))
theorem sc_Web_components : FnScope ["self"] ["self"] (defScope s_Web_components) := ⟨rfl, rfl, rfl, by decide +kernel, rfl, by decide +kernel, by decide +kernel⟩
theorem ok_Web_components {P : Program} {w : World} {K : PySem.W.Frag} {h : Heap} {mg : Str → Option Value} {base : Heap} (KX : K.In h) (G : h.Ns mainGlobals mg) (c : He.SaysD fa fn K) (cx : (exF.all fun f => f K) = true) : ∃ fd, Binds K fd ["self"] [] ∧ FnOk P w K mg base (L2.CX P w) 3 (He.fAd K d_Web_components.at_) fd ["self"] (spD ⟨K, mg⟩ 1 F_Web_components) := by
  obtain ⟨fd, F⟩ := c.def_ 19 (d := d_Web_components) rfl
  obtain ⟨fd_components_of, b_components_of, FO_components_of⟩ := ok_components_of (P := P) (w := w) (base := base) KX G c cx
  have g_f_components_of : mg "components_of" = some (.ref (He.ga K "components_of")) := He.glo_ok KX G (c.fact 57 rfl)
  have kp_components_of : PySem.W.keepIn K (.ref (He.ga K "components_of")) = true := by
    obtain ⟨_, FF⟩ := c.def_ 10 (d := d_components_of) rfl
    exact FF.kp
  have gc_Web : mg "Web" = some (.ref (He.ga K "Web")) := He.glo_ok KX G (c.fact 21 rfl)
  have cl_Web : Cls K (He.ga K "Web") := He.cls_ok (c.fact 22 rfl)
  have n_Web_links : NoAttr K (He.ga K "Web") "links" := He.noat_ok (c.fact 29 rfl)
  refine ⟨fd, FunD.bindsN F (fun _ _ _ _ _ _ us hl => match us, hl with | [_], _ => rfl), fn_d (k := 2) F sc_Web_components (fun cdv A outer s H E hr tk => ?_)⟩
  have hx : Passes (L2.CX P w) (cxOf (L2.CX P w) P w K mg base ["self"] d_Web_components.qual d_Web_components.scope (He.fAd K d_Web_components.at_) cdv A outer s H E) E := passes_call tk (fun _ _ _ _ z => z)
  have hu64 := hr.units
  have hu := hu_of hr
  have c_Web : ∀ {Y : Cx}, Y.mg = mg → Y.K = K → ClsD Y "Web" (He.ga K "Web") := fun h1 h2 => ⟨by rw [h1]; exact gc_Web, by rw [h2]; exact cl_Web⟩
  exact dss_one (ds_ret (DE.fz (de_call FO_components_of (hr.mono (by decide)) rfl g_f_components_of kp_components_of b_components_of tk (da_cons (de_fld (c_Web rfl rfl) n_Web_links (dv 0)) da_nil))))
theorem sc_potential_count : FnScope ["web"] ["web"] (defScope s_potential_count) := ⟨rfl, rfl, rfl, by decide +kernel, rfl, by decide +kernel, by decide +kernel⟩
theorem ok_potential_count {P : Program} {w : World} {K : PySem.W.Frag} {h : Heap} {mg : Str → Option Value} {base : Heap} (KX : K.In h) (G : h.Ns mainGlobals mg) (c : He.SaysD fa fn K) (cx : (exF.all fun f => f K) = true) : ∃ fd, Binds K fd ["web"] [] ∧ FnOk P w K mg base (L2.CX P w) 4 (He.fAd K d_potential_count.at_) fd ["web"] (spD ⟨K, mg⟩ 1 F_potential_count) := by
  obtain ⟨fd, F⟩ := c.def_ 37 (d := d_potential_count) rfl
  obtain ⟨fd_power_of, b_power_of, FO_power_of⟩ := ok_power_of (P := P) (w := w) (base := base) KX G c cx
  have g_f_power_of : mg "power_of" = some (.ref (He.ga K "power_of")) := He.glo_ok KX G (c.fact 33 rfl)
  have kp_power_of : PySem.W.keepIn K (.ref (He.ga K "power_of")) = true := by
    obtain ⟨_, FF⟩ := c.def_ 34 (d := d_power_of) rfl
    exact FF.kp
  have z_len : mg "len" = none := He.free_ok KX G (c.fact 0 rfl)
  obtain ⟨fd_Web_components, b_Web_components, FO_Web_components⟩ := ok_Web_components (P := P) (w := w) (base := base) KX G c cx
  have gc_Web : mg "Web" = some (.ref (He.ga K "Web")) := He.glo_ok KX G (c.fact 21 rfl)
  have cl_Web : Cls K (He.ga K "Web") := He.cls_ok (c.fact 22 rfl)
  have m_Web_components : Meth K (He.ga K "Web") "components" (He.ma K (He.ga K "Web") "components") := He.meth_ok (c.fact 58 rfl)
  refine ⟨fd, FunD.bindsN F (fun _ _ _ _ _ _ us hl => match us, hl with | [_], _ => rfl), fn_d (k := 3) F sc_potential_count (fun cdv A outer s H E hr tk => ?_)⟩
  have hx : Passes (L2.CX P w) (cxOf (L2.CX P w) P w K mg base ["web"] d_potential_count.qual d_potential_count.scope (He.fAd K d_potential_count.at_) cdv A outer s H E) E := passes_call tk (fun _ _ _ _ z => z)
  have hu64 := hr.units
  have hu := hu_of hr
  have c_Web : ∀ {Y : Cx}, Y.mg = mg → Y.K = K → ClsD Y "Web" (He.ga K "Web") := fun h1 h2 => ⟨by rw [h1]; exact gc_Web, by rw [h2]; exact cl_Web⟩
  exact dss_one (ds_ret (DE.fz (de_call FO_power_of (hr.mono (by decide)) rfl g_f_power_of kp_power_of b_power_of tk (da_cons (dv 0) (da_cons (de_len rfl z_len (da_cons (DE.fz (de_meth0 (pl := _) (c_Web rfl rfl) m_Web_components FO_Web_components (hr.mono (by decide)) b_Web_components .nil (fun _ _ => .nil) hx (dv 0))) da_nil)) da_nil)))))
theorem sc__law_endless : FnScope ["_law_pool_here", "_law_nodes", "_law_links_here", "_law_web", "_law_flat", "_law_due", "_law_link"] ["_law_pool_here"] (defScope s__law_endless) := ⟨rfl, rfl, rfl, by decide +kernel, rfl, by decide +kernel, by decide +kernel⟩
theorem ok__law_endless {P : Program} {w : World} {K : PySem.W.Frag} {h : Heap} {mg : Str → Option Value} {base : Heap} (KX : K.In h) (G : h.Ns mainGlobals mg) (c : He.SaysD fa fn K) (cx : (exF.all fun f => f K) = true) : ∃ fd, Binds K fd ["_law_pool_here"] [] ∧ FnOk P w K mg base (L2.CX P w) 7 (He.fAd K d__law_endless.at_) fd ["_law_pool_here"] (spD ⟨K, mg⟩ 1 F__law_endless) := by
  obtain ⟨fd, F⟩ := c.def_ 45 (d := d__law_endless) rfl
  obtain ⟨fd__law_take, b__law_take, FO__law_take⟩ := ok__law_take (P := P) (w := w) (base := base) KX G c cx
  have g_f__law_take : mg "_law_take" = some (.ref (He.ga K "_law_take")) := He.glo_ok KX G (c.fact 1 rfl)
  have kp__law_take : PySem.W.keepIn K (.ref (He.ga K "_law_take")) = true := by
    obtain ⟨_, FF⟩ := c.def_ 39 (d := d__law_take) rfl
    exact FF.kp
  obtain ⟨fd__law_links, b__law_links, FO__law_links⟩ := ok__law_links (P := P) (w := w) (base := base) KX G c cx
  have g_f__law_links : mg "_law_links" = some (.ref (He.ga K "_law_links")) := He.glo_ok KX G (c.fact 59 rfl)
  have kp__law_links : PySem.W.keepIn K (.ref (He.ga K "_law_links")) = true := by
    obtain ⟨_, FF⟩ := c.def_ 40 (d := d__law_links) rfl
    exact FF.kp
  obtain ⟨fd_Web___init__, b_Web___init__, FO_Web___init__⟩ := ok_Web___init__ (P := P) (w := w) (base := base) KX G c cx
  have gc_Web : mg "Web" = some (.ref (He.ga K "Web")) := He.glo_ok KX G (c.fact 21 rfl)
  have cl_Web : Cls K (He.ga K "Web") := He.cls_ok (c.fact 22 rfl)
  have k_Web : Mk K (He.ga K "Web") (He.ma K (He.ga K "Web") "__init__") := He.mkr_ok (c.fact 60 rfl)
  have z_len : mg "len" = none := He.free_ok KX G (c.fact 0 rfl)
  obtain ⟨fd_Web_forest, b_Web_forest, FO_Web_forest⟩ := ok_Web_forest (P := P) (w := w) (base := base) KX G c cx
  have m_Web_forest : Meth K (He.ga K "Web") "forest" (He.ma K (He.ga K "Web") "forest") := He.meth_ok (c.fact 34 rfl)
  obtain ⟨fd_class_size, b_class_size, FO_class_size⟩ := ok_class_size (P := P) (w := w) (base := base) KX G c cx
  have g_f_class_size : mg "class_size" = some (.ref (He.ga K "class_size")) := He.glo_ok KX G (c.fact 61 rfl)
  have kp_class_size : PySem.W.keepIn K (.ref (He.ga K "class_size")) = true := by
    obtain ⟨_, FF⟩ := c.def_ 35 (d := d_class_size) rfl
    exact FF.kp
  obtain ⟨fd_class_count, b_class_count, FO_class_count⟩ := ok_class_count (P := P) (w := w) (base := base) KX G c cx
  have g_f_class_count : mg "class_count" = some (.ref (He.ga K "class_count")) := He.glo_ok KX G (c.fact 62 rfl)
  have kp_class_count : PySem.W.keepIn K (.ref (He.ga K "class_count")) = true := by
    obtain ⟨_, FF⟩ := c.def_ 36 (d := d_class_count) rfl
    exact FF.kp
  obtain ⟨fd_potential_count, b_potential_count, FO_potential_count⟩ := ok_potential_count (P := P) (w := w) (base := base) KX G c cx
  have g_f_potential_count : mg "potential_count" = some (.ref (He.ga K "potential_count")) := He.glo_ok KX G (c.fact 63 rfl)
  have kp_potential_count : PySem.W.keepIn K (.ref (He.ga K "potential_count")) = true := by
    obtain ⟨_, FF⟩ := c.def_ 37 (d := d_potential_count) rfl
    exact FF.kp
  have bd_Web___init__e := FunD.binds (ps := ["self", "size", "edges", "modulus"]) b_Web___init__ 3 1 (by intro z; cases z) rfl (fun T D doc pm an cdv ct us its ks l1 l2 l3 => match us, its, ks, l1, l2, l3 with | [_, _, _], [_], [_], _, _, _ => ⟨_, rfl, ⟨_, _, _, _, _, _, rfl, rfl, rfl⟩⟩) (by intro z; cases z)
  obtain ⟨ds_bd_Web___init__, bd_Web___init__⟩ := bd_Web___init__e
  refine ⟨fd, FunD.bindsN F (fun _ _ _ _ _ _ us hl => match us, hl with | [_], _ => rfl), fn_d (k := 6) F sc__law_endless (fun cdv A outer s H E hr tk => ?_)⟩
  have hx : Passes (L2.CX P w) (cxOf (L2.CX P w) P w K mg base ["_law_pool_here", "_law_nodes", "_law_links_here", "_law_web", "_law_flat", "_law_due", "_law_link"] d__law_endless.qual d__law_endless.scope (He.fAd K d__law_endless.at_) cdv A outer s H E) E := passes_call tk (fun _ _ _ _ z => z)
  have hu64 := hr.units
  have hu := hu_of hr
  have c_Web : ∀ {Y : Cx}, Y.mg = mg → Y.K = K → ClsD Y "Web" (He.ga K "Web") := fun h1 h2 => ⟨by rw [h1]; exact gc_Web, by rw [h2]; exact cl_Web⟩
  exact dss_cons (st 1 sc__law_endless.nd (DN.frz (dn_add de_int (DE.fz (de_call FO__law_take (hr.mono (by decide)) rfl g_f__law_take kp__law_take b__law_take tk (da_cons (dv 0) (da_cons de_int da_nil))))))) (dss_cons (st 2 sc__law_endless.nd (DE.fz (de_call FO__law_links (hr.mono (by decide)) rfl g_f__law_links kp__law_links b__law_links tk (da_cons (dv 0) (da_cons (dv 1) (da_cons (de_ix (DN.frz (dn_lst (da_cons de_int (da_cons de_int da_nil)))) (DE.fz (de_call FO__law_take (hr.mono (by decide)) rfl g_f__law_take kp__law_take b__law_take tk (da_cons (dv 0) (da_cons de_int da_nil)))) (fun _ _ => rfl)) da_nil)))))) (dss_cons (st 3 sc__law_endless.nd (DE.fz (de_makeP (dd := [.int 0]) (c_Web rfl rfl) k_Web FO_Web___init__ (hr.mono (by decide)) rfl bd_Web___init__.2 bd_Web___init__.1 (fun _ _ => .cons (.int _) .nil) hx (da_cons (dv 1) (da_cons (dv 2) da_nil))))) (dss_cons (ds_setLc (own := [(("_law_link" : Str), 6)]) kN_frz rfl sc__law_endless.nd (show _ from rfl) rfl (sw_true rfl rfl rfl (by decide +kernel)) (di_sq (dv 2)) (blkOk_by rfl) (fun _ _ _ _ _ => gn 6 sc__law_endless.nd) (fun _ _ _ _ _ => dts_one (dt_ne hu64 (de_ix (dv 6) de_int (fun _ _ => rfl)) (de_ix (dv 6) de_int (fun _ _ => rfl)))) (fun _ _ _ _ _ => dv 6) (rs_mem rfl)) (dss_cons (st 5 sc__law_endless.nd (DN.frz (dn_lst (da_cons (de_ifExp (dt_ne hu64 (dv 4) (DN.frz (dn_lst da_nil))) de_non de_int) (da_cons (de_ifExp (dt_eq hu64 (de_len rfl z_len (da_cons (DE.fz (de_meth0 (pl := _) (c_Web rfl rfl) m_Web_forest FO_Web_forest (hr.mono (by decide)) b_Web_forest .nil (fun _ _ => .nil) hx (dv 3))) da_nil)) (de_len rfl z_len (da_cons (dv 2) da_nil))) de_int de_non) (da_cons de_non da_nil)))))) (dss_one (ds_ret (de_eq hu64 (DN.frz (dn_lst (da_cons (DE.fz (de_call FO_class_size (hr.mono (by decide)) rfl g_f_class_size kp_class_size b_class_size tk (da_cons (dv 3) da_nil))) (da_cons (DE.fz (de_call FO_class_count (hr.mono (by decide)) rfl g_f_class_count kp_class_count b_class_count tk (da_cons (dv 3) da_nil))) (da_cons (DE.fz (de_call FO_potential_count (hr.mono (by decide)) rfl g_f_potential_count kp_potential_count b_potential_count tk (da_cons (dv 3) da_nil))) da_nil))))) (dv 5))))))))
theorem sc__law_great : FnScope ["_law_pool_here", "_law_nodes", "_law_dial", "_law_links_here", "_law_names", "_law_tied", "_law_tail", "_law_head", "_law_due", "_law_times", "_law_power", "_law_turn", "_law_web", "_law_name"] ["_law_pool_here"] (defScope s__law_great) := ⟨rfl, rfl, rfl, by decide +kernel, rfl, by decide +kernel, by decide +kernel⟩
theorem ok__law_great {P : Program} {w : World} {K : PySem.W.Frag} {h : Heap} {mg : Str → Option Value} {base : Heap} (KX : K.In h) (G : h.Ns mainGlobals mg) (c : He.SaysD fa fn K) (cx : (exF.all fun f => f K) = true) : ∃ fd, Binds K fd ["_law_pool_here"] [] ∧ FnOkG P w K mg base (L2.CX P w) 7 (He.fAd K d__law_great.at_) fd ["_law_pool_here"] (spD ⟨K, mg⟩ 1 F__law_great) := by
  obtain ⟨fd, F⟩ := c.def_ 46 (d := d__law_great) rfl
  obtain ⟨fd__law_take, b__law_take, FO__law_take⟩ := ok__law_take (P := P) (w := w) (base := base) KX G c cx
  have g_f__law_take : mg "_law_take" = some (.ref (He.ga K "_law_take")) := He.glo_ok KX G (c.fact 1 rfl)
  have kp__law_take : PySem.W.keepIn K (.ref (He.ga K "_law_take")) = true := by
    obtain ⟨_, FF⟩ := c.def_ 39 (d := d__law_take) rfl
    exact FF.kp
  obtain ⟨fd__law_links, b__law_links, FO__law_links⟩ := ok__law_links (P := P) (w := w) (base := base) KX G c cx
  have g_f__law_links : mg "_law_links" = some (.ref (He.ga K "_law_links")) := He.glo_ok KX G (c.fact 59 rfl)
  have kp__law_links : PySem.W.keepIn K (.ref (He.ga K "_law_links")) = true := by
    obtain ⟨_, FF⟩ := c.def_ 40 (d := d__law_links) rfl
    exact FF.kp
  have z_list : mg "list" = none := He.free_ok KX G (c.fact 10 rfl)
  have z_range : mg "range" = none := He.free_ok KX G (c.fact 2 rfl)
  have z_len : mg "len" = none := He.free_ok KX G (c.fact 0 rfl)
  obtain ⟨fd_Web___init__, b_Web___init__, FO_Web___init__⟩ := ok_Web___init__ (P := P) (w := w) (base := base) KX G c cx
  have gc_Web : mg "Web" = some (.ref (He.ga K "Web")) := He.glo_ok KX G (c.fact 21 rfl)
  have cl_Web : Cls K (He.ga K "Web") := He.cls_ok (c.fact 22 rfl)
  have k_Web : Mk K (He.ga K "Web") (He.ma K (He.ga K "Web") "__init__") := He.mkr_ok (c.fact 60 rfl)
  have z_repr : mg "repr" = none := He.free_ok KX G (c.fact 35 rfl)
  obtain ⟨fd_class_size, b_class_size, FO_class_size⟩ := ok_class_size (P := P) (w := w) (base := base) KX G c cx
  have g_f_class_size : mg "class_size" = some (.ref (He.ga K "class_size")) := He.glo_ok KX G (c.fact 61 rfl)
  have kp_class_size : PySem.W.keepIn K (.ref (He.ga K "class_size")) = true := by
    obtain ⟨_, FF⟩ := c.def_ 35 (d := d_class_size) rfl
    exact FF.kp
  obtain ⟨fd_class_count, b_class_count, FO_class_count⟩ := ok_class_count (P := P) (w := w) (base := base) KX G c cx
  have g_f_class_count : mg "class_count" = some (.ref (He.ga K "class_count")) := He.glo_ok KX G (c.fact 62 rfl)
  have kp_class_count : PySem.W.keepIn K (.ref (He.ga K "class_count")) = true := by
    obtain ⟨_, FF⟩ := c.def_ 36 (d := d_class_count) rfl
    exact FF.kp
  obtain ⟨fd_potential_count, b_potential_count, FO_potential_count⟩ := ok_potential_count (P := P) (w := w) (base := base) KX G c cx
  have g_f_potential_count : mg "potential_count" = some (.ref (He.ga K "potential_count")) := He.glo_ok KX G (c.fact 63 rfl)
  have kp_potential_count : PySem.W.keepIn K (.ref (He.ga K "potential_count")) = true := by
    obtain ⟨_, FF⟩ := c.def_ 37 (d := d_potential_count) rfl
    exact FF.kp
  obtain ⟨its_kb_Web___init___2_modulus, kb_Web___init___2_modulus⟩ := FunD.kbindsD (ps := ["self", "size", "edges", "modulus"]) b_Web___init__ 3 ["modulus"] (fun us _ ws => us ++ ws) (by intro z; cases z) (fun r1 _ r3 => r1.append r3) (fun T kV doc pm an cdv ct us its ws l1 l2 l3 => match us, its, ws, l1, l2, l3 with | [_, _, _], [_], [_], _, _, _ => ⟨_, rfl, rfl⟩)
  refine ⟨fd, FunD.bindsN F (fun _ _ _ _ _ _ us hl => match us, hl with | [_], _ => rfl), fn_dG (k := 6) F sc__law_great (fun cdv A outer s H E hr hgu tk => ?_)⟩
  have hx : Passes (L2.CX P w) (cxOf (L2.CX P w) P w K mg base ["_law_pool_here", "_law_nodes", "_law_dial", "_law_links_here", "_law_names", "_law_tied", "_law_tail", "_law_head", "_law_due", "_law_times", "_law_power", "_law_turn", "_law_web", "_law_name"] d__law_great.qual d__law_great.scope (He.fAd K d__law_great.at_) cdv A outer s H E) E := passes_call tk (fun _ _ _ _ z => z)
  have hu64 := hr.units
  have hu := hu_of hr
  have c_Web : ∀ {Y : Cx}, Y.mg = mg → Y.K = K → ClsD Y "Web" (He.ga K "Web") := fun h1 h2 => ⟨by rw [h1]; exact gc_Web, by rw [h2]; exact cl_Web⟩
  exact dss_cons (ds_par rfl sc__law_great.nd (show _ from rfl) (show _ from rfl) (by decide) rfl rfl (da_cons (DN.frz (dn_add de_int (DE.fz (de_call FO__law_take (hr.mono (by decide)) rfl g_f__law_take kp__law_take b__law_take tk (da_cons (dv 0) (da_cons de_int da_nil)))))) (da_cons (DN.frz (dn_add de_int (DE.fz (de_call FO__law_take (hr.mono (by decide)) rfl g_f__law_take kp__law_take b__law_take tk (da_cons (dv 0) (da_cons de_int da_nil)))))) da_nil)) (by rfl)) (dss_cons (st 3 sc__law_great.nd (DE.fz (de_call FO__law_links (hr.mono (by decide)) rfl g_f__law_links kp__law_links b__law_links tk (da_cons (dv 0) (da_cons (dv 1) (da_cons de_int da_nil)))))) (dss_cons (st 4 sc__law_great.nd (DN.frz (dn_listRg rfl rfl z_list (dr_1 rfl z_range (dv 1))))) (dss_cons (st 5 sc__law_great.nd de_int) (dss_cons (ds_for hp_of rfl (di_sq (dv 3)) (dg_tup rfl (dgs_cons (gn 6 sc__law_great.nd) (dgs_cons (gn 7 sc__law_great.nd) dgs_nil))) (dss_one (ds_if (dt_ne hu64 (de_ix (dv 4) (dv 6) (fun _ _ => rfl)) (de_ix (dv 4) (dv 7) (fun _ _ => rfl))) (dss_cons (st 4 sc__law_great.nd (DN.frz (dn_lc (own := [(("_law_name" : Str), 13)]) rfl sc__law_great.nd (di_sq (dv 4)) (blkOk_by rfl) (fun _ _ _ _ _ => gn 13 sc__law_great.nd) (fun _ _ _ _ _ => dts_nil) (fun _ _ _ _ _ => de_ifExp (dt_eq hu64 (dv 13) (de_ix (dv 4) (dv 7) (fun _ _ => rfl))) (de_ix (dv 4) (dv 6) (fun _ _ => rfl)) (dv 13)) (rs_mem rfl)))) (dss_one (st 5 sc__law_great.nd (DN.frz (dn_add (dv 5) de_int))))) dss_nil))) (dss_cons (st 8 sc__law_great.nd (DN.cel (dn_lst da_nil))) (dss_cons (ds_for hp_of rfl (di_sq (DN.frz (dn_lst (da_cons (dv 5) (da_cons (de_sub (de_len rfl z_len (da_cons (dv 3) da_nil)) (dv 5)) (da_cons (de_sub (dv 1) (dv 5)) da_nil)))))) (gn 9 sc__law_great.nd) (dss_cons (st 10 sc__law_great.nd de_int) (dss_cons (ds_for hp_of rfl (di_range1 rfl z_range (da_cons (dv 9) da_nil)) (gn 11 sc__law_great.nd) (dss_one (st 10 sc__law_great.nd (de_mul (dv 10) (dv 2))))) (dss_one (ds_expr (de_append (dv 8) (da_cons (dv 10) da_nil))))))) (dss_cons (st 12 sc__law_great.nd (DE.fz (de_makeN (c_Web rfl rfl) k_Web FO_Web___init__ (hr.mono (by decide)) rfl kb_Web___init___2_modulus (fun d l z h1 h2 => by simp [h1, h2]) (fun B as v d vs zs l z r r1 r2 => .cons r (r1.app r2)) hx (da_cons (dv 1) (da_cons (dv 3) da_nil)) (dk_cons (dv 2) dk_nil)))) (dss_one (ds_ret (de_eq hu64 (de_repr hgu hu64 rfl z_repr (da_cons (DN.frz (dn_lst (da_cons (DE.fz (de_call FO_class_size (hr.mono (by decide)) rfl g_f_class_size kp_class_size b_class_size tk (da_cons (dv 12) da_nil))) (da_cons (DE.fz (de_call FO_class_count (hr.mono (by decide)) rfl g_f_class_count kp_class_count b_class_count tk (da_cons (dv 12) da_nil))) (da_cons (DE.fz (de_call FO_potential_count (hr.mono (by decide)) rfl g_f_potential_count kp_potential_count b_potential_count tk (da_cons (dv 12) da_nil))) da_nil))))) da_nil)) (de_repr hgu hu64 rfl z_repr (da_cons (dv 8) da_nil))))))))))))
theorem sc_law : FnScope ["_law_script", "_law_k", "_law_pool_here", "_law_nodes", "_law_dial", "_law_links_here", "_law_web", "_law_levels", "_law_gains_there", "_law_some", "_law_reached", "_law_row"] ["_law_script"] (defScope s_law) := ⟨rfl, rfl, rfl, by decide +kernel, rfl, by decide +kernel, by decide +kernel⟩
theorem ok_law {P : Program} {w : World} {K : PySem.W.Frag} {h : Heap} {mg : Str → Option Value} (KX : K.In h) (G : h.Ns mainGlobals mg) (c : He.SaysD fa fn K) (cx : (exF.all fun f => f K) = true) : ∃ fd, (∀ (s : Shared) (v : Value), BindsTo s fd ⟨[v], []⟩ [("_law_script", v)]) ∧ ∀ base : Heap, FnOkG P w K mg base CX0 10 (He.fAd K d_law.at_) fd ["_law_script"] (spL ⟨K, mg⟩ 1 F_law) := by
  obtain ⟨fd, F⟩ := c.def_ 47 (d := d_law) rfl
  refine ⟨fd, fun s v => FunD.bindsA (ps := ["_law_script"]) F (fun _ _ _ _ _ _ us hl => match us, hl with | [_], _ => rfl) s [v] rfl, fun base => ?_⟩
  have z_max : mg "max" = none := He.free_ok KX G (c.fact 64 rfl)
  have z_min : mg "min" = none := He.free_ok KX G (c.fact 65 rfl)
  have z_len : mg "len" = none := He.free_ok KX G (c.fact 0 rfl)
  have z_range : mg "range" = none := He.free_ok KX G (c.fact 2 rfl)
  obtain ⟨fd__law_pool, b__law_pool, FO__law_pool⟩ := ok__law_pool (P := P) (w := w) (base := base) KX G c cx
  have g_f__law_pool : mg "_law_pool" = some (.ref (He.ga K "_law_pool")) := He.glo_ok KX G (c.fact 66 rfl)
  have kp__law_pool : PySem.W.keepIn K (.ref (He.ga K "_law_pool")) = true := by
    obtain ⟨_, FF⟩ := c.def_ 38 (d := d__law_pool) rfl
    exact FF.kp
  obtain ⟨fd__law_take, b__law_take, FO__law_take⟩ := ok__law_take (P := P) (w := w) (base := base) KX G c cx
  have g_f__law_take : mg "_law_take" = some (.ref (He.ga K "_law_take")) := He.glo_ok KX G (c.fact 1 rfl)
  have kp__law_take : PySem.W.keepIn K (.ref (He.ga K "_law_take")) = true := by
    obtain ⟨_, FF⟩ := c.def_ 39 (d := d__law_take) rfl
    exact FF.kp
  obtain ⟨fd__law_links, b__law_links, FO__law_links⟩ := ok__law_links (P := P) (w := w) (base := base) KX G c cx
  have g_f__law_links : mg "_law_links" = some (.ref (He.ga K "_law_links")) := He.glo_ok KX G (c.fact 59 rfl)
  have kp__law_links : PySem.W.keepIn K (.ref (He.ga K "_law_links")) = true := by
    obtain ⟨_, FF⟩ := c.def_ 40 (d := d__law_links) rfl
    exact FF.kp
  obtain ⟨fd_Web___init__, b_Web___init__, FO_Web___init__⟩ := ok_Web___init__ (P := P) (w := w) (base := base) KX G c cx
  have gc_Web : mg "Web" = some (.ref (He.ga K "Web")) := He.glo_ok KX G (c.fact 21 rfl)
  have cl_Web : Cls K (He.ga K "Web") := He.cls_ok (c.fact 22 rfl)
  have k_Web : Mk K (He.ga K "Web") (He.ma K (He.ga K "Web") "__init__") := He.mkr_ok (c.fact 60 rfl)
  obtain ⟨fd__law_all, b__law_all, FO__law_all⟩ := ok__law_all (P := P) (w := w) (base := base) KX G c cx
  have g_f__law_all : mg "_law_all" = some (.ref (He.ga K "_law_all")) := He.glo_ok KX G (c.fact 67 rfl)
  have kp__law_all : PySem.W.keepIn K (.ref (He.ga K "_law_all")) = true := by
    obtain ⟨_, FF⟩ := c.def_ 43 (d := d__law_all) rfl
    exact FF.kp
  obtain ⟨fd__law_put, b__law_put, FO__law_put⟩ := ok__law_put (P := P) (w := w) (base := base) KX G c cx
  have g_f__law_put : mg "_law_put" = some (.ref (He.ga K "_law_put")) := He.glo_ok KX G (c.fact 68 rfl)
  have kp__law_put : PySem.W.keepIn K (.ref (He.ga K "_law_put")) = true := by
    obtain ⟨_, FF⟩ := c.def_ 42 (d := d__law_put) rfl
    exact FF.kp
  have z_repr : mg "repr" = none := He.free_ok KX G (c.fact 35 rfl)
  obtain ⟨fd_class_size, b_class_size, FO_class_size⟩ := ok_class_size (P := P) (w := w) (base := base) KX G c cx
  have g_f_class_size : mg "class_size" = some (.ref (He.ga K "class_size")) := He.glo_ok KX G (c.fact 61 rfl)
  have kp_class_size : PySem.W.keepIn K (.ref (He.ga K "class_size")) = true := by
    obtain ⟨_, FF⟩ := c.def_ 35 (d := d_class_size) rfl
    exact FF.kp
  obtain ⟨fd__law_unlike, b__law_unlike, FO__law_unlike⟩ := ok__law_unlike (P := P) (w := w) (base := base) KX G c cx
  have g_f__law_unlike : mg "_law_unlike" = some (.ref (He.ga K "_law_unlike")) := He.glo_ok KX G (c.fact 69 rfl)
  have kp__law_unlike : PySem.W.keepIn K (.ref (He.ga K "_law_unlike")) = true := by
    obtain ⟨_, FF⟩ := c.def_ 44 (d := d__law_unlike) rfl
    exact FF.kp
  obtain ⟨fd_class_count, b_class_count, FO_class_count⟩ := ok_class_count (P := P) (w := w) (base := base) KX G c cx
  have g_f_class_count : mg "class_count" = some (.ref (He.ga K "class_count")) := He.glo_ok KX G (c.fact 62 rfl)
  have kp_class_count : PySem.W.keepIn K (.ref (He.ga K "class_count")) = true := by
    obtain ⟨_, FF⟩ := c.def_ 36 (d := d_class_count) rfl
    exact FF.kp
  obtain ⟨fd_normal, b_normal, FO_normal⟩ := ok_normal (P := P) (w := w) (base := base) KX G c cx
  have g_f_normal : mg "normal" = some (.ref (He.ga K "normal")) := He.glo_ok KX G (c.fact 70 rfl)
  have kp_normal : PySem.W.keepIn K (.ref (He.ga K "normal")) = true := by
    obtain ⟨_, FF⟩ := c.def_ 33 (d := d_normal) rfl
    exact FF.kp
  obtain ⟨fd_potential_count, b_potential_count, FO_potential_count⟩ := ok_potential_count (P := P) (w := w) (base := base) KX G c cx
  have g_f_potential_count : mg "potential_count" = some (.ref (He.ga K "potential_count")) := He.glo_ok KX G (c.fact 63 rfl)
  have kp_potential_count : PySem.W.keepIn K (.ref (He.ga K "potential_count")) = true := by
    obtain ⟨_, FF⟩ := c.def_ 37 (d := d_potential_count) rfl
    exact FF.kp
  obtain ⟨fd__law_endless, b__law_endless, FO__law_endless⟩ := ok__law_endless (P := P) (w := w) (base := base) KX G c cx
  have g_f__law_endless : mg "_law_endless" = some (.ref (He.ga K "_law_endless")) := He.glo_ok KX G (c.fact 71 rfl)
  have kp__law_endless : PySem.W.keepIn K (.ref (He.ga K "_law_endless")) = true := by
    obtain ⟨_, FF⟩ := c.def_ 45 (d := d__law_endless) rfl
    exact FF.kp
  obtain ⟨fd__law_great, b__law_great, FO__law_great⟩ := ok__law_great (P := P) (w := w) (base := base) KX G c cx
  have g_f__law_great : mg "_law_great" = some (.ref (He.ga K "_law_great")) := He.glo_ok KX G (c.fact 72 rfl)
  have kp__law_great : PySem.W.keepIn K (.ref (He.ga K "_law_great")) = true := by
    obtain ⟨_, FF⟩ := c.def_ 46 (d := d__law_great) rfl
    exact FF.kp
  obtain ⟨its_kb_Web___init___2_modulus, kb_Web___init___2_modulus⟩ := FunD.kbindsD (ps := ["self", "size", "edges", "modulus"]) b_Web___init__ 3 ["modulus"] (fun us _ ws => us ++ ws) (by intro z; cases z) (fun r1 _ r3 => r1.append r3) (fun T kV doc pm an cdv ct us its ws l1 l2 l3 => match us, its, ws, l1, l2, l3 with | [_, _, _], [_], [_], _, _, _ => ⟨_, rfl, rfl⟩)
  refine fn_lG (k := 9) F sc_law (fun cdv A outer s H E hr hgu => ?_)
  have tk : Takes (cxOf CX0 P w K mg base ["_law_script", "_law_k", "_law_pool_here", "_law_nodes", "_law_dial", "_law_links_here", "_law_web", "_law_levels", "_law_gains_there", "_law_some", "_law_reached", "_law_row"] d_law.qual d_law.scope (He.fAd K d_law.at_) cdv A outer s H E) (WF E0) := takes0
  have hx : Passes (L2.CX P w) (cxOf CX0 P w K mg base ["_law_script", "_law_k", "_law_pool_here", "_law_nodes", "_law_dial", "_law_links_here", "_law_web", "_law_levels", "_law_gains_there", "_law_some", "_law_reached", "_law_row"] d_law.qual d_law.scope (He.fAd K d_law.at_) cdv A outer s H E) E0 := passL
  have hu64 := hr.units
  have hu := hu_of hr
  have c_Web : ∀ {Y : Cx}, Y.mg = mg → Y.K = K → ClsD Y "Web" (He.ga K "Web") := fun h1 h2 => ⟨by rw [h1]; exact gc_Web, by rw [h2]; exact cl_Web⟩
  exact dss_cons (ds_for hp_of rfl (di_range1 rfl z_range (da_cons (de_max2 rfl rfl z_max (da_cons de_int (da_cons (de_min2 rfl rfl z_min (da_cons (de_len rfl z_len (da_cons (dv 0) da_nil)) (da_cons de_int da_nil))) da_nil))) da_nil)) (gn 1 sc_law.nd) (dss_cons (st 2 sc_law.nd (de_call FO__law_pool (hr.mono (by decide)) rfl g_f__law_pool kp__law_pool b__law_pool tk (da_cons (dv 0) (da_cons (dv 1) da_nil)))) (dss_cons (ds_asg (DN.frz (dn_tup (da_cons (DN.frz (dn_add de_int (DE.fz (de_call FO__law_take (hr.mono (by decide)) rfl g_f__law_take kp__law_take b__law_take tk (da_cons (dv 2) (da_cons de_int da_nil)))))) (da_cons (DN.frz (dn_add de_int (DE.fz (de_call FO__law_take (hr.mono (by decide)) rfl g_f__law_take kp__law_take b__law_take tk (da_cons (dv 2) (da_cons de_int da_nil)))))) da_nil)))) (dg_tup rfl (dgs_cons (gn 3 sc_law.nd) (dgs_cons (gn 4 sc_law.nd) dgs_nil)))) (dss_cons (st 5 sc_law.nd (DE.fz (de_call FO__law_links (hr.mono (by decide)) rfl g_f__law_links kp__law_links b__law_links tk (da_cons (dv 2) (da_cons (dv 3) (da_cons de_int da_nil)))))) (dss_cons (st 6 sc_law.nd (DE.fz (de_makeN (c_Web rfl rfl) k_Web FO_Web___init__ (hr.mono (by decide)) rfl kb_Web___init___2_modulus (fun d l z h1 h2 => by simp [h1, h2]) (fun B as v d vs zs l z r r1 r2 => .cons r (r1.app r2)) hx (da_cons (dv 3) (da_cons (dv 5) da_nil)) (dk_cons (dv 4) dk_nil)))) (dss_cons (st 7 sc_law.nd (DE.fz (de_call FO__law_all (hr.mono (by decide)) rfl g_f__law_all kp__law_all b__law_all tk (da_cons (dv 3) (da_cons (dv 4) da_nil))))) (dss_cons (st 8 sc_law.nd (DE.fz (de_call FO__law_all (hr.mono (by decide)) rfl g_f__law_all kp__law_all b__law_all tk (da_cons (de_len rfl z_len (da_cons (dv 5) da_nil)) (da_cons (dv 4) da_nil))))) (dss_cons (st 9 sc_law.nd (de_ix (dv 8) (DE.fz (de_call FO__law_take (hr.mono (by decide)) rfl g_f__law_take kp__law_take b__law_take tk (da_cons (dv 2) (da_cons (de_len rfl z_len (da_cons (dv 8) da_nil)) da_nil)))) (fun _ _ => rfl))) (dss_cons (ds_setLc (own := [(("_law_row" : Str), 11)]) kN_frz rfl sc_law.nd (show _ from rfl) rfl (sw_true rfl rfl rfl (by decide +kernel)) (di_sq (dv 7)) (blkOk_by rfl) (fun _ _ _ _ _ => gn 11 sc_law.nd) (fun _ _ _ _ _ => dts_nil) (fun _ _ _ _ _ => DE.fz (de_call FO__law_put (hr.mono (by decide)) rfl g_f__law_put kp__law_put b__law_put takes0 (da_cons (dv 5) (da_cons (dv 4) (da_cons (dv 9) (da_cons (dv 11) da_nil)))))) (rs_mem rfl)) (dss_cons (ds_if (dt_ne hu64 (de_repr hgu hu64 rfl z_repr (da_cons (DE.fz (de_call FO_class_size (hr.mono (by decide)) rfl g_f_class_size kp_class_size b_class_size tk (da_cons (dv 6) da_nil))) da_nil)) (de_repr hgu hu64 rfl z_repr (da_cons (DE.fz (de_callG FO__law_unlike (hr.mono (by decide)) hgu rfl g_f__law_unlike kp__law_unlike b__law_unlike tk (da_cons (dv 10) da_nil))) da_nil))) (dss_one (ds_ret de_bl)) dss_nil) (dss_cons (ds_if (dt_ne hu64 (de_repr hgu hu64 rfl z_repr (da_cons (DE.fz (de_call FO_class_count (hr.mono (by decide)) rfl g_f_class_count kp_class_count b_class_count tk (da_cons (dv 6) da_nil))) da_nil)) (de_repr hgu hu64 rfl z_repr (da_cons (DE.fz (de_callG FO__law_unlike (hr.mono (by decide)) hgu rfl g_f__law_unlike kp__law_unlike b__law_unlike tk (da_cons (DN.frz (dn_lc (own := [(("_law_row" : Str), 11)]) rfl sc_law.nd (di_sq (dv 8)) (blkOk_by rfl) (fun _ _ _ _ _ => gn 11 sc_law.nd) (fun _ _ _ _ _ => dts_nil) (fun _ _ _ _ _ => DE.fz (de_call FO_normal (hr.mono (by decide)) rfl g_f_normal kp_normal b_normal takes0 (da_cons (dv 6) (da_cons (dv 11) da_nil)))) (rs_mem rfl))) da_nil))) da_nil))) (dss_one (ds_ret de_bl)) dss_nil) (dss_cons (ds_if (dt_ne hu64 (de_repr hgu hu64 rfl z_repr (da_cons (DE.fz (de_call FO_potential_count (hr.mono (by decide)) rfl g_f_potential_count kp_potential_count b_potential_count tk (da_cons (dv 6) da_nil))) da_nil)) (de_repr hgu hu64 rfl z_repr (da_cons (de_len rfl z_len (da_cons (DN.frz (dn_lc (own := [(("_law_row" : Str), 11)]) rfl sc_law.nd (di_sq (dv 10)) (blkOk_by rfl) (fun _ _ _ _ _ => gn 11 sc_law.nd) (fun _ _ _ _ _ => dts_one (dt_eq hu64 (dv 11) (dv 9))) (fun _ _ _ _ _ => dv 11) (rs_mem rfl))) da_nil)) da_nil))) (dss_one (ds_ret de_bl)) dss_nil) (dss_one (ds_if (dt_w (dw_or (dt_not (dt_truth (DE.fz (de_call FO__law_endless (hr.mono (by decide)) rfl g_f__law_endless kp__law_endless b__law_endless tk (da_cons (dv 2) da_nil))))) (dw_or1 (dt_not (dt_truth (DE.fz (de_callG FO__law_great (hr.mono (by decide)) hgu rfl g_f__law_great kp__law_great b__law_great tk (da_cons (dv 2) da_nil)))))))) (dss_one (ds_ret de_bl)) dss_nil)))))))))))))) (dss_one (ds_ret de_bl))
end Lw

set_option Elab.async false
set_option linter.all false
set_option maxRecDepth 100000
set_option maxHeartbeats 1000000
/-! TL1: typed results, frames by slots, the judgements. -/
namespace TL
open PySem L2 DL
/-- what a deterministic piece gives -/
inductive E (α : Type) where
  | ok (a : α) | exc (c : Str) (d : D) | bad
abbrev W (α : Type) := (α → Prop) → (Str → D → Prop) → Prop
def E.bind {α β : Type} (e : E α) (k : α → E β) : E β := match e with
  | .ok a => k a
  | .exc c d => .exc c d
  | .bad => .bad
def E.tr {α : Type} (e : E α) (k : Str → D → E α) : E α := match e with
  | .ok a => .ok a
  | .exc c d => k c d
  | .bad => .bad
def E.wp {α : Type} (e : E α) : W α := fun Q X => match e with
  | .ok a => Q a
  | .exc c d => X c d
  | .bad => False
class Mo (m : Type → Type) where
  pur0 : {α : Type} → α → m α
  bnd0 : {α β : Type} → m α → (α → m β) → m β
  lft0 : {α : Type} → E α → m α
  tr0 : {α : Type} → m α → (Str → D → m α) → m α
  wp0 : {α : Type} → m α → W α
  pur_wp0 : ∀ {α : Type} {a : α} {Q : α → Prop} {X : Str → D → Prop}, wp0 (pur0 a) Q X → Q a
  bnd_wp0 : ∀ {α β : Type} {x : m α} {k : α → m β} {Q : β → Prop} {X : Str → D → Prop}, wp0 (bnd0 x k) Q X → wp0 x (fun a => wp0 (k a) Q X) X
  lft_wp0 : ∀ {α : Type} {x : E α} {Q : α → Prop} {X : Str → D → Prop}, wp0 (lft0 x) Q X → x.wp Q X
  tr_wp0 : ∀ {α : Type} {x : m α} {k : Str → D → m α} {Q : α → Prop} {X : Str → D → Prop}, wp0 (tr0 x k) Q X → wp0 x Q (fun c d => wp0 (k c d) Q X)
instance : Mo E where
  pur0 := E.ok
  bnd0 := E.bind
  lft0 := id
  tr0 := E.tr
  wp0 := E.wp
  pur_wp0 h := h
  bnd_wp0 {α β x k Q X} h := by cases x <;> exact h
  lft_wp0 h := h
  tr_wp0 {α x k Q X} h := by cases x <;> exact h
instance : Mo W where
  pur0 a := fun Q _ => Q a
  bnd0 x k := fun Q X => x (fun a => k a Q X) X
  lft0 e := e.wp
  tr0 x k := fun Q X => x Q (fun c d => k c d Q X)
  wp0 x := x
  pur_wp0 h := h
  bnd_wp0 h := h
  lft_wp0 h := h
  tr_wp0 h := h
namespace Mo
@[irreducible] def pur {m : Type → Type} [Mo m] {α : Type} (a : α) : m α := Mo.pur0 a
@[irreducible] def bnd {m : Type → Type} [Mo m] {α β : Type} (x : m α) (k : α → m β) : m β := Mo.bnd0 x k
@[irreducible] def lft {m : Type → Type} [Mo m] {α : Type} (x : E α) : m α := Mo.lft0 x
@[irreducible] def tr {m : Type → Type} [Mo m] {α : Type} (x : m α) (k : Str → D → m α) : m α := Mo.tr0 x k
@[irreducible] def wp {m : Type → Type} [Mo m] {α : Type} (x : m α) : W α := Mo.wp0 x
section
variable {m : Type → Type} [Mo m] {α β : Type} {Q : β → Prop} {X : Str → D → Prop}
theorem pur_wp {a : β} (h : wp (m := m) (pur a) Q X) : Q a := by unfold wp pur at h; exact Mo.pur_wp0 h
theorem bnd_wp {x : m α} {k : α → m β} (h : wp (bnd x k) Q X) : wp x (fun a => wp (k a) Q X) X := by unfold wp bnd at h; unfold wp; exact Mo.bnd_wp0 h
theorem lft_wp {x : E β} (h : wp (m := m) (lft x) Q X) : x.wp Q X := by unfold wp lft at h; exact Mo.lft_wp0 h
theorem tr_wp {x : m β} {k : Str → D → m β} (h : wp (tr x k) Q X) : wp x Q (fun c d => wp (k c d) Q X) := by unfold wp tr at h; unfold wp; exact Mo.tr_wp0 h
end
end Mo
open Mo (pur bnd lft)
theorem bndE {α β : Type} (x : E α) (k : α → E β) : bnd x k = x.bind k := by unfold bnd; rfl
theorem purE {α : Type} (a : α) : (pur a : E α) = .ok a := by unfold pur; rfl
theorem lftE {α : Type} (x : E α) : (lft x : E α) = x := by unfold lft; rfl
theorem trE {α : Type} (x : E α) (k : Str → D → E α) : Mo.tr x k = x.tr k := by unfold Mo.tr; rfl
theorem wpE {α : Type} (x : E α) : Mo.wp x = x.wp := by unfold Mo.wp; rfl
theorem lft_wpE {m : Type → Type} [Mo m] {β : Type} {Q : β → Prop} {X : Str → D → Prop} {x : E β} (h : Mo.wp (m := m) (lft x) Q X) : Mo.wp x Q X := by rw [wpE]; exact Mo.lft_wp h
theorem bndW {α β : Type} (x : W α) (k : α → W β) : bnd x k = fun Q X => x (fun a => k a Q X) X := by unfold bnd; rfl
theorem purW {α : Type} (a : α) : (pur a : W α) = fun Q _ => Q a := by unfold pur; rfl
theorem lftW {α : Type} (x : E α) : (lft x : W α) = x.wp := by unfold lft; rfl
theorem trW {α : Type} (x : W α) (k : Str → D → W α) : Mo.tr x k = fun Q X => x Q (fun c d => k c d Q X) := by unfold Mo.tr; rfl
theorem wpW {α : Type} (x : W α) : Mo.wp x = x := by unfold Mo.wp; rfl

/-- data of a type, as a tree without cells -/
class Enc (α : Type) where
  enc : α → D
  nr : ∀ (a : α) (n : Nat), rlt n (enc a) = true
open Enc (enc)
instance : Enc Int := ⟨D.int, fun _ _ => rfl⟩
instance : Enc Bool := ⟨D.bl, fun _ _ => rfl⟩
instance : Enc Str := ⟨D.str, fun _ _ => rfl⟩
instance : Enc Unit := ⟨fun _ => D.non, fun _ _ => rfl⟩
theorem nrs {α : Type} [Enc α] (n : Nat) : ∀ xs : List α, rlts n (xs.map enc) = true
  | [] => rfl
  | x :: xs => by simp [rlts, Enc.nr x n, nrs n xs]
instance {α : Type} [Enc α] : Enc (List α) := ⟨fun xs => .nd .lst (xs.map enc), fun xs n => by simp [rlt, nrs]⟩
instance {α β : Type} [Enc α] [Enc β] : Enc (α × β) := ⟨fun x => .nd .tup [enc x.1, enc x.2], fun x n => by simp [rlt, rlts, Enc.nr]⟩
structure T1 (α : Type) where
  a : α
  deriving DecidableEq
structure T3 (α β γ : Type) where
  a : α
  b : β
  c : γ
  deriving DecidableEq
structure T0 where
  deriving DecidableEq
instance : Enc T0 := ⟨fun _ => .nd .tup [], fun x n => by simp [rlt, rlts]⟩
instance {α : Type} [Enc α] : Enc (T1 α) := ⟨fun x => .nd .tup [enc x.a], fun x n => by simp [rlt, rlts, Enc.nr]⟩
instance {α β γ : Type} [Enc α] [Enc β] [Enc γ] : Enc (T3 α β γ) := ⟨fun x => .nd .tup [enc x.a, enc x.b, enc x.c], fun x n => by simp [rlt, rlts, Enc.nr]⟩
instance {α : Type} [Enc α] : Enc (Option α) := ⟨fun x => match x with | some a => enc a | none => .non, fun x n => by cases x <;> simp [rlt, Enc.nr]⟩
instance {α β : Type} [Enc α] [Enc β] : Enc (α ⊕ β) := ⟨fun x => match x with | .inl a => enc a | .inr b => enc b, fun x n => by cases x <;> simp [Enc.nr]⟩
/-- the pool's contents -/
def Pl (c : List D) : Prop := ∃ a b : Int, c = [.int a, .int b] ∧ 0 ≤ b ∧ b < 2147483648
def PoolAt (M : Store) (p : Nat) : Prop := ∃ c, M[p]? = some (.lst, c) ∧ Pl c
theorem PoolAt.lt {M : Store} {p : Nat} (h : PoolAt M p) : p < M.length := by
  obtain ⟨c, h, _⟩ := h
  exact (List.getElem?_eq_some_iff.mp h).1
theorem PoolAt.same {M M' : Store} {p : Nat} (h : PoolAt M p) (e : M'[p]? = M[p]?) : PoolAt M' p := by
  obtain ⟨c, h, q⟩ := h
  exact ⟨c, by rw [e]; exact h, q⟩
/-- a slot of the frame: anything, a value, an own cell, an own pool, the caller's pool -/
inductive SV where
  | any | val (d : D) | lc (t : Tg) (l : List D) | lpl | par (n : Nat) | pin (n : Nat) (t : Tg) (l : List D) | ro (n : Nat) (t : Tg) (l : List D) | tc (w : Str) (l q : List D)
def SV.cell : SV → Bool
  | .lc _ _ => true
  | .lpl => true
  | .par _ => true
  | .pin _ _ _ => true
  | .tc _ _ _ => true
  | _ => false
abbrev SV.v {α : Type} [Enc α] (a : α) : SV := .val (enc a)
abbrev SV.L {α : Type} [Enc α] (xs : List α) : SV := .lc .lst (xs.map enc)
/-- what a piece may change: pools alone -/
structure Chg (M M' : Store) : Prop where
  le : M.length ≤ M'.length
  same : ∀ k, k < M.length → M'[k]? = M[k]? ∨ PoolAt M' k
theorem Chg.refl (M : Store) : Chg M M := ⟨Nat.le_refl _, fun _ _ => .inl rfl⟩
theorem Chg.trans {M M1 M2 : Store} (h : Chg M M1) (k : Chg M1 M2) : Chg M M2 := ⟨Nat.le_trans h.le k.le, fun i hi => by
  rcases k.same i (Nat.lt_of_lt_of_le hi h.le) with e | e
  · rcases h.same i hi with e' | e'
    · exact .inl (e.trans e')
    · exact .inr (e'.same e)
  · exact .inr e⟩
theorem Chg.none (M : Store) : Chg [] M := ⟨by simp, fun k h => by simp at h⟩
/-- the caller's pools; a store to compare with -/
structure PX where
  pl : List Nat
  mr : Store
def SlotOk (pp : PX) (M0 : Store) (ns : Nat → Nat) (S : Lo) (M : Store) (i : Nat) : SV → Prop
  | .any => True
  | .val d => S[i]? = some (some d)
  | .lc t l => S[i]? = some (some (.ref (ns i))) ∧ M0.length ≤ ns i ∧ M[ns i]? = some (t, l)
  | .lpl => S[i]? = some (some (.ref (ns i))) ∧ M0.length ≤ ns i ∧ PoolAt M (ns i)
  | .par n => S[i]? = some (some (.ref n)) ∧ n ∈ pp.pl ∧ ns i = n
  | .pin n t l => S[i]? = some (some (.ref n)) ∧ ns i = n ∧ M0.length ≤ n ∧ M[n]? = some (t, l)
  | .ro n t l => S[i]? = some (some (.ref n)) ∧ n ∉ pp.pl ∧ M0[n]? = some (t, l)
  | .tc w l q => S[i]? = some (some (.nd .tup (.str w :: .ref (ns i) :: q))) ∧ M0.length ≤ ns i ∧ M[ns i]? = some (.lst, l)
structure Rel (pp : PX) (M0 : Store) (fs : List SV) (S : Lo) (M : Store) (ns : Nat → Nat) : Prop where
  len : S.length = fs.length
  le : M0.length ≤ M.length
  fr : ∀ k, k < M0.length → k ∉ pp.pl → M[k]? = M0[k]?
  pl : ∀ n ∈ pp.pl, n < M0.length ∧ PoolAt M n
  cg : Chg pp.mr M
  sl : ∀ i v, fs[i]? = some v → SlotOk pp M0 ns S M i v
  dj : ∀ i j u v, i ≠ j → fs[i]? = some u → fs[j]? = some v → u.cell = true → v.cell = true → ns i ≠ ns j
/-- the store but for pools -/
structure Fram (pp : List Nat) (M M' : Store) : Prop where
  le : M.length ≤ M'.length
  fr : ∀ k, k < M.length → k ∉ pp → M'[k]? = M[k]?
  pl : ∀ n ∈ pp, PoolAt M' n
section
variable {pp : PX} {M0 M M' : Store} {fs fs' : List SV} {S : Lo} {ns : Nat → Nat} {i j n : Nat} {t : Tg} {l : List D} {d : D}
theorem SlotOk.lt {v : SV} (r : Rel pp M0 fs S M ns) (h : SlotOk pp M0 ns S M i v) (hc : v.cell = true) : ns i < M.length := by
  cases v with
  | any => cases hc
  | val d => cases hc
  | lc t l => exact (List.getElem?_eq_some_iff.mp h.2.2).1
  | lpl => exact h.2.2.lt
  | par n => rw [h.2.2]; exact (r.pl n h.2.1).2.lt
  | pin n t l => rw [h.2.1]; exact (List.getElem?_eq_some_iff.mp h.2.2.2).1
  | ro n t l => cases hc
  | tc w l q => exact (List.getElem?_eq_some_iff.mp h.2.2).1
theorem Rel.grd_ {c : Tg × List D} (r : Rel pp M0 fs S M ns) (hn : n ∉ pp.pl) (hc : M0[n]? = some c) : M[n]? = some c := by rw [r.fr n (List.getElem?_eq_some_iff.mp hc).1 hn]; exact hc
theorem Rel.fram (r : Rel pp M0 fs S M ns) : Fram pp.pl M0 M := ⟨r.le, r.fr, fun n h => (r.pl n h).2⟩
/-- the store has changed, no cell of the frame has, but for pools -/
theorem Rel.store (r : Rel pp M0 fs S M ns) (hl : M.length ≤ M'.length) (hk : ∀ k, k < M.length → M'[k]? = M[k]?) : Rel pp M0 fs S M' ns := by
  refine ⟨r.len, Nat.le_trans r.le hl, fun k h1 h2 => by rw [hk k (Nat.lt_of_lt_of_le h1 r.le), r.fr k h1 h2], fun n hn => ?_, r.cg.trans ⟨hl, fun k h => .inl (hk k h)⟩, fun i v h => ?_, r.dj⟩
  · have := r.pl n hn
    exact ⟨this.1, this.2.same (hk n this.2.lt)⟩
  · have s := r.sl i v h
    cases v with
    | any => trivial
    | val d => exact s
    | lc t l => exact ⟨s.1, s.2.1, by rw [hk _ (s.lt r rfl)]; exact s.2.2⟩
    | lpl => exact ⟨s.1, s.2.1, s.2.2.same (hk _ (s.lt r rfl))⟩
    | par n => exact s
    | pin n t l => exact ⟨s.1, s.2.1, s.2.2.1, by rw [hk _ (by have := s.lt r rfl; rw [s.2.1] at this; exact this)]; exact s.2.2.2⟩
    | ro n t l => exact s
    | tc w l q => exact ⟨s.1, s.2.1, by rw [hk _ (s.lt r rfl)]; exact s.2.2⟩
theorem Rel.storeP (r : Rel pp M0 fs S M ns) {v : SV} (hv : fs[i]? = some v) (hp : v = .lpl ∨ ∃ n, v = .par n) (hl : M.length ≤ M'.length) (hk : ∀ k, k < M.length → k ≠ ns i → M'[k]? = M[k]?) (hq : PoolAt M' (ns i)) : Rel pp M0 fs S M' ns := by
  have sv := r.sl i v hv
  have hcv : v.cell = true := by rcases hp with rfl | ⟨n, rfl⟩ <;> rfl
  have ne : ∀ k, k < M0.length → k ∉ pp.pl → k ≠ ns i := fun k h1 h2 e => by
    rcases hp with rfl | ⟨n, rfl⟩
    · have := sv.2.1; omega
    · exact h2 (by rw [e, sv.2.2]; exact sv.2.1)
  refine ⟨r.len, Nat.le_trans r.le hl, fun k h1 h2 => by rw [hk k (Nat.lt_of_lt_of_le h1 r.le) (ne k h1 h2), r.fr k h1 h2], fun n hn => ?_, r.cg.trans ⟨hl, fun k h => ?_⟩, fun j u h => ?_, r.dj⟩
  · have := r.pl n hn
    by_cases e : n = ns i
    · exact ⟨this.1, by rw [e]; exact hq⟩
    · exact ⟨this.1, this.2.same (hk n this.2.lt e)⟩
  · by_cases e : k = ns i
    · exact .inr (by rw [e]; exact hq)
    · exact .inl (hk k h e)
  · have s := r.sl j u h
    by_cases e : j = i
    · subst e
      have := h.symm.trans hv
      cases this
      rcases hp with rfl | ⟨n, rfl⟩
      · exact ⟨s.1, s.2.1, hq⟩
      · exact s
    · have nj : u.cell = true → ns j ≠ ns i := fun hc => r.dj j i u v e h hv hc hcv
      cases u with
      | any => trivial
      | val d => exact s
      | lc t l => exact ⟨s.1, s.2.1, by rw [hk _ (s.lt r rfl) (nj rfl)]; exact s.2.2⟩
      | lpl => exact ⟨s.1, s.2.1, s.2.2.same (hk _ (s.lt r rfl) (nj rfl))⟩
      | par n => exact s
      | pin n t l => exact ⟨s.1, s.2.1, s.2.2.1, by rw [hk _ (by have := s.lt r rfl; rw [s.2.1] at this; exact this) (by have := nj rfl; rw [s.2.1] at this; exact this)]; exact s.2.2.2⟩
      | ro n t l => exact s
      | tc w l q => exact ⟨s.1, s.2.1, by rw [hk _ (s.lt r rfl) (nj rfl)]; exact s.2.2⟩
theorem get_set {α : Type} {l : List α} {i j : Nat} {a b : α} (h : (l.set i a)[j]? = some b) : (i = j ∧ a = b ∧ i < l.length) ∨ (i ≠ j ∧ l[j]? = some b) := by
  by_cases e : i = j
  · subst e
    have hl : i < l.length := by
      have := (List.getElem?_eq_some_iff.mp h).1
      simpa using this
    rw [List.getElem?_set_self hl] at h
    cases h
    exact .inl ⟨rfl, rfl, hl⟩
  · rw [List.getElem?_set_ne e] at h
    exact .inr ⟨e, h⟩
/-- a slot is set to a value -/
theorem Rel.setV (r : Rel pp M0 fs S M ns) : Rel pp M0 (fs.set i (.val d)) (S.set i (some d)) M ns := by
  refine ⟨by simp [r.len], r.le, r.fr, r.pl, r.cg, fun j v h => ?_, fun j k u v hn hu hv cu cv => ?_⟩
  · rcases get_set h with ⟨rfl, rfl, hl⟩ | ⟨hn, h⟩
    · exact List.getElem?_set_self (by rw [r.len]; exact hl)
    · have s := r.sl j v h
      have e : (S.set i (some d))[j]? = S[j]? := List.getElem?_set_ne hn
      cases v <;> first | trivial | (unfold SlotOk at s ⊢; rw [e]; exact s)
  · rcases get_set hu with ⟨_, rfl, _⟩ | ⟨_, hu⟩
    · cases cu
    · rcases get_set hv with ⟨_, rfl, _⟩ | ⟨_, hv⟩
      · cases cv
      · exact r.dj j k u v hn hu hv cu cv
/-- a slot gets a new cell -/
theorem Rel.setC (r : Rel pp M0 fs S M ns) (hn : M.length ≤ n) (hc : M'[n]? = some (t, l)) (hl : M.length ≤ M'.length) (hk : ∀ k, k < M.length → M'[k]? = M[k]?) :
    Rel pp M0 (fs.set i (.lc t l)) (S.set i (some (.ref n))) M' (fun j => if j = i then n else ns j) := by
  have r' := r.store hl hk
  refine ⟨by simp [r.len], r'.le, r'.fr, r'.pl, r'.cg, fun j v h => ?_, fun j k u v hn hu hv cu cv => ?_⟩
  · rcases get_set h with ⟨rfl, rfl, hl⟩ | ⟨hne, h⟩
    · exact ⟨by dsimp only; rw [if_pos rfl]; exact List.getElem?_set_self (by rw [r.len]; exact hl), by dsimp only; rw [if_pos rfl]; exact Nat.le_trans r.le hn, by dsimp only; rw [if_pos rfl]; exact hc⟩
    · have s := r'.sl j v h
      have e : (S.set i (some (.ref n)))[j]? = S[j]? := List.getElem?_set_ne hne
      have e2 : ¬ (j = i) := fun z => hne z.symm
      cases v <;> first | trivial | (unfold SlotOk at s ⊢; simp only [e, if_neg e2]; exact s)
  · have lt : ∀ a w, fs[a]? = some w → w.cell = true → ns a < M.length := fun a w h c => (r.sl a w h).lt r c
    rcases get_set hu with ⟨ei, rfl, _⟩ | ⟨ne1, hu⟩
    · rcases get_set hv with ⟨ej, rfl, _⟩ | ⟨ne2, hv⟩
      · omega
      · have := lt k v hv cv
        simp only [if_pos ei.symm, if_neg (Ne.symm ne2)]
        omega
    · rcases get_set hv with ⟨ej, rfl, _⟩ | ⟨ne2, hv⟩
      · have := lt j u hu cu
        simp only [if_pos ej.symm, if_neg (Ne.symm ne1)]
        omega
      · simp only [if_neg (Ne.symm ne1), if_neg (Ne.symm ne2)]
        exact r.dj j k u v hn hu hv cu cv
/-- a slot gets a new pool -/
theorem Rel.setP (r : Rel pp M0 fs S M ns) (hn : M.length ≤ n) (hc : PoolAt M' n) (hl : M.length ≤ M'.length) (hk : ∀ k, k < M.length → M'[k]? = M[k]?) :
    Rel pp M0 (fs.set i .lpl) (S.set i (some (.ref n))) M' (fun j => if j = i then n else ns j) := by
  have r' := r.store hl hk
  refine ⟨by simp [r.len], r'.le, r'.fr, r'.pl, r'.cg, fun j v h => ?_, fun j k u v hn hu hv cu cv => ?_⟩
  · rcases get_set h with ⟨rfl, rfl, hl⟩ | ⟨hne, h⟩
    · exact ⟨by dsimp only; rw [if_pos rfl]; exact List.getElem?_set_self (by rw [r.len]; exact hl), by dsimp only; rw [if_pos rfl]; exact Nat.le_trans r.le hn, by dsimp only; rw [if_pos rfl]; exact hc⟩
    · have s := r'.sl j v h
      have e : (S.set i (some (.ref n)))[j]? = S[j]? := List.getElem?_set_ne hne
      have e2 : ¬ (j = i) := fun z => hne z.symm
      cases v <;> first | trivial | (unfold SlotOk at s ⊢; simp only [e, if_neg e2]; exact s)
  · have lt : ∀ a w, fs[a]? = some w → w.cell = true → ns a < M.length := fun a w h c => (r.sl a w h).lt r c
    rcases get_set hu with ⟨ei, rfl, _⟩ | ⟨ne1, hu⟩
    · rcases get_set hv with ⟨ej, rfl, _⟩ | ⟨ne2, hv⟩
      · omega
      · have := lt k v hv cv
        simp only [if_pos ei.symm, if_neg (Ne.symm ne2)]
        omega
    · rcases get_set hv with ⟨ej, rfl, _⟩ | ⟨ne2, hv⟩
      · have := lt j u hu cu
        simp only [if_pos ej.symm, if_neg (Ne.symm ne1)]
        omega
      · simp only [if_neg (Ne.symm ne1), if_neg (Ne.symm ne2)]
        exact r.dj j k u v hn hu hv cu cv
/-- an own cell is written -/
theorem Rel.wr {t' : Tg} {l' : List D} (r : Rel pp M0 fs S M ns) (hm : pp.mr = []) (h : fs[i]? = some (.lc t l)) : Rel pp M0 (fs.set i (.lc t' l')) S (M.set (ns i) (t', l')) ns := by
  have s := r.sl i _ h
  have hi := (List.getElem?_eq_some_iff.mp h).1
  refine ⟨by simp [r.len], by simpa using r.le, fun k h1 h2 => ?_, fun n hn => ?_, by rw [hm]; exact Chg.none _, fun j v hj => ?_, fun j k u v hn hu hv cu cv => ?_⟩
  · rw [List.getElem?_set_ne (by have := s.2.1; omega)]; exact r.fr k h1 h2
  · have q := r.pl n hn
    exact ⟨q.1, q.2.same (List.getElem?_set_ne (by have := s.2.1; have := q.1; omega))⟩
  · rcases get_set hj with ⟨rfl, rfl, hl⟩ | ⟨hne, hj⟩
    · exact ⟨s.1, s.2.1, List.getElem?_set_self (s.lt r rfl)⟩
    · have sj := r.sl j v hj
      have nj : v.cell = true → (M.set (ns i) (t', l'))[ns j]? = M[ns j]? := fun hc => List.getElem?_set_ne (r.dj i j _ v hne h hj rfl hc)
      cases v with
      | any => trivial
      | val d => exact sj
      | lc t l => exact ⟨sj.1, sj.2.1, by rw [nj rfl]; exact sj.2.2⟩
      | lpl => exact ⟨sj.1, sj.2.1, sj.2.2.same (nj rfl)⟩
      | par n => exact sj
      | pin n t l => exact ⟨sj.1, sj.2.1, sj.2.2.1, by have := nj rfl; rw [sj.2.1] at this; rw [this]; exact sj.2.2.2⟩
      | ro n t l => exact sj
      | tc w l q => exact ⟨sj.1, sj.2.1, by rw [nj rfl]; exact sj.2.2⟩
  · rcases get_set hu with ⟨ei, rfl, _⟩ | ⟨ne1, hu⟩
    · subst ei
      rcases get_set hv with ⟨ej, rfl, _⟩ | ⟨ne2, hv⟩
      · omega
      · exact r.dj i k _ v hn h hv rfl cv
    · rcases get_set hv with ⟨ej, rfl, _⟩ | ⟨ne2, hv⟩
      · subst ej
        exact r.dj j i u _ hn hu h cu rfl
      · exact r.dj j k u v hn hu hv cu cv
/-- a pinned cell is written -/
theorem Rel.wrP {t' : Tg} {l' : List D} (r : Rel pp M0 fs S M ns) (hm : pp.mr = []) (h : fs[i]? = some (.pin n t l)) : Rel pp M0 (fs.set i (.pin n t' l')) S (M.set n (t', l')) ns := by
  have s := r.sl i _ h
  have hlt : n < M.length := (List.getElem?_eq_some_iff.mp s.2.2.2).1
  refine ⟨by simp [r.len], by simpa using r.le, fun k h1 h2 => ?_, fun c hn => ?_, by rw [hm]; exact Chg.none _, fun j v hj => ?_, fun j k u v hn hu hv cu cv => ?_⟩
  · rw [List.getElem?_set_ne (by have := s.2.2.1; omega)]; exact r.fr k h1 h2
  · have q := r.pl c hn
    exact ⟨q.1, q.2.same (List.getElem?_set_ne (by have := s.2.2.1; have := q.1; omega))⟩
  · rcases get_set hj with ⟨rfl, rfl, hl⟩ | ⟨hne, hj⟩
    · exact ⟨s.1, s.2.1, s.2.2.1, List.getElem?_set_self hlt⟩
    · have sj := r.sl j v hj
      have nj : v.cell = true → (M.set n (t', l'))[ns j]? = M[ns j]? := fun hc => List.getElem?_set_ne (by have := r.dj i j _ v hne h hj rfl hc; rw [s.2.1] at this; exact this)
      cases v with
      | any => trivial
      | val d => exact sj
      | lc t l => exact ⟨sj.1, sj.2.1, by rw [nj rfl]; exact sj.2.2⟩
      | lpl => exact ⟨sj.1, sj.2.1, sj.2.2.same (nj rfl)⟩
      | par n => exact sj
      | pin c t l => exact ⟨sj.1, sj.2.1, sj.2.2.1, by have := nj rfl; rw [sj.2.1] at this; rw [this]; exact sj.2.2.2⟩
      | ro n t l => exact sj
      | tc w l q => exact ⟨sj.1, sj.2.1, by rw [nj rfl]; exact sj.2.2⟩
  · rcases get_set hu with ⟨ei, rfl, _⟩ | ⟨ne1, hu⟩
    · subst ei
      rcases get_set hv with ⟨ej, rfl, _⟩ | ⟨ne2, hv⟩
      · omega
      · exact r.dj i k _ v hn h hv rfl cv
    · rcases get_set hv with ⟨ej, rfl, _⟩ | ⟨ne2, hv⟩
      · subst ej
        exact r.dj j i u _ hn hu h cu rfl
      · exact r.dj j k u v hn hu hv cu cv
/-- a cell is pinned, and let go -/
theorem Rel.pin (r : Rel pp M0 fs S M ns) (h : fs[i]? = some (.lc t l)) : Rel pp M0 (fs.set i (.pin (ns i) t l)) S M ns := by
  have s := r.sl i _ h
  refine ⟨by simp [r.len], r.le, r.fr, r.pl, r.cg, fun j v hj => ?_, fun j k u v hn hu hv cu cv => ?_⟩
  · rcases get_set hj with ⟨rfl, rfl, hl⟩ | ⟨hne, hj⟩
    · exact ⟨s.1, rfl, s.2.1, s.2.2⟩
    · exact r.sl j v hj
  · rcases get_set hu with ⟨ei, rfl, _⟩ | ⟨ne1, hu⟩
    · subst ei
      rcases get_set hv with ⟨ej, rfl, _⟩ | ⟨ne2, hv⟩
      · omega
      · exact r.dj i k _ v hn h hv rfl cv
    · rcases get_set hv with ⟨ej, rfl, _⟩ | ⟨ne2, hv⟩
      · subst ej
        exact r.dj j i u _ hn hu h cu rfl
      · exact r.dj j k u v hn hu hv cu cv
theorem Rel.unpin (r : Rel pp M0 fs S M ns) (h : fs[i]? = some (.pin n t l)) : Rel pp M0 (fs.set i (.lc t l)) S M ns := by
  have s := r.sl i _ h
  refine ⟨by simp [r.len], r.le, r.fr, r.pl, r.cg, fun j v hj => ?_, fun j k u v hn hu hv cu cv => ?_⟩
  · rcases get_set hj with ⟨rfl, rfl, hl⟩ | ⟨hne, hj⟩
    · exact ⟨by rw [s.2.1]; exact s.1, by rw [s.2.1]; exact s.2.2.1, by rw [s.2.1]; exact s.2.2.2⟩
    · exact r.sl j v hj
  · rcases get_set hu with ⟨ei, rfl, _⟩ | ⟨ne1, hu⟩
    · subst ei
      rcases get_set hv with ⟨ej, rfl, _⟩ | ⟨ne2, hv⟩
      · omega
      · exact r.dj i k _ v hn h hv rfl cv
    · rcases get_set hv with ⟨ej, rfl, _⟩ | ⟨ne2, hv⟩
      · subst ej
        exact r.dj j i u _ hn hu h cu rfl
      · exact r.dj j k u v hn hu hv cu cv
/-- less is known -/
def Wk : List SV → List SV → Prop
  | [], [] => True
  | a :: as, b :: bs => (b = .any ∨ b = a) ∧ Wk as bs
  | _, _ => False
theorem Wk.len : ∀ {fs fs' : List SV}, Wk fs fs' → fs'.length = fs.length
  | [], [], _ => rfl
  | _ :: _, _ :: _, h => by simp [Wk.len h.2]
theorem Wk.get : ∀ {fs fs' : List SV} {i : Nat} {v : SV}, Wk fs fs' → fs'[i]? = some v → v = .any ∨ fs[i]? = some v
  | [], [], _, _, _, h => by simp at h
  | a :: as, b :: bs, 0, v, w, h => by
    simp at h; subst h
    rcases w.1 with e | e
    · exact .inl e
    · exact .inr (by simp [e])
  | a :: as, b :: bs, i + 1, v, w, h => by
    rcases Wk.get (i := i) w.2 (by simpa using h) with e | e
    · exact .inl e
    · exact .inr (by simpa using e)
theorem Rel.wk (r : Rel pp M0 fs S M ns) (w : Wk fs fs') : Rel pp M0 fs' S M ns := by
  refine ⟨by rw [w.len, r.len], r.le, r.fr, r.pl, r.cg, fun i v h => ?_, fun i j u v hn hu hv cu cv => ?_⟩
  · rcases w.get h with rfl | h
    · trivial
    · exact r.sl i v h
  · rcases w.get hu with rfl | hu
    · cases cu
    · rcases w.get hv with rfl | hv
      · cases cv
      · exact r.dj i j u v hn hu hv cu cv
theorem Wk.refl : ∀ fs : List SV, Wk fs fs
  | [] => trivial
  | _ :: fs => ⟨.inr rfl, Wk.refl fs⟩
/-- a cell moves from one slot to another -/
theorem Rel.mv (r : Rel pp M0 fs S M ns) (h : fs[j]? = some (.lc t l)) (hij : i ≠ j) : Rel pp M0 ((fs.set j .any).set i (.lc t l)) (S.set i (some (.ref (ns j)))) M (fun k => if k = i then ns j else ns k) := by
  have s := r.sl j _ h
  refine ⟨by simp [r.len], r.le, r.fr, r.pl, r.cg, fun k v hk => ?_, fun a b u v hn hu hv cu cv => ?_⟩
  · rcases get_set hk with ⟨rfl, rfl, hl⟩ | ⟨hne, hk⟩
    · exact ⟨by dsimp only; rw [if_pos rfl]; exact List.getElem?_set_self (by rw [r.len]; simpa using hl), by dsimp only; rw [if_pos rfl]; exact s.2.1, by dsimp only; rw [if_pos rfl]; exact s.2.2⟩
    · rcases get_set hk with ⟨rfl, rfl, hl⟩ | ⟨hne2, hk⟩
      · trivial
      · have sk := r.sl k v hk
        have e : (S.set i (some (.ref (ns j))))[k]? = S[k]? := List.getElem?_set_ne hne
        have e2 : ¬ (k = i) := fun z => hne z.symm
        cases v <;> first | trivial | (unfold SlotOk at sk ⊢; simp only [e, if_neg e2]; exact sk)
  · have nx : ∀ c w, c ≠ i → ((fs.set j .any).set i (.lc t l))[c]? = some w → w.cell = true → c ≠ j ∧ fs[c]? = some w := fun c w hc hw cw => by
      rw [List.getElem?_set_ne (Ne.symm hc)] at hw
      rcases get_set hw with ⟨_, rfl, _⟩ | ⟨z, hw⟩
      · cases cw
      · exact ⟨Ne.symm z, hw⟩
    by_cases ea : a = i
    · subst ea
      have hb : b ≠ a := Ne.symm hn
      obtain ⟨h1, h2⟩ := nx b v hb hv cv
      simp only [if_pos rfl, if_neg hb]
      exact r.dj j b _ v (Ne.symm h1) h h2 rfl cv
    · obtain ⟨h1, h2⟩ := nx a u ea hu cu
      by_cases eb : b = i
      · subst eb
        simp only [if_neg ea, if_pos rfl]
        exact r.dj a j u _ h1 h2 h cu rfl
      · obtain ⟨h3, h4⟩ := nx b v eb hv cv
        simp only [if_neg ea, if_neg eb]
        exact r.dj a b u v hn h2 h4 cu cv
end
/-- an outcome, what holds of it -/
def Sim {A : Type} (o : Out A) (k : A → Store → Prop) (x : Str → D → Store → Prop) : Prop := match o with
  | .ok a M => k a M
  | .exc c d M => x c d M
  | .stuck => False
theorem Sim.bnd {A B : Type} {m : Ev A} {f : A → Ev B} {M : Store} {k : B → Store → Prop} {x : Str → D → Store → Prop} (h : Sim (m M) (fun a M' => Sim (f a M') k x) x) : Sim ((m.bnd f) M) k x := by
  unfold Ev.bnd
  cases e : m M with
  | ok a M' => rw [e] at h; exact h
  | exc c d M' => rw [e] at h; exact h
  | stuck => rw [e] at h; exact h
theorem Sim.ok {A : Type} {o : Out A} {k : A → Store → Prop} {x : Str → D → Store → Prop} {a : A} {M : Store} (e : o = .ok a M) (h : k a M) : Sim o k x := by rw [e]; exact h
theorem Sim.imp {A : Type} {o : Out A} {k k' : A → Store → Prop} {x x' : Str → D → Store → Prop} (h : Sim o k x) (hk : ∀ a M, k a M → k' a M) (hx : ∀ c d M, x c d M → x' c d M) : Sim o k' x' := by
  cases o with
  | ok a M => exact hk a M h
  | exc c d M => exact hx c d M h
  | stuck => exact h
/-! ### judgements -/
section
variable {m : Type → Type} [Mo m]
/-- a pure expression -/
def EP {α : Type} [Enc α] (fs : List SV) (e : Lo → Ev D) (v : α) : Prop := ∀ pp M0 S M ns, Rel pp M0 fs S M ns → e S M = .ok (enc v) M
/-- a pure test -/
def TP (fs : List SV) (e : Lo → Ev Bool) (v : Bool) : Prop := ∀ pp M0 S M ns, Rel pp M0 fs S M ns → e S M = .ok v M
/-- a view of a sequence or other node -/
def EV (fs : List SV) (e : Lo → Ev D) (t : Tg) (l : List D) : Prop := ∀ pp M0 S M ns, Rel pp M0 fs S M ns → ∃ d, e S M = .ok d M ∧ vw d M = .ok (t, l) M
/-- an expression -/
def EO {α : Type} [Enc α] (fs : List SV) (e : Lo → Ev D) (p : m α) : Prop := ∀ pp M0 S M ns, Rel pp M0 fs S M ns → ∀ Q X, Mo.wp p Q X →
  Sim (e S M) (fun d M' => ∃ v, d = enc v ∧ Q v ∧ Rel pp M0 fs S M' ns) (fun c d M' => X c d ∧ Rel pp M0 fs S M' ns)
def TO (fs : List SV) (e : Lo → Ev Bool) (p : m Bool) : Prop := ∀ pp M0 S M ns, Rel pp M0 fs S M ns → ∀ Q X, Mo.wp p Q X →
  Sim (e S M) (fun d M' => Q d ∧ Rel pp M0 fs S M' ns) (fun c d M' => X c d ∧ Rel pp M0 fs S M' ns)
/-- arguments -/
class EncL (τ : Type) where
  encL : τ → List D
open EncL (encL)
instance : EncL Unit := ⟨fun _ => []⟩
instance {α τ : Type} [Enc α] [EncL τ] : EncL (α × τ) := ⟨fun x => enc x.1 :: encL x.2⟩
def AP {τ : Type} [EncL τ] (fs : List SV) (e : Lo → Ev (List D)) (v : τ) : Prop := ∀ pp M0 S M ns, Rel pp M0 fs S M ns → e S M = .ok (encL v) M
def AO {τ : Type} [EncL τ] (fs : List SV) (e : Lo → Ev (List D)) (p : m τ) : Prop := ∀ pp M0 S M ns, Rel pp M0 fs S M ns → ∀ Q X, Mo.wp p Q X →
  Sim (e S M) (fun d M' => ∃ v, d = encL v ∧ Q v ∧ Rel pp M0 fs S M' ns) (fun c d M' => X c d ∧ Rel pp M0 fs S M' ns)
/-- a new node -/
def NP (fs : List SV) (e : Lo → Ev NR) (t : Tg) (l : List D) : Prop := ∀ pp M0 S M ns, Rel pp M0 fs S M ns → e S M = .ok (.n t l) M
def NO {α : Type} (fs : List SV) (e : Lo → Ev NR) (p : m α) (t : α → Tg) (l : α → List D) : Prop := ∀ pp M0 S M ns, Rel pp M0 fs S M ns → ∀ Q X, Mo.wp p Q X →
  Sim (e S M) (fun d M' => ∃ v, d = .n (t v) (l v) ∧ Q v ∧ Rel pp M0 fs S M' ns) (fun c d M' => X c d ∧ Rel pp M0 fs S M' ns)
/-- what must stand while a list is walked: it is the caller's -/
def GdOk (pp : PX) (M0 : Store) (g : Gd) : Prop := g = none ∨ ∃ n c, g = some (n, c) ∧ n ∉ pp.pl ∧ M0[n]? = some c
theorem GdOk.grd {pp : PX} {M0 : Store} {g : Gd} (h : GdOk pp M0 g) {fs : List SV} {S : Lo} {M : Store} {ns : Nat → Nat} (r : Rel pp M0 fs S M ns) : DL.grd g M := by
  rcases h with rfl | ⟨n, c, rfl, h1, h2⟩
  · trivial
  · exact r.grd_ h1 h2
/-- what is walked -/
def IP {α : Type} [Enc α] (fs : List SV) (e : Lo → Ev (List D × Gd)) (xs : List α) : Prop := ∀ pp M0 S M ns, Rel pp M0 fs S M ns → e S M = .ok (xs.map enc, none) M
def IO {α : Type} [Enc α] (fs : List SV) (e : Lo → Ev (List D × Gd)) (p : m (List α)) : Prop := ∀ pp M0 S M ns, Rel pp M0 fs S M ns → ∀ Q X, Mo.wp p Q X →
  Sim (e S M) (fun d M' => ∃ (v : List α) (g : Gd), d = (v.map enc, g) ∧ GdOk pp M0 g ∧ Q v ∧ Rel pp M0 fs S M' ns) (fun c d M' => X c d ∧ Rel pp M0 fs S M' ns)
/-- a block: ends as K says -/
def Blk {φ : Type} (pp : List Nat) (M0 : Store) (fs : List SV) (g : Lo → Ev Fl) (p : m φ) (K : φ → Fl → Store → Prop) : Prop := ∀ S M ns, Rel ⟨pp, []⟩ M0 fs S M ns → ∀ Q X, Mo.wp p Q X →
  Sim (g S M) (fun fl M' => match fl with
    | .xc c d _ => X c d ∧ Fram pp M0 M'
    | fl => ∃ f, Q f ∧ K f fl M') (fun _ _ _ => False)
/-- a returned value -/
def Res {ρ : Type} [Enc ρ] (cc : Bool) (pp : List Nat) (M0 : Store) (r : ρ) (d : D) (M' : Store) : Prop :=
  Fram pp M0 M' ∧ fz M' M0.length 9 d = some (enc r) ∧ (cc = true → ∃ n t l, d = .ref n ∧ M0.length ≤ n ∧ M'[n]? = some (t, l) ∧ enc r = .nd t l)
/-- a tail block -/
def KT {ρ : Type} [Enc ρ] (cc : Bool) (pp : List Nat) (M0 : Store) : ρ → Fl → Store → Prop := fun r fl M' => match fl with
  | .rt d => Res cc pp M0 r d M'
  | .nx _ => Res cc pp M0 r .non M'
  | _ => False
/-- a call -/
def Ret {ρ : Type} [Enc ρ] (cc : Bool) (pp : List Nat) (f : Ev D) (p : m ρ) : Prop := ∀ M, (∀ n ∈ pp, PoolAt M n) → ∀ Q X, Mo.wp p Q X →
  Sim (f M) (fun d M' => ∃ r, Q r ∧ Res cc pp M r d M') (fun c d M' => X c d ∧ Fram pp M M')
/-- flow of a block in a loop or a branch -/
inductive Fw (β ρ : Type) where
  | nx (b : β) | ct (b : β) | bk (b : β) | rt (r : ρ)
def KF {β ρ : Type} [Enc ρ] (cc : Bool) (pp : List Nat) (M0 : Store) (fs : β → List SV) : Fw β ρ → Fl → Store → Prop := fun w fl M' => match w, fl with
  | .nx b, .nx S => ∃ ns, Rel ⟨pp, []⟩ M0 (fs b) S M' ns
  | .ct b, .ct S => ∃ ns, Rel ⟨pp, []⟩ M0 (fs b) S M' ns
  | .bk b, .bk S => ∃ ns, Rel ⟨pp, []⟩ M0 (fs b) S M' ns
  | .rt r, .rt d => Res cc pp M0 r d M'
  | _, _ => False
/-- a block that goes on -/
def KN {β : Type} (pp : List Nat) (M0 : Store) (fs : β → List SV) : β → Fl → Store → Prop := fun b fl M' => match fl with
  | .nx S => ∃ ns, Rel ⟨pp, []⟩ M0 (fs b) S M' ns
  | _ => False
end
end TL

set_option Elab.async false
set_option linter.all false
set_option maxRecDepth 100000
set_option maxHeartbeats 1000000
/-! TL2: rules for expressions. -/
namespace TL
open PySem L2 DL
open Mo (pur bnd lft)
open Enc (enc)
open EncL (encL)
theorem bok {α β : Type} {m : Ev α} {k : α → Ev β} {M M1 : Store} {a : α} (h : m M = .ok a M1) : (m.bnd k) M = k a M1 := by
  simp only [Ev.bnd, h, Out.bnd]
section
variable {m : Type → Type} [Mo m] {fs : List SV} {α β γ τ : Type} [Enc α] [Enc β] [Enc γ] [EncL τ]
theorem EP.eo {e : Lo → Ev D} {v : α} (h : EP fs e v) : EO (m := m) fs e (pur v) := fun pp M0 S M ns r Q X w => Sim.ok (h pp M0 S M ns r) ⟨v, rfl, Mo.pur_wp w, r⟩
theorem TP.to {e : Lo → Ev Bool} {v : Bool} (h : TP fs e v) : TO (m := m) fs e (pur v) := fun pp M0 S M ns r Q X w => Sim.ok (h pp M0 S M ns r) ⟨Mo.pur_wp w, r⟩
theorem AP.ao {e : Lo → Ev (List D)} {v : τ} (h : AP fs e v) : AO (m := m) fs e (pur v) := fun pp M0 S M ns r Q X w => Sim.ok (h pp M0 S M ns r) ⟨v, rfl, Mo.pur_wp w, r⟩
theorem IP.io {e : Lo → Ev (List D × Gd)} {v : List α} (h : IP fs e v) : IO (m := m) fs e (pur v) := fun pp M0 S M ns r Q X w => Sim.ok (h pp M0 S M ns r) ⟨v, none, rfl, .inl rfl, Mo.pur_wp w, r⟩
/-! ### variables, constants, views -/
theorem ep_var (i : Nat) {v : α} (h : fs[i]? = some (.val (enc v))) : EP fs (eVar i) v := fun pp M0 S M ns r => by
  have := r.sl i _ h
  unfold SlotOk at this
  unfold eVar
  rw [this]
  rfl
theorem ep_c {d : D} {v : α} (h : d = enc v) : EP fs (eC d) v := fun _ _ _ _ _ _ => by rw [h]; rfl
theorem EP.ev {e : Lo → Ev D} {v : α} {t : Tg} {l : List D} (h : EP fs e v) (hv : enc v = .nd t l) : EV fs e t l := fun pp M0 S M ns r => ⟨_, h pp M0 S M ns r, by rw [hv]; rfl⟩
theorem ev_cell (i : Nat) {t : Tg} {l : List D} (h : fs[i]? = some (.lc t l)) : EV fs (eVar i) t l := fun pp M0 S M ns r => by
  obtain ⟨h1, h2, h3⟩ := r.sl i _ h
  refine ⟨.ref (ns i), ?_, ?_⟩
  · unfold eVar; rw [h1]; rfl
  · unfold vw; simp only [h3]
theorem ev_pin (i : Nat) {n : Nat} {t : Tg} {l : List D} (h : fs[i]? = some (.pin n t l)) : EV fs (eVar i) t l := fun pp M0 S M ns r => by
  obtain ⟨h1, h2, h3, h4⟩ := r.sl i _ h
  refine ⟨.ref n, ?_, ?_⟩
  · unfold eVar; rw [h1]; rfl
  · unfold vw; simp only [h4]
theorem EP.ls {e : Lo → Ev D} {xs : List α} (h : EP fs e xs) : EV fs e .lst (xs.map enc) := h.ev rfl
/-! ### operations -/
def OpM {α : Type} [Enc α] (o : Out D) (M : Store) (p : E α) : Prop := match p with
  | .ok v => o = .ok (enc v) M
  | .exc c d => o = .exc c d M
  | .bad => True
def OpE (f : Ev D) (p : E α) : Prop := ∀ M, OpM (f M) M p
theorem OpE.ret {f : Ev D} {v : α} (h : f = Ev.ret (enc v)) : OpE f (.ok v) := fun M => by rw [h]; rfl
theorem OpE.sim {f : Ev D} {p : E α} (h : OpE f p) {M : Store} {Q : α → Prop} {X : Str → D → Prop} (w : p.wp Q X) : Sim (f M) (fun d M' => ∃ v, d = enc v ∧ Q v ∧ M' = M) (fun c d M' => X c d ∧ M' = M) := by
  have h := h M
  cases p with
  | ok v => exact Sim.ok h ⟨v, rfl, w, rfl⟩
  | exc c d => rw [h]; exact ⟨w, rfl⟩
  | bad => exact w.elim
theorem ep_2 {op : D → D → Ev D} {a b : Lo → Ev D} {x : α} {y : β} {z : γ} (ha : EP fs a x) (hb : EP fs b y) (ho : op (enc x) (enc y) = Ev.ret (enc z)) : EP fs (e2 op a b) z := fun pp M0 S M ns r => by
  unfold e2
  rw [bok (ha pp M0 S M ns r), bok (hb pp M0 S M ns r), ho]
  rfl
theorem eo_2p {op : D → D → Ev D} {a b : Lo → Ev D} {x : α} {y : β} {p : E γ} (ha : EP fs a x) (hb : EP fs b y) (ho : OpE (op (enc x) (enc y)) p) : EO (m := m) fs (e2 op a b) (lft p) := fun pp M0 S M ns r Q X w => by
  refine Sim.bnd (Sim.ok (ha pp M0 S M ns r) (Sim.bnd (Sim.ok (hb pp M0 S M ns r) ?_)))
  exact (ho.sim (M := M) (Mo.lft_wp w)).imp (fun d M' ⟨v, e, q, e2⟩ => ⟨v, e, q, e2 ▸ r⟩) (fun c d M' ⟨q, e2⟩ => ⟨q, e2 ▸ r⟩)
theorem eo_2 {op : D → D → Ev D} {a b : Lo → Ev D} {pa : m α} {pb : m β} {po : α → β → E γ} (ha : EO fs a pa) (hb : EO fs b pb) (ho : ∀ x y, OpE (op (enc x) (enc y)) (po x y)) : EO fs (e2 op a b) (bnd pa fun x => bnd pb fun y => lft (po x y)) := fun pp M0 S M ns r Q X w => by
  refine Sim.bnd ((ha pp M0 S M ns r _ _ (Mo.bnd_wp w)).imp (fun d M1 ⟨x, e, w, r⟩ => ?_) (fun _ _ _ h => h))
  subst e
  refine Sim.bnd ((hb pp M0 S M1 ns r _ _ (Mo.bnd_wp w)).imp (fun d M2 ⟨y, e, w, r⟩ => ?_) (fun _ _ _ h => h))
  subst e
  exact ((ho x y).sim (M := M2) (Mo.lft_wp w)).imp (fun d M' ⟨v, e, q, e2⟩ => ⟨v, e, q, e2 ▸ r⟩) (fun c d M' ⟨q, e2⟩ => ⟨q, e2 ▸ r⟩)
theorem ep_1 {op : D → Ev D} {a : Lo → Ev D} {x : α} {z : γ} (ha : EP fs a x) (ho : op (enc x) = Ev.ret (enc z)) : EP fs (e1 op a) z := fun pp M0 S M ns r => by
  unfold e1 Ev.bnd
  rw [ha pp M0 S M ns r]
  dsimp only [Out.bnd]
  rw [ho]
  rfl
/-- an operation on a view and a value -/
theorem ep_v2 {op : D → D → Ev D} {a b : Lo → Ev D} {t : Tg} {l : List D} {y : β} {z : γ} (ha : EV fs a t l) (hb : EP fs b y) (ho : ∀ d M, vw d M = .ok (t, l) M → op d (enc y) M = .ok (enc z) M) : EP fs (e2 op a b) z := fun pp M0 S M ns r => by
  obtain ⟨d, h1, h2⟩ := ha pp M0 S M ns r
  unfold e2 Ev.bnd
  rw [h1]
  dsimp only [Out.bnd]
  rw [hb pp M0 S M ns r]
  exact ho d M h2
def OpV {α : Type} [Enc α] (f : D → Ev D) (t : Tg) (l : List D) (p : E α) : Prop := ∀ d M, vw d M = .ok (t, l) M → OpM (f d M) M p
theorem OpV.sim {f : D → Ev D} {t : Tg} {l : List D} {p : E α} (h : OpV f t l p) {d : D} {M : Store} (hd : vw d M = .ok (t, l) M) {Q : α → Prop} {X : Str → D → Prop} (w : p.wp Q X) : Sim (f d M) (fun d M' => ∃ v, d = enc v ∧ Q v ∧ M' = M) (fun c d M' => X c d ∧ M' = M) := by
  have h := h d M hd
  cases p with
  | ok v => exact Sim.ok h ⟨v, rfl, w, rfl⟩
  | exc c d => rw [h]; exact ⟨w, rfl⟩
  | bad => exact w.elim
theorem eo_v2p {op : D → D → Ev D} {a b : Lo → Ev D} {t : Tg} {l : List D} {y : β} {p : E γ} (ha : EV fs a t l) (hb : EP fs b y) (ho : OpV (fun d => op d (enc y)) t l p) : EO (m := m) fs (e2 op a b) (lft p) := fun pp M0 S M ns r Q X w => by
  obtain ⟨d, h1, h2⟩ := ha pp M0 S M ns r
  refine Sim.bnd (Sim.ok h1 (Sim.bnd (Sim.ok (hb pp M0 S M ns r) ?_)))
  exact (ho.sim h2 (Mo.lft_wp w)).imp (fun d M' ⟨v, e, q, e2⟩ => ⟨v, e, q, e2 ▸ r⟩) (fun c d M' ⟨q, e2⟩ => ⟨q, e2 ▸ r⟩)
/-! ### arguments -/
theorem ap_nil : AP fs eA0 () := fun _ _ _ _ _ _ => rfl
theorem ap_cons {a : Lo → Ev D} {r : Lo → Ev (List D)} {x : α} {v : τ} (ha : EP fs a x) (hr : AP fs r v) : AP fs (eAc a r) (x, v) := fun pp M0 S M ns rl => by
  unfold eAc Ev.bnd
  rw [ha pp M0 S M ns rl]
  dsimp only [Out.bnd]
  rw [hr pp M0 S M ns rl]
  rfl
theorem ao_cons {a : Lo → Ev D} {r : Lo → Ev (List D)} {x : m α} {v : m τ} (ha : EO fs a x) (hr : AO fs r v) : AO fs (eAc a r) (bnd x fun x => bnd v fun v => pur (x, v)) := fun pp M0 S M ns rl Q X w => by
  refine Sim.bnd ((ha pp M0 S M ns rl _ _ (Mo.bnd_wp w)).imp (fun d M1 ⟨x, e, w, rl⟩ => ?_) (fun _ _ _ h => h))
  subst e
  refine Sim.bnd ((hr pp M0 S M1 ns rl _ _ (Mo.bnd_wp w)).imp (fun d M1 ⟨v, e, w, rl⟩ => ?_) (fun _ _ _ h => h))
  subst e
  exact ⟨(x, v), rfl, Mo.pur_wp w, rl⟩
/-! ### tests -/
theorem tp_b {e : Lo → Ev D} {v : Bool} (h : EP fs e v) : TP fs (eB e) v := fun pp M0 S M ns r => by
  unfold eB Ev.bnd
  rw [h pp M0 S M ns r]
  rfl
theorem to_b {e : Lo → Ev D} {p : m Bool} (h : EO fs e p) : TO fs (eB e) p := fun pp M0 S M ns r Q X w => by
  refine Sim.bnd ((h pp M0 S M ns r _ _ w).imp (fun d M1 ⟨x, e, w, r⟩ => ?_) (fun _ _ _ h => h))
  subst e
  exact ⟨w, r⟩
theorem tp_or {a b : Lo → Ev Bool} {x y : Bool} (ha : TP fs a x) (hb : TP fs b y) : TP fs (eOr a b) (x || y) := fun pp M0 S M ns r => by
  unfold eOr Ev.bnd
  rw [ha pp M0 S M ns r]
  dsimp only [Out.bnd]
  cases x
  · rw [if_neg (by decide), hb pp M0 S M ns r]; rfl
  · rfl
theorem tp_not {a : Lo → Ev Bool} {x : Bool} (ha : TP fs a x) : TP fs (eNot a) (!x) := fun pp M0 S M ns r => by
  unfold eNot Ev.bnd
  rw [ha pp M0 S M ns r]
  rfl
theorem to_or {a b : Lo → Ev Bool} {pa pb : m Bool} (ha : TO fs a pa) (hb : TO fs b pb) : TO fs (eOr a b) (bnd pa fun x => if x = true then pur true else pb) := fun pp M0 S M ns r Q X w => by
  refine Sim.bnd ((ha pp M0 S M ns r _ _ (Mo.bnd_wp w)).imp (fun x M1 ⟨w, r⟩ => ?_) (fun _ _ _ h => h))
  cases x
  · rw [if_neg (by decide)] at w; rw [if_neg (by decide)]; exact hb pp M0 S M1 ns r _ _ w
  · rw [if_pos rfl] at w; rw [if_pos rfl]; exact ⟨Mo.pur_wp w, r⟩
theorem to_not {a : Lo → Ev Bool} {pa : m Bool} (ha : TO fs a pa) : TO fs (eNot a) (bnd pa fun x => pur (!x)) := fun pp M0 S M ns r Q X w => by
  refine Sim.bnd ((ha pp M0 S M ns r _ _ (Mo.bnd_wp w)).imp (fun x M1 ⟨w, r⟩ => ?_) (fun _ _ _ h => h))
  exact ⟨Mo.pur_wp w, r⟩
theorem ep_and {a b : Lo → Ev D} {x y : Bool} (ha : EP fs a x) (hb : EP fs b y) : EP fs (eAndV a b) (x && y) := fun pp M0 S M ns r => by
  unfold eAndV Ev.bnd
  rw [ha pp M0 S M ns r]
  cases x
  · rfl
  · show (if true = true then b S else Ev.ret (.bl false)) M = _
    rw [if_pos rfl, hb pp M0 S M ns r]; rfl
theorem ep_not {a : Lo → Ev D} {x : Bool} (ha : EP fs a x) : EP fs (eNotV a) (!x) := fun pp M0 S M ns r => by
  unfold eNotV Ev.bnd
  rw [ha pp M0 S M ns r]
  rfl
theorem eo_and {a b : Lo → Ev D} {pa pb : m Bool} (ha : EO fs a pa) (hb : EO fs b pb) : EO fs (eAndV a b) (bnd pa fun x => if x = true then pb else pur false) := fun pp M0 S M ns r Q X w => by
  refine Sim.bnd ((ha pp M0 S M ns r _ _ (Mo.bnd_wp w)).imp (fun d M1 ⟨x, e, w, r⟩ => ?_) (fun _ _ _ h => h))
  subst e
  cases x
  · rw [if_neg (by decide)] at w; exact ⟨false, rfl, Mo.pur_wp w, r⟩
  · rw [if_pos rfl] at w; exact hb pp M0 S M1 ns r _ _ w
theorem ep_if {c : Lo → Ev Bool} {a b : Lo → Ev D} {z : Bool} {x y : α} (hc : TP fs c z) (ha : EP fs a x) (hb : EP fs b y) : EP fs (eIf c a b) (if z = true then x else y) := fun pp M0 S M ns r => by
  unfold eIf Ev.bnd
  rw [hc pp M0 S M ns r]
  cases z
  · exact hb pp M0 S M ns r
  · exact ha pp M0 S M ns r
theorem eo_if {c : Lo → Ev Bool} {a b : Lo → Ev D} {z : m Bool} {x y : m α} (hc : TO fs c z) (ha : EO fs a x) (hb : EO fs b y) : EO fs (eIf c a b) (bnd z fun z => if z = true then x else y) := fun pp M0 S M ns r Q X w => by
  refine Sim.bnd ((hc pp M0 S M ns r _ _ (Mo.bnd_wp w)).imp (fun z M1 ⟨w, r⟩ => ?_) (fun _ _ _ h => h))
  cases z
  · exact hb pp M0 S M1 ns r _ _ w
  · exact ha pp M0 S M1 ns r _ _ w
theorem tp_tru {e : Lo → Ev D} {v : Bool} (h : EP fs e v) : TP fs (eTru e) v := fun pp M0 S M ns r => by
  unfold eTru Ev.bnd
  rw [h pp M0 S M ns r]
  rfl
theorem to_tru {e : Lo → Ev D} {p : m Bool} (h : EO fs e p) : TO fs (eTru e) p := fun pp M0 S M ns r Q X w => by
  refine Sim.bnd ((h pp M0 S M ns r _ _ w).imp (fun d M1 ⟨x, e, w, r⟩ => ?_) (fun _ _ _ h => h))
  subst e
  exact ⟨w, r⟩
theorem tp_truL {e : Lo → Ev D} {xs : List α} (h : EV fs e .lst (xs.map enc)) : TP fs (eTru e) (!xs.isEmpty) := fun pp M0 S M ns r => by
  obtain ⟨d, h1, h2⟩ := h pp M0 S M ns r
  unfold eTru
  rw [bok h1]
  have e : (xs.map (enc (α := α))).isEmpty = xs.isEmpty := by cases xs <;> rfl
  cases d with
  | ref n => show ((vw (.ref n)).bnd _) M = _; rw [bok h2]; show Out.ok (!(xs.map enc).isEmpty) M = _; rw [e]
  | nd t l => show ((vw (.nd t l)).bnd _) M = _; rw [bok h2]; show Out.ok (!(xs.map enc).isEmpty) M = _; rw [e]
  | _ => cases h2
/-! ### numbers -/
theorem ep_add {a b : Lo → Ev D} {x y : Int} (ha : EP fs a x) (hb : EP fs b y) : EP fs (eF (n2 addN a b)) (x + y) := fun pp M0 S M ns r => by
  unfold eF n2 Ev.bnd
  rw [ha pp M0 S M ns r]
  dsimp only [Out.bnd]
  rw [hb pp M0 S M ns r]
  rfl
theorem eo_add {a b : Lo → Ev D} {pa pb : m Int} (ha : EO fs a pa) (hb : EO fs b pb) : EO fs (eF (n2 addN a b)) (bnd pa fun x => bnd pb fun y => pur (x + y)) := fun pp M0 S M ns r Q X w => by
  refine Sim.bnd (Sim.bnd ((ha pp M0 S M ns r _ _ (Mo.bnd_wp w)).imp (fun d M1 ⟨x, e, w, r⟩ => ?_) (fun _ _ _ h => h)))
  subst e
  refine Sim.bnd ((hb pp M0 S M1 ns r _ _ (Mo.bnd_wp w)).imp (fun d M2 ⟨y, e, w, r⟩ => ?_) (fun _ _ _ h => h))
  subst e
  exact ⟨x + y, rfl, Mo.pur_wp w, r⟩
theorem o_sub (x y : Int) : subE (enc x) (enc y) = Ev.ret (enc (x - y)) := rfl
theorem o_neg (x : Int) : negE (enc x) = Ev.ret (enc (-x)) := rfl
theorem o_lt (x y : Int) : ltE (enc x) (enc y) = Ev.ret (enc (decide (x < y))) := rfl
theorem o_le (x y : Int) : leE (enc x) (enc y) = Ev.ret (enc (decide (x ≤ y))) := rfl
theorem o_gt (x y : Int) : gtE (enc x) (enc y) = Ev.ret (enc (decide (y < x))) := rfl
theorem o_min (x y : Int) : minE (enc x) (enc y) = Ev.ret (enc (if y < x then y else x)) := rfl
theorem o_max (x y : Int) : maxE (enc x) (enc y) = Ev.ret (enc (if y > x then y else x)) := rfl
def mulZ (x y : Int) : E Int := if CMul x y then .ok (x * y) else .bad
def modZ (x y : Int) : E Int := if 0 < y then .ok (x % y) else .bad
theorem o_mul (x y : Int) : OpE (mulE (enc x) (enc y)) (mulZ x y) := by
  unfold mulZ
  by_cases h : CMul x y
  · rw [if_pos h]; exact OpE.ret (if_pos h)
  · rw [if_neg h]; exact fun _ => trivial
theorem o_mod (x y : Int) : OpE (modE (enc x) (enc y)) (modZ x y) := by
  unfold modZ
  by_cases h : 0 < y
  · rw [if_pos h]; exact OpE.ret (if_pos h)
  · rw [if_neg h]; exact fun _ => trivial
theorem E1 {op : D → D → Ev D} {f : α → β → γ} (h : ∀ x y, op (enc x) (enc y) = Ev.ret (enc (f x y))) : ∀ x y, OpE (op (enc x) (enc y)) (.ok (f x y)) := fun x y => OpE.ret (h x y)
theorem ep_chain {o o' : D → D → Ev D} {a b c : Lo → Ev D} {x y z : Int} {u v : Bool} (ha : EP fs a x) (hb : EP fs b y) (hc : EP fs c z) (h1 : o (enc x) (enc y) = Ev.ret (enc u)) (h2 : o' (enc y) (enc z) = Ev.ret (enc v)) : EP fs (eChain o o' a b c) (u && v) := fun pp M0 S M ns r => by
  unfold eChain Ev.bnd
  rw [ha pp M0 S M ns r]
  dsimp only [Out.bnd]
  rw [hb pp M0 S M ns r]
  dsimp only
  rw [h1]
  cases u
  · rfl
  · show ((c S).bnd fun w => o' (enc y) w) M = _
    unfold Ev.bnd
    rw [hc pp M0 S M ns r]
    dsimp only [Out.bnd]
    rw [h2]
    rfl
/-! ### built-in calls -/
theorem eo_c1 {op : D → Ev D} {f : Lo → Ev (List D)} {p : m (α × Unit)} {po : α → E γ} (ha : AO fs f p) (ho : ∀ x, OpE (op (enc x)) (po x)) : EO fs (eCall (op1 op) f) (bnd p fun x => lft (po x.1)) := fun pp M0 S M ns r Q X w => by
  refine Sim.bnd ((ha pp M0 S M ns r _ _ (Mo.bnd_wp w)).imp (fun d M1 ⟨x, e, w, r⟩ => ?_) (fun _ _ _ h => h))
  subst e
  exact ((ho x.1).sim (M := M1) (Mo.lft_wp w)).imp (fun d M' ⟨v, e, q, e2⟩ => ⟨v, e, q, e2 ▸ r⟩) (fun c d M' ⟨q, e2⟩ => ⟨q, e2 ▸ r⟩)
theorem ep_c2 {op : D → D → Ev D} {f : Lo → Ev (List D)} {x : α} {y : β} {z : γ} (ha : AP fs f (x, y, ())) (ho : op (enc x) (enc y) = Ev.ret (enc z)) : EP fs (eCall (op2 op) f) z := fun pp M0 S M ns r => by
  unfold eCall Ev.bnd
  rw [ha pp M0 S M ns r]
  show op (enc x) (enc y) M = _
  rw [ho]
  rfl
/-- one argument, by its view -/
theorem ep_cv {op : D → Ev D} {a : Lo → Ev D} {t : Tg} {l : List D} {z : γ} (ha : EV fs a t l) (ho : ∀ d M, vw d M = .ok (t, l) M → op d M = .ok (enc z) M) : EP fs (eCall (op1 op) (eAc a eA0)) z := fun pp M0 S M ns r => by
  obtain ⟨d, h1, h2⟩ := ha pp M0 S M ns r
  unfold eCall eAc Ev.bnd
  rw [h1]
  exact ho d M h2
theorem vw_len {d : D} {M : Store} {t : Tg} {l : List D} (h : vw d M = .ok (t, l) M) (ht : FC.isSeq t = true) : lenE d M = .ok (.int l.length) M := by
  have : sq d M = .ok l M := by unfold sq; rw [bok h]; dsimp only; rw [if_pos ht]; rfl
  cases d with
  | ref n => show ((sq (.ref n)).bnd _) M = _; unfold Ev.bnd; rw [this]; rfl
  | nd t l => show ((sq (.nd t l)).bnd _) M = _; unfold Ev.bnd; rw [this]; rfl
  | _ => cases h
theorem ep_len {a : Lo → Ev D} {t : Tg} {xs : List α} (ha : EV fs a t (xs.map enc)) (ht : FC.isSeq t = true) : EP fs (eCall (op1 lenE) (eAc a eA0)) (xs.length : Int) := ep_cv ha fun d M h => by
  rw [vw_len h ht, List.length_map]
  rfl
theorem vw_sq {d : D} {M : Store} {t : Tg} {l : List D} (h : vw d M = .ok (t, l) M) (ht : FC.isSeq t = true) : sq d M = .ok l M := by
  unfold sq
  rw [bok h]
  dsimp only
  rw [if_pos ht]
  rfl
/-! ### items -/
def ixL (xs : List α) (i : Int) : E α := match atI xs i with
  | some a => .ok a
  | none => .bad
theorem atI_map {α β : Type} (f : α → β) (xs : List α) (i : Int) : atI (xs.map f) i = (atI xs i).map f := by
  unfold atI
  rw [List.length_map]
  cases ixN xs.length i <;> simp
theorem o_ix {t : Tg} (ht : FC.isSeq t = true) (xs : List α) (i : Int) : OpV (fun d => ixE d (enc i)) t (xs.map enc) (ixL xs i) := fun d M h => by
  unfold ixL
  cases q : atI xs i with
  | none => trivial
  | some a =>
    have e : atI (xs.map enc) i = some (enc a) := by rw [atI_map, q]; rfl
    show ixE d (.int i) M = _
    unfold ixE
    cases d with
    | ref n => show ((sq (.ref n)).bnd _) M = _; unfold Ev.bnd; rw [vw_sq h ht]; show optE (atI (xs.map enc) i) M = _; rw [e]; rfl
    | nd t l => show ((sq (.nd t l)).bnd _) M = _; unfold Ev.bnd; rw [vw_sq h ht]; show optE (atI (xs.map enc) i) M = _; rw [e]; rfl
    | _ => cases h
theorem eo_ixp {a b : Lo → Ev D} {t : Tg} {xs : List α} {i : Int} (ha : EV fs a t (xs.map enc)) (hb : EP fs b i) (ht : FC.isSeq t = true) : EO (m := m) fs (e2 ixE a b) (lft (ixL xs i)) := eo_v2p ha hb (o_ix ht xs i)
theorem eo_ix {a b : Lo → Ev D} {p : m (List α)} {q : m Int} (ha : EO fs a p) (hb : EO fs b q) : EO fs (e2 ixE a b) (bnd p fun xs => bnd q fun i => lft (ixL xs i)) := eo_2 ha hb fun xs i M => by
  have := o_ix (t := .lst) rfl xs i (enc xs) M rfl
  exact this
/-- the part of a tuple -/
theorem ep_tup {a : Lo → Ev D} {l : List D} {i : Int} {z : α} (ha : EV fs a .tup l) (hi : atI l i = some (enc z)) : EP fs (e2 ixE a (eC (.int i))) z := ep_v2 (y := i) ha (ep_c rfl) fun d M h => by
  show ixE d (.int i) M = _
  unfold ixE
  cases d with
  | ref n => show ((sq (.ref n)).bnd _) M = _; unfold Ev.bnd; rw [vw_sq h rfl]; show optE (atI l i) M = _; rw [hi]; rfl
  | nd t l => show ((sq (.nd t l)).bnd _) M = _; unfold Ev.bnd; rw [vw_sq h rfl]; show optE (atI _ i) M = _; rw [hi]; rfl
  | _ => cases h
end
end TL

set_option Elab.async false
set_option linter.all false
set_option maxRecDepth 100000
set_option maxHeartbeats 1000000
/-! TL3: equality, membership, new nodes, lists. -/
namespace TL
open PySem L2 DL
open Mo (pur bnd lft)
open Enc (enc)
open EncL (encL)
/-! ### == -/
class PyEq (α : Type) [Enc α] where
  pd : α → PyData
  dep : Nat
  ok : ∀ (M : Store) (k : Nat) (a : α), dep ≤ k → py M k (enc a) = some (pd a)
  iff : ∀ a b : α, PyData.eqv (pd a) (pd b) = true ↔ a = b
instance : PyEq Int where
  pd := .int
  dep := 1
  ok M k a h := by
    obtain ⟨k, rfl⟩ : ∃ j, k = j + 1 := ⟨k - 1, by omega⟩
    show py M (k + 1) (.int a) = _
    simp [py]
  iff a b := by rw [PyData.eqv]; simp
instance : PyEq Bool where
  pd := .bool
  dep := 1
  ok M k a h := by
    obtain ⟨k, rfl⟩ : ∃ j, k = j + 1 := ⟨k - 1, by omega⟩
    show py M (k + 1) (.bl a) = _
    simp [py]
  iff a b := by rw [PyData.eqv]; simp
instance : PyEq Unit where
  pd _ := .none
  dep := 1
  ok M k a h := by
    obtain ⟨k, rfl⟩ : ∃ j, k = j + 1 := ⟨k - 1, by omega⟩
    show py M (k + 1) .non = _
    simp [py]
  iff a b := by rw [PyData.eqv]; simp
theorem pys_map {α : Type} [Enc α] [PyEq α] (M : Store) (k : Nat) (h : PyEq.dep α ≤ k) : ∀ xs : List α, pys M k (xs.map enc) = some (xs.map PyEq.pd)
  | [] => by rw [List.map_nil, List.map_nil, pys]
  | x :: xs => by rw [List.map_cons, List.map_cons, pys, PyEq.ok M k x h, pys_map M k h xs]
theorem eqvAll_map {α : Type} [Enc α] [PyEq α] : ∀ xs ys : List α, PyData.eqvAll (xs.map PyEq.pd) (ys.map PyEq.pd) = true ↔ xs = ys
  | [], [] => by simp [PyData.eqvAll]
  | [], _ :: _ => by simp [PyData.eqvAll]
  | _ :: _, [] => by simp [PyData.eqvAll]
  | x :: xs, y :: ys => by
    rw [List.map_cons, List.map_cons, PyData.eqvAll, Bool.and_eq_true, PyEq.iff, eqvAll_map xs ys, List.cons.injEq]
instance {α : Type} [Enc α] [PyEq α] : PyEq (List α) where
  pd xs := .list (xs.map PyEq.pd)
  dep := PyEq.dep α + 1
  ok M k a h := by
    obtain ⟨k, rfl⟩ : ∃ j, k = j + 1 := ⟨k - 1, by omega⟩
    show py M (k + 1) (.nd .lst (a.map enc)) = _
    rw [py]
    rw [pys_map M k (by omega) a]
    rfl
  iff a b := by rw [PyData.eqv]; exact eqvAll_map a b
instance {α β : Type} [Enc α] [PyEq α] [Enc β] [PyEq β] : PyEq (α × β) where
  pd x := .tuple [PyEq.pd x.1, PyEq.pd x.2]
  dep := max (PyEq.dep α) (PyEq.dep β) + 1
  ok M k a h := by
    obtain ⟨k, rfl⟩ : ∃ j, k = j + 1 := ⟨k - 1, by omega⟩
    show py M (k + 1) (.nd .tup [enc a.1, enc a.2]) = _
    rw [py]
    rw [pys, pys, pys, PyEq.ok M k a.1 (by omega), PyEq.ok M k a.2 (by omega)]
    rfl
  iff a b := by
    rw [PyData.eqv, PyData.eqvAll, PyData.eqvAll, PyData.eqvAll, Bool.and_true, Bool.and_eq_true, PyEq.iff, PyEq.iff]
    exact ⟨fun h => Prod.ext h.1 h.2, fun h => by rw [h]; exact ⟨rfl, rfl⟩⟩
instance {α β γ : Type} [Enc α] [PyEq α] [Enc β] [PyEq β] [Enc γ] [PyEq γ] : PyEq (T3 α β γ) where
  pd x := .tuple [PyEq.pd x.a, PyEq.pd x.b, PyEq.pd x.c]
  dep := max (PyEq.dep α) (max (PyEq.dep β) (PyEq.dep γ)) + 1
  ok M k a h := by
    obtain ⟨k, rfl⟩ : ∃ j, k = j + 1 := ⟨k - 1, by omega⟩
    show py M (k + 1) (.nd .tup [enc a.a, enc a.b, enc a.c]) = _
    rw [py]
    rw [pys, pys, pys, pys, PyEq.ok M k a.a (by omega), PyEq.ok M k a.b (by omega), PyEq.ok M k a.c (by omega)]
    rfl
  iff a b := by
    rw [PyData.eqv, PyData.eqvAll, PyData.eqvAll, PyData.eqvAll, PyData.eqvAll, Bool.and_true, Bool.and_eq_true, Bool.and_eq_true, PyEq.iff, PyEq.iff, PyEq.iff]
    cases a; cases b
    simp
/-- an expression and its data -/
def EY {α : Type} [Enc α] [PyEq α] (fs : List SV) (e : Lo → Ev D) (v : α) : Prop := ∀ pp M0 S M ns, Rel pp M0 fs S M ns → ∃ d, e S M = .ok d M ∧ py M 14 d = some (PyEq.pd v)
def eqB {α : Type} [DecidableEq α] (a b : α) : Bool := decide (a = b)
theorem eqv_eq {α : Type} [DecidableEq α] [Enc α] [PyEq α] (a b : α) : PyData.eqv (PyEq.pd a) (PyEq.pd b) = eqB a b := by
  unfold eqB
  by_cases h : a = b
  · rw [decide_eq_true h]; exact (PyEq.iff a b).mpr h
  · rw [decide_eq_false h]
    cases q : PyData.eqv (PyEq.pd a) (PyEq.pd b) with
    | false => rfl
    | true => exact (h ((PyEq.iff a b).mp q)).elim
section
variable {m : Type → Type} [Mo m] {fs : List SV} {α β γ τ : Type} [Enc α] [Enc β] [Enc γ] [EncL τ]
theorem EP.ey [PyEq α] {e : Lo → Ev D} {v : α} (h : EP fs e v) (hd : PyEq.dep α ≤ 14 := by decide) : EY fs e v := fun pp M0 S M ns r => ⟨_, h pp M0 S M ns r, PyEq.ok M 14 v hd⟩
theorem ey_cell [PyEq α] (i : Nat) {xs : List α} (h : fs[i]? = some (.lc .lst (xs.map enc))) (hd : PyEq.dep α ≤ 13 := by decide) : EY fs (eVar i) xs := fun pp M0 S M ns r => by
  obtain ⟨h1, h2, h3⟩ := r.sl i _ h
  refine ⟨.ref (ns i), by unfold eVar; rw [h1]; rfl, ?_⟩
  rw [py]
  rw [h3]
  dsimp only
  rw [pys_map M 13 hd]
  rfl
theorem ep_eq [DecidableEq α] [PyEq α] {neg : Bool} {a b : Lo → Ev D} {x y : α} (ha : EY fs a x) (hb : EY fs b y) : EP fs (e2 (eqE neg) a b) (neg ^^ eqB x y) := fun pp M0 S M ns r => by
  obtain ⟨d1, h1, p1⟩ := ha pp M0 S M ns r
  obtain ⟨d2, h2, p2⟩ := hb pp M0 S M ns r
  unfold e2
  rw [bok h1, bok h2]
  unfold eqE
  rw [p1, p2]
  dsimp only
  rw [eqv_eq]
  rfl
theorem o_eqE [DecidableEq α] [PyEq α] {neg : Bool} (hd : PyEq.dep α ≤ 14 := by decide) (x y : α) : eqE neg (enc x) (enc y) = Ev.ret (enc (neg ^^ eqB x y)) := by
  funext M
  unfold eqE
  rw [PyEq.ok M 14 x hd, PyEq.ok M 14 y hd]
  dsimp only
  rw [eqv_eq]
  rfl
/-! ### membership of numbers -/
def inI (x : Int) (xs : List Int) : Bool := decide (x ∈ xs)
theorem toVs_ints (xs : List Int) : toVs (xs.map D.int) = some (xs.map V.int) := by
  induction xs with
  | nil => rfl
  | cons x xs ih => rw [List.map_cons, toVs, ih]; rfl
theorem inV_ints (x : Int) (xs : List Int) : inV (.int x) (xs.map V.int) = inI x xs := by
  unfold inV inI
  induction xs with
  | nil => simp
  | cons y ys ih =>
    rw [List.map_cons, List.any_cons, ih]
    have : eqV (.int y) (.int x) = decide (y = x) := by
      unfold eqV; exact Bool.beq_eq_decide_eq y x
    rw [this]
    by_cases h : y = x
    · simp [h]
    · have : ¬ x = y := fun z => h z.symm
      simp [h, this]
theorem ep_in {neg : Bool} {a b : Lo → Ev D} {t : Tg} {x : Int} {xs : List Int} (ha : EP fs a x) (hb : EV fs b t (xs.map enc)) (ht : FC.isSeq t = true) : EP fs (e2 (inE neg) a b) (neg ^^ inI x xs) := fun pp M0 S M ns r => by
  obtain ⟨d, h1, h2⟩ := hb pp M0 S M ns r
  unfold e2
  rw [bok (ha pp M0 S M ns r), bok h1]
  unfold inE
  rw [bok (vw_sq h2 ht)]
  show (match toV (D.int x), toVs (xs.map D.int) with
    | some v, some vs => Ev.ret (D.bl (if neg then !inV v vs else inV v vs))
    | _, _ => Ev.no) M = _
  rw [toVs_ints]
  show Out.ok (D.bl (if neg then !inV (.int x) (xs.map V.int) else inV (.int x) (xs.map V.int))) M = _
  rw [inV_ints]
  cases neg <;> simp [enc]
/-! ### new nodes -/
theorem np_new {t : Tg} {f : Lo → Ev (List D)} {v : τ} {n : Nat} (h : AP fs f v) (hn : (encL v).length = n) (hl : n ≤ 1000 := by decide) : NP fs (nNew t f) t (encL v) := fun pp M0 S M ns r => by
  unfold nNew
  rw [bok (h pp M0 S M ns r)]
  have : (encL v).length ≤ sizeLine := by rw [hn]; exact Nat.le_trans hl (by decide)
  rw [if_pos this]
  rfl
theorem no_new {t : Tg} {f : Lo → Ev (List D)} {p : m τ} {n : Nat} (h : AO fs f p) (hn : ∀ v : τ, (encL v).length = n) (hl : n ≤ 1000 := by decide) : NO fs (nNew t f) p (fun _ => t) (fun v => encL v) := fun pp M0 S M ns r Q X w => by
  refine Sim.bnd ((h pp M0 S M ns r _ _ w).imp (fun d M1 ⟨v, e, w, r⟩ => ?_) (fun _ _ _ h => h))
  subst e
  have : (encL v).length ≤ sizeLine := by rw [hn]; exact Nat.le_trans hl (by decide)
  rw [if_pos this]
  exact ⟨v, rfl, w, r⟩
theorem NP.no {e : Lo → Ev NR} {t : Tg} {l : List D} {v : α} (h : NP fs e t l) (hv : enc v = .nd t l) (hb : enc v = .nd .lst l ∨ enc v = .nd .tup l) : EP fs (eF e) v := fun pp M0 S M ns r => by
  unfold eF
  rw [bok (h pp M0 S M ns r), hv]
  rcases hb with hb | hb
  · rw [hv] at hb; cases hb; rfl
  · rw [hv] at hb; cases hb; rfl
theorem ep_lst {e : Lo → Ev NR} {xs : List α} (h : NP fs e .lst (xs.map enc)) : EP fs (eF e) xs := h.no rfl (.inl rfl)
theorem ep_frt {e : Lo → Ev NR} {v : α} {l : List D} (h : NP fs e .tup l) (hv : enc v = .nd .tup l) : EP fs (eF e) v := h.no hv (.inr hv)
theorem eo_frz {e : Lo → Ev NR} {p : m α} {t : α → Tg} {l : α → List D} {f : α → β} (h : NO fs e p t l) (hv : ∀ v, enc (f v) = .nd (t v) (l v)) (hb : ∀ v, t v = .lst ∨ t v = .tup) : EO fs (eF e) (bnd p fun v => pur (f v)) := fun pp M0 S M ns r Q X w => by
  refine Sim.bnd ((h pp M0 S M ns r _ _ (Mo.bnd_wp w)).imp (fun d M1 ⟨v, e, w, r⟩ => ?_) (fun _ _ _ h => h))
  subst e
  have w := Mo.pur_wp w
  have hv := hv v
  rcases hb v with q | q
  · rw [q] at hv ⊢; exact ⟨f v, by rw [hv], w, r⟩
  · rw [q] at hv ⊢; exact ⟨f v, by rw [hv], w, r⟩
/-- a list by its typed items -/
abbrev NL (m : Type → Type) [Mo m] {α : Type} [Enc α] (fs : List SV) (e : Lo → Ev NR) (p : m (List α)) : Prop := NO fs e p (fun _ => .lst) (fun xs => xs.map enc)
theorem eo_lst {e : Lo → Ev NR} {p : m (List α)} (h : NL m fs e p) : EO fs (eF e) p := fun pp M0 S M ns r Q X w => by
  refine Sim.bnd ((h pp M0 S M ns r _ _ w).imp (fun d M1 ⟨v, e, w, r⟩ => ?_) (fun _ _ _ h => h))
  subst e
  exact ⟨v, rfl, w, r⟩
theorem NP.nl {e : Lo → Ev NR} {xs : List α} (h : NP fs e .lst (xs.map enc)) : NL m fs e (pur xs) := fun pp M0 S M ns r Q X w => Sim.ok (h pp M0 S M ns r) ⟨xs, rfl, Mo.pur_wp w, r⟩
def NopE (f : Ev NR) (p : E (List α)) : Prop := ∀ M, match p with
  | .ok v => f M = .ok (.n .lst (v.map enc)) M
  | .exc c d => f M = .exc c d M
  | .bad => True
theorem NopE.sim {f : Ev NR} {p : E (List α)} (h : NopE f p) {M : Store} {Q : List α → Prop} {X : Str → D → Prop} (w : p.wp Q X) : Sim (f M) (fun d M' => ∃ v : List α, d = .n .lst (v.map enc) ∧ Q v ∧ M' = M) (fun c d M' => X c d ∧ M' = M) := by
  have h := h M
  cases p with
  | ok v => exact Sim.ok h ⟨v, rfl, w, rfl⟩
  | exc c d => rw [h]; exact ⟨w, rfl⟩
  | bad => exact w.elim
/-- lists put together -/
def catL {α : Type} (xs ys : List α) : E (List α) := if xs.length + ys.length ≤ sizeLine then .ok (xs ++ ys) else .bad
theorem addN_vw {x y : D} {M : Store} {l k : List D} (hx : vw x M = .ok (.lst, l) M) (hy : vw y M = .ok (.lst, k) M) (hl : l.length + k.length ≤ sizeLine) : addN x y M = .ok (.n .lst (l ++ k)) M := by
  have e : addN x y = (vw x).bnd fun p => (vw y).bnd fun q => match p.1, q.1 with
    | .lst, .lst => if p.2.length + q.2.length ≤ sizeLine then Ev.ret (.n .lst (p.2 ++ q.2)) else Ev.no
    | .tup, .tup => if p.2.isEmpty = false ∧ q.2.isEmpty = false ∧ p.2.length + q.2.length ≤ sizeLine then Ev.ret (.n .tup (p.2 ++ q.2)) else Ev.no
    | _, _ => Ev.no := by
    cases x <;> first | rfl | (cases hx)
  rw [e, bok hx, bok hy]
  dsimp only
  rw [if_pos hl]
  rfl
theorem nl_catp {a b : Lo → Ev D} {xs ys : List α} (ha : EV fs a .lst (xs.map enc)) (hb : EV fs b .lst (ys.map enc)) : NL m fs (n2 addN a b) (lft (catL xs ys)) := fun pp M0 S M ns r Q X w => by
  obtain ⟨d1, h1, v1⟩ := ha pp M0 S M ns r
  obtain ⟨d2, h2, v2⟩ := hb pp M0 S M ns r
  refine Sim.bnd (Sim.ok h1 (Sim.bnd (Sim.ok h2 ?_)))
  have w := Mo.lft_wp w
  unfold catL at w
  by_cases hl : xs.length + ys.length ≤ sizeLine
  · rw [if_pos hl] at w
    refine Sim.ok (addN_vw v1 v2 (by simpa using hl)) ⟨xs ++ ys, by dsimp only; rw [List.map_append], w, r⟩
  · rw [if_neg hl] at w; exact w.elim
theorem nl_cat {a b : Lo → Ev D} {p q : m (List α)} (ha : EO fs a p) (hb : EO fs b q) : NL m fs (n2 addN a b) (bnd p fun xs => bnd q fun ys => lft (catL xs ys)) := fun pp M0 S M ns r Q X w => by
  refine Sim.bnd ((ha pp M0 S M ns r _ _ (Mo.bnd_wp w)).imp (fun d M1 ⟨xs, e, w, r⟩ => ?_) (fun _ _ _ h => h))
  subst e
  refine Sim.bnd ((hb pp M0 S M1 ns r _ _ (Mo.bnd_wp w)).imp (fun d M2 ⟨ys, e, w, r⟩ => ?_) (fun _ _ _ h => h))
  subst e
  have w := Mo.lft_wp w
  unfold catL at w
  by_cases hl : xs.length + ys.length ≤ sizeLine
  · rw [if_pos hl] at w
    refine Sim.ok (addN_vw (l := xs.map enc) (k := ys.map enc) rfl rfl (by simpa using hl)) ⟨xs ++ ys, by dsimp only; rw [List.map_append], w, r⟩
  · rw [if_neg hl] at w; exact w.elim
/-- [x] * n -/
def repL {α : Type} (xs : List α) (k : Int) : E (List α) := if -(2 ^ 63) ≤ k ∧ k < 2 ^ 63 ∧ xs.length * k.toNat ≤ sizeLine then .ok (List.replicate k.toNat xs).flatten else .bad
theorem nl_rep {a b : Lo → Ev D} {xs : List α} {k : Int} (ha : EV fs a .lst (xs.map enc)) (hb : EP fs b k) : NL m fs (n2 repN a b) (lft (repL xs k)) := fun pp M0 S M ns r Q X w => by
  obtain ⟨d1, h1, v1⟩ := ha pp M0 S M ns r
  refine Sim.bnd (Sim.ok h1 (Sim.bnd (Sim.ok (hb pp M0 S M ns r) ?_)))
  have w := Mo.lft_wp w
  unfold repL at w
  show Sim (((vw d1).bnd _) M) _ _
  refine Sim.bnd (Sim.ok v1 ?_)
  dsimp only
  by_cases hl : -(2 ^ 63) ≤ k ∧ k < 2 ^ 63 ∧ xs.length * k.toNat ≤ sizeLine
  · rw [if_pos hl] at w
    rw [if_pos (by simpa using hl)]
    exact ⟨_, by rw [List.map_flatten, List.map_replicate], w, r⟩
  · rw [if_neg hl] at w; exact w.elim
/-- parts -/
def cutL {α : Type} (l : List α) (lo hi : Option Int) : List α := (l.drop (HT.sIx l.length 0 lo)).take (HT.sIx l.length l.length hi - HT.sIx l.length 0 lo)
theorem cut_map (xs : List α) (lo hi : Option Int) : cutD (xs.map enc) lo hi = (cutL xs lo hi).map enc := by
  unfold cutD cutL
  rw [List.map_take, List.map_drop, List.length_map]
def OPj (fs : List SV) (f : Lo → Ev (Option Int)) (v : Option Int) : Prop := ∀ pp M0 S M ns, Rel pp M0 fs S M ns → f S M = .ok v M
theorem op_no : OPj fs oNo none := fun _ _ _ _ _ _ => rfl
theorem op_so {f : Lo → Ev D} {i : Int} (h : EP fs f i) : OPj fs (oSo f) (some i) := fun pp M0 S M ns r => by
  unfold oSo
  rw [bok (h pp M0 S M ns r)]
  rfl
theorem np_cut {a : Lo → Ev D} {fl fh : Lo → Ev (Option Int)} {t : Tg} {xs : List α} {lo hi : Option Int} (ha : EV fs a t (xs.map enc)) (hl : OPj fs fl lo) (hh : OPj fs fh hi) (ht : t = .lst ∨ t = .slst) : NP fs (nSl a fl fh) .lst ((cutL xs lo hi).map enc) := fun pp M0 S M ns r => by
  obtain ⟨d, h1, h2⟩ := ha pp M0 S M ns r
  unfold nSl
  rw [bok h1, bok (hl pp M0 S M ns r), bok (hh pp M0 S M ns r)]
  unfold slN
  rw [bok h2]
  rcases ht with rfl | rfl
  · show Out.ok (NR.n .lst (cutD (xs.map enc) lo hi)) M = _; rw [cut_map]
  · show Out.ok (NR.n .lst (cutD (xs.map enc) lo hi)) M = _; rw [cut_map]
/-- list(xs) -/
theorem np_list {a : Lo → Ev D} {t : Tg} {l : List D} (ha : EV fs a t l) (ht : FC.isSeq t = true) : NP fs (nCall (op1 listN) (eAc a eA0)) .lst l := fun pp M0 S M ns r => by
  obtain ⟨d, h1, h2⟩ := ha pp M0 S M ns r
  unfold nCall eAc
  have : ((a S).bnd fun x => (eA0 S).bnd fun l => Ev.ret (x :: l)) M = .ok [d] M := by rw [bok h1]; rfl
  rw [bok this]
  show listN d M = _
  unfold listN
  rw [bok (vw_sq h2 ht)]
  rfl
/-- sum, all, any of a list -/
theorem vw_sum {xs : List Int} {d : D} {M : Store} (h : vw d M = .ok (.lst, xs.map enc) M) : sumE d M = .ok (enc xs.sum) M := by
  unfold sumE
  rw [bok h]
  dsimp only
  rw [show (xs.map enc) = xs.map D.int from rfl, intsOf_map]
  rfl
theorem vw_all {xs : List Bool} {d : D} {M : Store} (h : vw d M = .ok (.lst, xs.map enc) M) : allE d M = .ok (enc (xs.all id)) M := by
  unfold allE
  rw [bok h]
  dsimp only
  rw [show (xs.map enc) = xs.map D.bl from rfl, blsOf_map]
  rfl
theorem o_sum (xs : List Int) : sumE (enc xs) = Ev.ret (enc xs.sum) := by funext M; exact vw_sum rfl
theorem o_all (xs : List Bool) : allE (enc xs) = Ev.ret (enc (xs.all id)) := by funext M; exact vw_all rfl
theorem o_len (xs : List α) : lenE (enc xs) = Ev.ret (enc (xs.length : Int)) := by funext M; rw [vw_len (t := .lst) (l := xs.map enc) rfl rfl, List.length_map]; rfl
theorem E2 {op : D → Ev D} {f : α → γ} (h : ∀ x, op (enc x) = Ev.ret (enc (f x))) : ∀ x, OpE (op (enc x)) (.ok (f x)) := fun x => OpE.ret (h x)
/-! ### ranges -/
def rg (a b : Int) : List Int := (List.range (b - a).toNat).map fun i => a + (i : Nat)
theorem rg_map (a b : Int) : rgD a b = (rg a b).map enc := by unfold rgD rg; rw [List.map_map]; rfl
open Classical in
noncomputable def rgL (a b : Int) : E (List Int) := if RgOk a b then .ok (rg a b) else .bad
open Classical in
noncomputable def rgW (a b : Int) : E (List Int) := if RgI a b then .ok (rg a b) else .bad
theorem nl_range1 {a : Lo → Ev D} {p : m Int} (ha : EO fs a p) : NL m fs (lrN (r1E a)) (bnd p fun n => lft (rgL 0 n)) := fun pp M0 S M ns r Q X w => by
  refine Sim.bnd (Sim.bnd ((ha pp M0 S M ns r _ _ (Mo.bnd_wp w)).imp (fun d M1 ⟨n, e, w, r⟩ => ?_) (fun _ _ _ h => h)))
  subst e
  show Sim (rgN (0, n) M1) _ _
  have w := Mo.lft_wp w
  unfold rgL at w
  by_cases h : RgOk 0 n
  · rw [if_pos h] at w
    rw [rgN_ok (r := (0, n)) h]
    exact ⟨rg 0 n, by dsimp only; rw [rg_map], w, r⟩
  · rw [if_neg h] at w; exact w.elim
theorem io_range1 {a : Lo → Ev D} {p : m Int} (ha : EO fs a p) : IO (α := Int) fs (iR1 (eAc a eA0)) (bnd p fun n => lft (rgW 0 n)) := fun pp M0 S M ns r Q X w => by
  refine Sim.bnd (Sim.bnd ((ha pp M0 S M ns r _ _ (Mo.bnd_wp w)).imp (fun d M1 ⟨n, e, w, r⟩ => ?_) (fun _ _ _ h => h)))
  subst e
  show Sim (rngE 0 n M1) _ _
  have w := Mo.lft_wp w
  unfold rgW at w
  by_cases h : RgI 0 n
  · rw [if_pos h] at w
    rw [rngE_ok h]
    exact ⟨rg 0 n, none, by rw [rg_map], .inl rfl, w, r⟩
  · rw [if_neg h] at w; exact w.elim
theorem io_seq {a : Lo → Ev D} {p : m (List α)} (ha : EO fs a p) : IO fs (iSeq a) p := fun pp M0 S M ns r Q X w => by
  refine Sim.bnd ((ha pp M0 S M ns r _ _ w).imp (fun d M1 ⟨xs, e, w, r⟩ => ?_) (fun _ _ _ h => h))
  subst e
  exact ⟨xs, none, rfl, .inl rfl, w, r⟩
def enI {α : Type} (k : Nat) (xs : List α) : List (Int × α) := (xs.zipIdx k).map fun x => ((x.2 : Int), x.1)
theorem enI_map (xs : List α) : ∀ k, enD k (xs.map enc) = (enI k xs).map enc := by
  induction xs with
  | nil => intro k; rfl
  | cons x xs ih =>
    intro k
    show D.tup [.int (k : Nat), enc x] :: enD (k + 1) (xs.map enc) = _
    rw [ih]
    rfl
theorem io_enum {a : Lo → Ev D} {p : m (List α)} (ha : EO fs a p) : IO (α := Int × α) fs (iEn (eAc a eA0)) (bnd p fun xs => pur (enI 0 xs)) := fun pp M0 S M ns r Q X w => by
  refine Sim.bnd (Sim.bnd ((ha pp M0 S M ns r _ _ (Mo.bnd_wp w)).imp (fun d M1 ⟨xs, e, w, r⟩ => ?_) (fun _ _ _ h => h)))
  subst e
  refine ⟨enI 0 xs, none, ?_, .inl rfl, Mo.pur_wp w, r⟩
  show (enD 0 (xs.map enc), none) = _
  rw [enI_map]
end
end TL

set_option Elab.async false
set_option linter.all false
set_option maxRecDepth 100000
set_option maxHeartbeats 1000000
/-! TL4: statements, loops, comprehensions, calls. -/
namespace TL
open PySem L2 DL
open Mo (pur bnd lft)
open Enc (enc)
open EncL (encL)
def BP {φ : Type} (pp : List Nat) (M0 : Store) (Q : φ → Prop) (X : Str → D → Prop) (K : φ → Fl → Store → Prop) : Fl → Store → Prop := fun fl M' => match fl with
    | .xc c d _ => X c d ∧ Fram pp M0 M'
    | fl => ∃ f, Q f ∧ K f fl M'
abbrev NoX : Str → D → Store → Prop := fun _ _ _ => False
theorem Sim.fl {m : Ev D} {S : Lo} {k : D → Ev Fl} {M : Store} {P : Fl → Store → Prop} (h : Sim (m M) (fun d M' => Sim (k d M') P NoX) (fun c d M' => P (.xc c d S) M')) : Sim (m.fl S k M) P NoX := by
  unfold Ev.fl
  cases e : m M with
  | ok a M' => rw [e] at h; exact h
  | exc c d M' => rw [e] at h; exact h
  | stuck => rw [e] at h; exact h
theorem Sim.flB {m : Ev Bool} {S : Lo} {k : Bool → Ev Fl} {M : Store} {P : Fl → Store → Prop} (h : Sim (m M) (fun d M' => Sim (k d M') P NoX) (fun c d M' => P (.xc c d S) M')) : Sim (m.flB S k M) P NoX := by
  unfold Ev.flB
  cases e : m M with
  | ok a M' => rw [e] at h; exact h
  | exc c d M' => rw [e] at h; exact h
  | stuck => rw [e] at h; exact h
theorem Sim.flG {α : Type} {m : Ev α} {S : Lo} {k : α → Ev Fl} {M : Store} {P : Fl → Store → Prop} (h : Sim (m M) (fun d M' => Sim (k d M') P NoX) (fun c d M' => P (.xc c d S) M')) : Sim (m.flG S k M) P NoX := by
  unfold Ev.flG
  cases e : m M with
  | ok a M' => rw [e] at h; exact h
  | exc c d M' => rw [e] at h; exact h
  | stuck => rw [e] at h; exact h
theorem Sim.seq {f g : Lo → Ev Fl} {S : Lo} {M : Store} {P : Fl → Store → Prop} (h : Sim (f S M) (fun fl M' => match fl with
    | .nx S' => Sim (g S' M') P NoX
    | o => P o M') NoX) : Sim (sSeq f g S M) P NoX := by
  unfold sSeq
  refine Sim.bnd (h.imp (fun fl M' h => ?_) (fun _ _ _ h => h))
  cases fl <;> exact h
theorem seq_next (f : Lo → Ev Fl) : sSeq f sNext = f := by
  funext S M
  unfold sSeq Ev.bnd
  cases f S M with
  | ok fl M' => cases fl <;> rfl
  | exc c d M' => rfl
  | stuck => rfl
theorem seq_assoc (f g h : Lo → Ev Fl) : sSeq (sSeq f g) h = sSeq f (sSeq g h) := by
  funext S M
  unfold sSeq
  rw [bnd_bnd]
  unfold Ev.bnd
  cases f S M with
  | ok fl M' => cases fl <;> rfl
  | exc c d M' => rfl
  | stuck => rfl
/-! ### targets -/
def TgOk {α : Type} [Enc α] (fs : List SV) (g : D → Lo → Ev Lo) (x : α) (fs' : List SV) : Prop := ∀ pp M0 S M ns, Rel pp M0 fs S M ns → ∃ S', g (enc x) S M = .ok S' M ∧ Rel pp M0 fs' S' M ns
section
variable {m : Type → Type} [Mo m] {pp : List Nat} {M0 : Store} {fs fs' fs'' : List SV} {α β γ τ φ ρ : Type} [Enc α] [Enc β] [Enc γ] [EncL τ] [Enc ρ] {K : φ → Fl → Store → Prop}
theorem tg_nm (i : Nat) (x : α) : TgOk fs (gNm i) x (fs.set i (.val (enc x))) := fun pp M0 S M ns r => ⟨_, rfl, r.setV⟩
theorem tg_2 {ga gb : D → Lo → Ev Lo} {x : α × β} (ha : TgOk fs ga x.1 fs') (hb : TgOk fs' gb x.2 fs'') : TgOk fs (gTp 2 (gCn ga (gCn gb gNl))) x fs'' := fun pp M0 S M ns r => by
  obtain ⟨S1, h1, r1⟩ := ha pp M0 S M ns r
  obtain ⟨S2, h2, r2⟩ := hb pp M0 S1 M ns r1
  refine ⟨S2, ?_, r2⟩
  show gTp 2 (gCn ga (gCn gb gNl)) (.tup [enc x.1, enc x.2]) S M = _
  simp only [gTp, vw, Ev.bnd, Ev.ret, Out.bnd, gCn, h1, h2, gNl, List.length_cons, List.length_nil, if_pos]
theorem tg_3 {ga gb gc : D → Lo → Ev Lo} {fs3 : List SV} {x : T3 α β γ} (ha : TgOk fs ga x.a fs') (hb : TgOk fs' gb x.b fs'') (hc : TgOk fs'' gc x.c fs3) : TgOk fs (gTp 3 (gCn ga (gCn gb (gCn gc gNl)))) x fs3 := fun pp M0 S M ns r => by
  obtain ⟨S1, h1, r1⟩ := ha pp M0 S M ns r
  obtain ⟨S2, h2, r2⟩ := hb pp M0 S1 M ns r1
  obtain ⟨S3, h3, r3⟩ := hc _ M0 S2 M ns r2
  refine ⟨S3, ?_, r3⟩
  show gTp 3 (gCn ga (gCn gb (gCn gc gNl))) (.tup [enc x.a, enc x.b, enc x.c]) S M = _
  simp only [gTp, vw, Ev.bnd, Ev.ret, Out.bnd, gCn, h1, h2, h3, gNl, List.length_cons, List.length_nil, if_pos]
/-! ### statements -/
theorem Blk.of {g : Lo → Ev Fl} {p : m φ} (h : ∀ S M ns, Rel ⟨pp, []⟩ M0 fs S M ns → ∀ Q X, Mo.wp p Q X → Sim (g S M) (BP pp M0 Q X K) NoX) : Blk pp M0 fs g p K := h
theorem Blk.at_ {g : Lo → Ev Fl} {p : m φ} (h : Blk pp M0 fs g p K) {S : Lo} {M : Store} {ns : Nat → Nat} (r : Rel ⟨pp, []⟩ M0 fs S M ns) {Q : φ → Prop} {X : Str → D → Prop} (w : Mo.wp p Q X) : Sim (g S M) (BP pp M0 Q X K) NoX := h S M ns r Q X w
theorem b_last {f : Lo → Ev Fl} {p : m φ} (h : Blk pp M0 fs (sSeq f sNext) p K) : Blk pp M0 fs f p K := by rw [seq_next] at h; exact h
theorem b_assoc {f g k : Lo → Ev Fl} {p : m φ} (h : Blk pp M0 fs (sSeq f (sSeq g k)) p K) : Blk pp M0 fs (sSeq (sSeq f g) k) p K := by rw [seq_assoc]; exact h
theorem b_skip {g : Lo → Ev Fl} {p : m φ} (h : Blk pp M0 fs g p K) : Blk pp M0 fs (sSeq sNext g) p K := h
theorem b_wk {g : Lo → Ev Fl} {p : m φ} (w : Wk fs fs') (h : Blk pp M0 fs' g p K) : Blk pp M0 fs g p K := fun S M ns r => h S M ns (r.wk w)
theorem b_asg {e : Lo → Ev D} {i : Nat} {g : Lo → Ev Fl} {pe : m α} {k : α → m φ} (he : EO fs e pe) (hr : ∀ x, Blk pp M0 (fs.set i (.val (enc x))) g (k x) K) : Blk pp M0 fs (sSeq (sAsg e (gNm i)) g) (bnd pe k) K := Blk.of fun S M ns r Q X w => by
  refine Sim.seq (Sim.fl ((he _ M0 S M ns r _ _ (Mo.bnd_wp w)).imp (fun d M1 ⟨x, e, w, r⟩ => ?_) (fun c d M1 ⟨x, r⟩ => ⟨x, r.fram⟩)))
  subst e
  exact (hr x).at_ (r.setV (i := i)) w
theorem b_tgt {e : Lo → Ev D} {tg : D → Lo → Ev Lo} {g : Lo → Ev Fl} {pe : m α} {k : α → m φ} {fsT : α → List SV} (he : EO fs e pe) (ht : ∀ x, TgOk fs tg x (fsT x)) (hr : ∀ x, Blk pp M0 (fsT x) g (k x) K) : Blk pp M0 fs (sSeq (sAsg e tg) g) (bnd pe k) K := Blk.of fun S M ns r Q X w => by
  refine Sim.seq (Sim.fl ((he _ M0 S M ns r _ _ (Mo.bnd_wp w)).imp (fun d M1 ⟨x, e, w, r⟩ => ?_) (fun c d M1 ⟨x, r⟩ => ⟨x, r.fram⟩)))
  subst e
  obtain ⟨S', h1, r1⟩ := ht x _ M0 S M1 ns r
  exact Sim.bnd (Sim.ok h1 ((hr x).at_ r1 w))
theorem b_exp {e : Lo → Ev D} {g : Lo → Ev Fl} {pe : m α} {k : α → m φ} (he : EO fs e pe) (hr : ∀ x, Blk pp M0 fs g (k x) K) : Blk pp M0 fs (sSeq (sExp e) g) (bnd pe k) K := Blk.of fun S M ns r Q X w => by
  refine Sim.seq (Sim.fl ((he _ M0 S M ns r _ _ (Mo.bnd_wp w)).imp (fun d M1 ⟨x, e, w, r⟩ => ?_) (fun c d M1 ⟨x, r⟩ => ⟨x, r.fram⟩)))
  exact (hr x).at_ r w
/-- a new list of one's own -/
theorem b_cell {e : Lo → Ev NR} {i : Nat} {g : Lo → Ev Fl} {pe : m (List α)} {k : List α → m φ} (he : NL m fs e pe) (hr : ∀ x, Blk pp M0 (fs.set i (.L x)) g (k x) K) : Blk pp M0 fs (sSeq (sAsg (eCl e) (gNm i)) g) (bnd pe k) K := Blk.of fun S M ns r Q X w => by
  refine Sim.seq (Sim.fl (Sim.bnd ((he _ M0 S M ns r _ _ (Mo.bnd_wp w)).imp (fun d M1 ⟨x, e, w, r⟩ => ?_) (fun c d M1 ⟨x, r⟩ => ⟨x, r.fram⟩))))
  subst e
  refine (hr x).at_ (r.setC (i := i) (n := M1.length) (t := .lst) (l := x.map enc) (M' := M1 ++ [(.lst, x.map enc)]) (Nat.le_refl _) (by simp) (by simp) (fun k hk => List.getElem?_append_left hk)) w
theorem b_val' {e : Lo → Ev NR} {i : Nat} {g : Lo → Ev Fl} {pe : m (List α)} {k : List α → m φ} (he : NL m fs e pe) (hr : ∀ x, Blk pp M0 (fs.set i (.val (enc x))) g (k x) K) : Blk pp M0 fs (sSeq (sAsg (fun S => (e S).bnd frz) (gNm i)) g) (bnd pe k) K := b_asg (eo_lst he) hr
/-- y = x, a cell moves -/
theorem b_mv {i j : Nat} {g : Lo → Ev Fl} {p : m φ} {t : Tg} {l : List D} (h : fs[j]? = some (.lc t l)) (hij : i ≠ j) (hr : Blk pp M0 ((fs.set j .any).set i (.lc t l)) g p K) : Blk pp M0 fs (sSeq (sAsg (eVar j) (gNm i)) g) p K := Blk.of fun S M ns r Q X w => by
  have h1 : eVar j S M = .ok (.ref (ns j)) M := by unfold eVar; rw [(r.sl j _ h).1]; rfl
  exact Sim.seq (Sim.fl (Sim.ok h1 (hr.at_ (r.mv h hij) w)))
def appL {α : Type} (xs : List α) (x : α) : E (List α) := if xs.length < sizeLine then .ok (xs ++ [x]) else .bad
theorem b_app {i : Nat} {e : Lo → Ev D} {g : Lo → Ev Fl} {xs : List α} {pe : m α} {k : List α → m φ} (hi : fs[i]? = some (.L xs)) (he : EO fs e pe) (hr : ∀ x, Blk pp M0 (fs.set i (.L x)) g (k x) K) :
    Blk pp M0 fs (sSeq (sExp (eBm (cellM opAppend) (eVar i) (eAc e eA0))) g) (bnd pe fun v => bnd (lft (appL xs v)) k) K := Blk.of fun S M ns r Q X w => by
  have s := r.sl i _ hi
  have h1 : eVar i S M = .ok (.ref (ns i)) M := by unfold eVar; rw [s.1]; rfl
  have h2 : isCellL (.ref (ns i)) M = .ok () M := by unfold isCellL; simp only [s.2.2]
  refine Sim.seq (Sim.fl (Sim.bnd (Sim.ok h1 (Sim.bnd (Sim.ok h2 (Sim.bnd (Sim.bnd ((he _ M0 S M ns r _ _ (Mo.bnd_wp w)).imp (fun d M1 ⟨x, e, w, r⟩ => ?_) (fun c d M1 ⟨x, r⟩ => ⟨x, r.fram⟩)))))))))
  subst e
  have s := r.sl i _ hi
  have w := Mo.lft_wp (Mo.bnd_wp w)
  unfold appL at w
  by_cases hl : xs.length < sizeLine
  · rw [if_pos hl] at w
    have h3 : cellM opAppend (.ref (ns i)) [enc x] M1 = .ok .non (M1.set (ns i) (.lst, xs.map enc ++ [enc x])) := by
      have : opAppend (xs.map enc) [enc x] = some (.non, xs.map enc ++ [enc x]) := by unfold opAppend; exact if_pos (by simpa using hl)
      simp only [cellM, s.2.2, this]
    refine Sim.bnd (Sim.ok (a := []) (M := M1) rfl ?_)
    show Sim (cellM opAppend (.ref (ns i)) [enc x] M1) _ _
    refine Sim.ok h3 ?_
    have r2 := r.wr (t' := .lst) (l' := (xs ++ [x]).map enc) rfl hi
    rw [List.map_append] at r2
    refine (hr (xs ++ [x])).at_ (ns := ns) ?_ w
    show Rel ⟨pp, []⟩ M0 (fs.set i (.lc .lst ((xs ++ [x]).map enc))) S _ ns
    rw [List.map_append]
    exact r2
  · rw [if_neg hl] at w; exact w.elim
def setL {α : Type} (xs : List α) (i : Int) (x : α) : E (List α) := match ixN xs.length i with
  | some j => .ok (xs.set j x)
  | none => .bad
/-! ### ends -/
theorem b_bad {p : m φ} (h : ∀ Q X, Mo.wp p Q X → False) {g : Lo → Ev Fl} : Blk pp M0 fs g p K := fun S M ns r Q X w => (h Q X w).elim
theorem bad_wp {α : Type} : ∀ (Q : α → Prop) (X : Str → D → Prop), Mo.wp (m := m) (lft (E.bad : E α)) Q X → False := fun _ _ w => Mo.lft_wp w
def KRet {ρ : Type} [Enc ρ] (cc : Bool) (pp : List Nat) (M0 : Store) (K : φ → Fl → Store → Prop) (inj : ρ → φ) : Prop := ∀ r d M', Res cc pp M0 r d M' → K (inj r) (.rt d) M'
theorem kr_t {cc : Bool} : KRet (ρ := ρ) cc pp M0 (KT cc pp M0) id := fun r d M' h => h
theorem kr_f {cc : Bool} {fsL : β → List SV} : KRet (ρ := ρ) cc pp M0 (KF cc pp M0 fsL) Fw.rt := fun r d M' h => h
theorem b_ret {cc : Bool} {e : Lo → Ev D} {pe : m ρ} {inj : ρ → φ} (hk : KRet cc pp M0 K inj) (hc : cc = false) (he : EO fs e pe) : Blk pp M0 fs (sRet e) (bnd pe fun v => pur (inj v)) K := Blk.of fun S M ns r Q X w => by
  refine Sim.fl ((he _ M0 S M ns r _ _ (Mo.bnd_wp w)).imp (fun d M1 ⟨x, e, w, r⟩ => ?_) (fun c d M1 ⟨x, r⟩ => ⟨x, r.fram⟩))
  subst e
  exact ⟨inj x, Mo.pur_wp w, hk x _ _ ⟨r.fram, fz_id _ _ _ _ (Enc.nr x _), fun h => by rw [hc] at h; cases h⟩⟩
theorem b_retS {cc : Bool} {e : Lo → Ev D} {g : Lo → Ev Fl} {pe : m ρ} {inj : ρ → φ} (hk : KRet cc pp M0 K inj) (hc : cc = false) (he : EO fs e pe) : Blk pp M0 fs (sSeq (sRet e) g) (bnd pe fun v => pur (inj v)) K := Blk.of fun S M ns r Q X w => by
  refine Sim.seq (Sim.fl ((he _ M0 S M ns r _ _ (Mo.bnd_wp w)).imp (fun d M1 ⟨x, e, w, r⟩ => ?_) (fun c d M1 ⟨x, r⟩ => ⟨x, r.fram⟩)))
  subst e
  exact ⟨inj x, Mo.pur_wp w, hk x _ _ ⟨r.fram, fz_id _ _ _ _ (Enc.nr x _), fun h => by rw [hc] at h; cases h⟩⟩
theorem fz_cell {M : Store} {n c k : Nat} {t : Tg} {l : List D} (hn : n ≤ c) (h : M[c]? = some (t, l)) (hl : rlts n l = true) : fz M n (k + 1) (.ref c) = some (.nd t l) := by
  rw [fz]
  simp only [h, fzs_id M n k l hl, Option.map_some]
  rw [if_neg (by omega)]
theorem b_retC {cc : Bool} (i : Nat) {xs : List α} {inj : List α → φ} (hk : KRet cc pp M0 K inj) (hi : fs[i]? = some (.L xs)) : Blk (m := m) pp M0 fs (sRet (eVar i)) (pur (inj xs)) K := Blk.of fun S M ns r Q X w => by
  have s := r.sl i _ hi
  have h1 : eVar i S M = .ok (.ref (ns i)) M := by unfold eVar; rw [s.1]; rfl
  exact Sim.fl (Sim.ok h1 ⟨inj xs, Mo.pur_wp w, hk xs _ _ ⟨r.fram, fz_cell s.2.1 s.2.2 (nrs _ _), fun _ => ⟨ns i, .lst, xs.map enc, rfl, s.2.1, s.2.2, rfl⟩⟩⟩)
theorem b_retL {cc : Bool} {e : Lo → Ev NR} {pe : m (List α)} {inj : List α → φ} (hk : KRet cc pp M0 K inj) (he : NL m fs e pe) : Blk pp M0 fs (sRet (eCl e)) (bnd pe fun v => pur (inj v)) K := Blk.of fun S M ns r Q X w => by
  refine Sim.fl (Sim.bnd ((he _ M0 S M ns r _ _ (Mo.bnd_wp w)).imp (fun d M1 ⟨x, e, w, r⟩ => ?_) (fun c d M1 ⟨x, r⟩ => ⟨x, r.fram⟩)))
  subst e
  have g : (M1 ++ [(Tg.lst, x.map enc)])[M1.length]? = some (.lst, x.map enc) := by simp
  have r2 := r.store (M' := M1 ++ [(.lst, x.map enc)]) (by simp) (fun k hk => List.getElem?_append_left hk)
  exact ⟨inj x, Mo.pur_wp w, hk x _ _ ⟨r2.fram, fz_cell r.le g (nrs _ _), fun _ => ⟨_, .lst, x.map enc, rfl, r.le, g, rfl⟩⟩⟩
theorem b_end {fsL : β → List SV} (b : β) (w : Wk fs (fsL b)) : Blk (m := m) pp M0 fs sNext (pur b) (KN pp M0 fsL) := Blk.of fun S M ns r Q X h => ⟨b, Mo.pur_wp h, ns, r.wk w⟩
theorem b_endF {cc : Bool} {fsL : β → List SV} (b : β) (w : Wk fs (fsL b)) : Blk (m := m) pp M0 fs sNext (pur (Fw.nx b)) (KF (ρ := ρ) cc pp M0 fsL) := Blk.of fun S M ns r Q X h => ⟨_, Mo.pur_wp h, ns, r.wk w⟩
theorem b_endT {cc : Bool} (hc : cc = false) : Blk (m := m) pp M0 fs sNext (pur ()) (KT cc pp M0) := Blk.of fun S M ns r Q X h => ⟨(), Mo.pur_wp h, r.fram, fz_id _ _ _ _ rfl, fun z => by rw [hc] at z; cases z⟩
/-! ### if -/
theorem b_if {c : Lo → Ev Bool} {f g : Lo → Ev Fl} {pc : m Bool} {pf pg : m φ} (hc : TO fs c pc) (hf : Blk pp M0 fs f pf K) (hg : Blk pp M0 fs g pg K) : Blk pp M0 fs (sIf c f g) (bnd pc fun b => if b = true then pf else pg) K := Blk.of fun S M ns r Q X w => by
  refine Sim.flB ((hc _ M0 S M ns r _ _ (Mo.bnd_wp w)).imp (fun b M1 ⟨w, r⟩ => ?_) (fun c d M1 ⟨x, r⟩ => ⟨x, r.fram⟩))
  cases b
  · exact hg.at_ r w
  · exact hf.at_ r w
theorem b_ifD {c : Lo → Ev Bool} {f g h : Lo → Ev Fl} {pc : m Bool} {pf pg : m φ} (hc : TO fs c pc) (hf : Blk pp M0 fs (sSeq f h) pf K) (hg : Blk pp M0 fs (sSeq g h) pg K) : Blk pp M0 fs (sSeq (sIf c f g) h) (bnd pc fun b => if b = true then pf else pg) K := by
  have : sSeq (sIf c f g) h = sIf c (sSeq f h) (sSeq g h) := by
    funext S M
    have e1 : sSeq (sIf c f g) h S M = (sIf c f g S M).bnd fun fl => match fl with
      | .nx S' => h S'
      | o => Ev.ret o := rfl
    rw [e1]
    unfold sIf Ev.flB
    cases q : c S M with
    | ok b M' => cases b <;> rfl
    | exc c d M' => rfl
    | stuck => rfl
  rw [this]
  exact b_if hc hf hg
/-! ### loops -/
def forM {m : Type → Type} [Mo m] {α β : Type} (st : β → α → m β) : List α → β → m β
  | [], b => pur b
  | x :: xs, b => bnd (st b x) fun b' => forM st xs b'
def forF {m : Type → Type} [Mo m] {α β ρ : Type} (st : β → α → m (Fw β ρ)) : List α → β → m (β ⊕ ρ)
  | [], b => pur (.inl b)
  | x :: xs, b => bnd (st b x) fun w => match w with
    | .nx b' => forF st xs b'
    | .ct b' => forF st xs b'
    | .bk b' => pur (.inl b')
    | .rt r => pur (.inr r)
def outF {m : Type → Type} {β ρ φ : Type} (k : β → m φ) (j : ρ → m φ) : β ⊕ ρ → m φ
  | .inl b => k b
  | .inr r => j r
theorem b_for {it : Lo → Ev (List D × Gd)} {tg : D → Lo → Ev Lo} {body g : Lo → Ev Fl} {px : m (List α)} {st : β → α → m β} {k : β → m φ} {b0 : β} {fsL : β → List SV} {fsT : β → α → List SV} (hi : IO fs it px) (hw : Wk fs (fsL b0)) (ht : ∀ b x, TgOk (fsL b) tg x (fsT b x))
    (hb : ∀ b x, Blk pp M0 (fsT b x) body (st b x) (KN pp M0 fsL)) (hr : ∀ b, Blk pp M0 (fsL b) g (k b) K) : Blk pp M0 fs (sSeq (sFor it tg body) g) (bnd px fun xs => bnd (forM st xs b0) k) K := Blk.of fun S M ns r Q X w => by
  refine Sim.seq (Sim.flG ((hi _ M0 S M ns r _ _ (Mo.bnd_wp w)).imp (fun d M1 ⟨xs, gd, e, hgd, w, r⟩ => ?_) (fun c d M1 ⟨x, r⟩ => ⟨x, r.fram⟩)))
  subst e
  have w := Mo.bnd_wp w
  show Sim (forL tg body gd (xs.map enc) S M1) _ NoX
  have gen : ∀ (xs : List α) (b : β) (S : Lo) (M : Store) (ns : Nat → Nat), Rel ⟨pp, []⟩ M0 (fsL b) S M ns → Mo.wp (forM st xs b) (fun a => Mo.wp (k a) Q X) X → Sim (forL tg body gd (xs.map enc) S M) (fun fl M' => match fl with
    | .nx S' => Sim (g S' M') (BP pp M0 Q X K) NoX
    | o => BP pp M0 Q X K o M') NoX := by
    intro xs
    induction xs with
    | nil =>
      intro b S M ns r w
      rw [List.map_nil, forL, chk_ok (hgd.grd r)]
      have w : Mo.wp (k b) Q X := Mo.pur_wp (Q := fun a => Mo.wp (k a) Q X) w
      exact (hr b).at_ r w
    | cons x xs ih =>
      intro b S M ns r w
      rw [List.map_cons, forL, chk_ok (hgd.grd r)]
      have w := Mo.bnd_wp w
      obtain ⟨S', h1, r1⟩ := ht b x _ M0 S M ns r
      refine Sim.bnd (Sim.ok h1 (Sim.bnd (((hb b x).at_ r1 w).imp (fun fl M2 h => ?_) (fun _ _ _ h => h))))
      cases fl with
      | nx S' => obtain ⟨b', w, ns', r'⟩ := h; exact ih b' S' M2 ns' r' w
      | xc c d S' => exact h
      | rt d => obtain ⟨b, w, z⟩ := h; exact z.elim
      | bk S' => obtain ⟨b, w, z⟩ := h; exact z.elim
      | ct S' => obtain ⟨b, w, z⟩ := h; exact z.elim
  exact gen xs b0 S M1 ns (r.wk hw) w
theorem b_forF {cc : Bool} {it : Lo → Ev (List D × Gd)} {tg : D → Lo → Ev Lo} {body g : Lo → Ev Fl} {px : m (List α)} {st : β → α → m (Fw β ρ)} {k : β → m φ} {inj : ρ → φ} {b0 : β} {fsL : β → List SV} {fsT : β → α → List SV} (hk : KRet cc pp M0 K inj) (hi : IO fs it px) (hw : Wk fs (fsL b0)) (ht : ∀ b x, TgOk (fsL b) tg x (fsT b x))
    (hb : ∀ b x, Blk pp M0 (fsT b x) body (st b x) (KF cc pp M0 fsL)) (hr : ∀ b, Blk pp M0 (fsL b) g (k b) K) : Blk pp M0 fs (sSeq (sFor it tg body) g) (bnd px fun xs => bnd (forF st xs b0) (outF k fun r => pur (inj r))) K := Blk.of fun S M ns r Q X w => by
  refine Sim.seq (Sim.flG ((hi _ M0 S M ns r _ _ (Mo.bnd_wp w)).imp (fun d M1 ⟨xs, gd, e, hgd, w, r⟩ => ?_) (fun c d M1 ⟨x, r⟩ => ⟨x, r.fram⟩)))
  subst e
  have w := Mo.bnd_wp w
  show Sim (forL tg body gd (xs.map enc) S M1) _ NoX
  have gen : ∀ (xs : List α) (b : β) (S : Lo) (M : Store) (ns : Nat → Nat), Rel ⟨pp, []⟩ M0 (fsL b) S M ns → Mo.wp (forF st xs b) (fun o => Mo.wp (outF k (fun r => pur (inj r)) o) Q X) X → Sim (forL tg body gd (xs.map enc) S M) (fun fl M' => match fl with
    | .nx S' => Sim (g S' M') (BP pp M0 Q X K) NoX
    | o => BP pp M0 Q X K o M') NoX := by
    intro xs
    induction xs with
    | nil =>
      intro b S M ns r w
      rw [List.map_nil, forL, chk_ok (hgd.grd r)]
      have w : Mo.wp (k b) Q X := Mo.pur_wp (a := Sum.inl b) (Q := fun o => Mo.wp (outF k (fun r => pur (inj r)) o) Q X) w
      exact (hr b).at_ r w
    | cons x xs ih =>
      intro b S M ns r w
      rw [List.map_cons, forL, chk_ok (hgd.grd r)]
      have w := Mo.bnd_wp w
      obtain ⟨S', h1, r1⟩ := ht b x _ M0 S M ns r
      refine Sim.bnd (Sim.ok h1 (Sim.bnd (((hb b x).at_ r1 w).imp (fun fl M2 h => ?_) (fun _ _ _ h => h))))
      cases fl with
      | nx S' =>
        obtain ⟨o, w, z⟩ := h
        cases o <;> first | exact z.elim | skip
        obtain ⟨ns', r'⟩ := z
        exact ih _ S' M2 ns' r' w
      | xc c d S' => exact h
      | rt d =>
        obtain ⟨o, w, z⟩ := h
        cases o <;> first | exact z.elim | skip
        rename_i rr
        have w : Mo.wp (m := m) (pur (inj rr)) Q X := Mo.pur_wp (a := Sum.inr rr) (Q := fun o => Mo.wp (outF k (fun r => pur (inj r)) o) Q X) w
        exact ⟨_, Mo.pur_wp w, hk _ _ _ z⟩
      | bk S' =>
        obtain ⟨o, w, z⟩ := h
        cases o <;> first | exact z.elim | skip
        obtain ⟨ns', r'⟩ := z
        rename_i bb
        have w : Mo.wp (k bb) Q X := Mo.pur_wp (a := Sum.inl bb) (Q := fun o => Mo.wp (outF k (fun r => pur (inj r)) o) Q X) w
        exact (hr _).at_ r' w
      | ct S' =>
        obtain ⟨o, w, z⟩ := h
        cases o <;> first | exact z.elim | skip
        obtain ⟨ns', r'⟩ := z
        exact ih _ S' M2 ns' r' w
  exact gen xs b0 S M1 ns (r.wk hw) w
def whileM {m : Type → Type} [Mo m] {β : Type} (c : β → m Bool) (st : β → m β) : Nat → β → m β
  | 0, _ => lft .bad
  | n + 1, b => bnd (c b) fun z => if z = true then bnd (st b) fun b' => whileM c st n b' else pur b
theorem b_while {n : Nat} {c : Lo → Ev Bool} {body g : Lo → Ev Fl} {pc : β → m Bool} {st : β → m β} {k : β → m φ} {b0 : β} {fsL : β → List SV} (hw : Wk fs (fsL b0)) (hc : ∀ b, TO (fsL b) c (pc b)) (hb : ∀ b, Blk pp M0 (fsL b) body (st b) (KN pp M0 fsL)) (hr : ∀ b, Blk pp M0 (fsL b) g (k b) K) :
    Blk pp M0 fs (sSeq (whileL c body n) g) (bnd (whileM pc st n b0) k) K := Blk.of fun S M ns r Q X w => by
  have w := Mo.bnd_wp w
  refine Sim.seq ?_
  have gen : ∀ (n : Nat) (b : β) (S : Lo) (M : Store) (ns : Nat → Nat), Rel ⟨pp, []⟩ M0 (fsL b) S M ns → Mo.wp (whileM pc st n b) (fun a => Mo.wp (k a) Q X) X → Sim (whileL c body n S M) (fun fl M' => match fl with
    | .nx S' => Sim (g S' M') (BP pp M0 Q X K) NoX
    | o => BP pp M0 Q X K o M') NoX := by
    intro n
    induction n with
    | zero => intro b S M ns r w; exact (Mo.lft_wp w).elim
    | succ n ih =>
      intro b S M ns r w
      refine Sim.flB ((hc b _ M0 S M ns r _ _ (Mo.bnd_wp w)).imp (fun z M1 ⟨w, r⟩ => ?_) (fun c d M1 ⟨x, r⟩ => ⟨x, r.fram⟩))
      cases z with
      | false =>
        have w : Mo.wp (k b) Q X := Mo.pur_wp (Q := fun a => Mo.wp (k a) Q X) w
        exact (hr b).at_ r w
      | true =>
        rw [if_pos rfl] at w ⊢
        refine Sim.bnd (((hb b).at_ r (Mo.bnd_wp w)).imp (fun fl M2 h => ?_) (fun _ _ _ h => h))
        cases fl with
        | nx S' => obtain ⟨b', w, ns', r'⟩ := h; exact ih b' S' M2 ns' r' w
        | xc c d S' => exact h
        | rt d => obtain ⟨b, w, z⟩ := h; exact z.elim
        | bk S' => obtain ⟨b, w, z⟩ := h; exact z.elim
        | ct S' => obtain ⟨b, w, z⟩ := h; exact z.elim
  exact gen n b0 S M ns (r.wk hw) w
end
end TL

set_option Elab.async false
set_option linter.all false
set_option maxRecDepth 100000
set_option maxHeartbeats 1000000
/-! TL5: comprehensions, calls, objects, pools. -/
namespace TL
open PySem L2 DL
open Mo (pur bnd lft)
open Enc (enc)
open EncL (encL)
/-! ### frames -/
theorem wk_n : Wk [] [] := trivial
theorem wk_a {a : SV} {as bs : List SV} (h : Wk as bs) : Wk (a :: as) (.any :: bs) := ⟨.inl rfl, h⟩
theorem wk_s {a : SV} {as bs : List SV} (h : Wk as bs) : Wk (a :: as) (a :: bs) := ⟨.inr rfl, h⟩
def Cin : List SV → List SV → Prop
  | [], [] => True
  | a :: as, b :: bs => (a.cell = false ∨ b = a) ∧ Cin as bs
  | _, _ => False
theorem ci_n : Cin [] [] := trivial
theorem ci_v {a b : SV} {as bs : List SV} (h : Cin as bs) (ha : a.cell = false := by rfl) : Cin (a :: as) (b :: bs) := ⟨.inl ha, h⟩
theorem ci_s {a : SV} {as bs : List SV} (h : Cin as bs) : Cin (a :: as) (a :: bs) := ⟨.inr rfl, h⟩
theorem Cin.get : ∀ {fs fs' : List SV} {i : Nat} {v : SV}, Cin fs fs' → fs[i]? = some v → v.cell = true → fs'[i]? = some v
  | [], [], _, _, _, h, _ => by simp at h
  | a :: as, b :: bs, 0, v, w, h, c => by
    simp at h; subst h
    rcases w.1 with e | e
    · rw [e] at c; cases c
    · simp [e]
  | a :: as, b :: bs, i + 1, v, w, h, c => by
    have := Cin.get (i := i) w.2 (by simpa using h) c
    simpa using this
section
variable {pp : PX} {M0 M M' : Store} {fs fs' fs2 : List SV} {S S2 : Lo} {ns : Nat → Nat} {i j n : Nat} {t : Tg} {l : List D} {d : D}
theorem Rel.back (r : Rel pp M0 fs S M ns) (r2 : Rel pp M0 fs2 S2 M' ns) (c : ∀ (i : Nat) (v : SV), fs[i]? = some v → v.cell = true → fs2[i]? = some v) : Rel pp M0 fs S M' ns := by
  refine ⟨r.len, r2.le, r2.fr, r2.pl, r2.cg, fun i v h => ?_, r.dj⟩
  have s := r.sl i v h
  cases v with
  | any => trivial
  | val d => exact s
  | lc t l => exact ⟨s.1, s.2.1, (r2.sl i _ (c i _ h rfl)).2.2⟩
  | lpl => exact ⟨s.1, s.2.1, (r2.sl i _ (c i _ h rfl)).2.2⟩
  | par n => exact s
  | pin n t l => exact ⟨s.1, s.2.1, s.2.2.1, (r2.sl i _ (c i _ h rfl)).2.2.2⟩
  | ro n t l => exact s
  | tc w l q => exact ⟨s.1, s.2.1, (r2.sl i _ (c i _ h rfl)).2.2⟩
theorem Rel.setA {o : Option D} (r : Rel pp M0 fs S M ns) : Rel pp M0 (fs.set i .any) (S.set i o) M ns := by
  refine ⟨by simp [r.len], r.le, r.fr, r.pl, r.cg, fun j v h => ?_, fun j k u v hn hu hv cu cv => ?_⟩
  · rcases get_set h with ⟨rfl, rfl, hl⟩ | ⟨hn, h⟩
    · trivial
    · have s := r.sl j v h
      have e : (S.set i o)[j]? = S[j]? := List.getElem?_set_ne hn
      cases v <;> first | trivial | (unfold SlotOk at s ⊢; rw [e]; exact s)
  · rcases get_set hu with ⟨_, rfl, _⟩ | ⟨_, hu⟩
    · cases cu
    · rcases get_set hv with ⟨_, rfl, _⟩ | ⟨_, hv⟩
      · cases cv
      · exact r.dj j k u v hn hu hv cu cv
def wipeF (fs : List SV) : List Nat → List SV
  | [] => fs
  | v :: vs => (wipeF fs vs).set v .any
theorem Rel.wipe (r : Rel pp M0 fs S M ns) : ∀ vs, Rel pp M0 (wipeF fs vs) (wipeD S vs) M ns
  | [] => r
  | v :: vs => (r.wipe vs).setA
end
/-! ### comprehensions -/
def nox {m : Type → Type} [Mo m] {α : Type} (x : m α) : m α := Mo.tr x (fun _ _ => lft .bad)
def compM {m : Type → Type} [Mo m] {α β : Type} (c : α → m Bool) (f : α → m β) : List α → m (List β)
  | [] => pur []
  | x :: xs => bnd (nox (c x)) fun b => if b = true then bnd (nox (f x)) fun y => bnd (compM c f xs) fun ys => pur (y :: ys) else compM c f xs
def szL {α : Type} (xs : List α) : E Unit := if xs.length ≤ sizeLine then .ok () else .bad
def lcM {m : Type → Type} [Mo m] {α β : Type} (xs : List α) (c : α → m Bool) (f : α → m β) : m (List β) := bnd (lft (szL xs)) fun _ => compM c f xs
theorem Sim.nox {α : Type} {m : Ev α} {M : Store} {k : α → Store → Prop} {x : Str → D → Store → Prop} (h : Sim (m M) k NoX) : Sim (Ev.nox m M) k x := by
  unfold Ev.nox
  cases e : m M with
  | ok a M' => rw [e] at h; exact h
  | exc c d M' => rw [e] at h; exact h.elim
  | stuck => rw [e] at h; exact h.elim
section
variable {m : Type → Type} [Mo m] {pp : List Nat} {M0 : Store} {fs fs' fs'' : List SV} {α β γ τ φ ρ : Type} [Enc α] [Enc β] [Enc γ] [EncL τ] [Enc ρ] {K : φ → Fl → Store → Prop}
theorem nox_wp {x : m α} {Q : α → Prop} {X : Str → D → Prop} (w : Mo.wp (nox x) Q X) : Mo.wp x Q (fun c d => Mo.wp (m := m) (α := α) (lft E.bad) Q X) := Mo.tr_wp w
theorem nox_wpB {x : m Bool} {Q : Bool → Prop} {X : Str → D → Prop} (w : Mo.wp (nox x) Q X) : Mo.wp x Q (fun c d => Mo.wp (m := m) (α := Bool) (lft E.bad) Q X) := Mo.tr_wp w
theorem nl_lc {it : Lo → Ev (List D × Gd)} {tg : D → Lo → Ev Lo} {tt : Lo → Ev Bool} {te : Lo → Ev D} {vs : List Nat} {px : m (List α)} {c : α → m Bool} {f : α → m β} {fsT : α → List SV} (hi : IO fs it px) (ht : ∀ x, TgOk (wipeF fs vs) tg x (fsT x)) (hc : ∀ x, TO (fsT x) tt (c x)) (hf : ∀ x, EO (fsT x) te (f x)) (hC : ∀ x, Cin fs (fsT x)) :
    NL m fs (nLc it tg tt te vs) (bnd px fun xs => lcM xs c f) := fun pp M0 S M ns r Q X w => by
  refine Sim.bnd ((hi pp M0 S M ns r _ _ (Mo.bnd_wp w)).imp (fun d M1 ⟨xs, gd, e, hgd, w, r⟩ => ?_) (fun _ _ _ h => h))
  subst e
  have w := Mo.lft_wp (Mo.bnd_wp w)
  unfold szL at w
  by_cases hl : xs.length ≤ sizeLine
  · rw [if_pos hl] at w
    have w : Mo.wp (compM c f xs) Q X := w
    show Sim ((if (xs.map enc).length ≤ sizeLine then _ else Ev.no) M1) _ _
    rw [if_pos (by simpa using hl)]
    have gen : ∀ (xs : List α) (M : Store) (Q : List β → Prop), Rel pp M0 fs S M ns → Mo.wp (compM c f xs) Q X → Sim (compL tg tt te gd (wipeD S vs) (xs.map enc) M) (fun ys M' => ∃ v : List β, ys = v.map enc ∧ Q v ∧ Rel pp M0 fs S M' ns) NoX := by
      intro xs
      induction xs with
      | nil =>
        intro M Q r w
        rw [List.map_nil, compL, chk_ok (hgd.grd r)]
        exact ⟨[], rfl, Mo.pur_wp w, r⟩
      | cons x xs ih =>
        intro M Q r w
        rw [List.map_cons, compL, chk_ok (hgd.grd r)]
        have w := nox_wpB (Mo.bnd_wp w)
        obtain ⟨S1, h1, r1⟩ := ht x pp M0 _ M ns (r.wipe vs)
        refine Sim.bnd (Sim.ok (nox_ok h1) (Sim.bnd (Sim.nox (((hc x) pp M0 S1 M ns r1 _ _ w).imp (fun z M1 ⟨w, r1⟩ => ?_) (fun c d M1 ⟨x, r⟩ => Mo.lft_wp x)))))
        have r0 := r.back r1 (fun i v h hv => (hC x).get h hv)
        cases z with
        | false =>
          rw [if_neg (by decide)] at w ⊢
          exact ih M1 Q r0 w
        | true =>
          rw [if_pos rfl] at w ⊢
          have w := nox_wp (Mo.bnd_wp w)
          refine Sim.bnd (Sim.nox (((hf x) pp M0 S1 M1 ns r1 _ _ w).imp (fun z M2 ⟨y, e, w, r1⟩ => ?_) (fun c d M1 ⟨x, r⟩ => Mo.lft_wp x)))
          subst e
          have r0 := r.back r1 (fun i v h hv => (hC x).get h hv)
          refine Sim.bnd ((ih M2 _ r0 (Mo.bnd_wp w)).imp (fun ys M3 ⟨v, e, w, r0⟩ => ?_) (fun _ _ _ h => h))
          subst e
          exact ⟨y :: v, rfl, Mo.pur_wp w, r0⟩
    refine Sim.bnd ((gen xs M1 Q r w).imp (fun ys M3 ⟨v, e, w, r0⟩ => ?_) (fun _ _ _ h => h.elim))
    subst e
    exact ⟨v, rfl, w, r0⟩
  · rw [if_neg hl] at w; exact w.elim
theorem to_yes : TO (m := m) fs tYesD (pur true) := fun pp M0 S M ns r Q X w => ⟨Mo.pur_wp w, r⟩
/-! ### calls -/
mutual
theorem fz_base' {M : Store} {n n0 : Nat} (hn : n0 ≤ n) (k : Nat) (d d' : D) (h : fz M n k d = some d') (hr : rlt n0 d' = true) (h0 : ∀ j, rlt j d' = true) : fz M n0 k d = some d' := by
  cases d with
  | ref c =>
    unfold fz at h
    by_cases hc : c < n
    · rw [if_pos hc] at h
      cases h
      have := h0 0
      simp [rlt] at this
    · rw [if_neg hc] at h
      unfold fz
      rw [if_neg (by omega)]
      cases k with
      | zero => cases h
      | succ k =>
        dsimp only at h ⊢
        cases q : M[c]? with
        | none => rw [q] at h; cases h
        | some tl =>
          obtain ⟨t, l⟩ := tl
          rw [q] at h
          dsimp only at h ⊢
          cases q2 : fzs M n k l with
          | none => rw [q2] at h; cases h
          | some l' =>
            rw [q2] at h
            cases h
            rw [fzs_base' hn k l l' q2 (fun j => by have := h0 j; simpa [rlt] using this)]
            rfl
  | nd t l =>
    unfold fz at h ⊢
    cases q2 : fzs M n k l with
    | none => rw [q2] at h; cases h
    | some l' =>
      rw [q2] at h
      cases h
      rw [fzs_base' hn k l l' q2 (fun j => by have := h0 j; simpa [rlt] using this)]
      rfl
  | _ => unfold fz at h ⊢; exact h
  termination_by (k, sizeOf d)
theorem fzs_base' {M : Store} {n n0 : Nat} (hn : n0 ≤ n) (k : Nat) (l l' : List D) (h : fzs M n k l = some l') (h0 : ∀ j, rlts j l' = true) : fzs M n0 k l = some l' := by
  cases l with
  | nil => rw [fzs] at h ⊢; exact h
  | cons d l =>
    rw [fzs] at h ⊢
    cases q1 : fz M n k d with
    | none => rw [q1] at h; cases h
    | some a =>
      cases q2 : fzs M n k l with
      | none => rw [q1, q2] at h; cases h
      | some b =>
        rw [q1, q2] at h
        cases h
        have ha : ∀ j, rlt j a = true := fun j => by have := h0 j; simp [rlts] at this; exact this.1
        have hb : ∀ j, rlts j b = true := fun j => by have := h0 j; simp [rlts] at this; exact this.2
        rw [fz_base' hn k d a q1 (ha n0) ha, fzs_base' hn k l b q2 hb]
  termination_by (k, sizeOf l)
end
theorem Rel.call {pp : PX} {M0 M M' : Store} {S : Lo} {ns : Nat → Nat} (r : Rel pp M0 fs S M ns) (f : Fram [] M M') : Rel pp M0 fs S M' ns := r.store f.le fun k hk => f.fr k hk (by simp)
theorem Rel.callP {pp : PX} {M0 M M' : Store} {S : Lo} {ns : Nat → Nat} {i : Nat} {v : SV} (r : Rel pp M0 fs S M ns) (hv : fs[i]? = some v) (hp : v = .lpl ∨ ∃ n, v = .par n) (f : Fram [ns i] M M') : Rel pp M0 fs S M' ns :=
  r.storeP hv hp f.le (fun k hk hn => f.fr k hk (by simpa using hn)) (f.pl _ (by simp))
theorem Rel.re {pp : PX} {M0 M : Store} {S : Lo} {ns : Nat → Nat} (r : Rel pp M0 fs S M ns) {mr : Store} (h : Chg mr M) : Rel ⟨pp.pl, mr⟩ M0 fs S M ns := ⟨r.len, r.le, r.fr, r.pl, h, fun i v hv => by
  have := r.sl i v hv
  cases v <;> exact this, r.dj⟩
theorem Rel.cut {pp : PX} {M0 M M' : Store} {S : Lo} {ns : Nat → Nat} (r : Rel pp M0 fs S M ns) (r2 : Rel ⟨pp.pl, M⟩ M0 fs S M' ns) : Rel pp M0 fs S (M'.take M.length) ns := by
  have lt : (M'.take M.length).length = M.length := by rw [List.length_take]; have := r2.cg.le; dsimp only at this; omega
  refine ⟨r.len, by rw [lt]; exact r.le, fun k h1 h2 => ?_, fun n hn => ?_, ?_, fun i v hv => ?_, r.dj⟩
  · rw [List.getElem?_take_of_lt (Nat.lt_of_lt_of_le h1 r.le)]; exact r2.fr k h1 h2
  · have a := r.pl n hn
    exact ⟨a.1, (r2.pl n hn).2.same (List.getElem?_take_of_lt a.2.lt)⟩
  · refine r.cg.trans ⟨by omega, fun k hk => ?_⟩
    rcases r2.cg.same k hk with e | e
    · exact .inl (by rw [List.getElem?_take_of_lt hk]; exact e)
    · exact .inr (e.same (List.getElem?_take_of_lt hk))
  · have s := r.sl i v hv
    have s2 := r2.sl i v hv
    cases v with
    | any => trivial
    | val d => exact s
    | lc t l => exact ⟨s.1, s.2.1, by rw [List.getElem?_take_of_lt (s.lt r rfl)]; exact s2.2.2⟩
    | lpl => exact ⟨s.1, s.2.1, s2.2.2.same (List.getElem?_take_of_lt (s.lt r rfl))⟩
    | par n => exact s
    | pin n t l => exact ⟨s.1, s.2.1, s.2.2.1, by rw [List.getElem?_take_of_lt (by have := s.lt r rfl; rw [s.2.1] at this; exact this)]; exact s2.2.2.2⟩
    | ro n t l => exact s
    | tc w l q => exact ⟨s.1, s.2.1, by rw [List.getElem?_take_of_lt (s.lt r rfl)]; exact s2.2.2⟩
theorem Chg.kept {M M' : Store} (h : Chg M M') : Kept M M' := ⟨h.le, fun i c hi hc => by
  rcases h.same i hi with e | ⟨c', h1, a, b, e, _⟩
  · exact .inl (by rw [← e]; exact hc)
  · rw [h1] at hc
    cases hc
    right
    rw [e]
    rfl⟩
/-- freezing what a whole piece gave -/
theorem sim_fz {cc : Bool} {pp : PX} {M0 M : Store} {S : Lo} {ns : Nat → Nat} {f : Ev D} {Q : ρ → Prop} {X : Str → D → Prop} (r : Rel pp M0 fs S M ns) (h : Sim (f M) (fun d M' => ∃ M1 q v, Q v ∧ Res cc q M1 v d M' ∧ M.length ≤ M1.length ∧ Rel ⟨pp.pl, M⟩ M0 fs S M' ns) (fun c d M' => X c d ∧ Rel ⟨pp.pl, M⟩ M0 fs S M' ns)) :
    Sim (fzE f M) (fun d M' => ∃ v, d = enc v ∧ Q v ∧ Rel pp M0 fs S M' ns) (fun c d M' => X c d ∧ Rel pp M0 fs S M' ns) := by
  cases e : f M with
  | ok d M' =>
    rw [e] at h
    obtain ⟨M1, q, v, hq, hres, hl, r2⟩ := h
    have hz := fz_base' hl 9 d _ hres.2.1 (Enc.nr v _) (fun j => Enc.nr v j)
    refine Sim.ok (a := enc v) (M := M'.take M.length) ?_ ⟨v, rfl, hq, r.cut r2⟩
    unfold fzE
    rw [e]
    dsimp only
    rw [if_pos r2.cg.kept, hz]
  | exc c d M' =>
    rw [e] at h
    unfold fzE
    rw [e]
    refine ⟨h.1, ?_⟩
    have := h.2.re (mr := pp.mr) (r.cg.trans h.2.cg)
    exact this
  | stuck => rw [e] at h; exact h.elim
/-- a call -/
theorem eo_call {cc : Bool} {n : Nat} {F : List D → Ev D} {f : Lo → Ev (List D)} {p : m τ} {q : τ → E ρ} (ha : AO fs f p) (hF : ∀ v, Ret cc [] (F (encL v)) (q v)) (hn : ∀ v : τ, (encL v).length = n) : EO fs (eFz (eCall (callD n F) f)) (bnd p fun v => lft (q v)) := fun pp M0 S M ns r Q X w => by
  refine sim_fz (cc := cc) r (Sim.bnd ((ha _ M0 S M ns (r.re (Chg.refl M)) _ _ (Mo.bnd_wp w)).imp (fun l M1 ⟨v, e, w, r1⟩ => ?_) (fun _ _ _ h => h)))
  subst e
  unfold callD
  rw [if_pos (hn v)]
  exact (hF v M1 (by simp) Q X (lft_wpE w)).imp (fun d M' ⟨v', hq, hres⟩ => ⟨M1, [], v', hq, hres, r1.cg.le, r1.call hres.1⟩) (fun c d M' ⟨x, fr⟩ => ⟨x, r1.call fr⟩)
/-- a call with pure arguments -/
theorem eo_callp {cc : Bool} {n : Nat} {F : List D → Ev D} {f : Lo → Ev (List D)} {v : τ} {q : E ρ} (ha : AP fs f v) (hF : Ret cc [] (F (encL v)) q) (hn : (encL v).length = n) : EO (m := m) fs (eFz (eCall (callD n F) f)) (lft q) := fun pp M0 S M ns r Q X w => by
  refine sim_fz (cc := cc) r (Sim.bnd (Sim.ok (ha _ M0 S M ns r) ?_))
  unfold callD
  rw [if_pos hn]
  have r1 := r.re (Chg.refl M)
  exact (hF M (by simp) Q X (lft_wpE w)).imp (fun d M' ⟨v', hq, hres⟩ => ⟨M, [], v', hq, hres, Nat.le_refl _, r1.call hres.1⟩) (fun c d M' ⟨x, fr⟩ => ⟨x, r1.call fr⟩)
/-- a call that draws from the pool -/
theorem eo_pool {cc : Bool} {n i : Nat} {sv : SV} {F : List D → Ev D} {f : Lo → Ev (List D)} {p : m τ} {q : τ → m ρ} (hv : fs[i]? = some sv) (hp : sv = .lpl ∨ ∃ n, sv = .par n) (ha : AO fs f p) (hF : ∀ c v, Ret cc [c] (F (.ref c :: encL v)) (q v)) (hn : ∀ v : τ, (encL v).length + 1 = n) : EO fs (eFz (eCall (callD n F) (eAc (eVar i) f))) (bnd p fun v => q v) := fun pp M0 S M ns r Q X w => by
  have h1 : eVar i S M = .ok (.ref (ns i)) M := by
    have s := r.sl i _ hv
    rcases hp with rfl | ⟨c, rfl⟩
    · unfold eVar; rw [s.1]; rfl
    · unfold eVar; rw [s.1, s.2.2]; rfl
  have hpool : ∀ M1, Rel ⟨pp.pl, M⟩ M0 fs S M1 ns → PoolAt M1 (ns i) := fun M1 r1 => by
    have s := r1.sl i _ hv
    rcases hp with rfl | ⟨c, rfl⟩
    · exact s.2.2
    · rw [s.2.2]; exact (r1.pl c s.2.1).2
  refine sim_fz (cc := cc) r (Sim.bnd (Sim.bnd (Sim.ok h1 (Sim.bnd ((ha _ M0 S M ns (r.re (Chg.refl M)) _ _ (Mo.bnd_wp w)).imp (fun l M1 ⟨v, e, w, r1⟩ => ?_) (fun _ _ _ h => h))))))
  subst e
  show Sim (callD n F (.ref (ns i) :: encL v) M1) _ _
  unfold callD
  rw [if_pos (by rw [List.length_cons]; exact hn v)]
  exact (hF (ns i) v M1 (by intro c hc; simp at hc; subst hc; exact hpool M1 r1) Q X w).imp (fun d M' ⟨v', hq, hres⟩ => ⟨M1, [ns i], v', hq, hres, r1.cg.le, r1.callP hv hp hres.1⟩) (fun c d M' ⟨x, fr⟩ => ⟨x, r1.callP hv hp fr⟩)
/-- a method of a frozen object -/
theorem eo_meth {cc : Bool} {cn mm : Str} {n : Nat} {F : List D → Ev D} {fo : Lo → Ev D} {f : Lo → Ev (List D)} {o : α} {os : List Str} {l : List D} {p : m τ} {q : τ → E ρ} (ho : EP fs fo o) (eo : enc o = .nd (.obj cn os) l) (hm : mm ∉ os) (ha : AO fs f p) (hF : ∀ v, Ret cc [] (F (enc o :: encL v)) (q v)) (hn : ∀ v : τ, (encL v).length + 1 = n) :
    EO fs (eFz (eMeth cn mm n F [] fo f)) (bnd p fun v => lft (q v)) := fun pp M0 S M ns r Q X w => by
  have hi : DL.isObj cn mm (enc o) M = .ok () M := by
    unfold DL.isObj
    rw [eo, bok (show vw (D.nd (.obj cn os) l) M = .ok (.obj cn os, l) M from rfl)]
    dsimp only
    rw [if_pos ⟨rfl, hm⟩]
    rfl
  refine sim_fz (cc := cc) r (Sim.bnd (Sim.ok (ho _ M0 S M ns r) (Sim.bnd (Sim.ok hi (Sim.bnd ((ha _ M0 S M ns (r.re (Chg.refl M)) _ _ (Mo.bnd_wp w)).imp (fun l M1 ⟨v, e, w, r1⟩ => ?_) (fun _ _ _ h => h)))))))
  subst e
  rw [List.append_nil]
  unfold callD
  rw [if_pos (by rw [List.length_cons]; exact hn v)]
  exact (hF v M1 (by simp) Q X (lft_wpE w)).imp (fun d M' ⟨v', hq, hres⟩ => ⟨M1, [], v', hq, hres, r1.cg.le, r1.call hres.1⟩) (fun c d M' ⟨x, fr⟩ => ⟨x, r1.call fr⟩)
theorem ep_fld {cn f : Str} {a : Lo → Ev D} {os : List Str} {l : List D} {v : α} (ha : EV fs a (.obj cn os) l) (hf : (os.zip l).lookup f = some (enc v)) : EP fs (e1 (fldE cn f) a) v := fun pp M0 S M ns r => by
  obtain ⟨d, h1, h2⟩ := ha pp M0 S M ns r
  unfold e1
  rw [bok h1]
  unfold fldE
  rw [bok h2]
  dsimp only
  rw [if_pos rfl, hf]
  rfl
/-! ### whole defs -/
theorem start_rel {n : Nat} {l : List D} (pp : List Nat) (M0 : Store) (hp : ∀ c ∈ pp, PoolAt M0 c) (fs : List SV) (hl : fs.length = n) (hle : l.length ≤ n) (hfs : ∀ (i : Nat) (v : SV), fs[i]? = some v → v = .any ∨ (∃ d, v = .val d ∧ l[i]? = some d)) : Rel ⟨pp, []⟩ M0 fs (startD n l) M0 (fun _ => 0) := by
  refine ⟨by unfold startD; simp; omega, Nat.le_refl _, fun _ _ _ => rfl, fun c hc => ⟨(hp c hc).lt, hp c hc⟩, Chg.none _, fun i v h => ?_, fun i j u v hn hu hv cu cv => ?_⟩
  · rcases hfs i v h with rfl | ⟨d, rfl, h2⟩
    · trivial
    · show (startD n l)[i]? = some (some d)
      unfold startD
      rw [List.getElem?_append_left (by have := (List.getElem?_eq_some_iff.mp h2).1; simpa using this), List.getElem?_map, h2]
      rfl
  · rcases hfs i u hu with rfl | ⟨d, rfl, h2⟩ <;> cases cu
theorem ret_of {cc : Bool} {n : Nat} {g : Lo → Ev Fl} {l : List D} {p : m ρ} {fs : List SV} (hl : fs.length = n) (hle : l.length ≤ n) (hfs : ∀ (i : Nat) (v : SV), fs[i]? = some v → v = .any ∨ (∃ d, v = .val d ∧ l[i]? = some d)) (h : ∀ M0, Blk [] M0 fs g p (KT cc [] M0)) : Ret cc [] (runF n g l) p := fun M hp Q X w => by
  have key := (h M).at_ (start_rel [] M (by simp) fs hl hle hfs) w
  unfold runF
  refine Sim.bnd ?_
  unfold Ev.nox
  cases e : g (startD n l) M with
  | stuck => rw [e] at key; exact key.elim
  | exc c d M' => rw [e] at key; exact key.elim
  | ok fl M' =>
    rw [e] at key
    cases fl with
    | nx S' => exact key
    | rt d => exact key
    | bk S' => obtain ⟨f, _, z⟩ := key; exact z.elim
    | ct S' => obtain ⟨f, _, z⟩ := key; exact z.elim
    | xc c d S' => exact key
/-- the def's frame: its values, then unbound names -/
def fr0 (vs : List D) (n : Nat) : List SV := vs.map SV.val ++ List.replicate (n - vs.length) .any
theorem fr0_ok {vs : List D} {n : Nat} (h : vs.length ≤ n) : (fr0 vs n).length = n ∧ ∀ (i : Nat) (v : SV), (fr0 vs n)[i]? = some v → v = .any ∨ (∃ d, v = .val d ∧ vs[i]? = some d) := by
  unfold fr0
  refine ⟨by simp; omega, fun i v hv => ?_⟩
  by_cases hi : i < vs.length
  · rw [List.getElem?_append_left (by simpa using hi), List.getElem?_map] at hv
    cases q : vs[i]? with
    | none => rw [q] at hv; cases hv
    | some d => rw [q] at hv; cases hv; exact .inr ⟨d, rfl, rfl⟩
  · rw [List.getElem?_append_right (by simpa using hi)] at hv
    obtain ⟨h1, h2⟩ := List.getElem?_eq_some_iff.mp hv
    rw [List.getElem_replicate] at h2
    exact .inl h2.symm
theorem ret_def {cc : Bool} {n : Nat} {g : Lo → Ev Fl} {l : List D} {p : m ρ} (hle : l.length ≤ n) (h : ∀ M0, Blk [] M0 (fr0 l n) g p (KT cc [] M0)) : Ret cc [] (runF n g l) p := ret_of (fr0_ok hle).1 hle (fr0_ok hle).2 h
/-- a def whose first argument is a pool -/
theorem ret_pool {cc : Bool} {n c : Nat} {g : Lo → Ev Fl} {l : List D} {p : m ρ} (hle : l.length + 1 ≤ n) (h : ∀ M0, Blk [c] M0 (.par c :: fr0 l (n - 1)) g p (KT cc [c] M0)) : Ret cc [c] (runF n g (.ref c :: l)) p := fun M hp Q X w => by
  obtain ⟨f1, f2⟩ := fr0_ok (vs := l) (n := n - 1) (by omega)
  have r0 := start_rel (l := l) [c] M hp (fr0 l (n - 1)) f1 (by omega) f2
  have r : Rel ⟨[c], []⟩ M (.par c :: fr0 l (n - 1)) (startD n (.ref c :: l)) M (fun _ => c) := by
    refine ⟨by unfold startD; simp [f1]; omega, Nat.le_refl _, fun _ _ _ => rfl, r0.pl, Chg.none _, fun i v hv => ?_, fun i j u v hn hu hv cu cv => ?_⟩
    · cases i with
      | zero => simp at hv; subst hv; exact ⟨rfl, by simp, rfl⟩
      | succ i =>
        have := r0.sl i v (by simpa using hv)
        rcases f2 i v (by simpa using hv) with rfl | ⟨d, rfl, h2⟩
        · trivial
        · show (startD n (.ref c :: l))[i + 1]? = some (some d)
          unfold startD
          rw [List.getElem?_append_left (by have := (List.getElem?_eq_some_iff.mp h2).1; simpa using this), List.getElem?_map, List.getElem?_cons_succ, h2]
          rfl
    · have z : ∀ i u, (SV.par c :: fr0 l (n - 1))[i]? = some u → u.cell = true → i = 0 := fun i u hu cu => by
        cases i with
        | zero => rfl
        | succ i =>
          rcases f2 i u (by simpa using hu) with rfl | ⟨d, rfl, h2⟩ <;> cases cu
      have a := z i u hu cu
      have b := z j v hv cv
      omega
  have key := (h M).at_ r w
  unfold runF
  refine Sim.bnd ?_
  unfold Ev.nox
  cases e : g (startD n (.ref c :: l)) M with
  | stuck => rw [e] at key; exact key.elim
  | exc c d M' => rw [e] at key; exact key.elim
  | ok fl M' =>
    rw [e] at key
    cases fl with
    | nx S' => exact key
    | rt d => exact key
    | bk S' => obtain ⟨f, _, z⟩ := key; exact z.elim
    | ct S' => obtain ⟨f, _, z⟩ := key; exact z.elim
    | xc c d S' => exact key
/-- a new pool -/
def PoolRet (f : Ev D) : Prop := ∀ M, ∃ c M', f M = .ok (.ref c) M' ∧ M.length ≤ c ∧ PoolAt M' c ∧ M.length ≤ M'.length ∧ ∀ k, k < M.length → M'[k]? = M[k]?
theorem b_newPool {n i : Nat} {F : List D → Ev D} {f : Lo → Ev (List D)} {g : Lo → Ev Fl} {v : τ} {p : m φ} (ha : AP fs f v) (hF : PoolRet (F (encL v))) (hn : (encL v).length = n) (hr : Blk pp M0 (fs.set i .lpl) g p K) : Blk pp M0 fs (sSeq (sAsg (eCall (callD n F) f) (gNm i)) g) p K := Blk.of fun S M ns r Q X w => by
  obtain ⟨c, M', h1, h2, h3, h4, h5⟩ := hF M
  have e : eCall (callD n F) f S M = .ok (.ref c) M' := by
    unfold eCall
    rw [bok (ha _ M0 S M ns r)]
    unfold callD
    rw [if_pos hn, h1]
  exact Sim.seq (Sim.fl (Sim.ok e (hr.at_ (r.setP (i := i) h2 h3 h4 h5) w)))
end
end TL

set_option Elab.async false
set_option linter.all false
set_option maxRecDepth 100000
set_option maxHeartbeats 1000000
/-! TL6: dicts with numbers as keys, objects made, zip, insert. -/
namespace TL
open PySem L2 DL
open Mo (pur bnd lft)
open Enc (enc)
open EncL (encL)
/-- a dict by its pairs -/
structure Dc (α : Type) where
  kv : List (Int × α)
abbrev dks {α : Type} (d : Dc α) : List Key := d.kv.map fun p => Sum.inl p.1
abbrev dvs {α : Type} [Enc α] (d : Dc α) : List D := d.kv.map fun p => enc p.2
theorem nrv {α : Type} [Enc α] (n : Nat) : ∀ xs : List (Int × α), rlts n (xs.map fun p => enc p.2) = true
  | [] => rfl
  | x :: xs => by simp [rlts, Enc.nr x.2 n, nrv n xs]
instance {α : Type} [Enc α] : Enc (Dc α) := ⟨fun d => .nd (.dct (dks d)) (dvs d), fun d n => by simp [rlt, nrv]⟩
abbrev SV.D {α : Type} [Enc α] (d : Dc α) : SV := .lc (.dct (dks d)) (dvs d)
def dfind {α : Type} (d : Dc α) (k : Int) : Option α := (d.kv.find? fun p => decide (p.1 = k)).map (·.2)
def dget {α : Type} (d : Dc α) (k : Int) : E α := match dfind d k with
  | some a => .ok a
  | none => .bad
def dhas {α : Type} (d : Dc α) (k : Int) : Bool := (dfind d k).isSome
def dputV {α : Type} (d : Dc α) (k : Int) (a : α) : Dc α := ⟨if (d.kv.any fun p => decide (p.1 = k)) = true then d.kv.map (fun p => if p.1 = k then (p.1, a) else p) else d.kv ++ [(k, a)]⟩
def dput {α : Type} (d : Dc α) (k : Int) (a : α) : E (Dc α) := if d.kv.length < sizeLine then .ok (dputV d k a) else .bad
section
variable {α : Type} [Enc α]
theorem zip_kv (l : List (Int × α)) : (l.map fun p => (Sum.inl p.1 : Key)).zip (l.map fun p => enc p.2) = l.map fun p => ((Sum.inl p.1 : Key), enc p.2) := by
  induction l with
  | nil => rfl
  | cons x l ih => simp [ih]
theorem vd_kv (d : Dc α) (k : Int) : vd ((dks d).zip (dvs d)) (.inl k) = (dfind d k).map enc := by
  unfold vd dfind dks dvs
  rw [zip_kv]
  generalize d.kv = l
  induction l with
  | nil => rfl
  | cons x l ih =>
    rw [List.map_cons, List.find?_cons, List.find?_cons]
    have e : decide ((Sum.inl x.1 : Key) = Sum.inl k) = decide (x.1 = k) := by simp
    rw [e]
    cases decide (x.1 = k) with
    | true => rfl
    | false => exact ih
theorem pk_kv (d : Dc α) (k : Int) (a : α) : pk ((dks d).zip (dvs d)) (.inl k) (enc a) = (dputV d k a).kv.map fun p => ((Sum.inl p.1 : Key), enc p.2) := by
  unfold pk dputV dks dvs
  rw [zip_kv]
  have e : ((d.kv.map fun p => ((Sum.inl p.1 : Key), enc p.2)).any fun p => decide (p.1 = .inl k)) = d.kv.any fun p => decide (p.1 = k) := by
    rw [List.any_map]
    congr 1
    funext p
    simp
  rw [e]
  cases d.kv.any fun p => decide (p.1 = k) with
  | true =>
    rw [if_pos rfl, if_pos rfl, List.map_map, List.map_map]
    apply List.map_congr_left
    intro p _
    by_cases h : p.1 = k
    · simp [h]
    · simp [h]
  | false => rw [if_neg (by decide), if_neg (by decide), List.map_append]; rfl
end
section
variable {m : Type → Type} [Mo m] {pp : List Nat} {M0 : Store} {fs fs' fs'' : List SV} {α β γ τ κ φ ρ ω : Type} [Enc α] [Enc β] [Enc γ] [EncL τ] [EncL κ] [Enc ρ] [Enc ω] {K : φ → Fl → Store → Prop}
theorem EP.dv {e : Lo → Ev D} {d : Dc α} (h : EP fs e d) : EV fs e (.dct (dks d)) (dvs d) := h.ev rfl
theorem eo_dget {a b : Lo → Ev D} {d : Dc α} {k : Int} (ha : EV fs a (.dct (dks d)) (dvs d)) (hb : EP fs b k) : EO (m := m) fs (e2 getK a b) (lft (dget d k)) := eo_v2p ha hb fun x M h => by
  unfold dget
  cases q : dfind d k with
  | none => trivial
  | some v =>
    show getK x (.int k) M = _
    unfold getK
    rw [bok h]
    show (match vd ((dks d).zip (dvs d)) (.inl k) with
      | some d => Ev.ret d
      | none => Ev.no) M = _
    rw [vd_kv, q]
    rfl
theorem ep_din {neg : Bool} {a b : Lo → Ev D} {d : Dc α} {k : Int} (ha : EP fs a k) (hb : EV fs b (.dct (dks d)) (dvs d)) : EP fs (e2 (inK neg) a b) (neg ^^ dhas d k) := fun pp M0 S M ns r => by
  obtain ⟨x, h1, h2⟩ := hb pp M0 S M ns r
  unfold e2
  rw [bok (ha pp M0 S M ns r), bok h1]
  show inK neg (.int k) x M = _
  unfold inK
  rw [bok h2]
  show Out.ok (D.bl (neg ^^ (vd ((dks d).zip (dvs d)) (.inl k)).isSome)) M = _
  rw [vd_kv]
  unfold dhas
  cases dfind d k <;> rfl
/-- d[k] = v -/
theorem b_dput {i : Nat} {fi fv : Lo → Ev D} {g : Lo → Ev Fl} {d : Dc α} {n : Int} {pe : m α} {k : Dc α → m φ} (hi : fs[i]? = some (.D d)) (hn : EP fs fi n) (he : EO fs fv pe) (hr : ∀ x, Blk pp M0 (fs.set i (.D x)) g (k x) K) :
    Blk pp M0 fs (sSeq (sDPutD (eVar i) fi fv) g) (bnd pe fun v => bnd (lft (dput d n v)) k) K := Blk.of fun S M ns r Q X w => by
  refine Sim.seq (Sim.fl ((he _ M0 S M ns r _ _ (Mo.bnd_wp w)).imp (fun x M1 ⟨v, e, w, r⟩ => ?_) (fun c d M1 ⟨x, r⟩ => ⟨x, r.fram⟩)))
  subst e
  have s := r.sl i _ hi
  have h1 : eVar i S M1 = .ok (.ref (ns i)) M1 := by unfold eVar; rw [s.1]; rfl
  have w := Mo.lft_wp (Mo.bnd_wp w)
  unfold dput at w
  by_cases hl : d.kv.length < sizeLine
  · rw [if_pos hl] at w
    refine Sim.fl (Sim.ok h1 (Sim.fl (Sim.ok (hn _ M0 S M1 ns r) (Sim.bnd (Sim.ok (a := ()) (M := M1.set (ns i) (.dct (dks (dputV d n v)), dvs (dputV d n v))) ?_ ?_)))))
    · show putE (enc v) (.ref (ns i)) (.int n) M1 = _
      unfold putE
      simp only [toK, s.2.2]
      rw [if_pos ⟨by simpa using hl, by simp⟩, pk_kv, List.map_map, List.map_map]
      rfl
    · exact (hr _).at_ (r.wr rfl hi) w
  · rw [if_neg hl] at w; exact w.elim
/-- an empty dict; one with a single pair -/
theorem b_dnew {i : Nat} {g : Lo → Ev Fl} {p : m φ} (hr : Blk pp M0 (fs.set i (.D (⟨[]⟩ : Dc α))) g p K) : Blk pp M0 fs (sSeq (sAsg (eCl (fun _ => Ev.ret (NR.n (.dct []) []))) (gNm i)) g) p K := Blk.of fun S M ns r Q X w => by
  refine Sim.seq (Sim.fl (Sim.ok (a := .ref M.length) (M := M ++ [(.dct [], [])]) rfl ?_))
  exact hr.at_ (r.setC (i := i) (n := M.length) (t := .dct []) (l := []) (M' := M ++ [(.dct [], [])]) (Nat.le_refl _) (by simp) (by simp) (fun k hk => List.getElem?_append_left hk)) w
theorem b_done {i : Nat} {fk fv : Lo → Ev D} {g : Lo → Ev Fl} {n : Int} {v : α} {p : m φ} (hn : EP fs fk n) (hv : EP fs fv v) (hr : Blk pp M0 (fs.set i (.D (⟨[(n, v)]⟩ : Dc α))) g p K) : Blk pp M0 fs (sSeq (sAsg (eCl (nDisp (pCons fk fv pNil))) (gNm i)) g) p K := Blk.of fun S M ns r Q X w => by
  have h1 : pCons fk fv pNil S M = .ok [(.inl n, enc v)] M := by
    unfold pCons
    rw [bok (hn _ M0 S M ns r), bok (hv _ M0 S M ns r)]
    rfl
  have h2 : eCl (nDisp (pCons fk fv pNil)) S M = .ok (.ref M.length) (M ++ [(.dct [.inl n], [enc v])]) := by
    unfold eCl nDisp
    have : ((pCons fk fv pNil S).bnd fun kd => if kd.length ≤ 15 then Ev.ret (NR.n (.dct ((pMrg kd).map (·.1))) ((pMrg kd).map (·.2))) else Ev.no) M = .ok (.n (.dct [.inl n]) [enc v]) M := by
      rw [bok h1]
      rfl
    rw [bok this]
    rfl
  refine Sim.seq (Sim.fl (Sim.ok h2 ?_))
  exact hr.at_ (r.setC (i := i) (n := M.length) (t := .dct [.inl n]) (l := [enc v]) (M' := M ++ [(.dct [.inl n], [enc v])]) (Nat.le_refl _) (by simp) (by simp) (fun k hk => List.getElem?_append_left hk)) w
/-! ### zip -/
theorem zp_map (xs : List α) (ys : List β) : zpD (xs.map enc) (ys.map enc) = (xs.zip ys).map enc := by
  unfold zpD
  induction xs generalizing ys with
  | nil => simp
  | cons x xs ih => cases ys with
    | nil => simp
    | cons y ys => simp only [List.map_cons, List.zipWith_cons_cons, List.zip_cons_cons, ih]; rfl
theorem io_zip {a b : Lo → Ev D} {p : m (List α)} {q : m (List β)} (ha : EO fs a p) (hb : EO fs b q) : IO (α := α × β) fs (iZp (eAc a (eAc b eA0))) (bnd p fun xs => bnd q fun ys => pur (List.zip xs ys)) := fun pp M0 S M ns r Q X w => by
  refine Sim.bnd (Sim.bnd ((ha pp M0 S M ns r _ _ (Mo.bnd_wp w)).imp (fun d M1 ⟨xs, e, w, r⟩ => ?_) (fun _ _ _ h => h)))
  subst e
  refine Sim.bnd (Sim.bnd ((hb pp M0 S M1 ns r _ _ (Mo.bnd_wp w)).imp (fun d M1 ⟨ys, e, w, r⟩ => ?_) (fun _ _ _ h => h)))
  subst e
  refine ⟨List.zip xs ys, none, ?_, .inl rfl, Mo.pur_wp w, r⟩
  show (zpD (xs.map enc) (ys.map enc), none) = _
  rw [zp_map]
/-! ### insert, [::-1], in -/
/-! ### objects made -/
theorem b_fld {cn f : Str} {i : Nat} {fv : Lo → Ev D} {g : Lo → Ev Fl} {os : List Str} {l : List D} {pe : m α} {k : α → m φ} {c : Nat} (hi : fs[i]? = some (.pin c (.obj cn os) l)) (ho : Nat.ble (os.length + 1) 1000 = true) (he : EO fs fv pe) (hr : ∀ x, Blk pp M0 (fs.set i (.pin c (.obj cn (putD f (enc x) os l).1) (putD f (enc x) os l).2)) g (k x) K) :
    Blk pp M0 fs (sSeq (sFldD cn f (eVar i) fv) g) (bnd pe k) K := Blk.of fun S M ns r Q X w => by
  refine Sim.seq (Sim.fl ((he _ M0 S M ns r _ _ (Mo.bnd_wp w)).imp (fun x M1 ⟨v, e, w, r⟩ => ?_) (fun c d M1 ⟨x, r⟩ => ⟨x, r.fram⟩)))
  subst e
  have s := r.sl i _ hi
  have h1 : eVar i S M1 = .ok (.ref c) M1 := by unfold eVar; rw [s.1]; rfl
  refine Sim.fl (Sim.ok h1 (Sim.bnd (Sim.ok (a := ()) (M := M1.set c (.obj cn (putD f (enc v) os l).1, (putD f (enc v) os l).2)) ?_ ?_)))
  · unfold stE
    simp only [s.2.2.2]
    rw [if_pos ⟨trivial, Nat.le_of_ble_eq_true ho⟩]
  · exact (hr v).at_ (r.wrP rfl hi) w
/-- what __init__ makes of an object -/
def Ini {ω : Type} [Enc ω] (cn : Str) (F : List D → Ev D) (l : List D) (p : E ω) : Prop := ∀ M Q X, Mo.wp p Q X → Sim (F (.ref M.length :: l) (M ++ [(.obj cn [], [])]))
  (fun d M' => d = .non ∧ ∃ o os vs, Q o ∧ Fram [] M M' ∧ M'[M.length]? = some (.obj cn os, vs) ∧ enc o = .nd (.obj cn os) vs) (fun c d M' => X c d ∧ Fram [] M M')
/-- a tail block of __init__ -/
def KI {ω : Type} [Enc ω] (cn : Str) (c : Nat) (M0 : Store) : ω → Fl → Store → Prop := fun o fl M' => match fl with
  | .nx S => ∃ ns fs os vs, Rel ⟨[], []⟩ M0 fs S M' ns ∧ fs[0]? = some (.pin c (.obj cn os) vs) ∧ enc o = .nd (.obj cn os) vs
  | _ => False
theorem b_endI {cn : Str} {c : Nat} {o : ω} {os : List Str} {vs : List D} (h : fs[0]? = some (.pin c (.obj cn os) vs)) (he : enc o = .nd (.obj cn os) vs) : Blk (m := m) [] M0 fs sNext (pur o) (KI cn c M0) := Blk.of fun S M ns r Q X w => ⟨o, Mo.pur_wp w, ns, fs, os, vs, r, h, he⟩
theorem ini_def {cn : Str} {n : Nat} {g : Lo → Ev Fl} {l : List D} {p : E ω} (hle : l.length + 1 ≤ n) (h : ∀ M0 c, Blk [] M0 (.pin c (.obj cn []) [] :: fr0 l (n - 1)) g p (KI cn c M0)) : Ini cn (runF n g) l p := fun M Q X w => by
  obtain ⟨f1, f2⟩ := fr0_ok (vs := l) (n := n - 1) (by omega)
  have g0 : (M ++ [(Tg.obj cn [], [])])[M.length]? = some (.obj cn [], []) := by simp
  have r : Rel ⟨[], []⟩ M (.pin M.length (.obj cn []) [] :: fr0 l (n - 1)) (startD n (.ref M.length :: l)) (M ++ [(.obj cn [], [])]) (fun _ => M.length) := by
    refine ⟨by unfold startD; simp [f1]; omega, by simp, fun k hk _ => List.getElem?_append_left hk, by simp, Chg.none _, fun i v hv => ?_, fun i j u v hn hu hv cu cv => ?_⟩
    · cases i with
      | zero => simp at hv; subst hv; exact ⟨rfl, rfl, Nat.le_refl _, g0⟩
      | succ i =>
        rcases f2 i v (by simpa using hv) with rfl | ⟨d, rfl, h2⟩
        · trivial
        · show (startD n (.ref M.length :: l))[i + 1]? = some (some d)
          unfold startD
          rw [List.getElem?_append_left (by have := (List.getElem?_eq_some_iff.mp h2).1; simpa using this), List.getElem?_map, List.getElem?_cons_succ, h2]
          rfl
    · have z : ∀ i u, (SV.pin M.length (.obj cn []) [] :: fr0 l (n - 1))[i]? = some u → u.cell = true → i = 0 := fun i u hu cu => by
        cases i with
        | zero => rfl
        | succ i =>
          rcases f2 i u (by simpa using hu) with rfl | ⟨d, rfl, h2⟩ <;> cases cu
      have a := z i u hu cu
      have b := z j v hv cv
      omega
  have key := (h M M.length).at_ r w
  unfold runF
  refine Sim.bnd ?_
  unfold Ev.nox
  cases e : g (startD n (.ref M.length :: l)) (M ++ [(.obj cn [], [])]) with
  | stuck => rw [e] at key; exact key.elim
  | exc c d M' => rw [e] at key; exact key.elim
  | ok fl M' =>
    rw [e] at key
    cases fl with
    | nx S' =>
      obtain ⟨o, q, ns, fs, os, vs, r', h1, h2⟩ := key
      have s := r'.sl 0 _ h1
      exact ⟨rfl, o, os, vs, q, r'.fram, s.2.2.2, h2⟩
    | rt d => obtain ⟨f, _, z⟩ := key; exact z.elim
    | bk S' => obtain ⟨f, _, z⟩ := key; exact z.elim
    | ct S' => obtain ⟨f, _, z⟩ := key; exact z.elim
    | xc c d S' => exact key
theorem rlts_obj {o : ω} {t : Tg} {vs : List D} (h : enc o = .nd t vs) (n : Nat) : rlts n vs = true := by
  have := Enc.nr o n
  rw [h] at this
  simpa [rlt] using this
/-- C(..., k=...) -/
theorem eo_make {cn : Str} {n i j : Nat} {F : List D → Ev D} {f g : Lo → Ev (List D)} {v : τ} {z : κ} {q : E ω} (ha : AP fs f v) (hk : AP fs g z) (hF : Ini cn F (encL v ++ encL z) q) (hi : (encL v).length = i) (hj : (encL z).length = j) : EO (m := m) fs (eFz (eMake cn n i j (fun d l z => d :: (l ++ z)) F f g)) (lft q) := fun pp M0 S M ns r Q X w => by
  have e0 : eMake cn n i j (fun d l z => d :: (l ++ z)) F f g S M = makeD cn F (fun d => d :: (encL v ++ encL z)) M := by
    unfold eMake
    rw [bok (ha _ M0 S M ns r), bok (hk _ M0 S M ns r), if_pos ⟨hi, hj⟩]
  refine sim_fz (cc := false) r ?_
  rw [e0]
  have key := hF M Q X (lft_wpE w)
  unfold makeD
  have r1 := r.re (Chg.refl M)
  cases e : F (.ref M.length :: (encL v ++ encL z)) (M ++ [(.obj cn [], [])]) with
  | stuck => rw [e] at key; exact key.elim
  | exc c d M' => rw [e] at key; exact ⟨key.1, r1.call key.2⟩
  | ok d M' =>
    rw [e] at key
    obtain ⟨rfl, o, os, vs, hq, fr, hm, he⟩ := key
    refine ⟨M, [], o, hq, ⟨fr, ?_, fun h => by cases h⟩, Nat.le_refl _, r1.call fr⟩
    rw [he]
    exact fz_cell (Nat.le_refl _) hm (rlts_obj he _)
end
end TL

set_option Elab.async false
set_option linter.all false
set_option maxRecDepth 100000
set_option maxHeartbeats 4000000
/-! TA: evaluation by hand, for links_of. -/
namespace DL
open PySem L2
theorem run_rt {N : Nat} {g : Lo → Ev Fl} {l : List D} {M M' : Store} {d : D} (h : g (startD N l) M = .ok (.rt d) M') : runF N g l M = .ok d M' := by
  simp only [runF, Ev.bnd, Ev.nox, h, Out.bnd, Ev.ret]
theorem seq_nx {f g : Lo → Ev Fl} {S S1 : Lo} {M M1 : Store} (h : f S M = .ok (.nx S1) M1) : sSeq f g S M = g S1 M1 := by
  simp only [sSeq, Ev.bnd, h, Out.bnd]
theorem asg_nm {f : Lo → Ev D} {i : Nat} {S : Lo} {M M1 : Store} {d : D} (h : f S M = .ok d M1) : sAsg f (gNm i) S M = .ok (.nx (S.set i (some d))) M1 := by
  simp only [sAsg, Ev.fl, h, gNm, Ev.bnd, Ev.ret, Out.bnd]
theorem exp_ok {f : Lo → Ev D} {S : Lo} {M M1 : Store} {d : D} (h : f S M = .ok d M1) : sExp f S M = .ok (.nx S) M1 := by
  simp only [sExp, Ev.fl, h, Ev.ret]
theorem ret_ok {f : Lo → Ev D} {S : Lo} {M M1 : Store} {d : D} (h : f S M = .ok d M1) : sRet f S M = .ok (.rt d) M1 := by
  simp only [sRet, Ev.fl, h, Ev.ret]
theorem bnd_ok {α β : Type} {m : Ev α} {k : α → Ev β} {M M1 : Store} {a : α} (h : m M = .ok a M1) : (m.bnd k) M = k a M1 := by
  simp only [Ev.bnd, h, Out.bnd]
/-- a walk: what holds of the part walked -/
theorem for_inv {α : Type} {enc : α → D} {tg : D → Lo → Ev Lo} {body : Lo → Ev Fl} {g : Gd} (J : List α → Lo → Store → Prop) (xs : List α) {S : Lo} {M : Store} (h0 : J [] S M) (hg : ∀ pre S M, J pre S M → grd g M)
    (step : ∀ pre x post S M, xs = pre ++ x :: post → J pre S M → ∃ S1 M1 S2 M2, tg (enc x) S M = .ok S1 M1 ∧ body S1 M1 = .ok (.nx S2) M2 ∧ J (pre ++ [x]) S2 M2) :
    ∃ S' M', forL tg body g (xs.map enc) S M = .ok (.nx S') M' ∧ J xs S' M' := by
  have gen : ∀ (post pre : List α) (S : Lo) (M : Store), xs = pre ++ post → J pre S M → ∃ S' M', forL tg body g (post.map enc) S M = .ok (.nx S') M' ∧ J xs S' M' := by
    intro post
    induction post with
    | nil =>
      intro pre S M e j
      rw [List.append_nil] at e
      subst e
      exact ⟨S, M, by rw [List.map_nil, forL, chk_ok (hg _ _ _ j)]; rfl, j⟩
    | cons x post ih =>
      intro pre S M e j
      obtain ⟨S1, M1, S2, M2, h1, h2, j2⟩ := step pre x post S M e j
      obtain ⟨S', M', h3, j3⟩ := ih (pre ++ [x]) S2 M2 (by rw [e]; simp) j2
      refine ⟨S', M', ?_, j3⟩
      rw [List.map_cons, forL, chk_ok (hg _ _ _ j), bnd_ok h1, bnd_ok h2]
      exact h3
  exact gen xs [] S M rfl h0
theorem sfor_ok {fi : Lo → Ev (List D × Gd)} {tg : D → Lo → Ev Lo} {body : Lo → Ev Fl} {S : Lo} {M M1 : Store} {r : List D × Gd} (h : fi S M = .ok r M1) : sFor fi tg body S M = forL tg body r.2 r.1 S M1 := by
  simp only [sFor, Ev.flG, h]
/-- a list built by walking, in general -/
theorem comp_inv {α : Type} {enc : α → D} {tg : D → Lo → Ev Lo} {tt : Lo → Ev Bool} {te : Lo → Ev D} {g : Gd} {S : Lo} (J : List α → List D → Store → Prop) (xs : List α) {M : Store} (h0 : J [] [] M) (hg : ∀ pre o M, J pre o M → grd g M)
    (step : ∀ pre x post o M, xs = pre ++ x :: post → J pre o M → ∃ S1 M1 b M2, tg (enc x) S M = .ok S1 M1 ∧ tt S1 M1 = .ok b M2 ∧ (b = true → ∃ y M3, te S1 M2 = .ok y M3 ∧ J (pre ++ [x]) (o ++ [y]) M3) ∧ (b = false → J (pre ++ [x]) o M2)) :
    ∃ ys M', compL tg tt te g S (xs.map enc) M = .ok ys M' ∧ J xs ys M' := by
  have gen : ∀ (post pre : List α) (o : List D) (M : Store), xs = pre ++ post → J pre o M → ∃ ys M', compL tg tt te g S (post.map enc) M = .ok ys M' ∧ J xs (o ++ ys) M' := by
    intro post
    induction post with
    | nil =>
      intro pre o M e j
      rw [List.append_nil] at e
      subst e
      exact ⟨[], M, by rw [List.map_nil, compL, chk_ok (hg _ _ _ j)]; rfl, by rw [List.append_nil]; exact j⟩
    | cons x post ih =>
      intro pre o M e j
      obtain ⟨S1, M1, b, M2, h1, h2, h3, h4⟩ := step pre x post o M e j
      cases b with
      | true =>
        obtain ⟨y, M3, h5, j3⟩ := h3 rfl
        obtain ⟨ys, M', h6, j4⟩ := ih (pre ++ [x]) (o ++ [y]) M3 (by rw [e]; simp) j3
        refine ⟨y :: ys, M', ?_, by rw [List.append_assoc] at j4; exact j4⟩
        rw [List.map_cons, compL, chk_ok (hg _ _ _ j), bnd_ok (nox_ok h1), bnd_ok (nox_ok h2), if_pos rfl, bnd_ok (nox_ok h5), bnd_ok h6]
        rfl
      | false =>
        obtain ⟨ys, M', h6, j4⟩ := ih (pre ++ [x]) o M2 (by rw [e]; simp) (h4 rfl)
        refine ⟨ys, M', ?_, j4⟩
        rw [List.map_cons, compL, chk_ok (hg _ _ _ j), bnd_ok (nox_ok h1), bnd_ok (nox_ok h2), if_neg (by decide)]
        exact h6
  obtain ⟨ys, M', h, j⟩ := gen xs [] [] M rfl h0
  exact ⟨ys, M', h, j⟩
theorem lc_ok {fi : Lo → Ev (List D × Gd)} {tg : D → Lo → Ev Lo} {tt : Lo → Ev Bool} {te : Lo → Ev D} {vs : List Nat} {S : Lo} {M M1 M2 : Store} {r : List D × Gd} {ys : List D} (h : fi S M = .ok r M1) (hl : r.1.length ≤ sizeLine) (h2 : compL tg tt te r.2 (wipeD S vs) r.1 M1 = .ok ys M2) : nLc fi tg tt te vs S M = .ok (.n .lst ys) M2 := by
  simp only [nLc]
  rw [bnd_ok h, if_pos hl, bnd_ok h2]
  rfl
theorem sl_le {n : Nat} (h : n ≤ 1000) : n ≤ sizeLine := Nat.le_trans h (by decide)
theorem lt_sl {n : Nat} (h : n < 1000) : n < sizeLine := Nat.lt_of_lt_of_le h (by decide)
def newK (t : Tg) (l : List D) : Ev NR := if l.length ≤ sizeLine then Ev.ret (.n t l) else Ev.no
theorem nNew_eq (t : Tg) (f : Lo → Ev (List D)) (S : Lo) : nNew t f S = (f S).bnd (newK t) := rfl
theorem newK_ok (t : Tg) (l : List D) (h : l.length ≤ 1000) : newK t l = Ev.ret (.n t l) := if_pos (sl_le h)
theorem new0 (t : Tg) : newK t [] = Ev.ret (.n t []) := newK_ok t _ (by simp)
theorem new1 (t : Tg) (a : D) : newK t [a] = Ev.ret (.n t [a]) := newK_ok t _ (by simp)
theorem new2 (t : Tg) (a b : D) : newK t [a, b] = Ev.ret (.n t [a, b]) := newK_ok t _ (by simp)
theorem new3 (t : Tg) (a b c : D) : newK t [a, b, c] = Ev.ret (.n t [a, b, c]) := newK_ok t _ (by simp)
theorem new4 (t : Tg) (a b c d : D) : newK t [a, b, c, d] = Ev.ret (.n t [a, b, c, d]) := newK_ok t _ (by simp)
theorem new8 (t : Tg) (a b c d e f g h : D) : newK t [a, b, c, d, e, f, g, h] = Ev.ret (.n t [a, b, c, d, e, f, g, h]) := newK_ok t _ (by simp)
theorem add_int (i j : Int) : addN (.int i) (.int j) = Ev.ret (.v (.int (i + j))) := rfl
theorem at_nat {α : Type} (xs : List α) (k : Nat) : atI xs (k : Int) = xs[k]? := by
  unfold atI ixN
  rw [if_pos (by omega)]
  by_cases h : k < xs.length
  · rw [if_pos (by omega)]; simp
  · rw [if_neg (by omega)]; simp; omega
theorem ix_nd {t : Tg} {l : List D} {k : Nat} {M : Store} {d : D} (ht : FC.isSeq t = true) (h : l[k]? = some d) : ixE (.nd t l) (.int (k : Int)) M = .ok d M := by
  simp only [ixE, sq, vw, Ev.bnd, Ev.ret, Out.bnd, ht, if_pos, at_nat, h, optE]
theorem mul_i {i j : Int} (h : CMul i j) : mulE (.int i) (.int j) = Ev.ret (.int (i * j)) := if_pos h
theorem mod_i {i j : Int} (h : 0 < j) : modE (.int i) (.int j) = Ev.ret (.int (i % j)) := if_pos h
theorem div_i {i j : Int} (h : CDivW i j) : divE (.int i) (.int j) = Ev.ret (.int (i / j)) := if_pos h
theorem a0_ok {S : Lo} {M : Store} : eA0 S M = .ok [] M := rfl
theorem e2_ret {op : D → D → Ev D} {fa fb : Lo → Ev D} {S : Lo} {M M1 M2 : Store} {x y z : D} (ha : fa S M = .ok x M1) (hb : fb S M1 = .ok y M2) (ho : op x y = Ev.ret z) : e2 op fa fb S M = .ok z M2 := by
  unfold e2
  rw [bnd_ok ha, bnd_ok hb, ho]
  rfl
theorem add_ret {fa fb : Lo → Ev D} {S : Lo} {M M1 M2 : Store} {x y : Int} (ha : fa S M = .ok (.int x) M1) (hb : fb S M1 = .ok (.int y) M2) : eF (n2 addN fa fb) S M = .ok (.int (x + y)) M2 := by
  have h : n2 addN fa fb S M = .ok (.v (.int (x + y))) M2 := by
    unfold n2
    rw [bnd_ok ha, bnd_ok hb, add_int]
    rfl
  unfold eF
  rw [bnd_ok h]
  rfl
theorem c_ok (d : D) (S : Lo) (M : Store) : eC d S M = .ok d M := rfl
theorem v_ok {i : Nat} {S : Lo} {M : Store} {d : D} (h : S[i]? = some (some d)) : eVar i S M = .ok d M := by
  unfold eVar
  rw [h]
  rfl

theorem ac_ok {f : Lo → Ev D} {g : Lo → Ev (List D)} {S : Lo} {M M1 M2 : Store} {x : D} {l : List D} (h : f S M = .ok x M1) (h2 : g S M1 = .ok l M2) : eAc f g S M = .ok (x :: l) M2 := by
  simp only [eAc, Ev.bnd, h, h2, Out.bnd, Ev.ret]
abbrev nI (k : Nat) : D := .int (k : Int)
def encE (e : Nat × Nat) : D := .tup [nI e.1, nI e.2]
theorem rg_nat (n : Nat) : rgD 0 (n : Int) = (List.range n).map nI := by
  unfold rgD
  simp
theorem rgi {n : Nat} (h : n ≤ 4096) : RgI 0 (n : Int) := ⟨by decide, by decide, Int.le_trans (by decide : -(2^62 : Int) ≤ 0) (Int.natCast_nonneg n), Int.lt_of_le_of_lt (Int.ofNat_le.mpr h) (by decide)⟩
theorem ir1_ok {f : Lo → Ev (List D)} {S : Lo} {M M1 : Store} {n : Nat} (h : f S M = .ok [.int (n : Int)] M1) (hn : n ≤ 4096) : iR1 f S M = .ok ((List.range n).map nI, none) M1 := by
  have e : op1 r1K [D.int (n : Int)] = Ev.ret ((List.range n).map nI, none) := by rw [← rg_nat]; exact rngE_ok (rgi hn)
  unfold iR1
  rw [bnd_ok h, e, Ev.ret]
theorem grd_none (M : Store) : grd none M := trivial
theorem append_ok {fo : Lo → Ev D} {fa : Lo → Ev (List D)} {S : Lo} {M M1 M2 : Store} {n : Nat} {l l2 : List D} {d : D} (h : fo S M = .ok (.ref n) M1) (hc : M1[n]? = some (.lst, l)) (ha : fa S M1 = .ok [d] M2) (hc2 : M2[n]? = some (.lst, l2)) (hl : l2.length < 1000) :
    eBm (cellM opAppend) fo fa S M = .ok .non (M2.set n (.lst, l2 ++ [d])) := by
  have : opAppend l2 [d] = some (.non, l2 ++ [d]) := by unfold opAppend; exact if_pos (lt_sl hl)
  simp only [eBm, Ev.bnd, h, Out.bnd, isCellL, hc, ha, cellM, hc2, this]
theorem cl_ok {f : Lo → Ev NR} {S : Lo} {M M1 : Store} {l : List D} (h : f S M = .ok (.n .lst l) M1) : eCl f S M = .ok (.ref M1.length) (M1 ++ [(.lst, l)]) := by
  simp only [eCl, Ev.bnd, h, Out.bnd, cel]
theorem tup_ok {f : Lo → Ev (List D)} {S : Lo} {M M1 : Store} {l : List D} (h : f S M = .ok l M1) (hl : l.length ≤ 1000) : eF (nNew .tup f) S M = .ok (.tup l) M1 := by
  simp only [eF, nNew_eq, Ev.bnd, h, Out.bnd, newK_ok _ l hl, frz, Ev.ret]
theorem get_last {M : Store} {c : Tg × List D} : (M ++ [c])[M.length]? = some c := by simp
theorem set_last {M : Store} {c c' : Tg × List D} : (M ++ [c]).set M.length c' = M ++ [c'] := by simp
theorem ix_ret {t : Tg} {l : List D} {k : Nat} {d : D} (ht : FC.isSeq t = true) (h : l[k]? = some d) : ixE (.nd t l) (nI k) = Ev.ret d := by
  funext M
  exact ix_nd ht h
theorem iseq_nd {f : Lo → Ev D} {S : Lo} {M M1 : Store} {t : Tg} {l : List D} (h : f S M = .ok (.nd t l) M1) (ht : FC.isSeq t = true) : iSeq f S M = .ok (l, none) M1 := by
  unfold iSeq
  rw [bnd_ok h]
  simp only [itSq, vw, Ev.bnd, Ev.ret, Out.bnd, ht, if_pos]
theorem gtp2 {ga gb : D → Lo → Ev Lo} {S S1 S2 : Lo} {M : Store} {x y : D} (h1 : ga x S M = .ok S1 M) (h2 : gb y S1 M = .ok S2 M) : gTp 2 (gCn ga (gCn gb gNl)) (.tup [x, y]) S M = .ok S2 M := by
  simp only [gTp, vw, Ev.bnd, Ev.ret, Out.bnd, gCn, h1, h2, gNl, List.length_cons, List.length_nil, if_pos]
theorem g_nm (i : Nat) (d : D) (S : Lo) (M : Store) : gNm i d S M = .ok (S.set i (some d)) M := rfl
theorem asg_g {f : Lo → Ev D} {g : D → Lo → Ev Lo} {S S1 : Lo} {M M1 M2 : Store} {d : D} (h : f S M = .ok d M1) (hg : g d S M1 = .ok S1 M2) : sAsg f g S M = .ok (.nx S1) M2 := by
  simp only [sAsg, Ev.fl, h, Ev.bnd, hg, Ev.ret, Out.bnd]
theorem new_ok {t : Tg} {f : Lo → Ev (List D)} {S : Lo} {M M1 : Store} {l : List D} (h : f S M = .ok l M1) (hl : l.length ≤ 1000) : nNew t f S M = .ok (.n t l) M1 := by
  rw [nNew_eq, bnd_ok h, newK_ok _ _ hl]
  rfl
theorem fz_ref {M : Store} {n k m : Nat} {t : Tg} {l l' : List D} (hm : n ≤ m) (h : M[m]? = some (t, l)) (hl : fzs M n k l = some l') : fz M n (k + 1) (.ref m) = some (.nd t l') := by
  rw [fz]
  simp only [h, hl, Option.map_some]
  rw [if_neg (by omega)]
theorem fz_nd {M : Store} {n k : Nat} {t : Tg} {l l' : List D} (hl : fzs M n k l = some l') : fz M n k (.nd t l) = some (.nd t l') := by
  rw [fz, hl]
  rfl
theorem fzs_map {α : Type} {M : Store} {n k : Nat} (f g : α → D) : ∀ (xs : List α), (∀ x ∈ xs, fz M n k (f x) = some (g x)) → fzs M n k (xs.map f) = some (xs.map g)
  | [], _ => by rw [List.map_nil, List.map_nil, fzs]
  | x :: xs, h => by
    have a := h x (by simp)
    have b := fzs_map f g xs (fun y hy => h y (by simp [hy]))
    rw [List.map_cons, List.map_cons, fzs, a, b]
theorem get_app {M X : Store} {k : Nat} : (M ++ X)[M.length + k]? = X[k]? := by
  rw [List.getElem?_append_right (by omega)]
  congr 1
  omega
theorem set_app' {M X : Store} {k : Nat} {c : Tg × List D} : (M ++ X).set (M.length + k) c = M ++ X.set k c := by
  rw [List.set_append, if_neg (by omega)]
  congr 2
  omega
end DL
namespace Lw
open PySem L2 DL
def encK (x : Nat × Int × Nat) : D := .tup [nI x.1, .int x.2.1, nI x.2.2]
abbrev Rows := List (List (Nat × Int × Nat))
def rowD (r : List (Nat × Int × Nat)) : D := .lst (r.map encK)
def rowC (r : List (Nat × Int × Nat)) : Tg × List D := (.lst, r.map encK)
def lput (L : Rows) (k : Nat) (x : Nat × Int × Nat) : Rows := L.set k (L.getD k [] ++ [x])
def lstep (es : List (Nat × Nat)) (L : Rows) (i : Nat) : Rows := lput (lput L (es.getD i (0, 0)).1 (i, 1, (es.getD i (0, 0)).2)) (es.getD i (0, 0)).2 (i, -1, (es.getD i (0, 0)).1)
def linksA (n : Nat) (es : List (Nat × Nat)) (fs : List Nat) : Rows := fs.foldl (lstep es) (List.replicate n [])
theorem lput_len (L : Rows) (k : Nat) (x : Nat × Int × Nat) : (lput L k x).length = L.length := by simp [lput]
theorem lput_row {L : Rows} {k b : Nat} {x : Nat × Int × Nat} (h : ∀ r ∈ L, r.length ≤ b) : ∀ r ∈ lput L k x, r.length ≤ b + 1 := by
  intro r hr
  unfold lput at hr
  rcases List.mem_or_eq_of_mem_set hr with z | z
  · have := h r z; omega
  · subst z
    rw [List.length_append, List.length_singleton]
    have : (L.getD k []).length ≤ b := by
      rw [List.getD_eq_getElem?_getD]
      cases q : L[k]? with
      | none => simp
      | some r' => simpa using h r' (List.mem_of_getElem? q)
    omega
theorem linksA_ok (n : Nat) (es : List (Nat × Nat)) (fs : List Nat) : (linksA n es fs).length = n ∧ ∀ r ∈ linksA n es fs, r.length ≤ 2 * fs.length := by
  have gen : ∀ (fs : List Nat) (L : Rows) (b : Nat), (∀ r ∈ L, r.length ≤ b) → (fs.foldl (lstep es) L).length = L.length ∧ ∀ r ∈ fs.foldl (lstep es) L, r.length ≤ b + 2 * fs.length := by
    intro fs
    induction fs with
    | nil => intro L b h; exact ⟨rfl, by simpa using h⟩
    | cons i fs ih =>
      intro L b h
      obtain ⟨a, c⟩ := ih (lstep es L i) (b + 1 + 1) (lput_row (lput_row h))
      refine ⟨by rw [List.foldl_cons, a]; unfold lstep; rw [lput_len, lput_len], fun r hr => ?_⟩
      have := c r (by rw [List.foldl_cons] at hr; exact hr)
      rw [List.length_cons]
      omega
  have := gen fs (List.replicate n []) 0 (fun r hr => by rw [(List.mem_replicate.mp hr).2]; exact Nat.le_refl _)
  refine ⟨by rw [linksA, this.1]; simp, fun r hr => by have := this.2 r hr; omega⟩
theorem linksA_snoc (n : Nat) (es : List (Nat × Nat)) (fs : List Nat) (i : Nat) : linksA n es (fs ++ [i]) = lstep es (linksA n es fs) i := by
  unfold linksA
  rw [List.foldl_append]
  rfl
/-- one row longer -/
theorem put_ok {M : Store} {L : Rows} {k : Nat} {fo : Lo → Ev D} {fa : Lo → Ev (List D)} {S : Lo} {x : Nat × Int × Nat} (hk : k < L.length) (h1 : fo S (M ++ L.map rowC) = .ok (.ref (M.length + k)) (M ++ L.map rowC)) (h2 : fa S (M ++ L.map rowC) = .ok [encK x] (M ++ L.map rowC)) (hl : ∀ r ∈ L, r.length < 1000) :
    eBm (cellM opAppend) fo fa S (M ++ L.map rowC) = .ok .non (M ++ (lput L k x).map rowC) := by
  have g : (M ++ L.map rowC)[M.length + k]? = some (.lst, (L.getD k []).map encK) := by
    rw [get_app, List.getElem?_map, List.getElem?_eq_getElem hk, List.getD_eq_getElem?_getD, List.getElem?_eq_getElem hk]
    rfl
  have a := append_ok h1 g h2 g (by
    rw [List.length_map]
    have : (L.getD k []) ∈ L := by
      rw [List.getD_eq_getElem?_getD, List.getElem?_eq_getElem hk]
      exact List.getElem_mem hk
    exact hl _ this)
  rw [a, set_app']
  unfold lput
  rw [List.map_set]
  unfold rowC
  rw [List.map_append]
  rfl
def refsD (b n : Nat) : D := .lst ((List.range n).map fun i => .ref (b + i))
theorem links_body {n : Nat} {es : List (Nat × Nat)} {fl : D} {L : Rows} {i : Nat} {M : Store} {o5 o6 : Option D} (hL : L.length = n) (hi : i < es.length) (h : ∀ e ∈ es, e.1 < n ∧ e.2 < n) (hr : ∀ r ∈ L, r.length < 900) (S : Lo) (hS : S = [some (nI n), some (.lst (es.map encE)), some fl, some (refsD M.length n), some (nI i), o5, o6, none]) :
    sSeq (sAsg (e2 ixE (eVar 1) (eVar 4)) (gTp 2 (gCn (gNm 5) (gCn (gNm 6) gNl)))) (sSeq (sExp (eBm (cellM opAppend) (e2 ixE (eVar 3) (eVar 5)) (eAc (eF (nNew .tup (eAc (eVar 4) (eAc (eC (.int 1)) (eAc (eVar 6) eA0))))) eA0))) (sExp (eBm (cellM opAppend) (e2 ixE (eVar 3) (eVar 6)) (eAc (eF (nNew .tup (eAc (eVar 4) (eAc (e1 negE (eC (.int 1))) (eAc (eVar 5) eA0))))) eA0)))) S (M ++ L.map rowC) =
      .ok (.nx [some (nI n), some (.lst (es.map encE)), some fl, some (refsD M.length n), some (nI i), some (nI (es.getD i (0, 0)).1), some (nI (es.getD i (0, 0)).2), none]) (M ++ (lstep es L i).map rowC) := by
  subst hS
  have he : es[i]? = some (es.getD i (0, 0)) := by
    rw [List.getD_eq_getElem?_getD, List.getElem?_eq_getElem hi]
    rfl
  obtain ⟨h1, h2⟩ := h _ (List.mem_of_getElem? he)
  unfold lstep
  generalize es.getD i (0, 0) = e at he h1 h2 ⊢
  have ge : (es.map encE)[i]? = some (encE e) := by rw [List.getElem?_map, he]; rfl
  refine Eq.trans (seq_nx (asg_g (e2_ret (v_ok rfl) (v_ok rfl) (ix_ret rfl ge)) (gtp2 (g_nm _ _ _ _) (g_nm _ _ _ _)))) ?_
  have rf : ∀ k, k < n → ((List.range n).map fun i => D.ref (M.length + i))[k]? = some (.ref (M.length + k)) := fun k hk => by
    rw [List.getElem?_map, List.getElem?_range hk]
    rfl
  refine Eq.trans (seq_nx (exp_ok (put_ok (k := e.1) (x := (i, 1, e.2)) (by omega) (e2_ret (v_ok rfl) (v_ok rfl) (ix_ret rfl (rf _ h1))) (ac_ok (tup_ok (ac_ok (v_ok rfl) (ac_ok (c_ok _ _ _) (ac_ok (v_ok rfl) a0_ok))) (by simp)) a0_ok) (fun r z => by have := hr r z; omega)))) ?_
  have ng : e1 negE (eC (.int 1)) [some (nI n), some (.lst (es.map encE)), some fl, some (refsD M.length n), some (nI i), some (nI e.1), some (nI e.2), none] (M ++ (lput L e.1 (i, 1, e.2)).map rowC) = .ok (.int (-1)) (M ++ (lput L e.1 (i, 1, e.2)).map rowC) := rfl
  exact exp_ok (put_ok (k := e.2) (x := (i, -1, e.1)) (by rw [lput_len]; omega) (e2_ret (v_ok rfl) (v_ok rfl) (ix_ret rfl (rf _ h2))) (ac_ok (tup_ok (ac_ok (v_ok rfl) (ac_ok ng (ac_ok (v_ok rfl) a0_ok))) (by simp)) a0_ok) (fun r z => by have := lput_row (b := 900) (fun r z => by have := hr r z; omega) r z; omega))
theorem links_made {n : Nat} {es : List (Nat × Nat)} {fs : List Nat} (M : Store) (hn : n ≤ 900) (hf : fs.length ≤ 400) (hi : ∀ i ∈ fs, i < es.length) (h : ∀ e ∈ es, e.1 < n ∧ e.2 < n) : F_links_of [nI n, .lst (es.map encE), .lst (fs.map nI)] M = .ok (refsD M.length n) (M ++ (linksA n es fs).map rowC) := by
  have cm := comp_inv (enc := nI) (tg := gNm 7) (tt := tYesD) (te := eCl (nNew .lst eA0)) (g := none) (S := [some (nI n), some (.lst (es.map encE)), some (.lst (fs.map nI)), none, none, none, none, none])
    (fun pre o M' => M' = M ++ (List.replicate pre.length []).map rowC ∧ o = (List.range pre.length).map fun i => .ref (M.length + i)) (List.range n) (M := M) ⟨by simp, rfl⟩ (fun _ _ _ _ => grd_none _) (fun pre x post o M' e j => by
      obtain ⟨rfl, rfl⟩ := j
      refine ⟨_, _, _, _, g_nm _ _ _ _, rfl, fun _ => ⟨_, _, cl_ok (new_ok a0_ok (by simp)), ?_, ?_⟩, fun z => by cases z⟩
      · rw [List.append_assoc, List.length_append, List.length_singleton, List.replicate_succ', List.map_append]
        rfl
      · have e1 : (pre ++ [x]).length = pre.length + 1 := by simp
        rw [e1, List.range_succ, List.map_append, List.length_append, List.length_map, List.length_replicate]
        rfl)
  obtain ⟨ys, M', hc, rfl, rfl⟩ := cm
  rw [List.length_range] at hc
  have lp := for_inv (enc := nI) (g := none) (tg := gNm 4) (body := sSeq (sAsg (e2 ixE (eVar 1) (eVar 4)) (gTp 2 (gCn (gNm 5) (gCn (gNm 6) gNl)))) (sSeq (sExp (eBm (cellM opAppend) (e2 ixE (eVar 3) (eVar 5)) (eAc (eF (nNew .tup (eAc (eVar 4) (eAc (eC (.int 1)) (eAc (eVar 6) eA0))))) eA0))) (sExp (eBm (cellM opAppend) (e2 ixE (eVar 3) (eVar 6)) (eAc (eF (nNew .tup (eAc (eVar 4) (eAc (e1 negE (eC (.int 1))) (eAc (eVar 5) eA0))))) eA0)))))
    (fun pre S M' => ∃ o4 o5 o6, S = [some (nI n), some (.lst (es.map encE)), some (.lst (fs.map nI)), some (refsD M.length n), o4, o5, o6, none] ∧ M' = M ++ (linksA n es pre).map rowC) fs (S := [some (nI n), some (.lst (es.map encE)), some (.lst (fs.map nI)), some (refsD M.length n), none, none, none, none]) (M := M ++ (List.replicate n []).map rowC) ⟨none, none, none, rfl, rfl⟩ (fun _ _ _ _ => grd_none _) (fun pre x post S M' e j => by
      obtain ⟨o4, o5, o6, rfl, rfl⟩ := j
      have hx : x ∈ fs := by rw [e]; simp
      have hp : pre.length ≤ fs.length := by rw [e]; simp
      have lk := linksA_ok n es pre
      have b := links_body (fl := .lst (fs.map nI)) (o5 := o5) (o6 := o6) (M := M) lk.1 (hi x hx) h (fun r z => by have := lk.2 r z; omega) _ rfl
      refine ⟨_, _, _, _, g_nm _ _ _ _, b, some (nI x), some (nI (es.getD x (0, 0)).1), some (nI (es.getD x (0, 0)).2), rfl, ?_⟩
      rw [linksA_snoc])
  obtain ⟨S', M', hl, o4, o5, o6, rfl, rfl⟩ := lp
  refine run_rt ?_
  show g_links_of [some (nI n), some (.lst (es.map encE)), some (.lst (fs.map nI)), none, none, none, none, none] M = _
  unfold g_links_of
  have lc := lc_ok (vs := [7]) (ir1_ok (f := eAc (eVar 0) eA0) (S := [some (nI n), some (.lst (es.map encE)), some (.lst (fs.map nI)), none, none, none, none, none]) (M := M) (ac_ok (v_ok rfl) a0_ok) (by omega)) (sl_le (by rw [List.length_map, List.length_range]; omega)) hc
  refine Eq.trans (seq_nx (asg_nm (M1 := M ++ (List.replicate n []).map rowC) (d := refsD M.length n) (by rw [bnd_ok lc]; rfl))) ?_
  refine Eq.trans (seq_nx (Eq.trans (sfor_ok (iseq_nd (v_ok rfl) rfl)) hl)) ?_
  exact ret_ok (v_ok rfl)
theorem links_fz {n : Nat} {L : Rows} (M : Store) (hL : L.length = n) : fz (M ++ L.map rowC) M.length 9 (refsD M.length n) = some (.lst (L.map rowD)) := by
  have e : L.map rowD = (List.range n).map fun i => rowD (L.getD i []) := by
    apply List.ext_getElem?
    intro i
    rw [List.getElem?_map, List.getElem?_map]
    by_cases q : i < n
    · rw [List.getElem?_range q, Option.map_some, List.getD_eq_getElem?_getD, List.getElem?_eq_getElem (by omega)]
      rfl
    · rw [List.getElem?_eq_none (by omega), List.getElem?_eq_none (by rw [List.length_range]; omega)]
      rfl
  rw [e]
  refine fz_nd (fzs_map _ _ _ fun i hi => ?_)
  have hi : i < L.length := by rw [List.mem_range] at hi; omega
  refine fz_ref (by omega) (t := .lst) (l := (L.getD i []).map encK) ?_ (fzs_map _ _ _ fun x _ => fz_id _ _ _ _ ?_)
  · rw [get_app, List.getElem?_map, List.getD_eq_getElem?_getD, List.getElem?_eq_getElem hi]
    rfl
  · simp [encK, rlt, rlts]
end Lw

set_option Elab.async false
set_option linter.all false
set_option maxRecDepth 100000
set_option maxHeartbeats 1000000
/-! TL7: isinstance, parallel stores, pools made, walks over own cells, the law's end. -/
namespace TL
open PySem L2 DL
open Mo (pur bnd lft)
open Enc (enc)
open EncL (encL)
theorem fz_int {M : Store} {n k : Nat} {d : D} {b : Int} (h : fz M n k d = some (.int b)) : d = .int b := by
  cases d with
  | ref c =>
    unfold fz at h
    by_cases hc : c < n
    · rw [if_pos hc] at h; cases h
    · rw [if_neg hc] at h
      cases k with
      | zero => cases h
      | succ k =>
        dsimp only at h
        cases q : M[c]? with
        | none => rw [q] at h; cases h
        | some tl =>
          rw [q] at h
          dsimp only at h
          cases q2 : fzs M n k tl.2 with
          | none => rw [q2] at h; cases h
          | some l => rw [q2] at h; cases h
  | nd t l =>
    unfold fz at h
    cases q2 : fzs M n k l with
    | none => rw [q2] at h; cases h
    | some l => rw [q2] at h; cases h
  | int c => unfold fz at h; cases h; rfl
  | _ => unfold fz at h; cases h
section
variable {m : Type → Type} [Mo m] {pp : List Nat} {M0 : Store} {fs fs' fs'' : List SV} {α β γ τ κ φ ρ ω : Type} [Enc α] [Enc β] [Enc γ] [EncL τ] [Enc ρ] [Enc ω] {K : φ → Fl → Store → Prop}
theorem ep_isi {a : Lo → Ev D} {v : α} {t T : String} {b : Bool} (ha : EP fs a v) (ht : ∀ M, tyN (enc v) M = .ok t M) (hb : isiB t T = some b) : EP fs (eCall (op2 isiE) (eAc a (eAc (eC (.ty T)) eA0))) b := fun pp M0 S M ns r => by
  have h : eAc a (eAc (eC (.ty T)) eA0) S M = .ok [enc v, .ty T] M := by
    unfold eAc
    rw [bok (ha pp M0 S M ns r)]
    rfl
  unfold eCall
  rw [bok h]
  show isiE (enc v) (.ty T) M = _
  unfold isiE
  rw [bok (ht M)]
  dsimp only
  rw [hb]
  rfl
theorem tysOf_map (Ts : List String) : tysOf (Ts.map D.ty) = some Ts := by
  induction Ts with
  | nil => rfl
  | cons t l ih => rw [List.map_cons, tysOf, ih]; rfl
theorem ep_isiT {a : Lo → Ev D} {f : Lo → Ev (List D)} {v : α} {t : String} {Ts : List String} {b : Bool} (ha : EP fs a v) (ht : ∀ M, tyN (enc v) M = .ok t M) (hf : ∀ S M, f S M = .ok (Ts.map D.ty) M) (hl : Ts.length ≤ 1000) (hb : isiA t Ts = some b) :
    EP fs (eCall (op2 isiTE) (eAc a (eAc (eF (nNew .tup f)) eA0))) b := fun pp M0 S M ns r => by
  have h0 : eF (nNew .tup f) S M = .ok (.nd .tup (Ts.map D.ty)) M := by
    have : nNew .tup f S M = .ok (.n .tup (Ts.map D.ty)) M := by
      unfold nNew
      rw [bok (hf S M), if_pos (by rw [List.length_map]; exact Nat.le_trans hl (by decide))]
      rfl
    unfold eF
    rw [bok this]
    rfl
  have h1 : (eAc (eF (nNew .tup f)) eA0) S M = .ok [.nd .tup (Ts.map D.ty)] M := by
    unfold eAc
    rw [bok h0]
    rfl
  have h : eAc a (eAc (eF (nNew .tup f)) eA0) S M = .ok [enc v, .nd .tup (Ts.map D.ty)] M := by
    show ((a S).bnd _) M = _
    rw [bok (ha pp M0 S M ns r)]
    show ((eAc (eF (nNew .tup f)) eA0 S).bnd _) M = _
    rw [bok h1]
    rfl
  unfold eCall
  rw [bok h]
  show isiTE (enc v) (.nd .tup (Ts.map D.ty)) M = _
  unfold isiTE
  rw [bok (ht M), bok (show vw (D.nd .tup (Ts.map D.ty)) M = .ok (.tup, Ts.map D.ty) M from rfl)]
  dsimp only
  rw [tysOf_map]
  dsimp only
  rw [hb]
  rfl
noncomputable def lenG (n : Int) : E Int := if lenB n = true then .ok n else .bad
theorem eo_lenO {cc : Bool} {cn : Str} {F : List D → Ev D} {a : Lo → Ev D} {o : α} {os : List Str} {l : List D} {q : E Int} (ha : EP fs a o) (eo : enc o = .nd (.obj cn os) l) (hm : ("__len__" : Str) ∉ os) (hF : Ret cc [] (F [enc o]) q) : EO (m := m) fs (eCall (op1 (lenO cn F)) (eAc a eA0)) (bnd (lft q) fun n => lft (lenG n)) := fun pp M0 S M ns r Q X w => by
  have h0 : eAc a eA0 S M = .ok [enc o] M := by
    unfold eAc
    rw [bok (ha pp M0 S M ns r)]
    rfl
  have hi : DL.isObj cn "__len__" (enc o) M = .ok () M := by
    unfold DL.isObj
    rw [eo, bok (show vw (D.nd (.obj cn os) l) M = .ok (.obj cn os, l) M from rfl)]
    dsimp only
    rw [if_pos ⟨rfl, hm⟩]
    rfl
  refine Sim.bnd (Sim.ok h0 ?_)
  show Sim (lenO cn F (enc o) M) _ _
  refine Sim.bnd (Sim.ok hi (Sim.bnd ?_))
  show Sim (callD 1 F [enc o] M) _ _
  unfold callD
  rw [if_pos (show [enc o].length = 1 from rfl)]
  refine (hF M (by simp) _ _ (lft_wpE (Mo.bnd_wp w))).imp (fun d M' ⟨n, w, hres⟩ => ?_) (fun c d M' ⟨x, fr⟩ => ⟨x, r.call fr⟩)
  have := fz_int hres.2.1
  subst this
  have w := Mo.lft_wp w
  unfold lenG at w
  unfold lenK
  dsimp only
  by_cases hc : lenB n = true
  · rw [if_pos hc] at w ⊢
    exact ⟨n, rfl, w, r.call hres.1⟩
  · rw [if_neg hc] at w; exact w.elim
theorem ep_lenD {a : Lo → Ev D} {t : Tg} {l : List D} {n : Int} (ha : EV fs a t l) (ht : FC.isSeq t = true) (hn : (l.length : Int) = n) : EP fs (eCall (op1 lenE) (eAc a eA0)) n := ep_cv ha fun d M h => by
  rw [vw_len h ht, hn]
  rfl
/-- a part of a tuple that is worked out -/
theorem eo_tupM {a : Lo → Ev D} {i : Int} {p : m α} {f : α → γ} (ha : EO fs a p) (l : α → List D) (h1 : ∀ x, enc x = .nd .tup (l x)) (h2 : ∀ x, atI (l x) i = some (enc (f x))) : EO fs (e2 ixE a (eC (.int i))) (bnd p fun x => pur (f x)) := fun pp M0 S M ns r Q X w => by
  refine Sim.bnd ((ha pp M0 S M ns r _ _ (Mo.bnd_wp w)).imp (fun d M1 ⟨x, e, w, r⟩ => ?_) (fun _ _ _ h => h))
  subst e
  refine Sim.bnd (Sim.ok (a := .int i) (M := M1) rfl ?_)
  have : ixE (enc x) (.int i) M1 = .ok (enc (f x)) M1 := by
    rw [h1 x]
    show ((sq (.nd .tup (l x))).bnd fun l => optE (atI l i)) M1 = _
    rw [bok (vw_sq (t := .tup) (l := l x) rfl rfl), h2 x]
    rfl
  exact Sim.ok this ⟨f x, rfl, Mo.pur_wp w, r⟩
theorem nl_repM {a b : Lo → Ev D} {xs : List α} {p : m Int} (ha : EP fs a xs) (hb : EO fs b p) : NL m fs (n2 repN a b) (bnd p fun k => lft (repL xs k)) := fun pp M0 S M ns r Q X w => by
  refine Sim.bnd (Sim.ok (ha pp M0 S M ns r) (Sim.bnd ((hb pp M0 S M ns r _ _ (Mo.bnd_wp w)).imp (fun x M1 ⟨k, e, w, r⟩ => ?_) (fun _ _ _ h => h))))
  subst e
  exact nl_rep (m := m) (a := eC (enc xs)) (b := eC (enc k)) (EP.ls (ep_c rfl)) (ep_c (v := k) rfl) pp M0 S M1 ns r Q X w
/-- x, y = a, b -/
theorem b_par {i j : Nat} {f : Lo → Ev (List D)} {g : Lo → Ev Fl} {p : m (α × β × Unit)} {k : (α × β × Unit) → m φ} (ha : AO fs f p) (hr : ∀ x, Blk pp M0 ((fs.set i (.val (enc x.1))).set j (.val (enc x.2.1))) g (k x) K) : Blk pp M0 fs (sSeq (sPar i j f) g) (bnd p k) K := Blk.of fun S M ns r Q X w => by
  refine Sim.seq (Sim.flG ((ha _ M0 S M ns r _ _ (Mo.bnd_wp w)).imp (fun l M1 ⟨v, e, w, r⟩ => ?_) (fun c d M1 ⟨x, r⟩ => ⟨x, r.fram⟩)))
  subst e
  exact (hr v).at_ ((r.setV (i := i)).setV (i := j)) w
def grdC (b : Bool) : E Unit := if b = true then .ok () else .bad
theorem b_newPoolG {n i : Nat} {b : Bool} {F : List D → Ev D} {f : Lo → Ev (List D)} {g : Lo → Ev Fl} {v : τ} {p : m φ} (ha : AP fs f v) (hF : b = true → PoolRet (F (encL v))) (hn : (encL v).length = n) (hr : Blk pp M0 (fs.set i .lpl) g p K) : Blk pp M0 fs (sSeq (sAsg (eCall (callD n F) f) (gNm i)) g) (bnd (lft (grdC b)) fun _ => p) K := Blk.of fun S M ns r Q X w => by
  have w := Mo.lft_wp (Mo.bnd_wp w)
  unfold grdC at w
  cases b with
  | false => exact w.elim
  | true => exact (b_newPool (i := i) ha (hF rfl) hn hr).at_ r w
/-- a walk over a list of one's own, which the body leaves alone -/
theorem b_forC {i : Nat} {tg : D → Lo → Ev Lo} {body g : Lo → Ev Fl} {xs : List α} {st : β → α → m β} {k : β → m φ} {b0 : β} {fsL : β → List SV} {fsT : Nat → β → α → List SV} (hi : fs[i]? = some (.L xs)) (hw : Wk fs (fsL b0)) (hiL : ∀ b, (fsL b)[i]? = some (.L xs)) (ht : ∀ c b x, TgOk ((fsL b).set i (.pin c .lst (xs.map enc))) tg x (fsT c b x))
    (hb : ∀ c b x, Blk pp M0 (fsT c b x) body (st b x) (KN pp M0 fun b => (fsL b).set i (.pin c .lst (xs.map enc)))) (hr : ∀ b, Blk pp M0 (fsL b) g (k b) K) : Blk pp M0 fs (sSeq (sFor (iSeq (eVar i)) tg body) g) (bnd (pur xs) fun ys => bnd (forM st ys b0) k) K := Blk.of fun S M ns r Q X w => by
  have w : Mo.wp (bnd (forM st xs b0) k) Q X := Mo.pur_wp (Q := fun ys => Mo.wp (bnd (forM st ys b0) k) Q X) (Mo.bnd_wp w)
  have w := Mo.bnd_wp w
  have s := r.sl i _ hi
  have h1 : iSeq (eVar i) S M = .ok (xs.map enc, some (ns i, (.lst, xs.map enc))) M := by
    have h0 : eVar i S M = .ok (.ref (ns i)) M := by unfold eVar; rw [s.1]; rfl
    unfold iSeq
    rw [bok h0]
    unfold itSq
    rw [bok (show vw (.ref (ns i)) M = .ok (.lst, xs.map enc) M from by unfold vw; simp only [s.2.2])]
    rfl
  refine Sim.seq (Sim.flG (Sim.ok h1 ?_))
  dsimp only
  generalize hc : ns i = c
  have gen : ∀ (ys : List α) (b : β) (S : Lo) (M : Store) (ns : Nat → Nat), Rel ⟨pp, []⟩ M0 ((fsL b).set i (.pin c .lst (xs.map enc))) S M ns → Mo.wp (forM st ys b) (fun a => Mo.wp (k a) Q X) X → Sim (forL tg body (some (c, (.lst, xs.map enc))) (ys.map enc) S M) (fun fl M' => match fl with
    | .nx S' => Sim (g S' M') (BP pp M0 Q X K) NoX
    | o => BP pp M0 Q X K o M') NoX := by
    have pin : ∀ b, ((fsL b).set i (.pin c .lst (xs.map enc)))[i]? = some (.pin c .lst (xs.map enc)) := fun b => List.getElem?_set_self (List.getElem?_eq_some_iff.mp (hiL b)).1
    have back : ∀ b, (((fsL b).set i (.pin c .lst (xs.map enc))).set i (.L xs)) = fsL b := fun b => by
      rw [List.set_set]
      apply List.ext_getElem?
      intro j
      by_cases e : i = j
      · subst e; rw [List.getElem?_set_self (List.getElem?_eq_some_iff.mp (hiL b)).1, hiL b]
      · rw [List.getElem?_set_ne e]
    intro ys
    induction ys with
    | nil =>
      intro b S M ns r w
      have gd : grd (some (c, (Tg.lst, xs.map enc))) M := (r.sl i _ (pin b)).2.2.2
      rw [List.map_nil, forL, chk_ok gd]
      have w : Mo.wp (k b) Q X := Mo.pur_wp (Q := fun a => Mo.wp (k a) Q X) w
      have r' := r.unpin (pin b)
      rw [back b] at r'
      exact (hr b).at_ r' w
    | cons x ys ih =>
      intro b S M ns r w
      have gd : grd (some (c, (Tg.lst, xs.map enc))) M := (r.sl i _ (pin b)).2.2.2
      rw [List.map_cons, forL, chk_ok gd]
      have w := Mo.bnd_wp w
      obtain ⟨S', h1, r1⟩ := ht c b x _ M0 S M ns r
      refine Sim.bnd (Sim.ok h1 (Sim.bnd (((hb c b x).at_ r1 w).imp (fun fl M2 h => ?_) (fun _ _ _ h => h))))
      cases fl with
      | nx S' => obtain ⟨b', w, ns', r'⟩ := h; exact ih b' S' M2 ns' r' w
      | xc c d S' => exact h
      | rt d => obtain ⟨b, w, z⟩ := h; exact z.elim
      | bk S' => obtain ⟨b, w, z⟩ := h; exact z.elim
      | ct S' => obtain ⟨b, w, z⟩ := h; exact z.elim
  have r2 := (r.wk hw).pin (hiL b0)
  rw [hc] at r2
  exact gen xs b0 S M ns r2 w
/-! ### lists of the caller, read only -/
end
/-! ### the end -/
theorem fz_bl {M : Store} {n k : Nat} {d : D} {b : Bool} (h : fz M n k d = some (.bl b)) : d = .bl b := by
  cases d with
  | ref c =>
    unfold fz at h
    by_cases hc : c < n
    · rw [if_pos hc] at h; cases h
    · rw [if_neg hc] at h
      cases k with
      | zero => cases h
      | succ k =>
        dsimp only at h
        cases q : M[c]? with
        | none => rw [q] at h; cases h
        | some tl =>
          rw [q] at h
          dsimp only at h
          cases q2 : fzs M n k tl.2 with
          | none => rw [q2] at h; cases h
          | some l => rw [q2] at h; cases h
  | nd t l =>
    unfold fz at h
    cases q2 : fzs M n k l with
    | none => rw [q2] at h; cases h
    | some l => rw [q2] at h; cases h
  | bl c => unfold fz at h; cases h; rfl
  | _ => unfold fz at h; cases h
theorem law_end {f : Ev D} {p : W Bool} (h : Ret false [] f p) (w : p (fun v => v = true) (fun _ _ => False)) : ∃ M', f [] = .ok (.bl true) M' := by
  have key := h [] (by simp) (fun v => v = true) (fun _ _ => False) (by rw [wpW]; exact w)
  cases e : f [] with
  | stuck => rw [e] at key; exact key.elim
  | exc c d M' => rw [e] at key; exact key.1.elim
  | ok d M' =>
    rw [e] at key
    obtain ⟨r, rfl, _, hz, _⟩ := key
    have := fz_bl hz
    subst this
    exact ⟨M', rfl⟩
end TL

set_option Elab.async false
set_option linter.all false
set_option maxRecDepth 100000
set_option maxHeartbeats 4000000
/-! TT0: the pool. -/
namespace Lw
open PySem L2 DL TL
theorem take_ok {M : Store} {p : Nat} {s : Int} (hp : PoolAt M p) (hs : 0 < s) (hs2 : s < 2 ^ 128) : ∃ r c, F__law_take [.ref p, .int s] M = .ok (.int r) (M.set p (.lst, c)) ∧ Pl c ∧ 0 ≤ r ∧ r < s := by
  have hl : p < M.length := hp.lt
  obtain ⟨c, hc, a, b, rfl, hb0, hb1⟩ := hp
  have hdv := div_i (i := a) (j := s) ⟨hs, by
    have : s.natAbs < 2 ^ 128 := by omega
    rcases Nat.eq_zero_or_pos s.natAbs with z | z
    · rw [z]; decide
    · exact Nat.lt_trans ((Nat.log2_lt (by omega)).mpr this) (by decide)⟩
  have i0 : ∀ x y : D, atI [x, y] (0 : Int) = some x := fun _ _ => rfl
  have i1 : ∀ x y : D, atI [x, y] (1 : Int) = some y := fun _ _ => rfl
  by_cases h0 : 0 < a
  · refine ⟨a % s, [.int (a / s), .int b], ?_, ⟨a / s, b, rfl, hb0, hb1⟩, Int.emod_nonneg _ (by omega), Int.emod_lt_of_pos _ hs⟩
    refine run_rt ?_
    show g__law_take [some (.ref p), some (.int s), none] M = _
    have n0 : ixN 2 0 = some 0 := rfl
    unfold g__law_take
    simp only [sSeq, sAsg, sExp, sRet, sRetN, sIf, sNext, e1, e2, eVar, eC, eA0, eAc, asB, eB, eAnd, eOr, eNot, eAndV, eOrV, eNotV, eIf, eF, eCl, n2, nNew_eq, new0, new1, new2, new3, new4, new8, frz, cel, eCall, nCall, op1, op2, callD, iop, subE, mod_i, ltE, leE, gtE, geE, negE, eChain, minE, maxE, Ev.bnd, Out.bnd, Ev.ret, Ev.no, Ev.fl, Ev.flB, Ev.flG, Ev.nox, gNm, gTp, gCn, gNl, gSet, eBm, tYesD, oNo, oSo, asI, sFor, iR1, iSeq, iEn, itSq, lenE, sq, vw, FC.isSeq, add_int, List.set_cons_zero, List.set_cons_succ, List.getElem?_cons_zero, List.getElem?_cons_succ, List.length_cons, List.length_nil, Option.map_some, ite_true, ite_false, if_true, if_false, reduceIte, reduceCtorEq, decide_true, decide_false, Bool.false_eq_true, Nat.reduceAdd, Nat.reduceLeDiff, ixE, optE, hc, i0, h0, hs, hdv, setE, n0]
  · refine ⟨((b * 48271 + 11) % 2147483647 * ((b * 48271 + 11) % 2147483647)) % 2147483629 / 64 % s, [.int a, .int ((b * 48271 + 11) % 2147483647)], ?_, ⟨a, _, rfl, Int.emod_nonneg _ (by decide), Int.lt_of_lt_of_le (Int.emod_lt_of_pos _ (by decide)) (by decide)⟩, Int.emod_nonneg _ (by omega), Int.emod_lt_of_pos _ hs⟩
    refine run_rt ?_
    show g__law_take [some (.ref p), some (.int s), none] M = _
    have n1 : ixN 2 1 = some 1 := rfl
    have c1 : mulE (.int b) (.int 48271) = _ := mul_i (.inr (by decide))
    have u : 0 ≤ (b * 48271 + 11) % 2147483647 ∧ (b * 48271 + 11) % 2147483647 < 2147483647 := ⟨Int.emod_nonneg _ (by decide), Int.emod_lt_of_pos _ (by decide)⟩
    have c2 := mul_i (i := (b * 48271 + 11) % 2147483647) (j := (b * 48271 + 11) % 2147483647) (.inl (by omega))
    have c3 : ∀ z : Int, divE (.int z) (.int 64) = Ev.ret (.int (z / 64)) := fun z => div_i ⟨by decide, by decide⟩
    have g1 : (M.set p (Tg.lst, [D.int a, D.int ((b * 48271 + 11) % 2147483647)]))[p]? = some (Tg.lst, [D.int a, D.int ((b * 48271 + 11) % 2147483647)]) := List.getElem?_set_self hl
    unfold g__law_take
    simp only [sSeq, sAsg, sExp, sRet, sRetN, sIf, sNext, e1, e2, eVar, eC, eA0, eAc, asB, eB, eAnd, eOr, eNot, eAndV, eOrV, eNotV, eIf, eF, eCl, n2, nNew_eq, new0, new1, new2, new3, new4, new8, frz, cel, eCall, nCall, op1, op2, callD, iop, subE, mod_i, ltE, leE, gtE, geE, negE, eChain, minE, maxE, Ev.bnd, Out.bnd, Ev.ret, Ev.no, Ev.fl, Ev.flB, Ev.flG, Ev.nox, gNm, gTp, gCn, gNl, gSet, eBm, tYesD, oNo, oSo, asI, sFor, iR1, iSeq, iEn, itSq, lenE, sq, vw, FC.isSeq, add_int, List.set_cons_zero, List.set_cons_succ, List.getElem?_cons_zero, List.getElem?_cons_succ, List.length_cons, List.length_nil, Option.map_some, ite_true, ite_false, if_true, if_false, reduceIte, reduceCtorEq, decide_true, decide_false, Bool.false_eq_true, Nat.reduceAdd, Nat.reduceLeDiff, ixE, optE, hc, i0, i1, h0, hs, setE, n1, c1, c2, c3, g1, Int.reduceLT]
def takeW (s : Int) : W Int := fun Q _ => 0 < s ∧ s < 2 ^ 128 ∧ ∀ r : Int, 0 ≤ r → r < s → Q r
theorem t__law_take (c : Nat) (s : Int) : Ret false [c] (F__law_take (.ref c :: [Enc.enc s])) (takeW s) := fun M hp Q X w => by
  obtain ⟨h1, h2, h3⟩ : 0 < s ∧ s < 2 ^ 128 ∧ ∀ r : Int, 0 ≤ r → r < s → Q r := by rw [wpW] at w; exact w
  have hpc := hp c (by simp)
  obtain ⟨r, k, e, pl, r0, r1⟩ := take_ok hpc h1 h2
  refine Sim.ok e ⟨r, h3 r r0 r1, ⟨by simp, fun i hi hn => ?_, fun n hn => ?_⟩, fz_id _ _ _ _ rfl, fun h => by cases h⟩
  · rw [List.getElem?_set_ne (by simp at hn; exact fun z => hn z.symm)]
  · simp at hn; subst hn
    exact ⟨k, List.getElem?_set_self hpc.lt, pl⟩
theorem pool_cell {M : Store} {ns : List Int} {k : Nat} : ∃ cell : Int, sIf (eB (e2 ltE (eVar 1) (eCall (op1 lenE) (eAc (eVar 0) eA0)))) (sAsg (e2 ixE (eVar 0) (eVar 1)) (gNm 2)) sNext [some (scr ns), some (.int k), some (.int 0), none] M = .ok (.nx [some (scr ns), some (.int k), some (.int cell), none]) M := by
  by_cases hk : (k : Int) < ns.length
  · have hk' : k < ns.length := by omega
    have hg : (ns.map D.int)[k]? = some (.int ns[k]) := by
      simp [List.getElem?_eq_getElem hk']
    exact ⟨ns[k], by simp only [sSeq, sAsg, sExp, sRet, sRetN, sIf, sNext, e1, e2, eVar, eC, eA0, eAc, asB, eB, eAnd, eOr, eNot, eAndV, eOrV, eNotV, eIf, eF, eCl, n2, nNew_eq, new0, new1, new2, new3, new4, new8, frz, cel, eCall, nCall, op1, op2, callD, iop, subE, mod_i, ltE, leE, gtE, geE, negE, eChain, minE, maxE, Ev.bnd, Out.bnd, Ev.ret, Ev.no, Ev.fl, Ev.flB, Ev.flG, Ev.nox, gNm, gTp, gCn, gNl, gSet, eBm, tYesD, oNo, oSo, asI, sFor, iR1, iSeq, iEn, itSq, lenE, sq, vw, FC.isSeq, add_int, List.set_cons_zero, List.set_cons_succ, List.getElem?_cons_zero, List.getElem?_cons_succ, List.length_cons, List.length_nil, Option.map_some, ite_true, ite_false, if_true, if_false, reduceIte, reduceCtorEq, decide_true, decide_false, Bool.false_eq_true, Nat.reduceAdd, Nat.reduceLeDiff, List.length_map, hk, ixE, at_nat, hg, optE]⟩
  · exact ⟨0, by simp only [sSeq, sAsg, sExp, sRet, sRetN, sIf, sNext, e1, e2, eVar, eC, eA0, eAc, asB, eB, eAnd, eOr, eNot, eAndV, eOrV, eNotV, eIf, eF, eCl, n2, nNew_eq, new0, new1, new2, new3, new4, new8, frz, cel, eCall, nCall, op1, op2, callD, iop, subE, mod_i, ltE, leE, gtE, geE, negE, eChain, minE, maxE, Ev.bnd, Out.bnd, Ev.ret, Ev.no, Ev.fl, Ev.flB, Ev.flG, Ev.nox, gNm, gTp, gCn, gNl, gSet, eBm, tYesD, oNo, oSo, asI, sFor, iR1, iSeq, iEn, itSq, lenE, sq, vw, FC.isSeq, add_int, List.set_cons_zero, List.set_cons_succ, List.getElem?_cons_zero, List.getElem?_cons_succ, List.length_cons, List.length_nil, Option.map_some, ite_true, ite_false, if_true, if_false, reduceIte, reduceCtorEq, decide_true, decide_false, Bool.false_eq_true, Nat.reduceAdd, Nat.reduceLeDiff, List.length_map, hk]⟩
theorem pool_cut {M : Store} {a b : D} {cell seed : Int} : ∃ cell2 : Int, sIf (eB (e2 ltE (eVar 2) (e2 powE (eC (.int 10)) (eC (.int 18))))) (sAsg (eC (.int 0)) (gNm 2)) sNext [some a, some b, some (.int cell), some (.int seed)] M = .ok (.nx [some a, some b, some (.int cell2), some (.int seed)]) M := by
  have c5 : powE (.int 10) (.int 18) = Ev.ret (.int (10 ^ (18 : Int).toNat)) := by unfold powE iop; exact if_pos ⟨by decide, by decide, by decide⟩
  generalize (10 : Int) ^ (18 : Int).toNat = z at c5
  by_cases q : cell < z
  · exact ⟨0, by simp only [sSeq, sAsg, sExp, sRet, sRetN, sIf, sNext, e1, e2, eVar, eC, eA0, eAc, asB, eB, eAnd, eOr, eNot, eAndV, eOrV, eNotV, eIf, eF, eCl, n2, nNew_eq, new0, new1, new2, new3, new4, new8, frz, cel, eCall, nCall, op1, op2, callD, iop, subE, mod_i, ltE, leE, gtE, geE, negE, eChain, minE, maxE, Ev.bnd, Out.bnd, Ev.ret, Ev.no, Ev.fl, Ev.flB, Ev.flG, Ev.nox, gNm, gTp, gCn, gNl, gSet, eBm, tYesD, oNo, oSo, asI, sFor, iR1, iSeq, iEn, itSq, lenE, sq, vw, FC.isSeq, add_int, List.set_cons_zero, List.set_cons_succ, List.getElem?_cons_zero, List.getElem?_cons_succ, List.length_cons, List.length_nil, Option.map_some, ite_true, ite_false, if_true, if_false, reduceIte, reduceCtorEq, decide_true, decide_false, Bool.false_eq_true, Nat.reduceAdd, Nat.reduceLeDiff, c5, q]⟩
  · exact ⟨cell, by simp only [sSeq, sAsg, sExp, sRet, sRetN, sIf, sNext, e1, e2, eVar, eC, eA0, eAc, asB, eB, eAnd, eOr, eNot, eAndV, eOrV, eNotV, eIf, eF, eCl, n2, nNew_eq, new0, new1, new2, new3, new4, new8, frz, cel, eCall, nCall, op1, op2, callD, iop, subE, mod_i, ltE, leE, gtE, geE, negE, eChain, minE, maxE, Ev.bnd, Out.bnd, Ev.ret, Ev.no, Ev.fl, Ev.flB, Ev.flG, Ev.nox, gNm, gTp, gCn, gNl, gSet, eBm, tYesD, oNo, oSo, asI, sFor, iR1, iSeq, iEn, itSq, lenE, sq, vw, FC.isSeq, add_int, List.set_cons_zero, List.set_cons_succ, List.getElem?_cons_zero, List.getElem?_cons_succ, List.length_cons, List.length_nil, Option.map_some, ite_true, ite_false, if_true, if_false, reduceIte, reduceCtorEq, decide_true, decide_false, Bool.false_eq_true, Nat.reduceAdd, Nat.reduceLeDiff, c5, q]⟩
theorem pool_seed {M : Store} {ns : List Int} {k : Nat} {cell : Int} (hk : k < 100) : ∃ seed : Int, 0 ≤ seed ∧ seed < 2147483647 ∧ sAsg (e2 modE (e2 mulE (eF (n2 addN (eF (n2 addN (e2 modE (eVar 2) (eC (.int 2147483629))) (e2 mulE (e2 mulE (eC (.int 7919)) (eVar 1)) (eVar 1)))) (eC (.int 13)))) (eC (.int 48271))) (eC (.int 2147483647))) (gNm 3) [some (scr ns), some (.int k), some (.int cell), none] M = .ok (.nx [some (scr ns), some (.int k), some (.int cell), some (.int seed)]) M := by
  have c1 := mul_i (i := 7919) (j := k) (.inl (by decide))
  have c2 := mul_i (i := 7919 * (k : Int)) (j := k) (.inr (by omega))
  have c3 : ∀ z : Int, mulE (.int z) (.int 48271) = Ev.ret (.int (z * 48271)) := fun z => mul_i (.inr (by decide))
  refine ⟨((cell % 2147483629 + 7919 * (k : Int) * k + 13) * 48271) % 2147483647, Int.emod_nonneg _ (by decide), Int.emod_lt_of_pos _ (by decide), ?_⟩
  exact asg_nm (i := 3) (e2_ret (e2_ret (add_ret (add_ret (e2_ret (v_ok rfl) (c_ok _ _ _) (mod_i (by decide))) (e2_ret (e2_ret (c_ok _ _ _) (v_ok rfl) c1) (v_ok rfl) c2)) (c_ok _ _ _)) (c_ok _ _ _) (c3 _)) (c_ok _ _ _) (mod_i (by decide)))
theorem pool_ok {M : Store} {ns : List Int} {k : Nat} (hk : k < 100) : ∃ c, F__law_pool [scr ns, .int k] M = .ok (.ref M.length) (M ++ [(.lst, c)]) ∧ Pl c := by
  obtain ⟨cell, h1⟩ := pool_cell (M := M) (ns := ns) (k := k)
  have h2 := pool_seed (M := M) (ns := ns) (cell := cell) hk
  obtain ⟨seed, s0, s1, h2⟩ := h2
  obtain ⟨cell2, h3⟩ := pool_cut (M := M) (a := scr ns) (b := .int k) (cell := cell) (seed := seed)
  have c4 := mul_i (i := seed) (j := seed) (.inl (by omega))
  refine ⟨[.int cell2, .int (seed * seed % 2147483587 + 1)], run_rt ?_, ⟨_, _, rfl, ?_, ?_⟩⟩
  · show g__law_pool [some (scr ns), some (.int k), none, none] M = _
    unfold g__law_pool
    rw [seq_nx (S1 := [some (scr ns), some (.int k), some (.int 0), none]) (M1 := M) (by simp only [sSeq, sAsg, sExp, sRet, sRetN, sIf, sNext, e1, e2, eVar, eC, eA0, eAc, asB, eB, eAnd, eOr, eNot, eAndV, eOrV, eNotV, eIf, eF, eCl, n2, nNew_eq, new0, new1, new2, new3, new4, new8, frz, cel, eCall, nCall, op1, op2, callD, iop, subE, mod_i, ltE, leE, gtE, geE, negE, eChain, minE, maxE, Ev.bnd, Out.bnd, Ev.ret, Ev.no, Ev.fl, Ev.flB, Ev.flG, Ev.nox, gNm, gTp, gCn, gNl, gSet, eBm, tYesD, oNo, oSo, asI, sFor, iR1, iSeq, iEn, itSq, lenE, sq, vw, FC.isSeq, add_int, List.set_cons_zero, List.set_cons_succ, List.getElem?_cons_zero, List.getElem?_cons_succ, List.length_cons, List.length_nil, Option.map_some, ite_true, ite_false, if_true, if_false, reduceIte, reduceCtorEq, decide_true, decide_false, Bool.false_eq_true, Nat.reduceAdd, Nat.reduceLeDiff]), seq_nx h1, seq_nx h2, seq_nx h3]
    simp only [sSeq, sAsg, sExp, sRet, sRetN, sIf, sNext, e1, e2, eVar, eC, eA0, eAc, asB, eB, eAnd, eOr, eNot, eAndV, eOrV, eNotV, eIf, eF, eCl, n2, nNew_eq, new0, new1, new2, new3, new4, new8, frz, cel, eCall, nCall, op1, op2, callD, iop, subE, mod_i, ltE, leE, gtE, geE, negE, eChain, minE, maxE, Ev.bnd, Out.bnd, Ev.ret, Ev.no, Ev.fl, Ev.flB, Ev.flG, Ev.nox, gNm, gTp, gCn, gNl, gSet, eBm, tYesD, oNo, oSo, asI, sFor, iR1, iSeq, iEn, itSq, lenE, sq, vw, FC.isSeq, add_int, List.set_cons_zero, List.set_cons_succ, List.getElem?_cons_zero, List.getElem?_cons_succ, List.length_cons, List.length_nil, Option.map_some, ite_true, ite_false, if_true, if_false, reduceIte, reduceCtorEq, decide_true, decide_false, Bool.false_eq_true, Nat.reduceAdd, Nat.reduceLeDiff, c4, Int.reduceLT]
  · exact Int.add_nonneg (Int.emod_nonneg _ (by decide)) (by decide)
  · exact Int.lt_trans (Int.add_lt_add_right (Int.emod_lt_of_pos _ (by decide)) 1) (by decide)
/-- the script, as a type of its own -/
structure Scr where
  ns : List Int
instance : TL.Enc Scr := ⟨fun x => scr x.ns, fun x n => by
  show rlts n (x.ns.map D.int) = true
  exact TL.nrs (α := Int) n x.ns⟩
theorem t__law_pool (s : Scr) (k : Nat) (hk : k < 100) : PoolRet (F__law_pool (TL.EncL.encL (s, ((k : Int), ())))) := fun M => by
  obtain ⟨c, h, pl⟩ := pool_ok (M := M) (ns := s.ns) hk
  exact ⟨M.length, M ++ [(.lst, c)], h, Nat.le_refl _, ⟨c, by simp, pl⟩, by simp, fun i hi => List.getElem?_append_left hi⟩
theorem t__law_poolG (s : Scr) (k : Int) (h : (decide (0 ≤ k) && decide (k < 100)) = true) : PoolRet (F__law_pool (TL.EncL.encL (s, (k, ())))) := by
  have h := Bool.and_eq_true_iff.mp h
  have h1 := of_decide_eq_true h.1
  have h2 := of_decide_eq_true h.2
  obtain ⟨n, rfl⟩ := Int.eq_ofNat_of_zero_le h1
  exact t__law_pool s n (by omega)
end Lw

set_option Elab.async false
set_option linter.all false
set_option maxRecDepth 100000
set_option maxHeartbeats 1000000
/-! TW: links_of and Web, typed. -/
namespace Lw
open PySem L2 DL TL
open Mo (pur bnd lft)
open Enc (enc)
def cE (e : Nat × Nat) : Int × Int := ((e.1 : Int), (e.2 : Int))
def cN (k : Nat) : Int := k
def cL (x : Nat × Int × Nat) : T3 Int Int Int := ⟨(x.1 : Int), x.2.1, (x.2.2 : Int)⟩
theorem enc_es (es : List (Nat × Nat)) : enc (es.map cE) = .lst (es.map encE) := by
  show D.nd .lst ((es.map cE).map enc) = _
  rw [List.map_map]
  rfl
theorem enc_ns (ks : List Nat) : enc (ks.map cN) = .lst (ks.map nI) := by
  show D.nd .lst ((ks.map cN).map enc) = _
  rw [List.map_map]
  rfl
structure LinkOk (n : Int) (es : List (Int × Int)) (fs : List Int) (x : Nat × List (Nat × Nat) × List Nat) : Prop where
  n : n = cN x.1
  es : es = x.2.1.map cE
  fs : fs = x.2.2.map cN
  h1 : x.1 ≤ 900
  h2 : x.2.2.length ≤ 400
  h3 : ∀ i ∈ x.2.2, i < x.2.1.length
  h4 : ∀ e ∈ x.2.1, e.1 < x.1 ∧ e.2 < x.1
def linksI (x : Nat × List (Nat × Nat) × List Nat) : List (List (T3 Int Int Int)) := (linksA x.1 x.2.1 x.2.2).map (·.map cL)
open Classical in
noncomputable def p_links_of (n : Int) (es : List (Int × Int)) (fs : List Int) : E (List (List (T3 Int Int Int))) := if h : ∃ x, LinkOk n es fs x then .ok (linksI h.choose) else .bad
theorem cE_inj : ∀ {a b : List (Nat × Nat)}, a.map cE = b.map cE → a = b := fun {a b} h => by
  refine (List.map_inj_right (fun x y h => ?_)).mp h
  unfold cE at h
  cases x; cases y
  simp at h
  simp; omega
theorem cN_inj : ∀ {a b : List Nat}, a.map cN = b.map cN → a = b := fun {a b} h => by
  refine (List.map_inj_right (fun x y h => ?_)).mp h
  unfold cN at h
  omega
theorem links_val {n : Nat} {es : List (Nat × Nat)} {fs : List Nat} (h : LinkOk (cN n) (es.map cE) (fs.map cN) (n, es, fs)) : p_links_of (cN n) (es.map cE) (fs.map cN) = .ok (linksI (n, es, fs)) := by
  unfold p_links_of
  have hx : ∃ x, LinkOk (cN n) (es.map cE) (fs.map cN) x := ⟨_, h⟩
  rw [dif_pos hx]
  have c := hx.choose_spec
  generalize hx.choose = x at c
  obtain ⟨k, ds, gs⟩ := x
  have e1 : k = n := by have := c.n; unfold cN at this; dsimp only at this; omega
  have e2 : ds = es := (cE_inj c.es).symm
  have e3 : gs = fs := (cN_inj c.fs).symm
  rw [e1, e2, e3]
theorem t_links_of (n : Int) (es : List (Int × Int)) (fs : List Int) : Ret false [] (F_links_of [enc n, enc es, enc fs]) (p_links_of n es fs) := fun M hp Q X w => by
  rw [wpE] at w
  unfold p_links_of at w
  by_cases hx : ∃ x, LinkOk n es fs x
  · rw [dif_pos hx] at w
    have c := hx.choose_spec
    generalize hx.choose = x at c w
    obtain ⟨k, ds, gs⟩ := x
    obtain ⟨rfl, rfl, rfl, h1, h2, h3, h4⟩ := c
    dsimp only at h1 h2 h3 h4 w ⊢
    have key := links_made (n := k) (es := ds) (fs := gs) M h1 h2 h3 h4
    rw [enc_es, enc_ns]
    refine Sim.ok key ⟨_, w, ⟨by simp, fun i hi _ => List.getElem?_append_left hi, by simp⟩, ?_, fun h => by cases h⟩
    rw [links_fz M (linksA_ok k ds gs).1]
    show some (D.nd .lst _) = some (D.nd .lst (((linksA k ds gs).map (·.map cL)).map enc))
    rw [List.map_map]
    congr 2
    apply List.map_congr_left
    intro r _
    show D.nd .lst _ = D.nd .lst ((r.map cL).map enc)
    rw [List.map_map]
    rfl
  · rw [dif_neg hx] at w; exact w.elim
structure OWeb where
  own_size : Int
  own_edges : List (Int × Int)
  own_modulus : Int
  own_forest : List Int
  links : List (List (T3 Int Int Int))
instance : TL.Enc OWeb := ⟨fun o => .nd (.obj "Web" ["own_size", "own_edges", "own_modulus", "own_forest", "links"]) [enc o.own_size, enc o.own_edges, enc o.own_modulus, enc o.own_forest, enc o.links], fun o n => by
  simp [rlt, rlts, TL.Enc.nr]⟩
end Lw

set_option Elab.async false
set_option linter.all false
set_option maxRecDepth 100000
set_option maxHeartbeats 1000000
/-! TL8: locked dicts, defaults, objects made by places, int, len(set). -/
namespace TL
open PySem L2 DL
open Mo (pur bnd lft)
open Enc (enc)
open EncL (encL)
/-- a locked dict by its pairs -/
structure Fd (α : Type) where
  kv : List (Int × α)
def Fd.dc {α : Type} (d : Fd α) : Dc α := ⟨d.kv⟩
def Dc.fd {α : Type} (d : Dc α) : Fd α := ⟨d.kv⟩
def fget {α : Type} (d : Fd α) (k : Int) : E α := dget d.dc k
instance {α : Type} [Enc α] : Enc (Fd α) := ⟨fun d => .nd (.fdct (dks d.dc)) (dvs d.dc), fun d n => by simp [rlt, nrv]⟩
section
variable {m : Type → Type} [Mo m] {pp : List Nat} {M0 : Store} {fs fs' fs'' : List SV} {α β γ τ κ φ ρ ω : Type} [Enc α] [Enc β] [Enc γ] [EncL τ] [EncL κ] [Enc ρ] [Enc ω] {K : φ → Fl → Store → Prop}
theorem o_fget (d : Fd α) (k : Int) : OpE (getK (enc d) (enc k)) (fget d k) := fun M => by
  unfold fget dget
  cases q : dfind d.dc k with
  | none => trivial
  | some v =>
    show getK (.nd (.fdct (dks d.dc)) (dvs d.dc)) (.int k) M = _
    unfold getK
    show (match vd ((dks d.dc).zip (dvs d.dc)) (.inl k) with
      | some d => Ev.ret d
      | none => Ev.no) M = _
    rw [vd_kv, q]
    rfl
/-- the own dict is returned, locked -/
theorem b_retK {cc : Bool} (i : Nat) {d : Dc α} {inj : Fd α → φ} (hk : KRet cc pp M0 K inj) (hi : fs[i]? = some (.D d)) : Blk (m := m) pp M0 fs (sRet (e1 lkE (eVar i))) (pur (inj d.fd)) K := Blk.of fun S M ns r Q X w => by
  have s := r.sl i _ hi
  have h1 : eVar i S M = .ok (.ref (ns i)) M := by unfold eVar; rw [s.1]; rfl
  have h2 : e1 lkE (eVar i) S M = .ok (.ref (ns i)) (M.set (ns i) (.fdct (dks d), dvs d)) := by
    unfold e1
    rw [bok h1]
    unfold lkE
    simp only [s.2.2]
  have hlt : ns i < M.length := (List.getElem?_eq_some_iff.mp s.2.2).1
  have g : (M.set (ns i) (.fdct (dks d), dvs d))[ns i]? = some (.fdct (dks d), dvs d) := List.getElem?_set_self hlt
  have r2 := r.wr (t' := .fdct (dks d)) (l' := dvs d) rfl hi
  exact Sim.fl (Sim.ok h2 ⟨inj d.fd, Mo.pur_wp w, hk d.fd _ _ ⟨r2.fram, fz_cell s.2.1 g (nrv _ _), fun _ => ⟨ns i, _, _, rfl, s.2.1, g, rfl⟩⟩⟩)
/-- sorted -/
def srtL (xs : List Int) : E (List Int) := if xs.length < 64 then .ok (srt xs) else .bad
theorem nl_sortedF {a : Lo → Ev D} {p : m (Fd α)} (ha : EO fs a p) : NL m fs (nCall (op1 sortedN) (eAc a eA0)) (bnd p fun d => lft (srtL (d.kv.map (Prod.fst : Int × α → Int)))) := fun pp M0 S M ns r Q X w => by
  refine Sim.bnd (Sim.bnd ((ha pp M0 S M ns r _ _ (Mo.bnd_wp w)).imp (fun d M1 ⟨xs, e, w, r⟩ => ?_) (fun _ _ _ h => h)))
  subst e
  have w := Mo.lft_wp w
  unfold srtL at w
  by_cases h : (xs.kv.map (Prod.fst : Int × α → Int)).length < 64
  · rw [if_pos h] at w
    refine Sim.ok (a := [enc xs]) (M := M1) rfl (Sim.ok (a := NR.n .lst ((srt (xs.kv.map (Prod.fst : Int × α → Int))).map D.int)) (M := M1) ?_ ⟨srt (xs.kv.map (Prod.fst : Int × α → Int)), rfl, w, r⟩)
    show sortedN (.nd (.fdct (dks xs.dc)) (dvs xs.dc)) M1 = _
    unfold sortedN
    show (match intKeys (dks xs.dc) with
      | some ns => if ns.length < 64 ∧ (dks xs.dc).length = (dvs xs.dc).length then Ev.ret (NR.n .lst ((srt ns).map D.int)) else Ev.no
      | none => Ev.no) M1 = _
    have e : dks xs.dc = (xs.kv.map (Prod.fst : Int × α → Int)).map Sum.inl := by rw [List.map_map]; rfl
    rw [e, intKeys_map]
    show (if (xs.kv.map (Prod.fst : Int × α → Int)).length < 64 ∧ _ then Ev.ret (NR.n .lst ((srt (xs.kv.map (Prod.fst : Int × α → Int))).map D.int)) else Ev.no) M1 = _
    rw [if_pos ⟨h, by simp [Fd.dc]⟩]
    rfl
  · rw [if_neg h] at w; exact w.elim
/-! ### None or a value -/
theorem EP.som {e : Lo → Ev D} {v : α} (h : EP fs e v) : EP fs e (some v) := h
theorem EP.nne {e : Lo → Ev D} {v : Unit} (h : EP fs e v) : EP fs e (none : Option α) := h
theorem EO.som {e : Lo → Ev D} {p : m α} (h : EO fs e p) : EO fs e (bnd p fun v => pur (some v)) := fun pp M0 S M ns r Q X w =>
  (h pp M0 S M ns r _ _ (Mo.bnd_wp w)).imp (fun d M1 ⟨v, e, w, r⟩ => ⟨some v, e, Mo.pur_wp w, r⟩) (fun _ _ _ h => h)
theorem EO.nne {e : Lo → Ev D} {p : m Unit} (h : EO fs e p) : EO fs e (bnd p fun _ => pur (none : Option α)) := fun pp M0 S M ns r Q X w =>
  (h pp M0 S M ns r _ _ (Mo.bnd_wp w)).imp (fun d M1 ⟨v, e, w, r⟩ => ⟨none, e, Mo.pur_wp w, r⟩) (fun _ _ _ h => h)
end
end TL

set_option Elab.async false
set_option linter.all false
set_option maxRecDepth 100000
set_option maxHeartbeats 1000000
/-! TS: systems, typed. -/
namespace Lw
open PySem L2 DL TL
open Enc (enc)
structure OSystem where
  own_modulus : Int
  rows : List (T3 Int Int Int)
  links : List (List (T3 Int Int Int))
  groups : List (List Int)
instance : TL.Enc OSystem := ⟨fun o => .nd (.obj "System" ["own_modulus", "rows", "links", "groups"]) [enc o.own_modulus, enc o.rows, enc o.links, enc o.groups], fun o n => by
  simp [rlt, rlts, TL.Enc.nr]⟩
end Lw

set_option Elab.async false
set_option linter.all false
set_option maxRecDepth 100000
set_option maxHeartbeats 1000000
/-! TL9: what a system answers: a potential, or a walk. -/
namespace TL
open PySem L2 DL
open Mo (pur bnd lft)
open Enc (enc)
open EncL (encL)
inductive Ans where
  | pot (l : List Int) | cyc (l : List (Int × Int)) | fix (l : List (Int × Int))
instance : Enc Ans := ⟨fun a => match a with
  | .pot l => .nd .tup [.str "potential", enc l]
  | .cyc l => .nd .tup [.str "cycle", enc l]
  | .fix l => .nd .tup [.str "fixed", enc l], fun a n => by cases a <;> simp [rlt, rlts, Enc.nr]⟩
def Ans.word : Ans → Str
  | .pot _ => "potential"
  | .cyc _ => "cycle"
  | .fix _ => "fixed"
def Ans.lv : Ans → E (List Int)
  | .pot l => .ok l
  | _ => .bad
def Ans.wk : Ans → E (List (Int × Int))
  | .pot _ => .bad
  | .cyc l => .ok l
  | .fix l => .ok l
section
variable {m : Type → Type} [Mo m] {pp : List Nat} {M0 : Store} {fs fs' fs'' : List SV} {α β γ τ κ φ ρ ω : Type} [Enc α] [Enc β] [Enc γ] [EncL τ] [EncL κ] [Enc ρ] [Enc ω] {K : φ → Fl → Store → Prop}
end
end TL

set_option Elab.async false
set_option linter.all false
set_option maxRecDepth 100000
set_option maxHeartbeats 1000000
/-! TLZ: dict comprehensions, update, answers taken apart, words compared, what is given up. -/
namespace TL
open PySem L2 DL
open Mo (pur bnd lft)
open Enc (enc)
open EncL (encL)
section
variable {m : Type → Type} [Mo m] {pp : List Nat} {M0 : Store} {fs fs' fs'' : List SV} {α β γ τ κ φ ρ ω : Type} [Enc α] [Enc β] [Enc γ] [EncL τ] [EncL κ] [Enc ρ] [Enc ω] {K : φ → Fl → Store → Prop}
/-! ### given up -/
/-! ### a dict comprehension -/
def compD {m : Type → Type} [Mo m] {α β : Type} (c : α → m Bool) (k : α → m Int) (f : α → m β) : List α → Dc β → m (Dc β)
  | [], d => pur d
  | x :: xs, d => bnd (nox (c x)) fun b => if b = true then bnd (nox (k x)) fun i => bnd (nox (f x)) fun y => bnd (lft (dput d i y)) fun d' => compD c k f xs d' else compD c k f xs d
def dcM {m : Type → Type} [Mo m] {α β : Type} (xs : List α) (c : α → m Bool) (k : α → m Int) (f : α → m β) : m (Dc β) := compD c k f xs ⟨[]⟩
theorem map_kv {β : Type} [Enc β] (d : Dc β) : (d.kv.map fun p => ((Sum.inl p.1 : Key), enc p.2)) = (dks d).zip (dvs d) := (zip_kv d.kv).symm
theorem no_dc {it : Lo → Ev (List D × Gd)} {tg : D → Lo → Ev Lo} {tt : Lo → Ev Bool} {tk te : Lo → Ev D} {vs : List Nat} {px : m (List α)} {c : α → m Bool} {k : α → m Int} {f : α → m β} {fsT : α → List SV} (hi : IO fs it px) (ht : ∀ x, TgOk (wipeF fs vs) tg x (fsT x)) (hc : ∀ x, TO (fsT x) tt (c x)) (hk : ∀ x, EO (fsT x) tk (k x)) (hf : ∀ x, EO (fsT x) te (f x)) (hC : ∀ x, Cin fs (fsT x)) :
    NO fs (nDc it tg tt tk te vs) (bnd px fun xs => dcM xs c k f) (fun d => .dct (dks d)) (fun d => dvs d) := fun pp M0 S M ns r Q X w => by
  refine Sim.bnd ((hi pp M0 S M ns r _ _ (Mo.bnd_wp w)).imp (fun d M1 ⟨xs, gd, e, hgd, w, r⟩ => ?_) (fun _ _ _ h => h))
  subst e
  have gen : ∀ (xs : List α) (d : Dc β) (M : Store) (Q : Dc β → Prop), Rel pp M0 fs S M ns → Mo.wp (compD c k f xs d) Q X → Sim (compK tg tt tk te gd (wipeD S vs) (xs.map enc) ((dks d).zip (dvs d)) M) (fun ys M' => ∃ v : Dc β, ys = (dks v).zip (dvs v) ∧ Q v ∧ Rel pp M0 fs S M' ns) NoX := by
    intro xs
    induction xs with
    | nil =>
      intro d M Q r w
      rw [List.map_nil, compK, chk_ok (hgd.grd r)]
      exact ⟨d, rfl, Mo.pur_wp w, r⟩
    | cons x xs ih =>
      intro d M Q r w
      rw [List.map_cons, compK, chk_ok (hgd.grd r)]
      have w := nox_wpB (Mo.bnd_wp w)
      obtain ⟨S1, h1, r1⟩ := ht x pp M0 _ M ns (r.wipe vs)
      refine Sim.bnd (Sim.ok (DL.nox_ok h1) (Sim.bnd (Sim.nox (((hc x) pp M0 S1 M ns r1 _ _ w).imp (fun z M1 ⟨w, r1⟩ => ?_) (fun c d M1 ⟨x, r⟩ => Mo.lft_wp x)))))
      have r0 := r.back r1 (fun i v h hv => (hC x).get h hv)
      cases z with
      | false =>
        rw [if_neg (by decide)] at w ⊢
        exact ih d M1 Q r0 w
      | true =>
        rw [if_pos rfl] at w ⊢
        have w := nox_wp (Mo.bnd_wp w)
        refine Sim.bnd (Sim.nox (((hk x) pp M0 S1 M1 ns r1 _ _ w).imp (fun z M2 ⟨i, e, w, r1⟩ => ?_) (fun c d M1 ⟨x, r⟩ => Mo.lft_wp x)))
        subst e
        have w := nox_wp (Mo.bnd_wp w)
        refine Sim.bnd (Sim.nox (((hf x) pp M0 S1 M2 ns r1 _ _ w).imp (fun z M3 ⟨y, e, w, r1⟩ => ?_) (fun c d M1 ⟨x, r⟩ => Mo.lft_wp x)))
        subst e
        have r0 := r.back r1 (fun i v h hv => (hC x).get h hv)
        have w := Mo.lft_wp (Mo.bnd_wp w)
        unfold dput at w
        by_cases hl : d.kv.length < sizeLine
        · rw [if_pos hl] at w
          show Sim ((if ((dks d).zip (dvs d)).length < sizeLine then _ else Ev.no) M3) _ _
          rw [if_pos (by simpa using hl)]
          have e : pk ((dks d).zip (dvs d)) (.inl i) (enc y) = (dks (dputV d i y)).zip (dvs (dputV d i y)) := by rw [pk_kv, map_kv]
          rw [e]
          exact ih (dputV d i y) M3 Q r0 w
        · rw [if_neg hl] at w; exact w.elim
  refine Sim.bnd ((gen xs ⟨[]⟩ M1 Q r w).imp (fun ys M3 ⟨v, e, w, r0⟩ => ?_) (fun _ _ _ h => h.elim))
  subst e
  refine ⟨v, ?_, w, r0⟩
  rw [← map_kv, List.map_map, List.map_map]
  rfl
theorem eo_dct {e : Lo → Ev NR} {p : m (Dc α)} (h : NO fs e p (fun d => .dct (dks d)) (fun d => dvs d)) : EO fs (eF e) p := fun pp M0 S M ns r Q X w => by
  refine Sim.bnd ((h pp M0 S M ns r _ _ w).imp (fun d M1 ⟨v, e, w, r⟩ => ?_) (fun _ _ _ h => h))
  subst e
  refine Sim.ok (a := enc v) (M := M1) ?_ ⟨v, rfl, w, r⟩
  show (if (dks v).length = (dvs v).length then Ev.ret (D.nd (.dct (dks v)) (dvs v)) else Ev.no) M1 = _
  rw [if_pos (by simp)]
  rfl
/-- d.update(..) -/
def dupdV {α : Type} (d e : Dc α) : Dc α := e.kv.foldl (fun a p => dputV a p.1 p.2) d
def dupd {α : Type} (d e : Dc α) : E (Dc α) := if d.kv.length + e.kv.length ≤ sizeLine then .ok (dupdV d e) else .bad
theorem fold_pk (l : List (Int × α)) : ∀ d : Dc α, ((l.map fun p => ((Sum.inl p.1 : Key), enc p.2)).foldl (fun acc q => pk acc q.1 q.2) ((dks d).zip (dvs d))) = (dks (l.foldl (fun a p => dputV a p.1 p.2) d)).zip (dvs (l.foldl (fun a p => dputV a p.1 p.2) d)) := by
  induction l with
  | nil => intro d; rfl
  | cons x l ih =>
    intro d
    rw [List.map_cons, List.foldl_cons, List.foldl_cons, pk_kv, map_kv, ih]
theorem b_updD {i : Nat} {e : Lo → Ev D} {g : Lo → Ev Fl} {d : Dc α} {p : m (Dc α)} {k : Dc α → m φ} (hi : fs[i]? = some (.D d)) (he : EO fs e p) (hr : ∀ x, Blk pp M0 (fs.set i (.D x)) g (k x) K) :
    Blk pp M0 fs (sSeq (sExp (eBk updE (eVar i) (eAc e eA0))) g) (bnd p fun v => bnd (lft (dupd d v)) k) K := Blk.of fun S M ns r Q X w => by
  have s := r.sl i _ hi
  have h1 : eVar i S M = .ok (.ref (ns i)) M := by unfold eVar; rw [s.1]; rfl
  have h2 : isCellK (.ref (ns i)) M = .ok () M := by unfold isCellK; simp only [s.2.2]
  refine Sim.seq (Sim.fl (Sim.bnd (Sim.ok h1 (Sim.bnd (Sim.ok h2 (Sim.bnd (Sim.bnd ((he _ M0 S M ns r _ _ (Mo.bnd_wp w)).imp (fun x M1 ⟨v, e, w, r⟩ => ?_) (fun c d M1 ⟨x, r⟩ => ⟨x, r.fram⟩)))))))))
  subst e
  have s := r.sl i _ hi
  have w := Mo.lft_wp (Mo.bnd_wp w)
  unfold dupd at w
  by_cases hl : d.kv.length + v.kv.length ≤ sizeLine
  · rw [if_pos hl] at w
    have h3 : updE (.ref (ns i)) [enc v] M1 = .ok .non (M1.set (ns i) (.dct (dks (dupdV d v)), dvs (dupdV d v))) := by
      show updE (.ref (ns i)) [.nd (.dct (dks v)) (dvs v)] M1 = _
      unfold updE
      dsimp only
      rw [bok (show vw (D.nd (.dct (dks v)) (dvs v)) M1 = .ok (.dct (dks v), dvs v) M1 from rfl)]
      dsimp only
      rw [s.2.2]
      dsimp only
      rw [if_pos ⟨rfl, by simp, by simp, by simpa using hl⟩]
      rw [← map_kv v, fold_pk v.kv d]
      show Out.ok D.non (M1.set (ns i) (Tg.dct (((dks (dupdV d v)).zip (dvs (dupdV d v))).map (·.1)), ((dks (dupdV d v)).zip (dvs (dupdV d v))).map (·.2))) = _
      rw [← map_kv, List.map_map, List.map_map]
      rfl
    refine Sim.ok (a := [enc v]) (M := M1) rfl (Sim.ok h3 ?_)
    exact (hr _).at_ (r.wr rfl hi) w
  · rw [if_neg hl] at w; exact w.elim
/-! ### answers taken apart -/
def Ans.pay : Ans → List Int ⊕ List (Int × Int)
  | .pot l => .inl l
  | .cyc l => .inr l
  | .fix l => .inr l
def getR {α β : Type} : α ⊕ β → E β
  | .inr a => .ok a
  | .inl _ => .bad
/-! ### joins with exits; continue, break -/
/-! ### a list or a tuple of numbers -/
structure SqI where
  t : Bool
  xs : List Int
def SqI.tg (x : SqI) : Tg := if x.t = true then .tup else .lst
instance : Enc SqI := ⟨fun x => .nd x.tg (x.xs.map enc), fun x n => by simp [rlt, nrs]⟩
/-! ### words -/
def eqS (neg : Bool) (x y : Str) : E Bool := if (PyData.strOk x && PyData.strOk y) = true then .ok (neg ^^ decide (x = y)) else .bad
theorem o_eqS (neg : Bool) (x y : Str) : OpE (eqE neg (enc x) (enc y)) (eqS neg x y) := fun M => by
  unfold eqS
  by_cases h : (PyData.strOk x && PyData.strOk y) = true
  · rw [if_pos h]
    rw [Bool.and_eq_true] at h
    show eqE neg (.str x) (.str y) M = _
    unfold eqE
    have e1 : py M 14 (.str x) = some (.str x) := by rw [py]; exact if_pos h.1
    have e2 : py M 14 (.str y) = some (.str y) := by rw [py]; exact if_pos h.2
    rw [e1, e2]
    dsimp only
    have e : PyData.eqv (.str x) (.str y) = decide (x = y) := by rw [PyData.eqv]; rw [Bool.eq_iff_iff]; simp
    rw [e]
    rfl
  · rw [if_neg h]; trivial
end
end TL

set_option Elab.async false
set_option linter.all false
set_option maxRecDepth 100000
set_option maxHeartbeats 1000000
/-! TLY: keywords of own defs, zip of three, steps, tuple(x), or, lists of two kinds, in of any depth, casts. -/
namespace TL
open PySem L2 DL
open Mo (pur bnd lft)
open Enc (enc)
open EncL (encL)
open Classical in
/-- what an operation on data gives, if it is of the type -/
noncomputable def castE {α : Type} [Enc α] (f : Ev D) : E α := if h : ∃ v : α, ∀ M, f M = .ok (enc v) M then .ok h.choose else .bad
theorem op_cast {α : Type} [Enc α] (f : Ev D) : OpE (α := α) f (castE f) := fun M => by
  unfold castE
  by_cases h : ∃ v : α, ∀ M, f M = .ok (enc v) M
  · rw [dif_pos h]; exact h.choose_spec M
  · rw [dif_neg h]; trivial
theorem castE_ok {α : Type} [Enc α] {f : Ev D} {v : α} (h : ∀ M, f M = .ok (enc v) M) (inj : ∀ a b : α, enc a = enc b → a = b) : castE f = .ok v := by
  unfold castE
  have hx : ∃ v : α, ∀ M, f M = .ok (enc v) M := ⟨v, h⟩
  rw [dif_pos hx]
  have := hx.choose_spec []
  rw [h []] at this
  congr 1
  exact inj _ _ (Out.ok.inj this).1.symm
/-- a list of two things -/
structure Lp (α β : Type) where
  a : α
  b : β
instance {α β : Type} [Enc α] [Enc β] : Enc (Lp α β) := ⟨fun x => .nd .lst [enc x.a, enc x.b], fun x n => by simp [rlt, rlts, Enc.nr]⟩
section
variable {m : Type → Type} [Mo m] {pp : List Nat} {M0 : Store} {fs fs' fs'' : List SV} {α β γ τ κ φ ρ ω : Type} [Enc α] [Enc β] [Enc γ] [EncL τ] [EncL κ] [Enc ρ] [Enc ω] {K : φ → Fl → Store → Prop}
/-! ### zip of three -/
/-! ### a walk over a pair -/
/-! ### steps -/
/-! ### tuple(xs) -/
/-! ### xs or ys -/
/-! ### lists of two kinds -/
/-! ### in, any depth -/
/-! ### a name that a loop leaves behind -/
end
end TL

set_option Elab.async false
set_option linter.all false
set_option maxRecDepth 100000
set_option maxHeartbeats 1000000
/-! TLX: repr. -/
namespace TL
open PySem L2 DL
open Mo (pur bnd lft)
open Enc (enc)
open EncL (encL)
section
variable {m : Type → Type} [Mo m] {pp : List Nat} {M0 : Store} {fs fs' fs'' : List SV} {α β γ τ κ φ ρ ω : Type} [Enc α] [Enc β] [Enc γ] [EncL τ] [EncL κ] [Enc ρ] [Enc ω] {K : φ → Fl → Store → Prop}
/-- the text of data -/
def rprY [PyEq α] (x : α) : E Str := if RpOk (PyEq.pd x) then .ok (PyEq.pd x).shown else .bad
theorem eo_reprY [PyEq α] {a : Lo → Ev D} {x : α} (ha : EY fs a x) : EO (m := m) fs (eCall (op1 reprE) (eAc a eA0)) (lft (rprY x)) := fun pp M0 S M ns r Q X w => by
  obtain ⟨d1, h1, p1⟩ := ha pp M0 S M ns r
  have w := Mo.lft_wp w
  unfold rprY at w
  refine Sim.bnd (Sim.bnd (Sim.ok h1 (Sim.bnd (Sim.ok (a := []) rfl (Sim.ok (a := [d1]) (M := M) rfl ?_)))))
  by_cases c : RpOk (PyEq.pd x)
  · rw [if_pos c] at w
    refine Sim.ok (a := D.str (PyEq.pd x).shown) (M := M) ?_ ⟨_, rfl, w, r⟩
    show reprE d1 M = _
    unfold reprE
    rw [p1]
    dsimp only
    rw [if_pos c]
  · rw [if_neg c] at w; exact w.elim
theorem eo_reprC {a : Lo → Ev D} {p : m α} (ha : EO fs a p) : EO fs (eCall (op1 reprE) (eAc a eA0)) (bnd p fun v => lft (castE (reprE (enc v)) : E Str)) := fun pp M0 S M ns r Q X w => by
  refine Sim.bnd (Sim.bnd ((ha pp M0 S M ns r _ _ (Mo.bnd_wp w)).imp (fun d M1 ⟨x, e, w, r⟩ => ?_) (fun _ _ _ h => h)))
  subst e
  refine Sim.bnd (Sim.ok (a := []) rfl (Sim.ok (a := [enc x]) (M := M1) rfl ?_))
  exact ((op_cast (α := Str) (reprE (enc x))).sim (M := M1) (Mo.lft_wp w)).imp (fun d M' ⟨v, e, q, e2⟩ => ⟨v, e, q, e2 ▸ r⟩) (fun c d M' ⟨q, e2⟩ => ⟨q, e2 ▸ r⟩)
end
end TL

set_option Elab.async false
set_option linter.all false
set_option maxRecDepth 100000
set_option maxHeartbeats 1000000
/-! TLW: clear, a store at an index that is computed, two own lists from two calls. -/
namespace TL
open PySem L2 DL
open Mo (pur bnd lft)
open Enc (enc)
open EncL (encL)
section
variable {m : Type → Type} [Mo m] {pp : List Nat} {M0 : Store} {fs fs' fs'' : List SV} {α β γ τ κ φ ρ ω : Type} [Enc α] [Enc β] [Enc γ] [EncL τ] [EncL κ] [Enc ρ] [Enc ω] {K : φ → Fl → Store → Prop}
theorem b_putM {i : Nat} {e ei : Lo → Ev D} {g : Lo → Ev Fl} {xs : List α} {pn : m Int} {pe : m α} {k : List α → m φ} (hi : fs[i]? = some (.L xs)) (hn : EO fs ei pn) (he : EO fs e pe) (hr : ∀ x, Blk pp M0 (fs.set i (.L x)) g (k x) K) :
    Blk pp M0 fs (sSeq (sAsg e (gSet (eVar i) ei)) g) (bnd pe fun v => bnd (nox pn) fun n => bnd (lft (setL xs n v)) k) K := Blk.of fun S M ns r Q X w => by
  refine Sim.seq (Sim.fl ((he _ M0 S M ns r _ _ (Mo.bnd_wp w)).imp (fun d M1 ⟨x, e, w, r⟩ => ?_) (fun c d M1 ⟨x, r⟩ => ⟨x, r.fram⟩)))
  subst e
  have s := r.sl i _ hi
  have h1 : eVar i S M1 = .ok (.ref (ns i)) M1 := by unfold eVar; rw [s.1]; rfl
  have w := nox_wp (Mo.bnd_wp w)
  refine Sim.bnd (Sim.bnd (Sim.ok (nox_ok h1) (Sim.bnd (Sim.nox ((hn _ M0 S M1 ns r _ _ w).imp (fun d M2 ⟨n, e, w, r⟩ => ?_) (fun c d M1 ⟨x, r⟩ => Mo.lft_wp x))))))
  subst e
  have s := r.sl i _ hi
  have w := Mo.lft_wp (Mo.bnd_wp w)
  unfold setL at w
  cases q : ixN xs.length n with
  | none => rw [q] at w; exact w.elim
  | some j =>
    rw [q] at w
    refine Sim.bnd (Sim.ok (a := ()) (M := M2.set (ns i) (.lst, (xs.map enc).set j (enc x))) ?_ ?_)
    · show setE (.ref (ns i)) (.int n) (enc x) M2 = _
      have : ixN (xs.map (enc (α := α))).length n = some j := by rw [List.length_map]; exact q
      simp only [setE, s.2.2, this]
    · have r2 := r.wr (t' := .lst) (l' := (xs.map enc).set j (enc x)) rfl hi
      refine (hr (xs.set j x)).at_ (ns := ns) ?_ w
      show Rel ⟨pp, []⟩ M0 (fs.set i (.lc .lst ((xs.set j x).map enc))) S _ ns
      rw [List.map_set]
      exact r2
end
end TL

set_option Elab.async false
set_option linter.all false
set_option maxRecDepth 100000
set_option maxHeartbeats 1000000
/-! TLV: a dict filled by two statements, then a value. -/
namespace TL
open PySem L2 DL
open Mo (pur bnd lft)
open Enc (enc)
/-- the frame as a block of its own sees it: the pool is the caller's -/
inductive ParF (pc : Nat) : Bool → List SV → List SV → Prop
  | n : ParF pc false [] []
  | a {b x as bs} : ParF pc b as bs → ParF pc b (x :: as) (.any :: bs)
  | v {b d as bs} : ParF pc b as bs → ParF pc b (.val d :: as) (.val d :: bs)
  | p {as bs} : ParF pc false as bs → ParF pc true (.lpl :: as) (.par pc :: bs)
theorem ParF.len {pc : Nat} {b : Bool} {as bs : List SV} (h : ParF pc b as bs) : bs.length = as.length := by induction h <;> simp_all
theorem ParF.get {pc : Nat} {b : Bool} {as bs : List SV} (h : ParF pc b as bs) : ∀ (k : Nat) (v : SV), bs[k]? = some v → v = .any ∨ (∃ d, v = .val d ∧ as[k]? = some (.val d)) ∨ (v = .par pc ∧ as[k]? = some .lpl ∧ b = true) := by
  induction h with
  | n => intro k v h; simp at h
  | a _ ih =>
    intro k v h
    cases k with
    | zero => simp at h; exact .inl h.symm
    | succ k => simpa using ih k v (by simpa using h)
  | v _ ih =>
    intro k v h
    cases k with
    | zero => simp at h; exact .inr (.inl ⟨_, h.symm, rfl⟩)
    | succ k => simpa using ih k v (by simpa using h)
  | p _ ih =>
    intro k v h
    cases k with
    | zero => simp at h; exact .inr (.inr ⟨h.symm, rfl, rfl⟩)
    | succ k =>
      rcases ih k v (by simpa using h) with z | z | ⟨_, _, z⟩
      · exact .inl z
      · exact .inr (.inl (by simpa using z))
      · cases z
theorem ParF.none {pc : Nat} {as bs : List SV} (h : ParF pc false as bs) (k : Nat) : bs[k]? ≠ some (.par pc) := fun z => by
  rcases h.get k _ z with q | ⟨_, q, _⟩ | ⟨_, _, q⟩ <;> cases q
section
variable {α : Type} [Enc α]
/-- the frame behind it: the dict is a value -/
inductive FzF (pc : Nat) (d : Dc α) : Bool → List SV → List SV → Prop
  | n : FzF pc d false [] []
  | a {b x as bs} : FzF pc d b as bs → FzF pc d b (x :: as) (.any :: bs)
  | v {b} {β : Type} [Enc β] {x : β} {as bs} : FzF pc d b as bs → FzF pc d b (.v x :: as) (.v x :: bs)
  | p {b as bs} : FzF pc d b as bs → FzF pc d b (.par pc :: as) (.lpl :: bs)
  | d {as bs} : FzF pc d false as bs → FzF pc d true (.D d :: as) (.v d.fd :: bs)
theorem FzF.len {pc : Nat} {d : Dc α} {b : Bool} {as bs : List SV} (h : FzF pc d b as bs) : bs.length = as.length := by induction h <;> simp_all
theorem FzF.get {pc : Nat} {d : Dc α} {b : Bool} {as bs : List SV} (h : FzF pc d b as bs) : ∀ (k : Nat) (v : SV), bs[k]? = some v → v = .any ∨ (∃ x : D, v = .val x ∧ (∀ n, rlt n x = true) ∧ as[k]? = some (.val x)) ∨ (v = .lpl ∧ as[k]? = some (.par pc)) ∨ (v = .v d.fd ∧ as[k]? = some (.D d) ∧ b = true) := by
  induction h with
  | n => intro k v h; simp at h
  | a _ ih =>
    intro k v h
    cases k with
    | zero => simp at h; exact .inl h.symm
    | succ k => simpa using ih k v (by simpa using h)
  | v _ ih =>
    intro k v h
    cases k with
    | zero => simp at h; exact .inr (.inl ⟨_, h.symm, Enc.nr _, rfl⟩)
    | succ k => simpa using ih k v (by simpa using h)
  | p _ ih =>
    intro k v h
    cases k with
    | zero => simp at h; exact .inr (.inr (.inl ⟨h.symm, rfl⟩))
    | succ k => simpa using ih k v (by simpa using h)
  | d _ ih =>
    intro k v h
    cases k with
    | zero => simp at h; exact .inr (.inr (.inr ⟨h.symm, rfl, rfl⟩))
    | succ k =>
      rcases ih k v (by simpa using h) with z | z | z | ⟨_, _, z⟩
      · exact .inl z
      · exact .inr (.inl (by simpa using z))
      · exact .inr (.inr (.inl (by simpa using z)))
      · cases z
theorem FzF.none {pc : Nat} {d : Dc α} {as bs : List SV} (h : FzF pc d false as bs) {k : Nat} {x : D} (h1 : as[k]? = some (.D d)) (h2 : bs[k]? = some (.val x)) : False := by
  rcases h.get k _ h2 with q | ⟨y, _, _, q⟩ | ⟨q, _⟩ | ⟨_, _, q⟩
  · cases q
  · rw [h1] at q; cases q
  · cases q
  · cases q
end
section
variable {m : Type → Type} [Mo m] {pp : List Nat} {M0 : Store} {fs : List SV} {α φ : Type} [Enc α] {K : φ → Fl → Store → Prop}
end
end TL

set_option Elab.async false
set_option linter.all false
set_option maxRecDepth 100000
set_option maxHeartbeats 1000000
/-! TLU: dict(pairs), d.get, C(..) with effects in its arguments, lists of three kinds. -/
namespace TL
open PySem L2 DL
open Mo (pur bnd lft)
open Enc (enc)
open EncL (encL)
structure H3 (α β γ : Type) where
  a : α
  b : β
  c : γ
instance {α β γ : Type} [Enc α] [Enc β] [Enc γ] : Enc (H3 α β γ) := ⟨fun x => .nd .lst [enc x.a, enc x.b, enc x.c], fun x n => by simp [rlt, rlts, Enc.nr]⟩
section
variable {m : Type → Type} [Mo m] {pp : List Nat} {M0 : Store} {fs fs' fs'' fs3 : List SV} {α β γ τ κ φ ρ ω : Type} [Enc α] [Enc β] [Enc γ] [EncL τ] [EncL κ] [Enc ρ] [Enc ω] {K : φ → Fl → Store → Prop}
/-- C(..) whose defaults fill up -/
theorem eo_makeD {cn : Str} {n : Nat} {F : List D → Ev D} {f : Lo → Ev (List D)} {p : m τ} {q : τ → E ω} {dd : List D} (ha : AO fs f p) (hF : ∀ v, Ini cn F (encL v ++ dd) (q v)) (hn : ∀ v : τ, (encL v).length + dd.length + 1 = n) : EO fs (eFz (eMakeP cn n dd F f)) (bnd p fun v => lft (q v)) := fun pp M0 S M ns r Q X w => by
  refine sim_fz (cc := false) r (Sim.bnd ((ha _ M0 S M ns (r.re (Chg.refl M)) _ _ (Mo.bnd_wp w)).imp (fun l M1 ⟨v, e, w, r1⟩ => ?_) (fun _ _ _ h => h)))
  subst e
  rw [if_pos (hn v)]
  have key := hF v M1 Q X (lft_wpE w)
  unfold makeD
  cases e : F (.ref M1.length :: (encL v ++ dd)) (M1 ++ [(.obj cn [], [])]) with
  | stuck => rw [e] at key; exact key.elim
  | exc c d M' => rw [e] at key; exact ⟨key.1, r1.call key.2⟩
  | ok d M' =>
    rw [e] at key
    obtain ⟨rfl, o, os, vs, hq, fr, hm, he⟩ := key
    refine ⟨M1, [], o, hq, ⟨fr, ?_, fun h => by cases h⟩, r1.cg.le, r1.call fr⟩
    rw [he]
    exact fz_cell (Nat.le_refl _) hm (rlts_obj he _)
end
end TL

set_option Elab.async false
set_option linter.all false
set_option maxRecDepth 100000
set_option maxHeartbeats 1000000
/-! TLT: data of any kind; raise; try. -/
namespace TL
open PySem L2 DL
open Mo (pur bnd lft)
open Enc (enc)
open EncL (encL)
/-- data without cells -/
theorem rlts_iff {n : Nat} : ∀ {l : List D}, rlts n l = true ↔ ∀ d ∈ l, rlt n d = true
  | [] => by simp [rlts]
  | x :: l => by simp [rlts, rlts_iff (l := l)]
mutual
theorem rlt_up {n : Nat} : ∀ (d : D), rlt 0 d = true → rlt n d = true
  | .non, _ => by simp [rlt]
  | .bl _, _ => by simp [rlt]
  | .int _, _ => by simp [rlt]
  | .str _, _ => by simp [rlt]
  | .ty _, _ => by simp [rlt]
  | .gl _, _ => by simp [rlt]
  | .ref _, h => by simp [rlt] at h
  | .nd _ l, h => by rw [rlt] at h ⊢; exact rlts_up l h
theorem rlts_up {n : Nat} : ∀ (l : List D), rlts 0 l = true → rlts n l = true
  | [], _ => by simp [rlts]
  | d :: l, h => by
    rw [rlts, Bool.and_eq_true] at h ⊢
    exact ⟨rlt_up d h.1, rlts_up l h.2⟩
end
structure Dt where
  d : D
  h : rlt 0 d = true
instance : Enc Dt := ⟨fun x => x.d, fun x _ => rlt_up x.d x.h⟩
def Dt.of {α : Type} [Enc α] (a : α) : Dt := ⟨enc a, Enc.nr a 0⟩
section
variable {m : Type → Type} [Mo m] {pp : List Nat} {M0 : Store} {fs fs' fs'' fs3 : List SV} {α β γ τ κ φ ρ ω : Type} [Enc α] [Enc β] [Enc γ] [EncL τ] [EncL κ] [Enc ρ] [Enc ω] {K : φ → Fl → Store → Prop}
/-! ### raise -/
/-! ### try -/
/-- how a try's body ends: it stores at i, it is an expression alone, it returns -/
inductive TK where
  | asg (i : Nat) | exp | ret
def TK.fl (k : TK) (S : Lo) (d : D) : Fl := match k with
  | .asg i => .nx (S.set i (some d))
  | .exp => .nx S
  | .ret => .rt d
/-- a clause: f by the field value, the name's slot oi free -/
def HB (pp : List Nat) (M0 : Store) (fs : List SV) (oi : Option Nat) (f : D → Lo → Ev Fl) (g : Lo → Ev Fl) (q : Dt → m φ) (K : φ → Fl → Store → Prop) : Prop := ∀ (x : Dt) S M ns, Rel ⟨pp, []⟩ M0 fs S M ns → ∀ Q X, Mo.wp (q x) Q X →
  Sim ((if fits oi S = true then (f x.d (offL oi S)).bnd (offE oi) else Ev.no) M) (fun fl M' => Sim ((match fl with
    | .nx S' => g S'
    | o => Ev.ret o) M') (BP pp M0 Q X K) NoX) NoX
inductive HBs (pp : List Nat) (M0 : Store) (fs : List SV) (g : Lo → Ev Fl) (K : φ → Fl → Store → Prop) : List HdF → List (Dt → m φ) → Prop
  | nil : HBs pp M0 fs g K [] []
  | cons {oi : Option Nat} {f : D → Lo → Ev Fl} {q : Dt → m φ} {l : List HdF} {r : List (Dt → m φ)} (h : HB pp M0 fs oi f g q K) (t : HBs pp M0 fs g K l r) : HBs pp M0 fs g K ((oi, f) :: l) (q :: r)
theorem HBs.get {g : Lo → Ev Fl} : ∀ {l : List HdF} {r : List (Dt → m φ)}, HBs pp M0 fs g K l r → ∀ (j : Nat) (oi : Option Nat) (f : D → Lo → Ev Fl), l[j]? = some (oi, f) → ∃ q, r[j]? = some q ∧ HB pp M0 fs oi f g q K
  | _, _, .nil, j, oi, f, e => by simp at e
  | _, _, .cons h t, 0, oi, f, e => by simp at e; obtain ⟨rfl, rfl⟩ := e; exact ⟨_, rfl, h⟩
  | _, _, .cons h t, j + 1, oi, f, e => by
    obtain ⟨q, h1, h2⟩ := t.get j oi f (by simpa using e)
    exact ⟨q, by simpa using h1, h2⟩
end
end TL

set_option Elab.async false
set_option linter.all false
set_option maxRecDepth 100000
set_option maxHeartbeats 4000000
/-! TLS: list(zip(a, b)). -/
namespace TL
open PySem L2 DL
open Mo (pur bnd lft)
open Enc (enc)
open EncL (encL)
section
variable {m : Type → Type} [Mo m] {fs : List SV} {α β : Type} [Enc α] [Enc β]
end
end TL

set_option Elab.async false
set_option linter.all false
set_option maxRecDepth 100000
set_option maxHeartbeats 4000000
/-! TLP: data of any kind, used. -/
namespace TL
open PySem L2 DL
open Mo (pur bnd lft)
open Enc (enc)
open EncL (encL)
section
variable {m : Type → Type} [Mo m] {fs : List SV} {α β γ : Type} [Enc α] [Enc β] [Enc γ]
end
end TL

set_option Elab.async false
set_option linter.all false
set_option maxRecDepth 100000
set_option maxHeartbeats 4000000
/-! TLO: sorted of an own dict; a slice up to a bound with effects. -/
namespace TL
open PySem L2 DL
open Mo (pur bnd lft)
open Enc (enc)
open EncL (encL)
section
variable {m : Type → Type} [Mo m] {fs : List SV} {α β γ : Type} [Enc α] [Enc β] [Enc γ]
end
end TL

set_option Elab.async false
set_option linter.all false
set_option maxRecDepth 100000
set_option maxHeartbeats 4000000
namespace Lw
open PySem L2 DL TL
open Mo (pur bnd lft)
open Enc (enc)
open EncL (encL)
noncomputable def p_walk_paths (links : (List (List (T3 Int Int Int)))) (start : Int) : E (Fd (List (Int × Int))) := bnd (pur ([start] : List Int)) fun (level2 : (List Int)) => bnd (whileM (fun (b3 : ((Dc (List (Int × Int))) × (List Int))) => pur (!b3.2.isEmpty)) (fun (b3 : ((Dc (List (Int × Int))) × (List Int))) => bnd (pur ([] : List Int)) fun (later4 : (List Int)) => bnd (pur b3.2) fun xs16 => bnd (forM (fun (b5 : ((Dc (List (Int × Int))) × (List Int))) (x6 : Int) => bnd (lft (ixL links x6)) fun xs15 => bnd (forM (fun (b7 : ((Dc (List (Int × Int))) × (List Int))) (x8 : (T3 Int Int Int)) => bnd (pur (true ^^ dhas b7.1 x8.c)) fun z => if z = true then (bnd (bnd (lft (dget b7.1 x6)) fun xs9 => bnd (pur ([(x8.a, x8.b)] : List (Int × Int))) fun ys10 => lft (catL xs9 ys10)) fun v11 => bnd (lft (dput b7.1 x8.c v11)) fun paths12 => bnd (pur x8.c) fun v13 => bnd (lft (appL b7.2 v13)) fun later14 => pur (paths12, later14)) else (pur (b7.1, b7.2))) xs15 (b5.1, b5.2)) fun (b7 : ((Dc (List (Int × Int))) × (List Int))) => pur (b7.1, b7.2)) xs16 (b3.1, later4)) fun (b5 : ((Dc (List (Int × Int))) × (List Int))) => pur (b5.1, b5.2)) 1000 ((⟨[(start, ([] : List (Int × Int)))]⟩ : Dc (List (Int × Int))), level2)) fun (b3 : ((Dc (List (Int × Int))) × (List Int))) => pur (id (Dc.fd b3.1))
theorem t_walk_paths (links : (List (List (T3 Int Int Int)))) (start : Int) : Ret true [] (F_walk_paths [enc links, enc start]) (p_walk_paths links start) := by
  refine ret_def (n := 9) (g := g_walk_paths) (l := [enc links, enc start]) (by exact Nat.le_of_ble_eq_true rfl) (fun M0 => ?_)
  unfold g_walk_paths p_walk_paths
  exact b_done (i := 2) (ep_var (v := start) 1 rfl) (ep_lst (xs := ([] : List (Int × Int))) (np_new (n := 0) ap_nil rfl)) (b_cell (i := 3) (NP.nl (xs := ([start] : List Int)) (np_new (n := 1) (ap_cons (ep_var (v := start) 1 rfl) ap_nil) rfl)) (fun level2 => b_while (b0 := ((⟨[(start, ([] : List (Int × Int)))]⟩ : Dc (List (Int × Int))), level2)) (fsL := fun (b3 : ((Dc (List (Int × Int))) × (List Int))) => [.v links, .v start, .D b3.1, .L b3.2, .any, .any, .any, .any, .any]) (wk_s (wk_s (wk_s (wk_s (wk_a (wk_a (wk_a (wk_a (wk_a wk_n))))))))) (fun b3 => TP.to (tp_truL (ev_cell 3 rfl))) (fun b3 => b_cell (i := 4) (NP.nl (xs := ([] : List Int)) (np_new (n := 0) ap_nil rfl)) (fun later4 => b_forC (i := 3) (b0 := (b3.1, later4)) (fsL := fun (b5 : ((Dc (List (Int × Int))) × (List Int))) => [.v links, .v start, .D b5.1, .L b3.2, .L b5.2, .any, .any, .any, .any]) rfl (wk_s (wk_s (wk_s (wk_s (wk_s (wk_a (wk_a (wk_a (wk_a wk_n))))))))) (fun _ => rfl) (fun cpin b5 x6 => tg_nm 5 x6) (fun cpin b5 x6 => b_last (b_for (b0 := (b5.1, b5.2)) (fsL := fun (b7 : ((Dc (List (Int × Int))) × (List Int))) => [.v links, .v start, .D b7.1, .pin cpin .lst (List.map enc b3.2), .L b7.2, .v x6, .any, .any, .any]) (io_seq (eo_ixp (EP.ls (ep_var (v := links) 0 rfl)) (ep_var (v := x6) 5 rfl) rfl)) (wk_s (wk_s (wk_s (wk_s (wk_s (wk_s (wk_a (wk_a (wk_a wk_n))))))))) (fun b7 x8 => tg_3 (tg_nm 6 x8.a) (tg_nm 7 x8.b) (tg_nm 8 x8.c)) (fun b7 x8 => b_if (TP.to (tp_b (ep_din (neg := true) (ep_var (v := x8.c) 8 rfl) (ev_cell 2 rfl)))) (b_dput (i := 2) rfl (ep_var (v := x8.c) 8 rfl) (eo_lst (nl_cat (eo_dget (ev_cell 2 rfl) (ep_var (v := x6) 5 rfl)) (EP.eo (ep_lst (xs := ([(x8.a, x8.b)] : List (Int × Int))) (np_new (n := 1) (ap_cons (ep_frt (v := (x8.a, x8.b)) (np_new (n := 2) (ap_cons (ep_var (v := x8.a) 6 rfl) (ap_cons (ep_var (v := x8.b) 7 rfl) ap_nil)) rfl) rfl) ap_nil) rfl))))) (fun paths12 => b_last (b_app (i := 4) rfl (EP.eo (ep_var (v := x8.c) 8 rfl)) (fun later14 => b_end (paths12, later14) (wk_s (wk_s (wk_s (wk_s (wk_s (wk_s (wk_a (wk_a (wk_a wk_n))))))))))))) (b_end (b7.1, b7.2) (wk_s (wk_s (wk_s (wk_s (wk_s (wk_s (wk_a (wk_a (wk_a wk_n))))))))))) (fun b7 => b_end (b7.1, b7.2) (wk_s (wk_s (wk_s (wk_s (wk_s (wk_a (wk_a (wk_a (wk_a wk_n)))))))))))) (fun b5 => b_last (b_mv (i := 3) (j := 4) rfl (by decide) (b_end (b5.1, b5.2) (wk_s (wk_s (wk_s (wk_s (wk_a (wk_a (wk_a (wk_a (wk_a wk_n)))))))))))))) (fun b3 => b_retK 2 kr_t rfl)))
noncomputable def p_components_of (links : (List (List (T3 Int Int Int)))) : E (List (List Int)) := bnd (pur ([] : List (List Int))) fun (found17 : (List (List Int))) => bnd (bnd (pur ((links).length : Int)) fun n19 => lft (rgW 0 n19)) fun xs30 => bnd (forM (fun (b20 : ((List (List Int)) × (Dc Bool))) (x21 : Int) => bnd (pur (true ^^ dhas b20.2 x21)) fun z => if z = true then (bnd (bnd (lft (p_walk_paths links x21)) fun d23 => lft (srtL (List.map (Prod.fst : Int × (List (Int × Int)) → Int) (Fd.kv d23)))) fun (component22 : (List Int)) => bnd (bnd (pur component22) fun xs25 => dcM xs25 (fun (x24 : Int) => pur true) (fun (x24 : Int) => pur x24) (fun (x24 : Int) => pur true)) fun v26 => bnd (lft (dupd b20.2 v26)) fun seen27 => bnd (pur component22) fun v28 => bnd (lft (appL b20.1 v28)) fun found29 => pur (found29, seen27)) else (pur (b20.1, b20.2))) xs30 (found17, (⟨[]⟩ : Dc Bool))) fun (b20 : ((List (List Int)) × (Dc Bool))) => pur (id b20.1)
theorem t_components_of (links : (List (List (T3 Int Int Int)))) : Ret true [] (F_components_of [enc links]) (p_components_of links) := by
  refine ret_def (n := 6) (g := g_components_of) (l := [enc links]) (by exact Nat.le_of_ble_eq_true rfl) (fun M0 => ?_)
  unfold g_components_of p_components_of
  exact b_cell (i := 1) (NP.nl (xs := ([] : List (List Int))) (np_new (n := 0) ap_nil rfl)) (fun found17 => b_dnew (α := Bool) (i := 2) (b_for (b0 := (found17, (⟨[]⟩ : Dc Bool))) (fsL := fun (b20 : ((List (List Int)) × (Dc Bool))) => [.v links, .L b20.1, .D b20.2, .any, .any, .any]) (io_range1 (EP.eo (ep_len (EP.ls (ep_var (v := links) 0 rfl)) rfl))) (wk_s (wk_s (wk_s (wk_a (wk_a (wk_a wk_n)))))) (fun b20 x21 => tg_nm 3 x21) (fun b20 x21 => b_if (TP.to (tp_b (ep_din (neg := true) (ep_var (v := x21) 3 rfl) (ev_cell 2 rfl)))) (b_asg (i := 4) (eo_lst (nl_sortedF (eo_callp (ap_cons (ep_var (v := links) 0 rfl) (ap_cons (ep_var (v := x21) 3 rfl) ap_nil)) (t_walk_paths links x21) rfl))) (fun component22 => b_updD (i := 2) rfl (eo_dct (no_dc (io_seq (EP.eo (ep_var (v := component22) 4 rfl))) (fun x24 => tg_nm 5 x24) (fun x24 => to_yes) (fun x24 => EP.eo (ep_var (v := x24) 5 rfl)) (fun x24 => EP.eo (ep_c (v := true) rfl)) (fun x24 => ci_v (ci_s (ci_s (ci_v (ci_v (ci_v ci_n)))))))) (fun seen27 => b_last (b_app (i := 1) rfl (EP.eo (ep_var (v := component22) 4 rfl)) (fun found29 => b_end (found29, seen27) (wk_s (wk_s (wk_s (wk_a (wk_a (wk_a wk_n))))))))))) (b_end (b20.1, b20.2) (wk_s (wk_s (wk_s (wk_a (wk_a (wk_a wk_n)))))))) (fun b20 => b_retC 1 kr_t rfl)))
noncomputable def p_is_integer (thing : Int) : E Bool := bnd (pur (true && (!false))) fun r44 => pur (id r44)
theorem t_is_integer (thing : Int) : Ret false [] (F_is_integer [enc thing]) (p_is_integer thing) := by
  refine ret_def (n := 1) (g := g_is_integer) (l := [enc thing]) (by exact Nat.le_of_ble_eq_true rfl) (fun M0 => ?_)
  unfold g_is_integer p_is_integer
  exact b_ret kr_t rfl (EP.eo (ep_and (ep_isi (b := true) (ep_var (v := thing) 0 rfl) (fun _ => rfl) (by decide +kernel)) (ep_not (ep_isi (b := false) (ep_var (v := thing) 0 rfl) (fun _ => rfl) (by decide +kernel)))))
noncomputable def p_is_within (thing : Int) (least : Int) (most : Int) : E Bool := bnd (bnd (lft (p_is_integer thing)) fun z45 => if z45 = true then (pur (decide (least ≤ thing) && decide (thing ≤ most))) else pur false) fun r46 => pur (id r46)
theorem t_is_within (thing : Int) (least : Int) (most : Int) : Ret false [] (F_is_within [enc thing, enc least, enc most]) (p_is_within thing least most) := by
  refine ret_def (n := 3) (g := g_is_within) (l := [enc thing, enc least, enc most]) (by exact Nat.le_of_ble_eq_true rfl) (fun M0 => ?_)
  unfold g_is_within p_is_within
  exact b_ret kr_t rfl (eo_and (eo_callp (ap_cons (ep_var (v := thing) 0 rfl) ap_nil) (t_is_integer thing) rfl) (EP.eo (ep_chain (ep_var (v := least) 1 rfl) (ep_var (v := thing) 0 rfl) (ep_var (v := most) 2 rfl) (o_le _ _) (o_le _ _))))
noncomputable def p_forest_of (size : Int) (pairs : (List (Int × Int))) : E (List Int) := bnd (bnd (pur size) fun n58 => lft (rgL 0 n58)) fun (groups57 : (List Int)) => bnd (pur ([] : List Int)) fun (found59 : (List Int)) => bnd (bnd (pur pairs) fun xs60 => pur (enI 0 xs60)) fun xs73 => bnd (forM (fun (b61 : ((List Int) × (List Int))) (x62 : (Int × (Int × Int))) => bnd (bnd (lft (ixL b61.1 x62.2.1)) fun x63 => bnd (lft (ixL b61.1 x62.2.2)) fun y64 => lft (.ok (true ^^ eqB x63 y64))) fun z => if z = true then (bnd (pur x62.1) fun v65 => bnd (lft (appL b61.2 v65)) fun found66 => bnd (bnd (pur b61.1) fun xs72 => lcM xs72 (fun (x68 : Int) => pur true) (fun (x68 : Int) => bnd (bnd (pur x68) fun x69 => bnd (lft (ixL b61.1 x62.2.2)) fun y70 => lft (.ok (false ^^ eqB x69 y70))) fun z71 => if z71 = true then (lft (ixL b61.1 x62.2.1)) else (pur x68))) fun (groups67 : (List Int)) => pur (groups67, found66)) else (pur (b61.1, b61.2))) xs73 (groups57, found59)) fun (b61 : ((List Int) × (List Int))) => pur (id b61.2)
theorem t_forest_of (size : Int) (pairs : (List (Int × Int))) : Ret true [] (F_forest_of [enc size, enc pairs]) (p_forest_of size pairs) := by
  refine ret_def (n := 8) (g := g_forest_of) (l := [enc size, enc pairs]) (by exact Nat.le_of_ble_eq_true rfl) (fun M0 => ?_)
  unfold g_forest_of p_forest_of
  exact b_asg (i := 2) (eo_lst (nl_range1 (EP.eo (ep_var (v := size) 0 rfl)))) (fun groups57 => b_cell (i := 3) (NP.nl (xs := ([] : List Int)) (np_new (n := 0) ap_nil rfl)) (fun found59 => b_for (b0 := (groups57, found59)) (fsL := fun (b61 : ((List Int) × (List Int))) => [.v size, .v pairs, .v b61.1, .L b61.2, .any, .any, .any, .any]) (io_enum (EP.eo (ep_var (v := pairs) 1 rfl))) (wk_s (wk_s (wk_s (wk_s (wk_a (wk_a (wk_a (wk_a wk_n)))))))) (fun b61 x62 => tg_2 (tg_nm 4 x62.1) (tg_2 (tg_nm 5 x62.2.1) (tg_nm 6 x62.2.2))) (fun b61 x62 => b_if (to_b (eo_2 (eo_ixp (EP.ls (ep_var (v := b61.1) 2 rfl)) (ep_var (v := x62.2.1) 5 rfl) rfl) (eo_ixp (EP.ls (ep_var (v := b61.1) 2 rfl)) (ep_var (v := x62.2.2) 6 rfl) rfl) (E1 fun x y => o_eqE (neg := true) (by decide) x y))) (b_app (i := 3) rfl (EP.eo (ep_var (v := x62.1) 4 rfl)) (fun found66 => b_last (b_asg (i := 2) (eo_lst (nl_lc (io_seq (EP.eo (ep_var (v := b61.1) 2 rfl))) (fun x68 => tg_nm 7 x68) (fun x68 => to_yes) (fun x68 => eo_if (to_b (eo_2 (EP.eo (ep_var (v := x68) 7 rfl)) (eo_ixp (EP.ls (ep_var (v := b61.1) 2 rfl)) (ep_var (v := x62.2.2) 6 rfl) rfl) (E1 fun x y => o_eqE (neg := false) (by decide) x y))) (eo_ixp (EP.ls (ep_var (v := b61.1) 2 rfl)) (ep_var (v := x62.2.1) 5 rfl) rfl) (EP.eo (ep_var (v := x68) 7 rfl))) (fun x68 => ci_v (ci_v (ci_v (ci_s (ci_v (ci_v (ci_v (ci_v ci_n)))))))))) (fun groups67 => b_end (groups67, found66) (wk_s (wk_s (wk_s (wk_s (wk_a (wk_a (wk_a (wk_a wk_n)))))))))))) (b_end (b61.1, b61.2) (wk_s (wk_s (wk_s (wk_s (wk_a (wk_a (wk_a (wk_a wk_n)))))))))) (fun b61 => b_retC 3 kr_t rfl)))
noncomputable def p_is_edge (thing : (Int × Int)) (size : Int) : E Bool := bnd (pur ((!true) || (true ^^ eqB (2 : Int) (2 : Int)))) fun z => if z = true then (bnd (pur false) fun r91 => pur (id r91)) else (bnd (bnd (lft (p_is_within thing.1 (0 : Int) (size - (1 : Int)))) fun z92 => if z92 = true then (lft (p_is_within thing.2 (0 : Int) (size - (1 : Int)))) else pur false) fun r93 => pur (id r93))
theorem t_is_edge (thing : (Int × Int)) (size : Int) : Ret false [] (F_is_edge [enc thing, enc size]) (p_is_edge thing size) := by
  refine ret_def (n := 2) (g := g_is_edge) (l := [enc thing, enc size]) (by exact Nat.le_of_ble_eq_true rfl) (fun M0 => ?_)
  unfold g_is_edge p_is_edge
  exact b_ifD (TP.to (tp_or (tp_not (tp_tru (ep_isi (b := true) (ep_var (v := thing) 0 rfl) (fun _ => rfl) (by decide +kernel)))) (tp_b (ep_eq (neg := true) (EP.ey (ep_lenD (n := (2 : Int)) (EP.ev (ep_var (v := thing) 0 rfl) rfl) rfl rfl)) (EP.ey (ep_c (v := (2 : Int)) rfl)))))) (b_retS kr_t rfl (EP.eo (ep_c (v := false) rfl))) (b_skip (b_ret kr_t rfl (eo_and (eo_callp (ap_cons (ep_tup (z := thing.1) (EP.ev (ep_var (v := thing) 0 rfl) rfl) rfl) (ap_cons (ep_c (v := (0 : Int)) rfl) (ap_cons (ep_2 (ep_var (v := size) 1 rfl) (ep_c (v := (1 : Int)) rfl) (o_sub _ _)) ap_nil))) (t_is_within thing.1 (0 : Int) (size - (1 : Int))) rfl) (eo_callp (ap_cons (ep_tup (z := thing.2) (EP.ev (ep_var (v := thing) 0 rfl) rfl) rfl) (ap_cons (ep_c (v := (0 : Int)) rfl) (ap_cons (ep_2 (ep_var (v := size) 1 rfl) (ep_c (v := (1 : Int)) rfl) (o_sub _ _)) ap_nil))) (t_is_within thing.2 (0 : Int) (size - (1 : Int))) rfl))))
noncomputable def p_check_edges (size : Int) (edges : (List (Int × Int))) : E Unit := bnd (pur (!true)) fun z => if z = true then (lft .bad) else (bnd (pur edges) fun xs95 => bnd (forM (fun (b89 : Unit) (x90 : (Int × Int)) => bnd (bnd (lft (p_is_edge x90 size)) fun z94 => pur (!z94)) fun z => if z = true then (lft .bad) else (pur ())) xs95 ()) fun (b89 : Unit) => bnd (pur (decide ((60 : Int) < ((edges).length : Int)))) fun z => if z = true then (lft .bad) else (pur ()))
theorem t_check_edges (size : Int) (edges : (List (Int × Int))) : Ret false [] (F_check_edges [enc size, enc edges]) (p_check_edges size edges) := by
  refine ret_def (n := 3) (g := g_check_edges) (l := [enc size, enc edges]) (by exact Nat.le_of_ble_eq_true rfl) (fun M0 => ?_)
  unfold g_check_edges p_check_edges
  exact b_ifD (TP.to (tp_not (tp_tru (ep_isiT (b := true) (Ts := ["list", "tuple"]) (ep_var (v := edges) 1 rfl) (fun _ => rfl) (fun _ _ => rfl) (by decide) (by decide +kernel))))) (b_bad bad_wp) (b_skip (b_for (b0 := ()) (fsL := fun (b89 : Unit) => [.v size, .v edges, .any]) (io_seq (EP.eo (ep_var (v := edges) 1 rfl))) (wk_s (wk_s (wk_a wk_n))) (fun b89 x90 => tg_nm 2 x90) (fun b89 x90 => b_if (to_not (to_tru (eo_callp (ap_cons (ep_var (v := x90) 2 rfl) (ap_cons (ep_var (v := size) 0 rfl) ap_nil)) (t_is_edge x90 size) rfl))) (b_last (b_bad bad_wp)) (b_end () (wk_s (wk_s (wk_a wk_n))))) (fun b89 => b_if (TP.to (tp_b (ep_2 (ep_len (EP.ls (ep_var (v := edges) 1 rfl)) rfl) (ep_c (v := (60 : Int)) rfl) (o_gt _ _)))) (b_last (b_bad bad_wp)) (b_endT rfl))))
noncomputable def p_is_modulus (thing : Int) : E Bool := bnd (bnd (lft (p_is_within thing (0 : Int) (60 : Int))) fun z97 => if z97 = true then (pur (true ^^ eqB thing (1 : Int))) else pur false) fun r98 => pur (id r98)
theorem t_is_modulus (thing : Int) : Ret false [] (F_is_modulus [enc thing]) (p_is_modulus thing) := by
  refine ret_def (n := 1) (g := g_is_modulus) (l := [enc thing]) (by exact Nat.le_of_ble_eq_true rfl) (fun M0 => ?_)
  unfold g_is_modulus p_is_modulus
  exact b_ret kr_t rfl (eo_and (eo_callp (ap_cons (ep_var (v := thing) 0 rfl) (ap_cons (ep_c (v := (0 : Int)) rfl) (ap_cons (ep_c (v := (60 : Int)) rfl) ap_nil))) (t_is_within thing (0 : Int) (60 : Int)) rfl) (EP.eo (ep_eq (neg := true) (EP.ey (ep_var (v := thing) 0 rfl)) (EP.ey (ep_c (v := (1 : Int)) rfl)))))
noncomputable def p_Web___init__ (size : Int) (edges : (List (Int × Int))) (modulus : Int) : E OWeb := bnd (bnd (lft (p_is_within size (1 : Int) (30 : Int))) fun z88 => pur (!z88)) fun z => if z = true then (lft .bad) else (bnd (lft (p_check_edges size edges)) fun u96 => bnd (bnd (lft (p_is_modulus modulus)) fun z99 => pur (!z99)) fun z => if z = true then (lft .bad) else (bnd (pur size) fun (own_size100 : Int) => bnd (pur edges) fun (own_edges101 : (List (Int × Int))) => bnd (pur modulus) fun (own_modulus102 : Int) => bnd (lft (p_forest_of size edges)) fun (own_forest103 : (List Int)) => bnd (lft (p_links_of size edges own_forest103)) fun (links104 : (List (List (T3 Int Int Int)))) => pur (OWeb.mk own_size100 own_edges101 own_modulus102 own_forest103 links104)))
theorem t_Web___init__ (size : Int) (edges : (List (Int × Int))) (modulus : Int) : Ini ("Web" : Str) F_Web___init__ [enc size, enc edges, enc modulus] (p_Web___init__ size edges modulus) := by
  refine ini_def (n := 4) (g := g_Web___init__) (by exact Nat.le_of_ble_eq_true rfl) (fun M0 cself => ?_)
  unfold g_Web___init__ p_Web___init__
  exact b_ifD (to_not (to_tru (eo_callp (ap_cons (ep_var (v := size) 1 rfl) (ap_cons (ep_c (v := (1 : Int)) rfl) (ap_cons (ep_c (v := (30 : Int)) rfl) ap_nil))) (t_is_within size (1 : Int) (30 : Int)) rfl))) (b_bad bad_wp) (b_skip (b_exp (eo_callp (ap_cons (ep_var (v := size) 1 rfl) (ap_cons (ep_var (v := edges) 2 rfl) ap_nil)) (t_check_edges size edges) rfl) (fun u96 => b_ifD (to_not (to_tru (eo_callp (ap_cons (ep_var (v := modulus) 3 rfl) ap_nil) (t_is_modulus modulus) rfl))) (b_bad bad_wp) (b_skip (b_fld (i := 0) rfl rfl (EP.eo (ep_var (v := size) 1 rfl)) (fun own_size100 => b_fld (i := 0) rfl rfl (eo_lst (NP.nl (xs := edges) (np_list (EP.ls (ep_var (v := edges) 2 rfl)) rfl))) (fun own_edges101 => b_fld (i := 0) rfl rfl (EP.eo (ep_var (v := modulus) 3 rfl)) (fun own_modulus102 => b_fld (i := 0) rfl rfl (eo_callp (ap_cons (ep_var (v := size) 1 rfl) (ap_cons (ep_var (v := edges) 2 rfl) ap_nil)) (t_forest_of size edges) rfl) (fun own_forest103 => b_last (b_fld (i := 0) rfl rfl (eo_callp (ap_cons (ep_var (v := size) 1 rfl) (ap_cons (ep_var (v := edges) 2 rfl) (ap_cons (ep_fld (v := own_forest103) (ev_pin 0 rfl) rfl) ap_nil))) (t_links_of size edges own_forest103) rfl) (fun links104 => b_endI (o := (OWeb.mk own_size100 own_edges101 own_modulus102 own_forest103 links104)) rfl rfl)))))))))))
noncomputable def p_reduced_number (number : Int) (modulus : Int) : E Int := bnd (bnd (pur (decide ((0 : Int) < modulus))) fun z129 => if z129 = true then (lft (modZ number modulus)) else (pur number)) fun r130 => pur (id r130)
theorem t_reduced_number (number : Int) (modulus : Int) : Ret false [] (F_reduced_number [enc number, enc modulus]) (p_reduced_number number modulus) := by
  refine ret_def (n := 2) (g := g_reduced_number) (l := [enc number, enc modulus]) (by exact Nat.le_of_ble_eq_true rfl) (fun M0 => ?_)
  unfold g_reduced_number p_reduced_number
  exact b_ret kr_t rfl (eo_if (TP.to (tp_b (ep_2 (ep_var (v := modulus) 1 rfl) (ep_c (v := (0 : Int)) rfl) (o_gt _ _)))) (eo_2p (ep_var (v := number) 0 rfl) (ep_var (v := modulus) 1 rfl) (o_mod _ _)) (EP.eo (ep_var (v := number) 0 rfl)))
noncomputable def p_Web___len__ (self : OWeb) : E Int := bnd (pur ((self.own_edges).length : Int)) fun r199 => pur (id r199)
theorem t_Web___len__ (self : OWeb) : Ret false [] (F_Web___len__ [enc self]) (p_Web___len__ self) := by
  refine ret_def (n := 1) (g := g_Web___len__) (l := [enc self]) (by exact Nat.le_of_ble_eq_true rfl) (fun M0 => ?_)
  unfold g_Web___len__ p_Web___len__
  exact b_ret kr_t rfl (EP.eo (ep_len (EP.ls (ep_fld (v := self.own_edges) (EP.ev (ep_var (v := self) 0 rfl) rfl) rfl)) rfl))
noncomputable def p_Web_modulus (self : OWeb) : E Int := bnd (pur self.own_modulus) fun r208 => pur (id r208)
theorem t_Web_modulus (self : OWeb) : Ret false [] (F_Web_modulus [enc self]) (p_Web_modulus self) := by
  refine ret_def (n := 1) (g := g_Web_modulus) (l := [enc self]) (by exact Nat.le_of_ble_eq_true rfl) (fun M0 => ?_)
  unfold g_Web_modulus p_Web_modulus
  exact b_ret kr_t rfl (EP.eo (ep_fld (v := self.own_modulus) (EP.ev (ep_var (v := self) 0 rfl) rfl) rfl))
noncomputable def p_is_residue (web : OWeb) (thing : Int) : E Bool := bnd (bnd (bnd (pur ()) fun v209 => lft (p_Web_modulus web )) fun x210 => bnd (pur (0 : Int)) fun y211 => lft (.ok (false ^^ eqB x210 y211))) fun z => if z = true then (bnd (lft (p_is_integer thing)) fun r212 => pur (id r212)) else (bnd (bnd (bnd (pur thing) fun x220 => bnd (bnd (pur (0 : Int)) fun x218 => bnd (bnd (bnd (bnd (pur ()) fun v213 => lft (p_Web_modulus web )) fun x214 => bnd (pur (1 : Int)) fun y215 => lft (.ok (x214 - y215))) fun x216 => bnd (pur ()) fun v217 => pur (x216, v217)) fun v219 => pur (x218, v219)) fun v221 => pur (x220, v221)) fun v222 => lft (p_is_within v222.1 v222.2.1 v222.2.2.1)) fun r223 => pur (id r223))
theorem t_is_residue (web : OWeb) (thing : Int) : Ret false [] (F_is_residue [enc web, enc thing]) (p_is_residue web thing) := by
  refine ret_def (n := 2) (g := g_is_residue) (l := [enc web, enc thing]) (by exact Nat.le_of_ble_eq_true rfl) (fun M0 => ?_)
  unfold g_is_residue p_is_residue
  exact b_ifD (to_b (eo_2 (eo_meth (o := web) (ep_var (v := web) 0 rfl) rfl (by decide) (AP.ao ap_nil) (fun v209 => t_Web_modulus web ) (fun _ => rfl)) (EP.eo (ep_c (v := (0 : Int)) rfl)) (E1 fun x y => o_eqE (neg := false) (by decide) x y))) (b_retS kr_t rfl (eo_callp (ap_cons (ep_var (v := thing) 1 rfl) ap_nil) (t_is_integer thing) rfl)) (b_skip (b_ret kr_t rfl (eo_call (ao_cons (EP.eo (ep_var (v := thing) 1 rfl)) (ao_cons (EP.eo (ep_c (v := (0 : Int)) rfl)) (ao_cons (eo_2 (eo_meth (o := web) (ep_var (v := web) 0 rfl) rfl (by decide) (AP.ao ap_nil) (fun v213 => t_Web_modulus web ) (fun _ => rfl)) (EP.eo (ep_c (v := (1 : Int)) rfl)) (E1 fun x y => o_sub x y)) (AP.ao ap_nil)))) (fun v222 => t_is_within v222.1 v222.2.1 v222.2.2.1) (fun _ => rfl))))
noncomputable def p_are_residues (web : OWeb) (thing : (List Int)) (count : Int) : E Bool := bnd (bnd (pur true) fun z229 => if z229 = true then (bnd (pur (false ^^ eqB ((thing).length : Int) count)) fun z228 => if z228 = true then (bnd (bnd (bnd (pur thing) fun xs224 => lcM xs224 (fun (x207 : Int) => pur true) (fun (x207 : Int) => lft (p_is_residue web x207))) fun x225 => bnd (pur ()) fun v226 => pur (x225, v226)) fun v227 => lft (.ok (v227.1.all id))) else pur false) else pur false) fun r230 => pur (id r230)
theorem t_are_residues (web : OWeb) (thing : (List Int)) (count : Int) : Ret false [] (F_are_residues [enc web, enc thing, enc count]) (p_are_residues web thing count) := by
  refine ret_def (n := 4) (g := g_are_residues) (l := [enc web, enc thing, enc count]) (by exact Nat.le_of_ble_eq_true rfl) (fun M0 => ?_)
  unfold g_are_residues p_are_residues
  exact b_ret kr_t rfl (eo_and (EP.eo (ep_isi (b := true) (ep_var (v := thing) 1 rfl) (fun _ => rfl) (by decide +kernel))) (eo_and (EP.eo (ep_eq (neg := false) (EP.ey (ep_len (EP.ls (ep_var (v := thing) 1 rfl)) rfl)) (EP.ey (ep_var (v := count) 2 rfl)))) (eo_c1 (ao_cons (eo_lst (nl_lc (io_seq (EP.eo (ep_var (v := thing) 1 rfl))) (fun x207 => tg_nm 3 x207) (fun x207 => to_yes) (fun x207 => eo_callp (ap_cons (ep_var (v := web) 0 rfl) (ap_cons (ep_var (v := x207) 3 rfl) ap_nil)) (t_is_residue web x207) rfl) (fun x207 => ci_v (ci_v (ci_v (ci_v ci_n)))))) (AP.ao ap_nil)) (E2 o_all))))
noncomputable def p_is_gains (web : OWeb) (thing : (List Int)) : E Bool := bnd (bnd (bnd (pur web) fun x205 => bnd (bnd (pur thing) fun x203 => bnd (bnd (bnd (lft (p_Web___len__ web)) fun n200 => lft (lenG n200)) fun x201 => bnd (pur ()) fun v202 => pur (x201, v202)) fun v204 => pur (x203, v204)) fun v206 => pur (x205, v206)) fun v231 => lft (p_are_residues v231.1 v231.2.1 v231.2.2.1)) fun r232 => pur (id r232)
theorem t_is_gains (web : OWeb) (thing : (List Int)) : Ret false [] (F_is_gains [enc web, enc thing]) (p_is_gains web thing) := by
  refine ret_def (n := 2) (g := g_is_gains) (l := [enc web, enc thing]) (by exact Nat.le_of_ble_eq_true rfl) (fun M0 => ?_)
  unfold g_is_gains p_is_gains
  exact b_ret kr_t rfl (eo_call (ao_cons (EP.eo (ep_var (v := web) 0 rfl)) (ao_cons (EP.eo (ep_var (v := thing) 1 rfl)) (ao_cons (eo_lenO (o := web) (ep_var (v := web) 0 rfl) rfl (by decide) (t_Web___len__ web)) (AP.ao ap_nil)))) (fun v231 => t_are_residues v231.1 v231.2.1 v231.2.2.1) (fun _ => rfl))
noncomputable def p_check_gains (web : OWeb) (gains : (List Int)) : E Unit := bnd (bnd (lft (p_is_gains web gains)) fun z233 => pur (!z233)) fun z => if z = true then (lft .bad) else (pur ())
theorem t_check_gains (web : OWeb) (gains : (List Int)) : Ret false [] (F_check_gains [enc web, enc gains]) (p_check_gains web gains) := by
  refine ret_def (n := 2) (g := g_check_gains) (l := [enc web, enc gains]) (by exact Nat.le_of_ble_eq_true rfl) (fun M0 => ?_)
  unfold g_check_gains p_check_gains
  exact b_if (to_not (to_tru (eo_callp (ap_cons (ep_var (v := web) 0 rfl) (ap_cons (ep_var (v := gains) 1 rfl) ap_nil)) (t_is_gains web gains) rfl))) (b_last (b_bad bad_wp)) (b_endT rfl)
noncomputable def p_residue (web : OWeb) (number : Int) : E Int := bnd (bnd (lft (p_is_integer number)) fun z300 => pur (!z300)) fun z => if z = true then (lft .bad) else (bnd (bnd (bnd (pur number) fun x304 => bnd (bnd (bnd (pur ()) fun v301 => lft (p_Web_modulus web )) fun x302 => bnd (pur ()) fun v303 => pur (x302, v303)) fun v305 => pur (x304, v305)) fun v306 => lft (p_reduced_number v306.1 v306.2.1)) fun r307 => pur (id r307))
theorem t_residue (web : OWeb) (number : Int) : Ret false [] (F_residue [enc web, enc number]) (p_residue web number) := by
  refine ret_def (n := 2) (g := g_residue) (l := [enc web, enc number]) (by exact Nat.le_of_ble_eq_true rfl) (fun M0 => ?_)
  unfold g_residue p_residue
  exact b_ifD (to_not (to_tru (eo_callp (ap_cons (ep_var (v := number) 1 rfl) ap_nil) (t_is_integer number) rfl))) (b_bad bad_wp) (b_skip (b_ret kr_t rfl (eo_call (ao_cons (EP.eo (ep_var (v := number) 1 rfl)) (ao_cons (eo_meth (o := web) (ep_var (v := web) 0 rfl) rfl (by decide) (AP.ao ap_nil) (fun v301 => t_Web_modulus web ) (fun _ => rfl)) (AP.ao ap_nil))) (fun v306 => t_reduced_number v306.1 v306.2.1) (fun _ => rfl))))
noncomputable def p_is_step (web : OWeb) (thing : (Int × Int)) : E Bool := bnd (pur ((!true) || (true ^^ eqB (2 : Int) (2 : Int)))) fun z => if z = true then (bnd (pur false) fun r326 => pur (id r326)) else (bnd (bnd (bnd (bnd (pur thing.1) fun x334 => bnd (bnd (pur (0 : Int)) fun x332 => bnd (bnd (bnd (bnd (lft (p_Web___len__ web)) fun n327 => lft (lenG n327)) fun x328 => bnd (pur (1 : Int)) fun y329 => lft (.ok (x328 - y329))) fun x330 => bnd (pur ()) fun v331 => pur (x330, v331)) fun v333 => pur (x332, v333)) fun v335 => pur (x334, v335)) fun v336 => lft (p_is_within v336.1 v336.2.1 v336.2.2.1)) fun z338 => if z338 = true then (bnd (lft (p_is_within thing.2 (-(1 : Int)) (1 : Int))) fun z337 => if z337 = true then (pur (true ^^ eqB thing.2 (0 : Int))) else pur false) else pur false) fun r339 => pur (id r339))
theorem t_is_step (web : OWeb) (thing : (Int × Int)) : Ret false [] (F_is_step [enc web, enc thing]) (p_is_step web thing) := by
  refine ret_def (n := 2) (g := g_is_step) (l := [enc web, enc thing]) (by exact Nat.le_of_ble_eq_true rfl) (fun M0 => ?_)
  unfold g_is_step p_is_step
  exact b_ifD (TP.to (tp_or (tp_not (tp_tru (ep_isi (b := true) (ep_var (v := thing) 1 rfl) (fun _ => rfl) (by decide +kernel)))) (tp_b (ep_eq (neg := true) (EP.ey (ep_lenD (n := (2 : Int)) (EP.ev (ep_var (v := thing) 1 rfl) rfl) rfl rfl)) (EP.ey (ep_c (v := (2 : Int)) rfl)))))) (b_retS kr_t rfl (EP.eo (ep_c (v := false) rfl))) (b_skip (b_ret kr_t rfl (eo_and (eo_call (ao_cons (EP.eo (ep_tup (z := thing.1) (EP.ev (ep_var (v := thing) 1 rfl) rfl) rfl)) (ao_cons (EP.eo (ep_c (v := (0 : Int)) rfl)) (ao_cons (eo_2 (eo_lenO (o := web) (ep_var (v := web) 0 rfl) rfl (by decide) (t_Web___len__ web)) (EP.eo (ep_c (v := (1 : Int)) rfl)) (E1 fun x y => o_sub x y)) (AP.ao ap_nil)))) (fun v336 => t_is_within v336.1 v336.2.1 v336.2.2.1) (fun _ => rfl)) (eo_and (eo_callp (ap_cons (ep_tup (z := thing.2) (EP.ev (ep_var (v := thing) 1 rfl) rfl) rfl) (ap_cons (ep_1 (ep_c (v := (1 : Int)) rfl) (o_neg _)) (ap_cons (ep_c (v := (1 : Int)) rfl) ap_nil))) (t_is_within thing.2 (-(1 : Int)) (1 : Int)) rfl) (EP.eo (ep_eq (neg := true) (EP.ey (ep_tup (z := thing.2) (EP.ev (ep_var (v := thing) 1 rfl) rfl) rfl)) (EP.ey (ep_c (v := (0 : Int)) rfl))))))))
noncomputable def p_Web_edge (self : OWeb) (number : Int) : E (Int × Int) := bnd (bnd (lft (p_is_within number (0 : Int) (((self.own_edges).length : Int) - (1 : Int)))) fun z349 => pur (!z349)) fun z => if z = true then (lft .bad) else (bnd (lft (ixL self.own_edges number)) fun r350 => pur (id r350))
theorem t_Web_edge (self : OWeb) (number : Int) : Ret false [] (F_Web_edge [enc self, enc number]) (p_Web_edge self number) := by
  refine ret_def (n := 2) (g := g_Web_edge) (l := [enc self, enc number]) (by exact Nat.le_of_ble_eq_true rfl) (fun M0 => ?_)
  unfold g_Web_edge p_Web_edge
  exact b_ifD (to_not (to_tru (eo_callp (ap_cons (ep_var (v := number) 1 rfl) (ap_cons (ep_c (v := (0 : Int)) rfl) (ap_cons (ep_2 (ep_len (EP.ls (ep_fld (v := self.own_edges) (EP.ev (ep_var (v := self) 0 rfl) rfl) rfl)) rfl) (ep_c (v := (1 : Int)) rfl) (o_sub _ _)) ap_nil))) (t_is_within number (0 : Int) (((self.own_edges).length : Int) - (1 : Int))) rfl))) (b_bad bad_wp) (b_skip (b_ret kr_t rfl (eo_ixp (EP.ls (ep_fld (v := self.own_edges) (EP.ev (ep_var (v := self) 0 rfl) rfl) rfl)) (ep_var (v := number) 1 rfl) rfl)))
noncomputable def p_step_ends (web : OWeb) (step : (Int × Int)) : E (Int × Int) := bnd (pur step) fun x348 => bnd (bnd (pur (x348.1, ())) fun v351 => lft (p_Web_edge web v351.1)) fun x352 => bnd (pur (if (false ^^ eqB x348.2 (1 : Int)) = true then (x352.1, x352.2) else (x352.2, x352.1))) fun r353 => pur (id r353)
theorem t_step_ends (web : OWeb) (step : (Int × Int)) : Ret false [] (F_step_ends [enc web, enc step]) (p_step_ends web step) := by
  refine ret_def (n := 6) (g := g_step_ends) (l := [enc web, enc step]) (by exact Nat.le_of_ble_eq_true rfl) (fun M0 => ?_)
  unfold g_step_ends p_step_ends
  exact b_tgt (EP.eo (ep_var (v := step) 1 rfl)) (fun x348 => tg_2 (tg_nm 2 x348.1) (tg_nm 3 x348.2)) (fun x348 => b_tgt (eo_meth (o := web) (ep_var (v := web) 0 rfl) rfl (by decide) (AP.ao (ap_cons (ep_var (v := x348.1) 2 rfl) ap_nil)) (fun v351 => t_Web_edge web v351.1) (fun _ => rfl)) (fun x352 => tg_2 (tg_nm 4 x352.1) (tg_nm 5 x352.2)) (fun x352 => b_ret kr_t rfl (EP.eo (ep_if (tp_b (ep_eq (neg := false) (EP.ey (ep_var (v := x348.2) 3 rfl)) (EP.ey (ep_c (v := (1 : Int)) rfl)))) (ep_frt (v := (x352.1, x352.2)) (np_new (n := 2) (ap_cons (ep_var (v := x352.1) 4 rfl) (ap_cons (ep_var (v := x352.2) 5 rfl) ap_nil)) rfl) rfl) (ep_frt (v := (x352.2, x352.1)) (np_new (n := 2) (ap_cons (ep_var (v := x352.2) 5 rfl) (ap_cons (ep_var (v := x352.1) 4 rfl) ap_nil)) rfl) rfl)))))
noncomputable def p_is_walk (web : OWeb) (thing : (List (Int × Int))) : E Bool := bnd (pur ((!true) || (false ^^ eqB thing ([] : List (Int × Int))))) fun z => if z = true then (bnd (pur false) fun r324 => pur (id r324)) else (bnd (bnd (bnd (bnd (bnd (pur thing) fun xs340 => lcM xs340 (fun (x325 : (Int × Int)) => pur true) (fun (x325 : (Int × Int)) => lft (p_is_step web x325))) fun x341 => bnd (pur ()) fun v342 => pur (x341, v342)) fun v343 => lft (.ok (v343.1.all id))) fun z344 => pur (!z344)) fun z => if z = true then (bnd (pur false) fun r345 => pur (id r345)) else (bnd (bnd (pur thing) fun xs354 => lcM xs354 (fun (x347 : (Int × Int)) => pur true) (fun (x347 : (Int × Int)) => lft (p_step_ends web x347))) fun (ends346 : (List (Int × Int))) => bnd (bnd (bnd (bnd (bnd (pur ends346) fun xs355 => bnd (pur (cutL ends346 (some (1 : Int)) none)) fun ys356 => pur (List.zip xs355 ys356)) fun xs358 => lcM xs358 (fun (x357 : ((Int × Int) × (Int × Int))) => pur true) (fun (x357 : ((Int × Int) × (Int × Int))) => pur (false ^^ eqB x357.1.2 x357.2.1))) fun x359 => bnd (pur ()) fun v360 => pur (x359, v360)) fun v361 => lft (.ok (v361.1.all id))) fun r362 => pur (id r362)))
theorem t_is_walk (web : OWeb) (thing : (List (Int × Int))) : Ret false [] (F_is_walk [enc web, enc thing]) (p_is_walk web thing) := by
  refine ret_def (n := 6) (g := g_is_walk) (l := [enc web, enc thing]) (by exact Nat.le_of_ble_eq_true rfl) (fun M0 => ?_)
  unfold g_is_walk p_is_walk
  exact b_ifD (TP.to (tp_or (tp_not (tp_tru (ep_isi (b := true) (ep_var (v := thing) 1 rfl) (fun _ => rfl) (by decide +kernel)))) (tp_b (ep_eq (neg := false) (EP.ey (ep_var (v := thing) 1 rfl)) (EP.ey (ep_lst (xs := ([] : List (Int × Int))) (np_new (n := 0) ap_nil rfl))))))) (b_retS kr_t rfl (EP.eo (ep_c (v := false) rfl))) (b_skip (b_ifD (to_not (to_tru (eo_c1 (ao_cons (eo_lst (nl_lc (io_seq (EP.eo (ep_var (v := thing) 1 rfl))) (fun x325 => tg_nm 3 x325) (fun x325 => to_yes) (fun x325 => eo_callp (ap_cons (ep_var (v := web) 0 rfl) (ap_cons (ep_var (v := x325) 3 rfl) ap_nil)) (t_is_step web x325) rfl) (fun x325 => ci_v (ci_v (ci_v (ci_v (ci_v (ci_v ci_n)))))))) (AP.ao ap_nil)) (E2 o_all)))) (b_retS kr_t rfl (EP.eo (ep_c (v := false) rfl))) (b_skip (b_val' (i := 2) (nl_lc (io_seq (EP.eo (ep_var (v := thing) 1 rfl))) (fun x347 => tg_nm 3 x347) (fun x347 => to_yes) (fun x347 => eo_callp (ap_cons (ep_var (v := web) 0 rfl) (ap_cons (ep_var (v := x347) 3 rfl) ap_nil)) (t_step_ends web x347) rfl) (fun x347 => ci_v (ci_v (ci_v (ci_v (ci_v (ci_v ci_n))))))) (fun ends346 => b_ret kr_t rfl (eo_c1 (ao_cons (eo_lst (nl_lc (io_zip (EP.eo (ep_var (v := ends346) 2 rfl)) (eo_lst (NP.nl (xs := cutL ends346 (some (1 : Int)) none) (np_cut (EP.ls (ep_var (v := ends346) 2 rfl)) (op_so (ep_c (v := (1 : Int)) rfl)) op_no (.inl rfl))))) (fun x357 => tg_2 (tg_nm 4 x357.1) (tg_nm 5 x357.2)) (fun x357 => to_yes) (fun x357 => EP.eo (ep_eq (neg := false) (EP.ey (ep_tup (z := x357.1.2) (EP.ev (ep_var (v := x357.1) 4 rfl) rfl) rfl)) (EP.ey (ep_tup (z := x357.2.1) (EP.ev (ep_var (v := x357.2) 5 rfl) rfl) rfl)))) (fun x357 => ci_v (ci_v (ci_v (ci_v (ci_v (ci_v ci_n)))))))) (AP.ao ap_nil)) (E2 o_all)))))))
noncomputable def p_walk_sum (web : OWeb) (gains : (List Int)) (walk : (List (Int × Int))) : E Int := bnd (lft (p_check_gains web gains)) fun u323 => bnd (bnd (lft (p_is_walk web walk)) fun z363 => pur (!z363)) fun z => if z = true then (lft .bad) else (bnd (bnd (bnd (pur web) fun x373 => bnd (bnd (bnd (bnd (bnd (pur walk) fun xs367 => lcM xs367 (fun (x364 : (Int × Int)) => pur true) (fun (x364 : (Int × Int)) => bnd (pur x364.2) fun (x365 : Int) => bnd (lft (ixL gains x364.1)) fun (y366 : Int) => lft (mulZ x365 y366))) fun x368 => bnd (pur ()) fun v369 => pur (x368, v369)) fun v370 => lft (.ok (v370.1.sum))) fun x371 => bnd (pur ()) fun v372 => pur (x371, v372)) fun v374 => pur (x373, v374)) fun v375 => lft (p_residue v375.1 v375.2.1)) fun r376 => pur (id r376))
theorem t_walk_sum (web : OWeb) (gains : (List Int)) (walk : (List (Int × Int))) : Ret false [] (F_walk_sum [enc web, enc gains, enc walk]) (p_walk_sum web gains walk) := by
  refine ret_def (n := 5) (g := g_walk_sum) (l := [enc web, enc gains, enc walk]) (by exact Nat.le_of_ble_eq_true rfl) (fun M0 => ?_)
  unfold g_walk_sum p_walk_sum
  exact b_exp (eo_callp (ap_cons (ep_var (v := web) 0 rfl) (ap_cons (ep_var (v := gains) 1 rfl) ap_nil)) (t_check_gains web gains) rfl) (fun u323 => b_ifD (to_not (to_tru (eo_callp (ap_cons (ep_var (v := web) 0 rfl) (ap_cons (ep_var (v := walk) 2 rfl) ap_nil)) (t_is_walk web walk) rfl))) (b_bad bad_wp) (b_skip (b_ret kr_t rfl (eo_call (ao_cons (EP.eo (ep_var (v := web) 0 rfl)) (ao_cons (eo_c1 (ao_cons (eo_lst (nl_lc (io_seq (EP.eo (ep_var (v := walk) 2 rfl))) (fun x364 => tg_2 (tg_nm 3 x364.1) (tg_nm 4 x364.2)) (fun x364 => to_yes) (fun x364 => eo_2 (EP.eo (ep_var (v := x364.2) 4 rfl)) (eo_ixp (EP.ls (ep_var (v := gains) 1 rfl)) (ep_var (v := x364.1) 3 rfl) rfl) o_mul) (fun x364 => ci_v (ci_v (ci_v (ci_v (ci_v ci_n))))))) (AP.ao ap_nil)) (E2 o_sum)) (AP.ao ap_nil))) (fun v375 => t_residue v375.1 v375.2.1) (fun _ => rfl)))))
noncomputable def p__law_links (law_nodes : Int) (law_most : Int) : W (List (Int × Int)) := bnd (pur ([] : List (Int × Int))) fun (law_found473 : (List (Int × Int))) => bnd (bnd (bnd (pur ((law_most + (1 : Int)), ())) fun v474 => takeW v474.1) fun n475 => lft (rgW 0 n475)) fun xs487 => bnd (forM (fun (b476 : (List (Int × Int))) (x477 : Int) => bnd (bnd (bnd (bnd (pur (law_nodes, ())) fun v478 => takeW v478.1) fun x482 => bnd (bnd (bnd (pur (law_nodes, ())) fun v479 => takeW v479.1) fun x480 => bnd (pur ()) fun v481 => pur (x480, v481)) fun v483 => pur (x482, v483)) fun v484 => pur (v484.1, v484.2.1)) fun v485 => bnd (lft (appL b476 v485)) fun law_found486 => pur law_found486) xs487 law_found473) fun (b476 : (List (Int × Int))) => pur (id b476)
theorem t__law_links (pc : Nat) (law_nodes : Int) (law_most : Int) : Ret true [pc] (F__law_links (.ref pc :: [enc law_nodes, enc law_most])) (p__law_links law_nodes law_most) := by
  refine ret_pool (n := 5) (g := g__law_links) (l := [enc law_nodes, enc law_most]) (by exact Nat.le_of_ble_eq_true rfl) (fun M0 => ?_)
  unfold g__law_links p__law_links
  exact b_cell (i := 3) (NP.nl (xs := ([] : List (Int × Int))) (np_new (n := 0) ap_nil rfl)) (fun law_found473 => b_for (b0 := law_found473) (fsL := fun (b476 : (List (Int × Int))) => [.par pc, .v law_nodes, .v law_most, .L b476, .any]) (io_range1 (eo_pool (i := 0) rfl (.inr ⟨_, rfl⟩) (AP.ao (ap_cons (ep_add (ep_var (v := law_most) 2 rfl) (ep_c (v := (1 : Int)) rfl)) ap_nil)) (fun pc v474 => t__law_take pc v474.1) (fun _ => rfl))) (wk_s (wk_s (wk_s (wk_s (wk_a wk_n))))) (fun b476 x477 => tg_nm 4 x477) (fun b476 x477 => b_last (b_app (i := 3) rfl (eo_frz (f := fun v484 => (v484.1, v484.2.1)) (no_new (n := 2) (ao_cons (eo_pool (i := 0) rfl (.inr ⟨_, rfl⟩) (AP.ao (ap_cons (ep_var (v := law_nodes) 1 rfl) ap_nil)) (fun pc v478 => t__law_take pc v478.1) (fun _ => rfl)) (ao_cons (eo_pool (i := 0) rfl (.inr ⟨_, rfl⟩) (AP.ao (ap_cons (ep_var (v := law_nodes) 1 rfl) ap_nil)) (fun pc v479 => t__law_take pc v479.1) (fun _ => rfl)) (AP.ao ap_nil))) (fun _ => rfl)) (fun _ => rfl) (fun _ => .inr rfl)) (fun law_found486 => b_end law_found486 (wk_s (wk_s (wk_s (wk_s (wk_a wk_n)))))))) (fun b476 => b_retC 3 kr_t rfl))
noncomputable def p__law_low (law_number_here : Int) (law_dial : Int) : E Int := bnd (bnd (pur (decide ((0 : Int) < law_dial))) fun z512 => if z512 = true then (lft (modZ law_number_here law_dial)) else (pur law_number_here)) fun r513 => pur (id r513)
theorem t__law_low (law_number_here : Int) (law_dial : Int) : Ret false [] (F__law_low [enc law_number_here, enc law_dial]) (p__law_low law_number_here law_dial) := by
  refine ret_def (n := 2) (g := g__law_low) (l := [enc law_number_here, enc law_dial]) (by exact Nat.le_of_ble_eq_true rfl) (fun M0 => ?_)
  unfold g__law_low p__law_low
  exact b_ret kr_t rfl (eo_if (TP.to (tp_b (ep_2 (ep_var (v := law_dial) 1 rfl) (ep_c (v := (0 : Int)) rfl) (o_gt _ _)))) (eo_2p (ep_var (v := law_number_here) 0 rfl) (ep_var (v := law_dial) 1 rfl) (o_mod _ _)) (EP.eo (ep_var (v := law_number_here) 0 rfl)))
noncomputable def p__law_put (law_links_here : (List (Int × Int))) (law_dial : Int) (law_gains_here : (List Int)) (law_levels : (List Int)) : E (List Int) := bnd (pur ([] : List Int)) fun (law_found514 : (List Int)) => bnd (bnd (pur law_gains_here) fun xs515 => bnd (pur law_links_here) fun ys516 => pur (List.zip xs515 ys516)) fun xs530 => bnd (forM (fun (b517 : (List Int)) (x518 : (Int × (Int × Int))) => bnd (bnd (bnd (bnd (bnd (pur x518.1) fun x519 => bnd (lft (ixL law_levels x518.2.1)) fun y520 => pur (x519 + y520)) fun x521 => bnd (lft (ixL law_levels x518.2.2)) fun y522 => lft (.ok (x521 - y522))) fun x525 => bnd (bnd (pur law_dial) fun x523 => bnd (pur ()) fun v524 => pur (x523, v524)) fun v526 => pur (x525, v526)) fun v527 => lft (p__law_low v527.1 v527.2.1)) fun v528 => bnd (lft (appL b517 v528)) fun law_found529 => pur law_found529) xs530 law_found514) fun (b517 : (List Int)) => pur (id b517)
theorem t__law_put (law_links_here : (List (Int × Int))) (law_dial : Int) (law_gains_here : (List Int)) (law_levels : (List Int)) : Ret true [] (F__law_put [enc law_links_here, enc law_dial, enc law_gains_here, enc law_levels]) (p__law_put law_links_here law_dial law_gains_here law_levels) := by
  refine ret_def (n := 8) (g := g__law_put) (l := [enc law_links_here, enc law_dial, enc law_gains_here, enc law_levels]) (by exact Nat.le_of_ble_eq_true rfl) (fun M0 => ?_)
  unfold g__law_put p__law_put
  exact b_cell (i := 4) (NP.nl (xs := ([] : List Int)) (np_new (n := 0) ap_nil rfl)) (fun law_found514 => b_for (b0 := law_found514) (fsL := fun (b517 : (List Int)) => [.v law_links_here, .v law_dial, .v law_gains_here, .v law_levels, .L b517, .any, .any, .any]) (io_zip (EP.eo (ep_var (v := law_gains_here) 2 rfl)) (EP.eo (ep_var (v := law_links_here) 0 rfl))) (wk_s (wk_s (wk_s (wk_s (wk_s (wk_a (wk_a (wk_a wk_n)))))))) (fun b517 x518 => tg_2 (tg_nm 5 x518.1) (tg_2 (tg_nm 6 x518.2.1) (tg_nm 7 x518.2.2))) (fun b517 x518 => b_last (b_app (i := 4) rfl (eo_call (ao_cons (eo_2 (eo_add (EP.eo (ep_var (v := x518.1) 5 rfl)) (eo_ixp (EP.ls (ep_var (v := law_levels) 3 rfl)) (ep_var (v := x518.2.1) 6 rfl) rfl)) (eo_ixp (EP.ls (ep_var (v := law_levels) 3 rfl)) (ep_var (v := x518.2.2) 7 rfl) rfl) (E1 fun x y => o_sub x y)) (ao_cons (EP.eo (ep_var (v := law_dial) 1 rfl)) (AP.ao ap_nil))) (fun v527 => t__law_low v527.1 v527.2.1) (fun _ => rfl)) (fun law_found529 => b_end law_found529 (wk_s (wk_s (wk_s (wk_s (wk_s (wk_a (wk_a (wk_a wk_n))))))))))) (fun b517 => b_retC 4 kr_t rfl))
noncomputable def p_Web_forest (self : OWeb) : E (List Int) := bnd (pur self.own_forest) fun r645 => pur (id r645)
theorem t_Web_forest (self : OWeb) : Ret false [] (F_Web_forest [enc self]) (p_Web_forest self) := by
  refine ret_def (n := 1) (g := g_Web_forest) (l := [enc self]) (by exact Nat.le_of_ble_eq_true rfl) (fun M0 => ?_)
  unfold g_Web_forest p_Web_forest
  exact b_ret kr_t rfl (eo_lst (NP.nl (xs := self.own_forest) (np_list (EP.ls (ep_fld (v := self.own_forest) (EP.ev (ep_var (v := self) 0 rfl) rfl) rfl)) rfl)))
noncomputable def p_Web_cycles (self : OWeb) : E (List (List (Int × Int))) := bnd (pur ([] : List (List (Int × Int)))) fun (found646 : (List (List (Int × Int)))) => bnd (bnd (pur self.own_edges) fun xs647 => pur (enI 0 xs647)) fun xs656 => bnd (forM (fun (b648 : (List (List (Int × Int)))) (x649 : (Int × (Int × Int))) => bnd (pur (true ^^ inI x649.1 self.own_forest)) fun z => if z = true then (bnd (bnd (pur ([(x649.1, (1 : Int))] : List (Int × Int))) fun xs652 => bnd (bnd (lft (p_walk_paths self.links x649.2.2)) fun (x650 : (Fd (List (Int × Int)))) => bnd (pur x649.2.1) fun (y651 : Int) => lft (fget x650 y651)) fun ys653 => lft (catL xs652 ys653)) fun v654 => bnd (lft (appL b648 v654)) fun found655 => pur found655) else (pur b648)) xs656 found646) fun (b648 : (List (List (Int × Int)))) => pur (id b648)
theorem t_Web_cycles (self : OWeb) : Ret true [] (F_Web_cycles [enc self]) (p_Web_cycles self) := by
  refine ret_def (n := 5) (g := g_Web_cycles) (l := [enc self]) (by exact Nat.le_of_ble_eq_true rfl) (fun M0 => ?_)
  unfold g_Web_cycles p_Web_cycles
  exact b_cell (i := 1) (NP.nl (xs := ([] : List (List (Int × Int)))) (np_new (n := 0) ap_nil rfl)) (fun found646 => b_for (b0 := found646) (fsL := fun (b648 : (List (List (Int × Int)))) => [.v self, .L b648, .any, .any, .any]) (io_enum (EP.eo (ep_fld (v := self.own_edges) (EP.ev (ep_var (v := self) 0 rfl) rfl) rfl))) (wk_s (wk_s (wk_a (wk_a (wk_a wk_n))))) (fun b648 x649 => tg_2 (tg_nm 2 x649.1) (tg_2 (tg_nm 3 x649.2.1) (tg_nm 4 x649.2.2))) (fun b648 x649 => b_if (TP.to (tp_b (ep_in (neg := true) (ep_var (v := x649.1) 2 rfl) (EP.ls (ep_fld (v := self.own_forest) (EP.ev (ep_var (v := self) 0 rfl) rfl) rfl)) rfl))) (b_last (b_app (i := 1) rfl (eo_lst (nl_cat (EP.eo (ep_lst (xs := ([(x649.1, (1 : Int))] : List (Int × Int))) (np_new (n := 1) (ap_cons (ep_frt (v := (x649.1, (1 : Int))) (np_new (n := 2) (ap_cons (ep_var (v := x649.1) 2 rfl) (ap_cons (ep_c (v := (1 : Int)) rfl) ap_nil)) rfl) rfl) ap_nil) rfl))) (eo_2 (eo_callp (ap_cons (ep_fld (v := self.links) (EP.ev (ep_var (v := self) 0 rfl) rfl) rfl) (ap_cons (ep_var (v := x649.2.2) 4 rfl) ap_nil)) (t_walk_paths self.links x649.2.2) rfl) (EP.eo (ep_var (v := x649.2.1) 3 rfl)) o_fget))) (fun found655 => b_end found655 (wk_s (wk_s (wk_a (wk_a (wk_a wk_n)))))))) (b_end b648 (wk_s (wk_s (wk_a (wk_a (wk_a wk_n))))))) (fun b648 => b_retC 1 kr_t rfl))
noncomputable def p_cycle_sums (web : OWeb) (gains : (List Int)) : E (List Int) := bnd (lft (p_check_gains web gains)) fun u657 => bnd (bnd (bnd (pur ()) fun v658 => lft (p_Web_cycles web )) fun xs660 => lcM xs660 (fun (x659 : (List (Int × Int))) => pur true) (fun (x659 : (List (Int × Int))) => lft (p_walk_sum web gains x659))) fun r661 => pur (id r661)
theorem t_cycle_sums (web : OWeb) (gains : (List Int)) : Ret true [] (F_cycle_sums [enc web, enc gains]) (p_cycle_sums web gains) := by
  refine ret_def (n := 3) (g := g_cycle_sums) (l := [enc web, enc gains]) (by exact Nat.le_of_ble_eq_true rfl) (fun M0 => ?_)
  unfold g_cycle_sums p_cycle_sums
  exact b_exp (eo_callp (ap_cons (ep_var (v := web) 0 rfl) (ap_cons (ep_var (v := gains) 1 rfl) ap_nil)) (t_check_gains web gains) rfl) (fun u657 => b_retL kr_t (nl_lc (io_seq (eo_meth (o := web) (ep_var (v := web) 0 rfl) rfl (by decide) (AP.ao ap_nil) (fun v658 => t_Web_cycles web ) (fun _ => rfl))) (fun x659 => tg_nm 2 x659) (fun x659 => to_yes) (fun x659 => eo_callp (ap_cons (ep_var (v := web) 0 rfl) (ap_cons (ep_var (v := gains) 1 rfl) (ap_cons (ep_var (v := x659) 2 rfl) ap_nil))) (t_walk_sum web gains x659) rfl) (fun x659 => ci_v (ci_v (ci_v ci_n)))))
noncomputable def p_normal (web : OWeb) (gains : (List Int)) : E (List Int) := bnd (lft (p_cycle_sums web gains)) fun (sums662 : (List Int)) => bnd (bnd (bnd (lft (p_Web___len__ web)) fun n664 => lft (lenG n664)) fun k665 => lft (repL ([(0 : Int)] : List Int) k665)) fun (found663 : (List Int)) => bnd (bnd (bnd (pur ()) fun v666 => lft (p_Web_cycles web )) fun xs667 => bnd (pur sums662) fun ys668 => pur (List.zip xs667 ys668)) fun xs675 => bnd (forM (fun (b669 : (List Int)) (x670 : ((List (Int × Int)) × Int)) => bnd (pur x670.2) fun v672 => bnd (nox (bnd (lft (ixL x670.1 (0 : Int))) fun (x671 : (Int × Int)) => pur x671.1)) fun n674 => bnd (lft (setL b669 n674 v672)) fun found673 => pur found673) xs675 found663) fun (b669 : (List Int)) => pur (id b669)
theorem t_normal (web : OWeb) (gains : (List Int)) : Ret true [] (F_normal [enc web, enc gains]) (p_normal web gains) := by
  refine ret_def (n := 6) (g := g_normal) (l := [enc web, enc gains]) (by exact Nat.le_of_ble_eq_true rfl) (fun M0 => ?_)
  unfold g_normal p_normal
  exact b_asg (i := 2) (eo_callp (ap_cons (ep_var (v := web) 0 rfl) (ap_cons (ep_var (v := gains) 1 rfl) ap_nil)) (t_cycle_sums web gains) rfl) (fun sums662 => b_cell (i := 3) (nl_repM (ep_lst (xs := ([(0 : Int)] : List Int)) (np_new (n := 1) (ap_cons (ep_c (v := (0 : Int)) rfl) ap_nil) rfl)) (eo_lenO (o := web) (ep_var (v := web) 0 rfl) rfl (by decide) (t_Web___len__ web))) (fun found663 => b_for (b0 := found663) (fsL := fun (b669 : (List Int)) => [.v web, .v gains, .v sums662, .L b669, .any, .any]) (io_zip (eo_meth (o := web) (ep_var (v := web) 0 rfl) rfl (by decide) (AP.ao ap_nil) (fun v666 => t_Web_cycles web ) (fun _ => rfl)) (EP.eo (ep_var (v := sums662) 2 rfl))) (wk_s (wk_s (wk_s (wk_s (wk_a (wk_a wk_n)))))) (fun b669 x670 => tg_2 (tg_nm 4 x670.1) (tg_nm 5 x670.2)) (fun b669 x670 => b_last (b_putM (i := 3) rfl (eo_tupM (f := fun (x671 : (Int × Int)) => x671.1) (eo_ixp (EP.ls (ep_var (v := x670.1) 4 rfl)) (ep_c (v := (0 : Int)) rfl) rfl) (fun (x671 : (Int × Int)) => [enc x671.1, enc x671.2]) (fun _ => rfl) (fun _ => rfl)) (EP.eo (ep_var (v := x670.2) 5 rfl)) (fun found673 => b_end found673 (wk_s (wk_s (wk_s (wk_s (wk_a (wk_a wk_n))))))))) (fun b669 => b_retC 3 kr_t rfl)))
end Lw

set_option Elab.async false
set_option linter.all false
set_option maxRecDepth 100000
set_option maxHeartbeats 4000000
/-! TP1: sorted(set(xs)), typed. -/
namespace TL
open PySem L2 DL
open Mo (pur bnd lft)
open Enc (enc)
open EncL (encL)
section
variable {m : Type → Type} [Mo m] {pp : List Nat} {M0 : Store} {fs : List SV}
end
end TL

set_option Elab.async false
set_option linter.all false
set_option maxRecDepth 100000
set_option maxHeartbeats 4000000
/-! DN1: lambdas handed on as values: heaps without some cells, the run of a lambda. -/
namespace DL
open PySem PySem.Spec PyProof.Rows L2 LamX NdefX
variable [Tb]
/-! ### a heap without some places -/
def onto (H H' : Hp) (ds : List Addr) : Hp := fun b => if b ∈ ds then H b else H' b
section
variable {H H' H2 : Hp} {ds : List Addr} {b : Addr} {o : HO}
/-- told by their objects alone -/
def Fzs (H : Hp) (ds : List Addr) : Prop := ∀ d ∈ ds, ∃ ob, H d = some (Fz ob)
theorem Fzs.no (f : Fzs H ds) (h : H b = some o) (ho : ∀ ob, o ≠ Fz ob) : b ∉ ds := fun hb => by
  obtain ⟨ob, z⟩ := f b hb
  rw [h] at z
  exact ho ob (Option.some.inj z)
variable {P : Program} {w : World} {h h' : Heap} {fs : List Addr}
theorem Fzs.obj (ok : HOk P w H h) (f : Fzs H ds) (hb : b ∈ ds) : ∃ ob, H b = some (Fz ob) ∧ h.get? b = some ob := by
  obtain ⟨ob, z⟩ := f b hb
  exact ⟨ob, z, (ok b _ z).1⟩
end
/-! ### the run of a lambda -/
section
variable {P : Program} {w : World} {K : PySem.W.Frag} {mg : Str → Option Value} {base : Heap} {CX : CXT} {r : LamR} {ps N : List Str} {cl : List (Str × Addr)} {c f : Addr} {pm ctv : Value} {A : Around} {outer : List Env} {s : Shared} {H : Hp} {us : List Value} {vs : List V} {ws : List (Option V)} {Q : VK} {E : XK} {k : Nat}
end
/-- the lambda r does F of its arguments and of what it captured, wherever the store is as told: Fr, B, as, M may be any part of what the caller knows -/
def LamP (P : Program) (w : World) (K : PySem.W.Frag) (mg : Str → Option Value) (base : Heap) (r : LamR) (j : Nat) (ps : List Str) (F : List D → Ev D) : Prop :=
  ∀ (cl : List (Str × Addr)) (c f : Addr) (pm ctv : Value) (A : Around) (outer : List Env) (s : Shared) (H : Hp) (us : List Value) (vs ws : List V) (l cs : List D) (Fr B : Hp) (as : List Addr) (M M' : Store) (a : D), Room (j + 1) A → Env0 P w K mg base A outer s H →
    s.heap.get? f = some (PySem.W.kla_obj "<lambda>" r.qual r.params r.body r.scope cl pm c ctv) → H c = some (CodeO c r.qual) → CellsAt cl r.fr (ws.map some) s.heap H → (∀ x d, cl.lookup x = some d → x ∈ r.fr) → Vals vs us → l.length = ps.length → Rep ⟨K, mg⟩ Fr B as H M →
    Rs ⟨K, mg⟩ B as vs l → Rs ⟨K, mg⟩ B as ws cs → F (l ++ cs) M = .ok a M' →
    codeAny (model P w) A (.call (.ref f) ⟨us, []⟩) (CR (L2.CX P w) outer P w H s (fun v H' => ∃ B' as', Same B B' ∧ as <+: as' ∧ Rep ⟨K, mg⟩ Fr B' as' H' M' ∧ R ⟨K, mg⟩ B' as' v a) (fun _ _ _ => False)) s
section
variable {P : Program} {w : World} {K : PySem.W.Frag} {mg : Str → Option Value} {base : Heap} {r : LamR} {j : Nat} {N ps : List Str} {g : Lo → Ev D}
end
end DL

set_option Elab.async false
set_option linter.all false
set_option maxRecDepth 100000
set_option maxHeartbeats 4000000
/-! DN2: a lambda that a name holds is called; a def is called with a lambda behind its arguments. -/
namespace DL
open PySem PySem.Spec PyProof.Rows L2 LamX NdefX
variable [Tb]
/-! ### the rest of a heap -/
/-- all but the tables and what is kept anyway -/
noncomputable def restH (B H : Hp) : Hp := fun b => match B b with
  | some _ => none
  | none => noTb H b
section
variable {B H : Hp} {b : Addr} {o : HO}
theorem restH_at (hB : B b = none) (h : H b = some o) (ho : ∀ ps, o ≠ .tbl ps) : restH B H b = some o := by
  unfold restH
  rw [hB]
  exact noTb_at h ho
theorem restH_inv (h : restH B H b = some o) : B b = none ∧ noTb H b = some o := by
  unfold restH at h
  cases q : B b with
  | none => rw [q] at h; exact ⟨rfl, h⟩
  | some u => rw [q] at h; cases h
theorem restH_sub : Same (restH B H) H := fun b o h => noTb_sub b o (restH_inv h).2
theorem restH_no : NoT (restH B H) := fun b ps h => noTb_no b ps (restH_inv h).2
end
section
variable {G : Gx} {Fr B B' : Hp} {as : List Addr} {H H2 : Hp} {M : Store}
theorem Rep.has (rp : Rep G Fr B as H M) {a : Addr} (ha : a ∈ as) : ∃ o, H a = some o ∧ ∀ ps, o ≠ .tbl ps := by
  cases e : H a with
  | none => exact absurd ha (rp.fresh e).2
  | some o => exact ⟨o, rfl, fun ps z => (rp.pln ha).1 ps (by rw [e, z])⟩
/-- behind a call that saw a part: all that was is still there, and more is kept -/
theorem Rep.back (rp : Rep G Fr B as H M) (eB : Same B B') (ext : ExtN H H2) (sub : Same B' H2) (dis : ∀ b o, H b = some o → (∀ ps, o ≠ .tbl ps) → B b = none → B' b = none) (nb : NoB B') (tb : Tabs (Tb.T G.K) H2) : Rep G Fr B' as H2 M := by
  have r2 := rp.extN ext tb
  refine ⟨sub, r2.frm, r2.fout, fun b o h => dis b o (rp.frm b o h) (fun ps z => rp.nF b ps (by rw [h, z])) (rp.dis b o h), r2.nd, fun a ha => ?_, r2.len, fun n a c ha hc => ?_, nb, r2.nF, tb⟩
  · obtain ⟨o, h, n⟩ := rp.has ha
    exact dis a o h n (rp.out a ha)
  · obtain ⟨vs, m, r⟩ := r2.cell n a c ha hc
    exact ⟨vs, m, r.mono eB (List.prefix_refl _)⟩
end
/-! ### the cells of a lambda -/
section
variable {P : Program} {w : World} {K : PySem.W.Frag} {mg : Str → Option Value} {base : Heap} {A : Around} {outer : List Env} {s : Shared} {H : Hp}
end
/-! ### y(..), y a name that holds a lambda -/
/-- the lambdas that may be held: how many arguments, what they do -/
abbrev LTab := Nat → Option (Nat × (List D → Ev D))
def isFn (d : D) : Ev Unit := fun M => match d with
  | .ref n => (match M[n]? with
    | some (.fn _, _) => .ok () M
    | _ => .stuck)
  | _ => .stuck
section
variable {X : Cx} {W : WX}
end
end DL

set_option Elab.async false
set_option linter.all false
set_option maxRecDepth 100000
set_option maxHeartbeats 4000000
/-! DN3: a def is called with a lambda behind its other arguments. -/
namespace DL
open PySem PySem.Spec PyProof.Rows L2 LamX NdefX
variable [Tb]
/-! ### a lambda is made -/
section
variable {X : Cx} {pins : List (Addr × Obj)} {σ : L2.St} {H : Hp} {s : Shared}
/-- the function that a lambda makes -/
abbrev lamO (X : Cx) (params : Arguments) (body : Expr) (scope : Scope) (pm : Value) (c : Addr) (ctv : Value) : Obj :=
  PySem.W.kla_obj "<lambda>" (X.env.qual ++ "<lambda>") params body scope (cloFrom X.env.cells scope.names []) pm c ctv
end
/-! ### lent -/
/-- some places are known from now on, by their objects -/
def lent (H : Hp) (h : Heap) (ds : List Addr) : Hp := fun b => if b ∈ ds then (h.get? b).map Fz else H b
section
variable {H H' : Hp} {ds : List Addr} {b : Addr} {o : HO} {h : Heap}
end
section
variable {P : Program} {w : World} {K : PySem.W.Frag} {mg : Str → Option Value} {base : Heap} {A : Around} {outer : List Env} {s : Shared} {H : Hp}
end
end DL

set_option Elab.async false
set_option linter.all false
set_option maxRecDepth 100000
set_option maxHeartbeats 4000000
/-! DN4: x(e, .., lambda ..: ..). -/
namespace DL
open PySem PySem.Spec PyProof.Rows L2 LamX NdefX
variable [Tb]
section
variable {X : Cx} {W : WX}
end
/-- what is captured is told -/
theorem clo_fr {cells : List (Str × Addr)} {names : List (Str × NameKind)} {fr : List Str} (h : ∀ y ∈ names, y.2 = .free → y.1 ∈ fr) : ∀ x d, (cloFrom cells names []).lookup x = some d → x ∈ fr := fun x d e => by
  rcases cloFrom_mem (PySem.mem_of_lookup e) with z | ⟨z, _⟩
  · cases z
  · exact h _ z rfl
section
variable {X : Cx} {W : WX}
end
end DL

set_option Elab.async false
set_option linter.all false
set_option maxRecDepth 100000
set_option maxHeartbeats 4000000
/-! DN5: min(xs, key = lambda x: ..), the key a tuple of numbers. -/
namespace DL
open PySem PySem.Spec PyProof.Rows L2 LamX NdefX
variable [Tb]
/-! ### by data -/
open Classical in
/-- the key of an item, numbers; nothing that was there may change -/
noncomputable def keyD (F : List D → Ev D) (cs : List D) (M : Store) (d : D) : Option (List Int) := match F (d :: cs) M with
  | .ok (.nd .tup l) M' => if M' = M then intsOf l else none
  | _ => none
theorem keyD_inv {F : List D → Ev D} {cs : List D} {M : Store} {d : D} {ns : List Int} (h : keyD F cs M d = some ns) : ∃ l, F (d :: cs) M = .ok (.nd .tup l) M ∧ intsOf l = some ns := by
  unfold keyD at h
  split at h
  · rename_i l M' e
    by_cases q : M' = M
    · rw [if_pos q] at h
      exact ⟨l, by rw [e, q], h⟩
    · rw [if_neg q] at h; cases h
  · cases h
/-! ### the machine -/
theorem env0_in1 {P : Program} {w : World} {K : PySem.W.Frag} {mg : Str → Option Value} {base : Heap} {A : Around} {outer : List Env} {s : Shared} {H : Hp} (e : Env0 P w K mg base A outer s H) : Env0 P w K mg base A.in1 outer s H :=
  ⟨e.frames, e.mod, e.bs, e.bsz, e.funs, e.frf, e.hok, e.bare⟩
/-- what stands while the least is sought: the lambda at f, the walk at it, the pair of the best at S -/
structure MinSt (X : Cx) (pins : List (Addr × Obj)) (σ : L2.St) (Fr B0 : Hp) (as : List Addr) (M : Store) (o : Obj) (f c : Addr) (it S : Addr) (H B : Hp) (s : Shared) : Prop where
  I : Inv X pins σ H s
  rp : Rep (gx X) Fr B as H M
  sB : Same B0 B
  fo : s.heap.get? f = some o
  nf : H f = none
  out : f ∉ frs X.stack
  co : H c = some (CodeO c (X.env.qual ++ "<lambda>"))
  it : FpOk X pins H it
  S : FpOk X pins H S
section
variable {X : Cx} {pins : List (Addr × Obj)} {σ : L2.St} {Fr B0 : Hp} {as : List Addr} {M : Store} {o : Obj} {f c it S : Addr} {H B : Hp} {s : Shared}
/-- an object of one's own is written -/
theorem MinSt.own (m : MinSt X pins σ Fr B0 as M o f c it S H B s) {b : Addr} {h' : Heap} (fb : FpOk X pins H b) (nb : b ≠ f) (k : ∀ d u, d ≠ b → s.heap.get? d = some u → h'.get? d = some u) : MinSt X pins σ Fr B0 as M o f c it S H B { s with heap := h' } :=
  ⟨m.I.turned (t' := s.toks) k fb.1 fb.2.1 fb.2.2.2.1 fb.2.2.2.2.1 fb.2.2.2.2.2, m.rp, m.sB, k f o nb.symm m.fo, m.nf, m.out, m.co, m.it, m.S⟩
/-- the key of an item -/
theorem MinSt.key {j : Nat} {ps : List Str} {F : List D → Ev D} {params : Arguments} {body : Expr} {scope : Scope} {fr : List Str} {js : List Nat} {pm ctv : Value} {ws : List V} {cs : List D} {v : V} {u : Value} {d : D} {ns : List Int} {E : Value → Shared → Prop} {Q : Value → Shared → Prop}
    (m : MinSt X pins σ Fr B0 as M (lamO X params body scope pm c ctv) f c it S H B s) (L : LamP X.prog X.w X.K X.mg X.base ⟨X.env.qual ++ "<lambda>", params, body, scope, fr⟩ j ps F) (h1 : ps.length = 1) (hr : Room (j + 1) X.A.in1)
    (hnd : ndefB X.env.scope scope fr = true) (hfr : ∀ y ∈ scope.names, y.2 = .free → y.1 ∈ fr) (hjs : js.map (fun j => X.N[j]?) = fr.map some) (hws : js.map (slotAt σ) = ws.map some) (rc : Rs (gx X) B as ws cs) (rd : R (gx X) B as v d) (ru : RelV v u) (hk : keyD F cs M d = some ns) (ei : ∃ x, s.heap.get? it = some x) (eS : ∃ x, s.heap.get? S = some x)
    (goal : ∀ H' B' s' T, MinSt X pins σ Fr B0 as M (lamO X params body scope pm c ctv) f c it S H' B' s' → Same B B' → (∀ b x, s.heap.get? b = some x → H b = none → b ∉ frs X.stack → s'.heap.get? b = some x) → SqT X.K B' T (ns.map V.int) → Q (.ref T) s') :
    wpAny (model X.prog X.w) X.A.in1 (call (.ref f) [u]) Q E s := by
  obtain ⟨l, hF, hl⟩ := keyD_inv hk
  have C := cells_of m.I (Caps.made (scope := scope) m.I.ok (ndef_free hnd) (ndef_fr hnd) hjs)
  rw [hws] at C
  obtain ⟨Fc, hFc⟩ : ∃ Fc : Hp, Fc = fun b => if b ∈ as then none else restH B H b := ⟨_, rfl⟩
  have Fc_in : ∀ {b x}, Fc b = some x → b ∉ as ∧ restH B H b = some x := fun {b x} q => by
    rw [hFc] at q
    dsimp only at q
    by_cases e : b ∈ as
    · rw [if_pos e] at q; cases q
    · rw [if_neg e] at q; exact ⟨e, q⟩
  have Fc_at : ∀ {b x}, b ∉ as → B b = none → H b = some x → (∀ ps, x ≠ .tbl ps) → Fc b = some x := fun {b x} e q1 q2 q3 => by
    rw [hFc]
    dsimp only
    rw [if_neg e]
    exact restH_at q1 q2 q3
  have rp0 : Rep (gx X) Fc B as H M := by
    refine ⟨m.rp.sub, fun b x q => restH_sub b x (Fc_in q).2, fun b q => ?_, fun b x q => (restH_inv (Fc_in q).2).1, m.rp.nd, m.rp.out, m.rp.len, m.rp.cell, m.rp.nB, fun b ps q => restH_no b ps (Fc_in q).2, m.rp.tb⟩
    cases e : Fc b with
    | none => rfl
    | some x => exact absurd q (Fc_in e).1
  have FrFc : ∀ b x, Fr b = some x → Fc b = some x := fun b x q => by
    refine Fc_at (fun z => ?_) (m.rp.dis b x q) (m.rp.frm b x q) fun ps z => m.rp.nF b ps (by rw [q, z])
    rw [m.rp.fout b z] at q
    cases q
  refine wpAny_call (codeAny_mono (L _ c f pm ctv _ _ _ _ [u] [v] ws [d] cs Fc B as M M _ hr (env0_in1 m.I.env0) m.fo m.co C (clo_fr hfr) (.cons ru .nil) (by simp [h1]) rp0 (.cons rd .nil) rc hF) fun res s' z => ?_)
  cases res with
  | error e =>
    obtain ⟨_, _, _, _, _, _, _, _, _, _, _, _, no⟩ := z
    exact no.elim
  | ok fl =>
    cases fl with
    | ret u' =>
      obtain ⟨v', H', os, bare, un, ok', rx, B', as', eB, pA, rpE, rE⟩ := z
      have las : as' = as := by
        obtain ⟨t, e⟩ := pA
        have n1 := rpE.len
        have n2 := m.rp.len
        rw [← e, List.length_append] at n1
        have : t = [] := List.eq_nil_of_length_eq_zero (by omega)
        rw [← e, this, List.append_nil]
      subst las
      cases rE with
      | nd fc rl =>
        rename_i T vl
        have e2 := intsOf_eq hl
        subst e2
        have e3 := rl.ints
        subst e3
        cases (show u' = Value.ref T from rx)
        have J : Inv X pins σ H' s' := m.I.call' (ch := []) os un ok' bare fun b q => absurd q (by simp)
        have fp : ∀ {b}, (∃ x, s.heap.get? b = some x) → FpOk X pins H b → FpOk X pins H' b := fun {b} ⟨x, q⟩ g => ⟨un.free b x q g.1 (by simp), g.2⟩
        refine goal H' B' s' T ⟨J, ⟨rpE.sub, fun b x q => rpE.frm b x (FrFc b x q), m.rp.fout, fun b x q => rpE.dis b x (FrFc b x q), rpE.nd, rpE.out, rpE.len, rpE.cell, rpE.nB, m.rp.nF, rpE.tb⟩, m.sB.trans eB, un.keep f _ m.fo m.nf m.out (by simp), un.free f _ m.fo m.nf (by simp), m.out, ?_, ?_, ?_⟩ eB (fun b x q n nb => un.keep b x q n nb (by simp)) fc
        · have nc : c ∉ as' := fun z => (m.rp.pln z).2.1 c _ m.co
          cases e : B c with
          | some x =>
            have : x = CodeO c (X.env.qual ++ "<lambda>") := Option.some.inj ((m.rp.sub c x e).symm.trans m.co)
            subst this
            exact rpE.sub c _ (eB c _ e)
          | none => exact rpE.frm c _ (Fc_at nc e m.co (by simp [CodeO]))
        · exact fp ei m.it
        · exact fp eS m.S
    | next => exact False.elim z
    | brk => exact False.elim z
    | cont => exact False.elim z
/-- one key is compared with the best -/
theorem MinSt.less {T T2 : Addr} {ns ms : List Int} {E : Value → Shared → Prop} {Q : Value → Shared → Prop} (m : MinSt X pins σ Fr B0 as M o f c it S H B s) (h1 : SqT X.K B T (ns.map V.int)) (h2 : SqT X.K B T2 (ms.map V.int)) (hu : X.A.in1.units < cLine) (q : Q (.bool (HT.lexLt ns ms)) s) :
    wpAny (model X.prog X.w) X.A.in1 (richCompare .Lt (.ref T) (.ref T2)) Q E s := by
  obtain ⟨xs, r1, p1, _⟩ := m.I.tuple (sqT_mono m.rp.sub h1)
  obtain ⟨ys, r2, p2, _⟩ := m.I.tuple (sqT_mono m.rp.sub h2)
  exact HT.lt_tupInts p1 p2 (intsAre_vals r1) (intsAre_vals r2) hu q
end
section
variable {X : Cx} {W : WX}
end
end DL

set_option Elab.async false
set_option linter.all false
set_option maxRecDepth 100000
set_option maxHeartbeats 4000000
/-! DLW: the tables of a law's lambdas: where they stand behind the top, defs that make lambdas, the law's end. -/
namespace DL
open PySem PySem.Spec PyProof.Rows L2 LamX
/-! ### where the tables stand -/
def refOf : Value → Option Addr
  | .ref a => some a
  | _ => none
def codeAt (K : PySem.W.Frag) (f : Addr) : Option Addr := (K.lookup f).bind fun o => match o.data with
  | .func fd => refOf fd.code
  | _ => none
/-- the code object of the def at f, and its table -/
def tabAt (K : PySem.W.Frag) (f : Addr) : Option (Addr × Addr) := (codeAt K f).bind fun c => (K.lookup c).bind fun o => match o.data with
  | .fields vs => (vs[11]?).bind fun v => (refOf v).map fun P => (c, P)
  | _ => none
/-- a def that makes lambdas: where it stands, its lambdas' name -/
abbrev Mkr := (Str × Option Str) × Str
def mkTabs (ms : List Mkr) (K : PySem.W.Frag) : List ((Addr × Addr) × Str) := ms.filterMap fun m => (tabAt K (He.fAd K m.1)).map fun p => (p, m.2)
/-- the tables of a law -/
def tbOf (ms : List Mkr) : Tb := ⟨fun K => (mkTabs ms K).map fun p => (p.1.2, p.2), fun _ => none⟩
/-- what is known of the tables -/
structure TabsK (ms : List Mkr) (K : PySem.W.Frag) (h : Heap) : Prop where
  ex : ∀ m ∈ ms, ∃ c P, tabAt K (He.fAd K m.1) = some (c, P)
  at_ : ∀ p ∈ mkTabs ms K, PySem.W.codeHdIn K p.1.1 p.1.2 = true ∧ K.lookup p.1.2 = none ∧ h.get? p.1.2 = some { cls := .none, data := .fields #[] }
  un : ∀ p ∈ mkTabs ms K, ∀ r ∈ mkTabs ms K, r.1.2 = p.1.2 → r.2 = p.2
theorem mem_mkTabs {ms : List Mkr} {K : PySem.W.Frag} {m : Mkr} {c P : Addr} (hm : m ∈ ms) (h : tabAt K (He.fAd K m.1) = some (c, P)) : ((c, P), m.2) ∈ mkTabs ms K :=
  List.mem_filterMap.mpr ⟨m, hm, by rw [h]; rfl⟩
theorem TabsK.uq {ms : List Mkr} {K : PySem.W.Frag} {h0 : Heap} (t : TabsK ms K h0) {m : Mkr} {c P : Addr} (hm : m ∈ ms) (h : tabAt K (He.fAd K m.1) = some (c, P)) : ∀ p ∈ (tbOf ms).T K, p.1 = P → p.2 = m.2 := fun p hp e => by
  obtain ⟨r, hr, rfl⟩ := List.mem_map.mp hp
  exact t.un _ (mem_mkTabs hm h) r hr e
/-! ### the observation -/
structure SaysT (ms : List Mkr) (fa : List He.Fa) (fn : List He.DefD) (ex : PySem.W.Frag → Bool) (K : PySem.W.Frag) (h : Heap) : Prop where
  d : He.SaysD fa fn K
  ex : ex K = true
  tb : TabsK ms K h
/-! ### defs that make lambdas -/
section
variable [Tb] {P : Program} {w : World} {K : PySem.W.Frag} {mg : Str → Option Value} {base : Heap} {x qual : Str} {params : Arguments} {body : List Stmt} {scope : Scope} {dvs : List V} {kws : List (Str × V)} {f c Pt : Addr} {fd : FuncData} {N ps : List Str} {k : Nat} {g : Lo → Ev Fl}
end
/-! ### the end of such a law -/
end DL

set_option Elab.async false
set_option linter.all false
set_option maxRecDepth 100000
set_option maxHeartbeats 4000000
/-! DN6: what the printed texts say of lambdas. -/
namespace DL
open PySem PySem.Spec PyProof.Rows L2 LamX NdefX
/-! ### where a lambda stands in a text -/
section
variable [Tb] {P : Program} {w : World} {K : PySem.W.Frag} {mg : Str → Option Value} {base : Heap} {x qual : Str} {params : Arguments} {body : List Stmt} {scope : Scope} {dvs : List V} {kws : List (Str × V)} {f c Pt : Addr} {fd : FuncData} {N ps : List Str} {k : Nat} {g : Lo → Ev Fl}
theorem LamP.mono {r : LamR} {i j : Nat} {F : List D → Ev D} (L : LamP P w K mg base r i ps F) (h : i ≤ j) : LamP P w K mg base r j ps F :=
  fun cl c f pm ctv A outer s H us vs ws l cs Fr B as M M' a hr => L cl c f pm ctv A outer s H us vs ws l cs Fr B as M M' a (hr.mono (by omega))
end
section
variable [Tb] {X : Cx} {W : WX}
end
end DL

set_option Elab.async false
set_option linter.all false
set_option maxRecDepth 100000
set_option maxHeartbeats 1000000
/-! TLL: x(lambda: e) where x calls what it gets inside try. -/
namespace TL
open PySem L2 DL
open Enc (enc)
open Mo (pur bnd lft)
section
variable {m : Type → Type} [Mo m] {α β : Type} [Enc α] [Enc β]
/-- the clauses: kept = e -/
inductive HDs {m : Type → Type} [Mo m] (n j : Nat) : List HdF → List (Dt → m Dt) → Prop
  | nil : HDs n j [] []
  | cons {α : Type} [Enc α] {ie : Nat} {fe : D → Lo → Ev D} {pe : Dt → m α} {l : List HdF} {r : List (Dt → m Dt)} (hi : ie < n) (hj : ie ≠ j) (he : ∀ x : Dt, EO (List.replicate n SV.any) (fe x.d) (pe x)) (t : HDs n j l r) :
      HDs n j ((some ie, fun d => sAsg (fe d) (gNm j)) :: l) ((fun x => bnd (nox (pe x)) fun (v : α) => pur (Dt.of v)) :: r)
theorem HDs.get {n j : Nat} : ∀ {l : List HdF} {r : List (Dt → m Dt)}, HDs n j l r → ∀ (k : Nat) (h : HdF), l[k]? = some h → ∃ (γ : Type) (_ : Enc γ) (ie : Nat) (fe : D → Lo → Ev D) (pe : Dt → m γ), h = (some ie, fun d => sAsg (fe d) (gNm j)) ∧ r[k]? = some (fun x => bnd (nox (pe x)) fun (v : γ) => pur (Dt.of v)) ∧ ie < n ∧ ie ≠ j ∧ ∀ x : Dt, EO (List.replicate n SV.any) (fe x.d) (pe x)
  | _, _, .nil, k, h, e => by simp at e
  | _, _, @HDs.cons _ _ _ _ γ ig ie fe pe l r hi hj he t, 0, h, e => by simp at e; subst e; exact ⟨_, _, _, _, _, rfl, rfl, hi, hj, he⟩
  | _, _, @HDs.cons _ _ _ _ γ0 ig ie fe pe l r hi hj he t, k + 1, h, e => by
    obtain ⟨γ, i, ie, fe, pe, a, b, c⟩ := t.get k h (by simpa using e)
    exact ⟨γ, i, ie, fe, pe, a, by simpa using b, c⟩
variable {fs : List SV}
end
section
variable {m : Type → Type} [Mo m] {pp : List Nat} {M0 : Store} {fs : List SV} {α τ φ : Type} [Enc α] [EncL τ] {K : φ → Fl → Store → Prop}
open EncL (encL)
end
end TL

set_option Elab.async false
set_option linter.all false
set_option maxRecDepth 100000
set_option maxHeartbeats 4000000
/-! TLN: a try's body whose value is dropped. -/
namespace TL
open PySem L2 DL
open Mo (pur bnd lft)
open Enc (enc)
section
variable [Tb] {α β φ ρ : Type} [Enc α] [Enc ρ] {m : Type → Type} [Mo m] {fs : List SV} {pp : List Nat} {M0 : Store} {K : φ → Fl → Store → Prop}
end
end TL

set_option Elab.async false
set_option linter.all false
set_option maxRecDepth 100000
set_option maxHeartbeats 1000000
/-! TN1: lambdas handed on, by types. -/
namespace TL
open PySem L2 DL
open Mo (pur bnd lft)
open Enc (enc)
open EncL (encL)
/-- what is raised counts as failure -/
def E.nx {α : Type} (e : E α) : E α := match e with
  | .ok a => .ok a
  | _ => .bad
section
variable {m : Type → Type} [Mo m] {α β γ ρ τ κ : Type} [Enc α] [Enc β] [Enc γ] [Enc ρ] [EncL τ] {fs : List SV} {tab : LTab} {i c k n : Nat} {cs : List D}
/-! ### the least by a key -/
/-! ### keys: nothing changes -/
/-! ### (word, walk) or (word, potential, cost) -/
end
inductive Bst where
  | ans (a : Ans) | pot (l : List Int) (c : Int)
def Bst.parts : Bst → List D
  | .ans a => [.str a.word, enc a.pay]
  | .pot l c => [.str "potential", enc l, .int c]
instance : Enc Bst := ⟨fun b => match b with
  | .ans a => enc a
  | .pot l c => .nd .tup [.str "potential", enc l, .int c], fun b n => by
    cases b with
    | ans a => exact Enc.nr a n
    | pot l c => simp [rlt, rlts, Enc.nr]⟩
def Bst.word : Bst → Str
  | .ans a => a.word
  | .pot _ _ => "potential"
def Bst.pay : Bst → List Int ⊕ List (Int × Int)
  | .ans a => a.pay
  | .pot l _ => .inl l
def Bst.len : Bst → Int
  | .ans _ => 2
  | .pot _ _ => 3
section
variable {m : Type → Type} [Mo m] {fs : List SV}
end
end TL

set_option Elab.async false
set_option linter.all false
set_option maxRecDepth 100000
set_option maxHeartbeats 1000000
/-! TP2: (word, walk) or (word, left, right). -/
namespace TL
open PySem L2 DL
open Mo (pur bnd lft)
open Enc (enc)
open EncL (encL)
inductive Cmp where
  | two (w : Str) (p : List Int ⊕ List (Int × Int)) | cam (l r : List Int)
def Cmp.parts : Cmp → List D
  | .two w p => [.str w, enc p]
  | .cam l r => [.str "camps", enc l, enc r]
instance : Enc Cmp := ⟨fun b => .nd .tup b.parts, fun b n => by
    cases b with
    | two w p => simp [rlt, rlts, Enc.nr, Cmp.parts]
    | cam l r => simp [rlt, rlts, Enc.nr, Cmp.parts]⟩
def Cmp.word : Cmp → Str
  | .two w _ => w
  | .cam _ _ => "camps"
def Cmp.len : Cmp → Int
  | .two _ _ => 2
  | .cam _ _ => 3
section
variable {m : Type → Type} [Mo m] {fs : List SV}
end
end TL

set_option Elab.async false
set_option linter.all false
set_option maxRecDepth 100000
set_option maxHeartbeats 4000000
/-! TLQ: list.index; a list that two statements fill is a value from there on. -/
namespace TL
open PySem L2 DL
open Mo (pur bnd lft)
open Enc (enc)
section
variable [Tb] {α β φ : Type} [Enc α] [Enc β] {m : Type → Type} [Mo m] {fs : List SV} {pp : List Nat} {M0 : Store} {K : φ → Fl → Store → Prop}
/-- the frame behind a block of its own: the list is a value -/
inductive FzL (xs : List α) : List SV → List SV → Prop
  | n : FzL xs [] []
  | a {x as bs} : FzL xs as bs → FzL xs (x :: as) (.any :: bs)
  | v {β : Type} [Enc β] {x : β} {as bs} : FzL xs as bs → FzL xs (.v x :: as) (.v x :: bs)
  | d {as bs} : FzL xs as bs → FzL xs (.L xs :: as) (.v xs :: bs)
theorem FzL.len {xs : List α} {as bs : List SV} (h : FzL xs as bs) : bs.length = as.length := by induction h <;> simp_all
theorem FzL.get {xs : List α} {as bs : List SV} (h : FzL xs as bs) : ∀ (k : Nat) (v : SV), bs[k]? = some v → v = .any ∨ (∃ x : D, v = .val x ∧ (∀ n, rlt n x = true) ∧ as[k]? = some (.val x)) ∨ (v = .v xs ∧ as[k]? = some (.L xs)) := by
  induction h with
  | n => intro k v h; simp at h
  | a _ ih =>
    intro k v h
    cases k with
    | zero => simp at h; exact .inl h.symm
    | succ k => simpa using ih k v (by simpa using h)
  | v _ ih =>
    intro k v h
    cases k with
    | zero => simp at h; exact .inr (.inl ⟨_, h.symm, Enc.nr _, rfl⟩)
    | succ k => simpa using ih k v (by simpa using h)
  | d _ ih =>
    intro k v h
    cases k with
    | zero => simp at h; exact .inr (.inr ⟨h.symm, rfl⟩)
    | succ k => simpa using ih k v (by simpa using h)
end
end TL

set_option Elab.async false
set_option linter.all false
set_option maxRecDepth 100000
set_option maxHeartbeats 4000000
/-! TLK: a != b of objects with an own __eq__; isinstance of an own class. -/
namespace TL
open PySem L2 DL
open Mo (pur bnd lft)
open Enc (enc)
section
variable [Tb] {α β : Type} [Enc α] [Enc β] {m : Type → Type} [Mo m] {fs : List SV}
end
end TL

set_option Elab.async false
set_option linter.all false
set_option maxRecDepth 100000
set_option maxHeartbeats 4000000
/-! TM1: zip(a, b, strict=True). -/
namespace TL
open PySem L2 DL
open Mo (pur bnd lft)
open Enc (enc)
open EncL (encL)
section
variable {pp : List Nat} {m : Type → Type} [Mo m] {α β : Type} [Enc α] [Enc β] {fs : List SV}
end
end TL

set_option Elab.async false
set_option linter.all false
set_option maxRecDepth 100000
set_option maxHeartbeats 4000000
/-! TM2: a block of statements, its lists frozen behind it; the pool is drawn from in the block. -/
namespace TL
open PySem L2 DL
open Mo (pur bnd lft)
open Enc (enc)
open EncL (encL)
section
variable {m : Type → Type} [Mo m] {pp : List Nat} {M0 : Store} {fs : List SV} {ρ φ : Type} {K : φ → Fl → Store → Prop}
/-- the frame behind the block: own lists are values -/
inductive FzP (pc : Nat) : List SV → List SV → Prop
  | n : FzP pc [] []
  | a {x as bs} : FzP pc as bs → FzP pc (x :: as) (.any :: bs)
  | v {β : Type} [Enc β] {x : β} {as bs} : FzP pc as bs → FzP pc (.v x :: as) (.v x :: bs)
  | p {as bs} : FzP pc as bs → FzP pc (.par pc :: as) (.lpl :: bs)
  | d {β : Type} [Enc β] {xs : List β} {as bs} : FzP pc as bs → FzP pc (.L xs :: as) (.v xs :: bs)
theorem FzP.len {pc : Nat} {as bs : List SV} (h : FzP pc as bs) : bs.length = as.length := by induction h <;> simp_all
theorem FzP.get {pc : Nat} {as bs : List SV} (h : FzP pc as bs) : ∀ (k : Nat) (v : SV), bs[k]? = some v → v = .any ∨ (∃ x : D, v = .val x ∧ (∀ n, rlt n x = true) ∧ as[k]? = some (.val x)) ∨ (v = .lpl ∧ as[k]? = some (.par pc)) ∨ (∃ l : List D, v = .val (.nd .lst l) ∧ (∀ n, rlts n l = true) ∧ as[k]? = some (.lc .lst l)) := by
  induction h with
  | n => intro k v h; simp at h
  | a _ ih =>
    intro k v h
    cases k with
    | zero => simp at h; exact .inl h.symm
    | succ k => simpa using ih k v (by simpa using h)
  | v _ ih =>
    intro k v h
    cases k with
    | zero => simp at h; exact .inr (.inl ⟨_, h.symm, Enc.nr _, rfl⟩)
    | succ k => simpa using ih k v (by simpa using h)
  | p _ ih =>
    intro k v h
    cases k with
    | zero => simp at h; exact .inr (.inr (.inl ⟨h.symm, rfl⟩))
    | succ k => simpa using ih k v (by simpa using h)
  | @d β _ xs as bs _ ih =>
    intro k v h
    cases k with
    | zero =>
      simp at h
      refine .inr (.inr (.inr ⟨xs.map enc, h.symm, fun n => rlts_iff.mpr fun d hd => ?_, rfl⟩))
      obtain ⟨x, _, rfl⟩ := List.mem_map.mp hd
      exact Enc.nr x _
    | succ k => simpa using ih k v (by simpa using h)
end
end TL

set_option Elab.async false
set_option linter.all false
set_option maxRecDepth 100000
set_option maxHeartbeats 4000000
/-! TM3: a[i] op= v. -/
namespace TL
open PySem L2 DL
open Mo (pur bnd lft)
open Enc (enc)
open EncL (encL)
section
variable {m : Type → Type} [Mo m] {pp : List Nat} {M0 : Store} {fs : List SV} {α β φ : Type} [Enc α] [Enc β] {K : φ → Fl → Store → Prop}
end
end TL

set_option Elab.async false
set_option linter.all false
set_option maxRecDepth 100000
set_option maxHeartbeats 4000000
/-! DN7: min of a list of numbers. -/
namespace DL
open PySem PySem.Spec PyProof.Rows L2
variable [Tb]
section
variable {X : Cx} {W : WX}
end
end DL

set_option Elab.async false
set_option linter.all false
set_option maxRecDepth 100000
set_option maxHeartbeats 4000000
/-! DN8: y(..), y a name that holds a def of the module. -/
namespace DL
open PySem PySem.Spec PyProof.Rows L2
variable [Tb]
section
variable {X : Cx} {W : WX}
end
end DL

set_option Elab.async false
set_option linter.all false
set_option maxRecDepth 100000
set_option maxHeartbeats 1000000
/-! TN2: min of a list of numbers, by types. -/
namespace TL
open PySem L2 DL
open Mo (pur bnd lft)
open Enc (enc)
end TL

set_option Elab.async false
set_option linter.all false
set_option maxRecDepth 100000
set_option maxHeartbeats 1000000
/-! TN3: defs of the module as values, by types. -/
namespace TL
open PySem L2 DL
open Mo (pur bnd lft)
open Enc (enc)
open EncL (encL)
inductive Gv (x : Str) where
  | mk
instance {x : Str} : Enc (Gv x) := ⟨fun _ => .gl x, fun _ _ => rfl⟩
section
variable {m : Type → Type} [Mo m] {ρ τ : Type} [Enc ρ] [EncL τ] {fs : List SV}
end
end TL

set_option Elab.async false
set_option linter.all false
set_option maxRecDepth 100000
set_option maxHeartbeats 1000000
/-! TN4: what lower_bound returns. -/
namespace TL
open PySem L2 DL
open Mo (pur bnd lft)
open Enc (enc)
open EncL (encL)
inductive Lbo where
  | ans (b : Bst) | low (s : List Int) (t : Int)
instance : Enc Lbo := ⟨fun x => match x with
  | .ans b => enc b
  | .low s t => .nd .tup [enc s, .int t], fun x n => by
    cases x with
    | ans b => exact Enc.nr b n
    | low s t => simp [rlt, rlts, Enc.nr]⟩
def Lbo.word : Lbo → E Str
  | .ans b => .ok b.word
  | .low _ _ => .bad
def Lbo.wk : Lbo → E (List (Int × Int))
  | .ans b => getR b.pay
  | .low _ _ => .bad
section
variable {m : Type → Type} [Mo m] {fs : List SV}
end
end TL

set_option Elab.async false
set_option linter.all false
set_option maxRecDepth 100000
set_option maxHeartbeats 1000000
/-! TN5: answers of two parts. -/
namespace TL
open PySem L2 DL
open Mo (pur bnd lft)
open Enc (enc)
open EncL (encL)
def Bst.two : Bst → E (Str × (List Int ⊕ List (Int × Int)))
  | .ans a => .ok (a.word, a.pay)
  | .pot _ _ => .bad
section
variable {m : Type → Type} [Mo m] {fs : List SV}
end
end TL

set_option Elab.async false
set_option linter.all false
set_option maxRecDepth 100000
set_option maxHeartbeats 4000000
namespace Lw
open PySem L2 DL TL
open Mo (pur bnd lft)
open Enc (enc)
open EncL (encL)
end Lw

set_option Elab.async false
set_option linter.all false
set_option maxRecDepth 100000
set_option maxHeartbeats 1000000
/-! TP5: comprehensions over an own list; C(..) whose places behind have (). -/
namespace TL
open PySem L2 DL
open Mo (pur bnd lft)
open Enc (enc)
open EncL (encL)
section
variable {m : Type → Type} [Mo m] {pp : List Nat} {M0 : Store} {fs fs' : List SV} {α β τ κ φ ω : Type} [Enc α] [Enc β] [EncL τ] [EncL κ] [Enc ω] {K : φ → Fl → Store → Prop}
end
end TL

set_option Elab.async false
set_option linter.all false
set_option maxRecDepth 100000
set_option maxHeartbeats 1000000
/-! TP6: a, b = two new lists; a new list that is made without a trace. -/
namespace TL
open PySem L2 DL
open Mo (pur bnd lft)
open Enc (enc)
open EncL (encL)
section
variable {m : Type → Type} [Mo m] {pp : List Nat} {M0 : Store} {fs fs' fs'' : List SV} {α β γ τ κ φ ρ ω : Type} [Enc α] [Enc β] [Enc γ] [EncL τ] [EncL κ] [Enc ρ] [Enc ω] {K : φ → Fl → Store → Prop}
/-- the frame before a block that is frozen behind: values and the caller's pool stay -/
inductive KpF (pc : Nat) : List SV → List SV → Prop
  | n : KpF pc [] []
  | a {x as bs} : KpF pc as bs → KpF pc (x :: as) (.any :: bs)
  | v {x : D} {as bs} : KpF pc as bs → KpF pc (.val x :: as) (.val x :: bs)
  | p {as bs} : KpF pc as bs → KpF pc (.par pc :: as) (.par pc :: bs)
theorem KpF.len {pc : Nat} {as bs : List SV} (h : KpF pc as bs) : bs.length = as.length := by induction h <;> simp_all
theorem KpF.get {pc : Nat} {as bs : List SV} (h : KpF pc as bs) : ∀ (k : Nat) (v : SV), bs[k]? = some v → v = .any ∨ ((∃ x, v = .val x) ∧ as[k]? = some v) ∨ (v = .par pc ∧ as[k]? = some v) := by
  induction h with
  | n => intro k v h; simp at h
  | a _ ih =>
    intro k v h
    match k with
    | 0 => simp at h; exact .inl h.symm
    | k + 1 => simpa using ih k v (by simpa using h)
  | v _ ih =>
    intro k v h
    match k with
    | 0 => simp at h; exact .inr (.inl ⟨⟨_, h.symm⟩, by simpa using h⟩)
    | k + 1 => simpa using ih k v (by simpa using h)
  | p _ ih =>
    intro k v h
    match k with
    | 0 => simp at h; exact .inr (.inr ⟨h.symm, by simpa using h⟩)
    | k + 1 => simpa using ih k v (by simpa using h)
/-- the frame behind it: own lists are values -/
inductive FzQ (pc : Nat) : List SV → List SV → Prop
  | n : FzQ pc [] []
  | a {x as bs} : FzQ pc as bs → FzQ pc (x :: as) (.any :: bs)
  | v {β : Type} [Enc β] {x : β} {as bs} : FzQ pc as bs → FzQ pc (.v x :: as) (.v x :: bs)
  | p {as bs} : FzQ pc as bs → FzQ pc (.par pc :: as) (.par pc :: bs)
  | d {β : Type} [Enc β] {xs : List β} {as bs} : FzQ pc as bs → FzQ pc (.L xs :: as) (.v xs :: bs)
theorem FzQ.len {pc : Nat} {as bs : List SV} (h : FzQ pc as bs) : bs.length = as.length := by induction h <;> simp_all
theorem FzQ.get {pc : Nat} {as bs : List SV} (h : FzQ pc as bs) : ∀ (k : Nat) (v : SV), bs[k]? = some v → v = .any ∨ (∃ x : D, v = .val x ∧ (∀ n, rlt n x = true) ∧ as[k]? = some (.val x)) ∨ (v = .par pc ∧ as[k]? = some (.par pc)) ∨ (∃ l : List D, v = .val (.nd .lst l) ∧ (∀ n, rlts n l = true) ∧ as[k]? = some (.lc .lst l)) := by
  induction h with
  | n => intro k v h; simp at h
  | a _ ih =>
    intro k v h
    match k with
    | 0 => simp at h; exact .inl h.symm
    | k + 1 => simpa using ih k v (by simpa using h)
  | v _ ih =>
    intro k v h
    match k with
    | 0 => simp at h; exact .inr (.inl ⟨_, h.symm, Enc.nr _, rfl⟩)
    | k + 1 => simpa using ih k v (by simpa using h)
  | p _ ih =>
    intro k v h
    match k with
    | 0 => simp at h; exact .inr (.inr (.inl ⟨h.symm, rfl⟩))
    | k + 1 => simpa using ih k v (by simpa using h)
  | @d β _ xs as bs _ ih =>
    intro k v h
    match k with
    | 0 =>
      simp at h
      refine .inr (.inr (.inr ⟨xs.map enc, h.symm, fun n => rlts_iff.mpr fun d hd => ?_, rfl⟩))
      obtain ⟨x, _, rfl⟩ := List.mem_map.mp hd
      exact Enc.nr x _
    | k + 1 => simpa using ih k v (by simpa using h)
end
end TL

set_option Elab.async false
set_option linter.all false
set_option maxRecDepth 100000
set_option maxHeartbeats 1000000
/-! TS6: a frozen block that may return. -/
namespace TL
open PySem L2 DL
open Mo (pur bnd lft)
open Enc (enc)
section
variable {m : Type → Type} [Mo m] {pp : List Nat} {M0 : Store} {fs fs' fs'' : List SV} {α β γ τ κ φ ρ ω : Type} [Enc α] [Enc γ] [Enc ρ] [Enc ω] {K : φ → Fl → Store → Prop}
end
end TL

set_option Elab.async false
set_option linter.all false
set_option maxRecDepth 100000
set_option maxHeartbeats 4000000
/-! DT4: xs.pop(i). -/
namespace DL
open PySem PySem.Spec PyProof.Rows L2
variable [Tb]
section
variable {X : Cx} {W : WX} {e o : Expr} {apos cpos : Pos}
end
end DL

set_option Elab.async false
set_option linter.all false
set_option maxRecDepth 100000
set_option maxHeartbeats 4000000
/-! DV2: zip(a, b, c, strict=True) of three lists of one length (begun). -/
namespace DL
open PySem PySem.Spec PyProof.Rows L2
variable [Tb]
/-- the six cells of a strict zip of three lists, and the lists -/
structure ZC3 where
  z : Addr
  ti : Addr
  to : Addr
  i : Addr
  j : Addr
  k : Addr
  a : Addr
  b : Addr
  c : Addr
def zrec3 (c : ZC3) (f : Value) : Obj := { cls := .type "zip", dict := none, data := .fields #[f, .bool false, .bool true, .ref c.ti, .ref c.to], slots := #[] }
structure ZS3 (c : ZC3) (h : Heap) (f : Value) (m n l : Nat) (u v t : Value) (xs ys zs : Array Value) : Prop where
  zip : h.get? c.z = some (zrec3 c f)
  its : IsTupOf3 h c.ti (.ref c.i) (.ref c.j) (.ref c.k)
  own : IsTupOf3 h c.to u v t
  one : h.IsListIter c.i c.a m
  two : h.IsListIter c.j c.b n
  tri : h.IsListIter c.k c.c l
  la : h.IsList c.a xs
  lb : h.IsList c.b ys
  lc : h.IsList c.c zs
structure ZC3.Ap (c : ZC3) : Prop where
  z_ti : c.z ≠ c.ti
  z_to : c.z ≠ c.to
  z_i : c.z ≠ c.i
  z_j : c.z ≠ c.j
  z_k : c.z ≠ c.k
  ti_z : c.ti ≠ c.z
  ti_to : c.ti ≠ c.to
  ti_i : c.ti ≠ c.i
  ti_j : c.ti ≠ c.j
  ti_k : c.ti ≠ c.k
  to_z : c.to ≠ c.z
  to_ti : c.to ≠ c.ti
  to_i : c.to ≠ c.i
  to_j : c.to ≠ c.j
  to_k : c.to ≠ c.k
  i_z : c.i ≠ c.z
  i_ti : c.i ≠ c.ti
  i_to : c.i ≠ c.to
  i_j : c.i ≠ c.j
  i_k : c.i ≠ c.k
  j_z : c.j ≠ c.z
  j_ti : c.j ≠ c.ti
  j_to : c.j ≠ c.to
  j_i : c.j ≠ c.i
  j_k : c.j ≠ c.k
  k_z : c.k ≠ c.z
  k_ti : c.k ≠ c.ti
  k_to : c.k ≠ c.to
  k_i : c.k ≠ c.i
  k_j : c.k ≠ c.j
  a_z : c.a ≠ c.z
  a_ti : c.a ≠ c.ti
  a_to : c.a ≠ c.to
  a_i : c.a ≠ c.i
  a_j : c.a ≠ c.j
  a_k : c.a ≠ c.k
  b_z : c.b ≠ c.z
  b_ti : c.b ≠ c.ti
  b_to : c.b ≠ c.to
  b_i : c.b ≠ c.i
  b_j : c.b ≠ c.j
  b_k : c.b ≠ c.k
  c_z : c.c ≠ c.z
  c_ti : c.c ≠ c.ti
  c_to : c.c ≠ c.to
  c_i : c.c ≠ c.i
  c_j : c.c ≠ c.j
  c_k : c.c ≠ c.k
def Far3 (c : ZC3) (h h' : Heap) : Prop := ∀ b o, b ≠ c.z → b ≠ c.to → b ≠ c.i → b ≠ c.j → b ≠ c.k → h.get? b = some o → h'.get? b = some o
section
variable {c : ZC3} {h h' h2 : Heap} {f f' : Value} {m n l : Nat} {u v t u' v' t' : Value} {xs ys zs : Array Value}
theorem Far3.refl : Far3 c h h := fun _ _ _ _ _ _ _ e => e
theorem ZS3.more (S : ZS3 c h f m n l u v t xs ys zs) (k : ∀ b o, h.get? b = some o → h'.get? b = some o) : ZS3 c h' f m n l u v t xs ys zs :=
  ⟨k _ _ S.zip, k _ _ S.its, k _ _ S.own, S.one.at fun o => k _ o, S.two.at fun o => k _ o, S.tri.at fun o => k _ o, S.la.at fun o => k _ o, S.lb.at fun o => k _ o, S.lc.at fun o => k _ o⟩
end
section
variable {P : Program} {w : World} {A : Around} {E : Value → Shared → Prop} {s : Shared} {c : ZC3} {m n l : Nat} {u v t x y a : Value} {xs ys zs : Array Value}
end
end DL

set_option Elab.async false
set_option linter.all false
set_option maxRecDepth 100000
set_option maxHeartbeats 4000000
/-! DV3: zip(a, b, c, strict=True): the end, the making, the turn, the rule over data. -/
namespace DL
open PySem PySem.Spec PyProof.Rows L2
variable [Tb]
section
variable {P : Program} {w : World} {A : Around} {E : Value → Shared → Prop} {s : Shared} {c : ZC3} {m n l : Nat} {u v t x y a : Value} {xs ys zs : Array Value}
end
/-! ### a strict zip made -/
end DL

set_option Elab.async false
set_option linter.all false
set_option maxRecDepth 100000
set_option maxHeartbeats 4000000
/-! DV4: zip(a, b, c, strict=True): the turn and the rule over data. -/
namespace DL
open PySem PySem.Spec PyProof.Rows L2
variable [Tb]
structure ZT3 (c : ZC3) (i : Nat) (h : Heap) : Prop where
  zip : h.get? c.z = some (zrec3 c .none)
  its : IsTupOf3 h c.ti (.ref c.i) (.ref c.j) (.ref c.k)
  own : ∃ u v t, IsTupOf3 h c.to u v t
  one : h.IsListIter c.i c.a i
  two : h.IsListIter c.j c.b i
  tri : h.IsListIter c.k c.c i
theorem ZT3.at {c : ZC3} {i : Nat} {h h' : Heap} (T : ZT3 c i h) (k : ∀ b ∈ [c.z, c.ti, c.to, c.i, c.j, c.k], ∀ o, h.get? b = some o → h'.get? b = some o) : ZT3 c i h' := by
  obtain ⟨u, v, t, e⟩ := T.own
  exact ⟨k _ (by simp) _ T.zip, k _ (by simp) _ T.its, ⟨u, v, t, k _ (by simp) _ e⟩, T.one.at fun o => k _ (by simp) o, T.two.at fun o => k _ (by simp) o, T.tri.at fun o => k _ (by simp) o⟩
theorem ZT3.lt {c : ZC3} {i : Nat} {h : Heap} (T : ZT3 c i h) {b : Addr} (hb : b ∈ [c.z, c.ti, c.to, c.i, c.j, c.k]) : ∃ o, h.get? b = some o ∧ ∀ v, o.data ≠ .cell v := by
  obtain ⟨u, v, t, e⟩ := T.own
  obtain ⟨o1, e1, _, d1⟩ := T.one
  obtain ⟨o2, e2, _, d2⟩ := T.two
  obtain ⟨o3, e3, _, d3⟩ := T.tri
  simp only [List.mem_cons, List.not_mem_nil, or_false] at hb
  rcases hb with rfl | rfl | rfl | rfl | rfl | rfl
  · exact ⟨_, T.zip, fun v => nofun⟩
  · exact ⟨_, T.its, fun v => nofun⟩
  · exact ⟨_, e, fun v => nofun⟩
  · exact ⟨_, e1, fun v z => by rw [d1] at z; cases z⟩
  · exact ⟨_, e2, fun v z => by rw [d2] at z; cases z⟩
  · exact ⟨_, e3, fun v z => by rw [d3] at z; cases z⟩
theorem Far3.out {c : ZC3} {h h' : Heap} (F : Far3 c h h') {b : Addr} {o : Obj} (hb : b ∉ [c.z, c.ti, c.to, c.i, c.j, c.k]) (e : h.get? b = some o) : h'.get? b = some o := by
  simp only [List.mem_cons, List.not_mem_nil, or_false, not_or] at hb
  exact F b o hb.1 hb.2.2.1 hb.2.2.2.1 hb.2.2.2.2.1 hb.2.2.2.2.2 e
end DL

set_option Elab.async false
set_option linter.all false
set_option maxRecDepth 100000
set_option maxHeartbeats 4000000
/-! DV5: zip(a, b, c, strict=True): the rule. -/
namespace DL
open PySem PySem.Spec PyProof.Rows L2
variable [Tb]
end DL

set_option Elab.async false
set_option linter.all false
set_option maxRecDepth 100000
set_option maxHeartbeats 4000000
/-! DV6: zip(a, b, c, strict=True) over data. -/
namespace DL
open PySem PySem.Spec PyProof.Rows L2
variable [Tb]
end DL

set_option Elab.async false
set_option linter.all false
set_option maxRecDepth 100000
set_option maxHeartbeats 4000000
/-! TX3: a frozen block that may return, the pool one's own; x.append(y.pop(i)); a strict zip of three. -/
namespace TL
open PySem L2 DL
open Mo (pur bnd lft)
open Enc (enc)
open EncL (encL)
section
variable {m : Type → Type} [Mo m] {pp : List Nat} {M0 : Store} {fs fs' fs'' : List SV} {α β γ τ κ φ ρ ω : Type} [Enc α] [Enc γ] [Enc ρ] [Enc ω] {K : φ → Fl → Store → Prop}
end
section
variable {m : Type → Type} [Mo m] {α β γ : Type} [Enc α] [Enc β] [Enc γ] {fs : List SV}
end
end TL

set_option Elab.async false
set_option linter.all false
set_option maxRecDepth 100000
set_option maxHeartbeats 4000000
/-! K18u: how many different texts: _law_unlike by hand. -/
namespace Lw
open PySem L2 DL TL
open Mo (pur bnd lft)
open Enc (enc)
/-- the different texts, in the order in which they come -/
def uq (l : List Str) : List Str := l.foldl (fun acc x => if x ∈ acc then acc else acc ++ [x]) []
theorem uq_snoc (l : List Str) (x : Str) : uq (l ++ [x]) = if x ∈ uq l then uq l else uq l ++ [x] := by
  unfold uq
  rw [List.foldl_append]
  rfl
theorem uq_len (l : List Str) : (uq l).length ≤ l.length := by
  have gen : ∀ (l : List Str) (acc : List Str), (l.foldl (fun acc x => if x ∈ acc then acc else acc ++ [x]) acc).length ≤ acc.length + l.length := by
    intro l
    induction l with
    | nil => intro acc; simp
    | cons x l ih =>
      intro acc
      rw [List.foldl_cons, List.length_cons]
      have h1 := ih (if x ∈ acc then acc else acc ++ [x])
      have h2 : (if x ∈ acc then acc else acc ++ [x]).length ≤ acc.length + 1 := by
        split
        · omega
        · rw [List.length_append, List.length_singleton]; omega
      omega
  have := gen l []
  simpa [uq] using this
def shT (r : List Int) : Str := (PyEq.pd r).shown
def kvU (us : List Str) : Tg × List D := (.dct (us.map Sum.inr), us.map fun _ => D.bl true)
theorem pkU (us : List Str) (t : Str) : pk (((us.map Sum.inr : List Key)).zip (us.map fun _ => D.bl true)) (.inr t) (D.bl true) = ((if t ∈ us then us else us ++ [t]).map fun u => ((Sum.inr u : Key), D.bl true)) := by
  have e : ((us.map Sum.inr : List Key)).zip (us.map fun _ => D.bl true) = us.map fun u => ((Sum.inr u : Key), D.bl true) := by
    induction us with
    | nil => rfl
    | cons u us ih => rw [List.map_cons, List.map_cons, List.zip_cons_cons, ih, List.map_cons]
  rw [e]
  unfold pk
  have h : ((us.map fun u => ((Sum.inr u : Key), D.bl true)).any fun p => decide (p.1 = (Sum.inr t : Key))) = decide (t ∈ us) := by
    rw [Bool.eq_iff_iff, List.any_eq_true, decide_eq_true_iff]
    constructor
    · rintro ⟨p, hp, hq⟩
      obtain ⟨u, hu, rfl⟩ := List.mem_map.mp hp
      have : (Sum.inr u : Key) = Sum.inr t := of_decide_eq_true hq
      cases this
      exact hu
    · intro hu
      exact ⟨_, List.mem_map.mpr ⟨t, hu, rfl⟩, by simp⟩
  rw [h]
  by_cases q : t ∈ us
  · rw [decide_eq_true q, if_pos rfl, if_pos q, List.map_map]
    apply List.map_congr_left
    intro u _
    show (if (Sum.inr u : Key) = Sum.inr t then _ else _) = _
    split <;> rfl
  · rw [decide_eq_false q, if_neg (by simp), if_neg q, List.map_append]
    rfl
theorem unlike_made {rows : List (List Int)} (M : Store) (hn : rows.length ≤ 1000) (h : ∀ r ∈ rows, RpOk (PyEq.pd r)) : F__law_unlike [enc rows] M = .ok (.int ((uq (rows.map shT)).length : Int)) (M ++ [kvU (uq (rows.map shT))]) := by
  refine run_rt ?_
  show g__law_unlike [some (enc rows), none, none] M = _
  unfold g__law_unlike
  have e0 : sAsg (eCl (fun _ => Ev.ret (NR.n (.dct []) []))) (gNm 1) [some (enc rows), none, none] M = .ok (.nx [some (enc rows), some (.ref M.length), none]) (M ++ [kvU []]) := asg_nm (by rfl)
  refine Eq.trans (seq_nx e0) ?_
  have lp := for_inv (enc := (enc : List Int → D)) (g := none) (tg := gNm 2) (body := sDPutD (eVar 1) (eCall (op1 reprE) (eAc (eVar 2) eA0)) (eC (.bl true)))
    (fun pre S M' => ∃ o2, S = [some (enc rows), some (.ref M.length), o2] ∧ M' = M ++ [kvU (uq (pre.map shT))]) rows (S := [some (enc rows), some (.ref M.length), none]) (M := M ++ [kvU []]) ⟨none, rfl, rfl⟩ (fun _ _ _ _ => grd_none _) (fun pre x post S M' e j => by
      obtain ⟨o2, rfl, rfl⟩ := j
      have hx : x ∈ rows := by rw [e]; simp
      have hp : pre.length ≤ rows.length := by rw [e]; simp
      have hu := uq_len (pre.map shT)
      rw [List.length_map] at hu
      refine ⟨_, _, [some (enc rows), some (.ref M.length), some (enc x)], M ++ [kvU (uq ((pre ++ [x]).map shT))], g_nm _ _ _ _, ?_, some (enc x), rfl, rfl⟩
      have er : ∀ M0 : Store, reprE (enc x) M0 = .ok (.str (shT x)) M0 := fun M0 => by
        unfold reprE
        rw [PyEq.ok M0 14 x (by decide)]
        exact if_pos (h x hx)
      have ep : putE (.bl true) (.ref M.length) (.str (shT x)) (M ++ [kvU (uq (pre.map shT))]) = .ok () (M ++ [kvU (uq ((pre ++ [x]).map shT))]) := by
        unfold putE
        show (match (M ++ [kvU (uq (pre.map shT))])[M.length]? with
          | some (.dct ks, l) => if ks.length < sizeLine ∧ ks.length = l.length then Out.ok () ((M ++ [kvU (uq (pre.map shT))]).set M.length (.dct ((pk (ks.zip l) (.inr (shT x)) (D.bl true)).map fun (p : Key × D) => p.1), (pk (ks.zip l) (.inr (shT x)) (D.bl true)).map fun (p : Key × D) => p.2)) else .stuck
          | _ => .stuck) = _
        rw [get_last]
        unfold kvU
        dsimp only
        rw [if_pos ⟨by rw [List.length_map]; have : sizeLine = 16777216 := by decide
                       omega, by simp⟩, set_last, pkU, List.map_append, List.map_singleton, uq_snoc, List.map_map, List.map_map]
        rfl
      have cr : eCall (op1 reprE) (eAc (eVar 2) eA0) [some (enc rows), some (.ref M.length), some (enc x)] (M ++ [kvU (uq (pre.map shT))]) = .ok (.str (shT x)) (M ++ [kvU (uq (pre.map shT))]) := by
        unfold eCall
        rw [bnd_ok (ac_ok (v_ok rfl) a0_ok)]
        exact er _
      show sDPutD _ _ _ [some (enc rows), some (.ref M.length), some (enc x)] _ = _
      simp only [sDPutD, Ev.fl, c_ok, v_ok (show ([some (enc rows), some (.ref M.length), some (enc x)] : Lo)[1]? = some (some (.ref M.length)) from rfl), cr, Ev.bnd, ep, Out.bnd, Ev.ret])
  obtain ⟨S', M', hl, o2, rfl, rfl⟩ := lp
  refine Eq.trans (seq_nx (Eq.trans (sfor_ok (iseq_nd (l := rows.map enc) (v_ok rfl) rfl)) hl)) ?_
  refine ret_ok ?_
  unfold eCall
  rw [bnd_ok (ac_ok (v_ok rfl) a0_ok)]
  show lenDc (.ref M.length) _ = _
  unfold lenDc
  have ev : vw (.ref M.length) (M ++ [kvU (uq (rows.map shT))]) = .ok (kvU (uq (rows.map shT))) (M ++ [kvU (uq (rows.map shT))]) := by
    show (match (M ++ [kvU (uq (rows.map shT))])[M.length]? with | some c => Out.ok c (M ++ [kvU (uq (rows.map shT))]) | none => .stuck) = _
    rw [get_last]
  rw [bnd_ok ev]
  unfold kvU
  dsimp only
  rw [if_pos (by simp), List.length_map]
  rfl
def p__law_unlike (rows : List (List Int)) : E Int := if rows.length ≤ 1000 ∧ ∀ r ∈ rows, RpOk (PyEq.pd r) then .ok ((uq (rows.map shT)).length : Int) else .bad
theorem t__law_unlike (rows : List (List Int)) : Ret false [] (F__law_unlike [enc rows]) (p__law_unlike rows) := fun M hp Q X w => by
  rw [wpE] at w
  unfold p__law_unlike at w
  by_cases hx : rows.length ≤ 1000 ∧ ∀ r ∈ rows, RpOk (PyEq.pd r)
  · rw [if_pos hx] at w
    refine Sim.ok (unlike_made M hx.1 hx.2) ⟨_, w, ⟨by simp, fun i hi _ => List.getElem?_append_left hi, by simp⟩, by rw [fz] <;> first | rfl | (intros; nofun), fun h => by cases h⟩
  · rw [if_neg hx] at w; exact w.elim
end Lw

set_option Elab.async false
set_option linter.all false
set_option maxRecDepth 100000
set_option maxHeartbeats 4000000
namespace Lw
open PySem L2 DL TL
open Mo (pur bnd lft)
open Enc (enc)
open EncL (encL)
noncomputable def p__law_all (law_count : Int) (law_dial : Int) : E (List (List Int)) := bnd (pur ([([] : List Int)] : List (List Int))) fun (law_found100020 : (List (List Int))) => bnd (bnd (pur law_count) fun n100021 => lft (rgW 0 n100021)) fun xs100036 => bnd (forM (fun (b100022 : (List (List Int))) (x100023 : Int) => bnd (pur ([] : List (List Int))) fun (law_longer100024 : (List (List Int))) => bnd (pur b100022) fun xs100034 => bnd (forM (fun (b100025 : (List (List Int))) (x100026 : (List Int)) => bnd (bnd (pur b100025) fun xs100031 => bnd (bnd (bnd (pur law_dial) fun n100028 => lft (rgW 0 n100028)) fun xs100030 => lcM xs100030 (fun (x100029 : Int) => pur true) (fun (x100029 : Int) => lft (catL x100026 ([x100029] : List Int)))) fun ys100032 => lft (catL xs100031 ys100032)) fun (law_longer100027 : (List (List Int))) => pur law_longer100027) xs100034 law_longer100024) fun (b100025 : (List (List Int))) => bnd (pur b100025) fun (law_found100033 : (List (List Int))) => pur law_found100033) xs100036 law_found100020) fun (b100022 : (List (List Int))) => bnd (pur b100022) fun r100035 => pur (id r100035)
theorem t__law_all (law_count : Int) (law_dial : Int) : Ret false [] (F__law_all [enc law_count, enc law_dial]) (p__law_all law_count law_dial) := by
  refine ret_def (n := 7) (g := g__law_all) (l := [enc law_count, enc law_dial]) (by exact Nat.le_of_ble_eq_true rfl) (fun M0 => ?_)
  unfold g__law_all p__law_all
  exact b_asg (i := 2) (EP.eo (ep_lst (xs := ([([] : List Int)] : List (List Int))) (np_new (n := 1) (ap_cons (ep_lst (xs := ([] : List Int)) (np_new (n := 0) ap_nil rfl)) ap_nil) rfl))) (fun law_found100020 => b_for (b0 := law_found100020) (fsL := fun (b100022 : (List (List Int))) => [.v law_count, .v law_dial, .v b100022, .any, .any, .any, .any]) (io_range1 (EP.eo (ep_var (v := law_count) 0 rfl))) (wk_s (wk_s (wk_s (wk_a (wk_a (wk_a (wk_a wk_n))))))) (fun b100022 x100023 => tg_nm 3 x100023) (fun b100022 x100023 => b_asg (i := 4) (EP.eo (ep_lst (xs := ([] : List (List Int))) (np_new (n := 0) ap_nil rfl))) (fun law_longer100024 => b_for (b0 := law_longer100024) (fsL := fun (b100025 : (List (List Int))) => [.v law_count, .v law_dial, .v b100022, .v x100023, .v b100025, .any, .any]) (io_seq (EP.eo (ep_var (v := b100022) 2 rfl))) (wk_s (wk_s (wk_s (wk_s (wk_s (wk_a (wk_a wk_n))))))) (fun b100025 x100026 => tg_nm 5 x100026) (fun b100025 x100026 => b_last (b_asg (i := 4) (eo_lst (nl_cat (EP.eo (ep_var (v := b100025) 4 rfl)) (eo_lst (nl_lc (io_range1 (EP.eo (ep_var (v := law_dial) 1 rfl))) (fun x100029 => tg_nm 6 x100029) (fun x100029 => to_yes) (fun x100029 => eo_lst (nl_catp (EP.ls (ep_var (v := x100026) 5 rfl)) (EP.ls (ep_lst (xs := ([x100029] : List Int)) (np_new (n := 1) (ap_cons (ep_var (v := x100029) 6 rfl) ap_nil) rfl))))) (fun x100029 => ci_v (ci_v (ci_v (ci_v (ci_v (ci_v (ci_v ci_n))))))))))) (fun law_longer100027 => b_end law_longer100027 (wk_s (wk_s (wk_s (wk_s (wk_s (wk_a (wk_a wk_n)))))))))) (fun b100025 => b_last (b_asg (i := 2) (EP.eo (ep_var (v := b100025) 4 rfl)) (fun law_found100033 => b_end law_found100033 (wk_s (wk_s (wk_s (wk_a (wk_a (wk_a (wk_a wk_n)))))))))))) (fun b100022 => b_ret kr_t rfl (EP.eo (ep_var (v := b100022) 2 rfl))))
noncomputable def p_power_of (web : OWeb) (exponent : Int) : E (Option Int) := bnd (bnd (bnd (pur ()) fun v100053 => lft (p_Web_modulus web )) fun x100054 => bnd (pur (0 : Int)) fun y100055 => lft (.ok (decide (y100055 < x100054)))) fun z => if z = true then (bnd (pur (1 : Int)) fun (found100056 : Int) => bnd (bnd (pur exponent) fun n100057 => lft (rgW 0 n100057)) fun xs100065 => bnd (forM (fun (b100058 : Int) (x100059 : Int) => bnd (bnd (pur b100058) fun (x100061 : Int) => bnd (bnd (pur ()) fun v100060 => lft (p_Web_modulus web )) fun (y100062 : Int) => lft (mulZ x100061 y100062)) fun (found100063 : Int) => pur found100063) xs100065 found100056) fun (b100058 : Int) => bnd (pur (some b100058)) fun r100064 => pur (id r100064)) else (bnd (pur (if (false ^^ eqB exponent (0 : Int)) = true then (some (1 : Int)) else (none : Option Int))) fun r100066 => pur (id r100066))
theorem t_power_of (web : OWeb) (exponent : Int) : Ret false [] (F_power_of [enc web, enc exponent]) (p_power_of web exponent) := by
  refine ret_def (n := 4) (g := g_power_of) (l := [enc web, enc exponent]) (by exact Nat.le_of_ble_eq_true rfl) (fun M0 => ?_)
  unfold g_power_of p_power_of
  exact b_ifD (to_b (eo_2 (eo_meth (o := web) (ep_var (v := web) 0 rfl) rfl (by decide) (AP.ao ap_nil) (fun v100053 => t_Web_modulus web ) (fun _ => rfl)) (EP.eo (ep_c (v := (0 : Int)) rfl)) (E1 fun x y => o_gt x y))) (b_assoc (b_asg (i := 2) (EP.eo (ep_c (v := (1 : Int)) rfl)) (fun found100056 => b_assoc (b_for (b0 := found100056) (fsL := fun (b100058 : Int) => [.v web, .v exponent, .v b100058, .any]) (io_range1 (EP.eo (ep_var (v := exponent) 1 rfl))) (wk_s (wk_s (wk_s (wk_a wk_n)))) (fun b100058 x100059 => tg_nm 3 x100059) (fun b100058 x100059 => b_last (b_asg (i := 2) (eo_2 (EP.eo (ep_var (v := b100058) 2 rfl)) (eo_meth (o := web) (ep_var (v := web) 0 rfl) rfl (by decide) (AP.ao ap_nil) (fun v100060 => t_Web_modulus web ) (fun _ => rfl)) o_mul) (fun found100063 => b_end found100063 (wk_s (wk_s (wk_s (wk_a wk_n))))))) (fun b100058 => b_retS kr_t rfl (EP.eo (EP.som (ep_var (v := b100058) 2 rfl)))))))) (b_skip (b_ret kr_t rfl (EP.eo (ep_if (tp_b (ep_eq (neg := false) (EP.ey (ep_var (v := exponent) 1 rfl)) (EP.ey (ep_c (v := (0 : Int)) rfl)))) (EP.som (ep_c (v := (1 : Int)) rfl)) (EP.nne (ep_c (v := ()) rfl))))))
noncomputable def p_class_size (web : OWeb) : E (Option Int) := bnd (bnd (bnd (pur web) fun x100051 => bnd (bnd (bnd (bnd (bnd (pur ()) fun v100045 => lft (p_Web_forest web )) fun x100046 => bnd (pur ()) fun v100047 => pur (x100046, v100047)) fun v100048 => lft (.ok (v100048.1.length : Int))) fun x100049 => bnd (pur ()) fun v100050 => pur (x100049, v100050)) fun v100052 => pur (x100051, v100052)) fun v100067 => lft (p_power_of v100067.1 v100067.2.1)) fun r100068 => pur (id r100068)
theorem t_class_size (web : OWeb) : Ret false [] (F_class_size [enc web]) (p_class_size web) := by
  refine ret_def (n := 1) (g := g_class_size) (l := [enc web]) (by exact Nat.le_of_ble_eq_true rfl) (fun M0 => ?_)
  unfold g_class_size p_class_size
  exact b_ret kr_t rfl (eo_call (ao_cons (EP.eo (ep_var (v := web) 0 rfl)) (ao_cons (eo_c1 (ao_cons (eo_meth (o := web) (ep_var (v := web) 0 rfl) rfl (by decide) (AP.ao ap_nil) (fun v100045 => t_Web_forest web ) (fun _ => rfl)) (AP.ao ap_nil)) (E2 o_len)) (AP.ao ap_nil))) (fun v100067 => t_power_of v100067.1 v100067.2.1) (fun _ => rfl))
noncomputable def p_class_count (web : OWeb) : E (Option Int) := bnd (bnd (bnd (pur web) fun x100083 => bnd (bnd (bnd (bnd (lft (p_Web___len__ web)) fun n100074 => lft (lenG n100074)) fun x100079 => bnd (bnd (bnd (bnd (pur ()) fun v100075 => lft (p_Web_forest web )) fun x100076 => bnd (pur ()) fun v100077 => pur (x100076, v100077)) fun v100078 => lft (.ok (v100078.1.length : Int))) fun y100080 => lft (.ok (x100079 - y100080))) fun x100081 => bnd (pur ()) fun v100082 => pur (x100081, v100082)) fun v100084 => pur (x100083, v100084)) fun v100085 => lft (p_power_of v100085.1 v100085.2.1)) fun r100086 => pur (id r100086)
theorem t_class_count (web : OWeb) : Ret false [] (F_class_count [enc web]) (p_class_count web) := by
  refine ret_def (n := 1) (g := g_class_count) (l := [enc web]) (by exact Nat.le_of_ble_eq_true rfl) (fun M0 => ?_)
  unfold g_class_count p_class_count
  exact b_ret kr_t rfl (eo_call (ao_cons (EP.eo (ep_var (v := web) 0 rfl)) (ao_cons (eo_2 (eo_lenO (o := web) (ep_var (v := web) 0 rfl) rfl (by decide) (t_Web___len__ web)) (eo_c1 (ao_cons (eo_meth (o := web) (ep_var (v := web) 0 rfl) rfl (by decide) (AP.ao ap_nil) (fun v100075 => t_Web_forest web ) (fun _ => rfl)) (AP.ao ap_nil)) (E2 o_len)) (E1 fun x y => o_sub x y)) (AP.ao ap_nil))) (fun v100085 => t_power_of v100085.1 v100085.2.1) (fun _ => rfl))
noncomputable def p_Web_components (self : OWeb) : E (List (List Int)) := bnd (lft (p_components_of self.links)) fun r100097 => pur (id r100097)
theorem t_Web_components (self : OWeb) : Ret false [] (F_Web_components [enc self]) (p_Web_components self) := by
  refine ret_def (n := 1) (g := g_Web_components) (l := [enc self]) (by exact Nat.le_of_ble_eq_true rfl) (fun M0 => ?_)
  unfold g_Web_components p_Web_components
  exact b_ret kr_t rfl (eo_callp (ap_cons (ep_fld (v := self.links) (EP.ev (ep_var (v := self) 0 rfl) rfl) rfl) ap_nil) (t_components_of self.links) rfl)
noncomputable def p_potential_count (web : OWeb) : E (Option Int) := bnd (bnd (bnd (pur web) fun x100104 => bnd (bnd (bnd (bnd (bnd (pur ()) fun v100098 => lft (p_Web_components web )) fun x100099 => bnd (pur ()) fun v100100 => pur (x100099, v100100)) fun v100101 => lft (.ok (v100101.1.length : Int))) fun x100102 => bnd (pur ()) fun v100103 => pur (x100102, v100103)) fun v100105 => pur (x100104, v100105)) fun v100106 => lft (p_power_of v100106.1 v100106.2.1)) fun r100107 => pur (id r100107)
theorem t_potential_count (web : OWeb) : Ret false [] (F_potential_count [enc web]) (p_potential_count web) := by
  refine ret_def (n := 1) (g := g_potential_count) (l := [enc web]) (by exact Nat.le_of_ble_eq_true rfl) (fun M0 => ?_)
  unfold g_potential_count p_potential_count
  exact b_ret kr_t rfl (eo_call (ao_cons (EP.eo (ep_var (v := web) 0 rfl)) (ao_cons (eo_c1 (ao_cons (eo_meth (o := web) (ep_var (v := web) 0 rfl) rfl (by decide) (AP.ao ap_nil) (fun v100098 => t_Web_components web ) (fun _ => rfl)) (AP.ao ap_nil)) (E2 o_len)) (AP.ao ap_nil))) (fun v100106 => t_power_of v100106.1 v100106.2.1) (fun _ => rfl))
noncomputable def p__law_endless  : W Bool := bnd (bnd (pur (1 : Int)) fun x100120 => bnd (bnd (pur ((30 : Int), ())) fun v100119 => takeW v100119.1) fun y100121 => pur (x100120 + y100121)) fun (law_nodes100118 : Int) => bnd (bnd (bnd (pur law_nodes100118) fun x100128 => bnd (bnd (bnd (pur ([(2 : Int), (60 : Int)] : List Int)) fun xs100124 => bnd (bnd (pur ((2 : Int), ())) fun v100123 => takeW v100123.1) fun i100125 => lft (ixL xs100124 i100125)) fun x100126 => bnd (pur ()) fun v100127 => pur (x100126, v100127)) fun v100129 => pur (x100128, v100129)) fun v100130 => p__law_links v100130.1 v100130.2.1) fun (law_links_here100122 : (List (Int × Int))) => bnd (bnd (pur (law_nodes100118, (law_links_here100122, ()))) fun v100132 => lft (p_Web___init__ v100132.1 v100132.2.1 (0 : Int))) fun (law_web100131 : OWeb) => bnd (bnd (pur law_links_here100122) fun xs100135 => lcM xs100135 (fun (x100134 : (Int × Int)) => pur (true ^^ eqB x100134.1 x100134.2)) (fun (x100134 : (Int × Int)) => pur x100134)) fun (law_flat100133 : (List (Int × Int))) => bnd (bnd (bnd (pur (if (true ^^ eqB law_flat100133 ([] : List (Int × Int))) = true then (none : Option Int) else (some (1 : Int)))) fun x100148 => bnd (bnd (bnd (bnd (bnd (bnd (bnd (pur ()) fun v100137 => lft (p_Web_forest law_web100131 )) fun x100138 => bnd (pur ()) fun v100139 => pur (x100138, v100139)) fun v100140 => lft (.ok (v100140.1.length : Int))) fun x100141 => bnd (pur ((law_links_here100122).length : Int)) fun y100142 => lft (.ok (false ^^ eqB x100141 y100142))) fun z100143 => if z100143 = true then (pur (some (1 : Int))) else (pur (none : Option Int))) fun x100146 => bnd (bnd (pur ()) fun x100144 => bnd (pur ()) fun v100145 => pur (x100144, v100145)) fun v100147 => pur (x100146, v100147)) fun v100149 => pur (x100148, v100149)) fun v100150 => pur (H3.mk v100150.1 v100150.2.1 v100150.2.2.1)) fun (law_due100136 : (H3 (Option Int) (Option Int) Unit)) => bnd (bnd (bnd (bnd (lft (p_class_size law_web100131)) fun x100155 => bnd (bnd (lft (p_class_count law_web100131)) fun x100153 => bnd (bnd (lft (p_potential_count law_web100131)) fun x100151 => bnd (pur ()) fun v100152 => pur (x100151, v100152)) fun v100154 => pur (x100153, v100154)) fun v100156 => pur (x100155, v100156)) fun v100157 => pur ([v100157.1, v100157.2.1, v100157.2.2.1] : List (Option Int))) fun (x100158 : (List (Option Int))) => bnd (pur law_due100136) fun (y100159 : (H3 (Option Int) (Option Int) Unit)) => lft ((fun x y => (castE (eqE false (enc x) (enc y)) : E Bool)) x100158 y100159)) fun r100160 => pur (id r100160)
theorem t__law_endless (pc : Nat)  : Ret false [pc] (F__law_endless (.ref pc :: [])) (p__law_endless ) := by
  refine ret_pool (n := 7) (g := g__law_endless) (l := []) (by exact Nat.le_of_ble_eq_true rfl) (fun M0 => ?_)
  unfold g__law_endless p__law_endless
  exact b_asg (i := 1) (eo_add (EP.eo (ep_c (v := (1 : Int)) rfl)) (eo_pool (i := 0) rfl (.inr ⟨_, rfl⟩) (AP.ao (ap_cons (ep_c (v := (30 : Int)) rfl) ap_nil)) (fun pc v100119 => t__law_take pc v100119.1) (fun _ => rfl))) (fun law_nodes100118 => b_asg (i := 2) (eo_pool (i := 0) rfl (.inr ⟨_, rfl⟩) (ao_cons (EP.eo (ep_var (v := law_nodes100118) 1 rfl)) (ao_cons (eo_ix (EP.eo (ep_lst (xs := ([(2 : Int), (60 : Int)] : List Int)) (np_new (n := 2) (ap_cons (ep_c (v := (2 : Int)) rfl) (ap_cons (ep_c (v := (60 : Int)) rfl) ap_nil)) rfl))) (eo_pool (i := 0) rfl (.inr ⟨_, rfl⟩) (AP.ao (ap_cons (ep_c (v := (2 : Int)) rfl) ap_nil)) (fun pc v100123 => t__law_take pc v100123.1) (fun _ => rfl))) (AP.ao ap_nil))) (fun pc v100130 => t__law_links pc v100130.1 v100130.2.1) (fun _ => rfl)) (fun law_links_here100122 => b_asg (i := 3) (eo_makeD (AP.ao (ap_cons (ep_var (v := law_nodes100118) 1 rfl) (ap_cons (ep_var (v := law_links_here100122) 2 rfl) ap_nil))) (fun v100132 => t_Web___init__ v100132.1 v100132.2.1 (0 : Int)) (fun _ => rfl)) (fun law_web100131 => b_val' (i := 4) (nl_lc (io_seq (EP.eo (ep_var (v := law_links_here100122) 2 rfl))) (fun x100134 => tg_nm 6 x100134) (fun x100134 => TP.to (tp_b (ep_eq (neg := true) (EP.ey (ep_tup (z := x100134.1) (EP.ev (ep_var (v := x100134) 6 rfl) rfl) rfl)) (EP.ey (ep_tup (z := x100134.2) (EP.ev (ep_var (v := x100134) 6 rfl) rfl) rfl))))) (fun x100134 => EP.eo (ep_var (v := x100134) 6 rfl)) (fun x100134 => ci_s (ci_v (ci_v (ci_v (ci_v (ci_v (ci_v ci_n)))))))) (fun law_flat100133 => b_asg (i := 5) (eo_frz (f := fun v100150 => H3.mk v100150.1 v100150.2.1 v100150.2.2.1) (no_new (n := 3) (ao_cons (EP.eo (ep_if (tp_b (ep_eq (neg := true) (EP.ey (ep_var (v := law_flat100133) 4 rfl)) (EP.ey (ep_lst (xs := ([] : List (Int × Int))) (np_new (n := 0) ap_nil rfl))))) (EP.nne (ep_c (v := ()) rfl)) (EP.som (ep_c (v := (1 : Int)) rfl)))) (ao_cons (eo_if (to_b (eo_2 (eo_c1 (ao_cons (eo_meth (o := law_web100131) (ep_var (v := law_web100131) 3 rfl) rfl (by decide) (AP.ao ap_nil) (fun v100137 => t_Web_forest law_web100131 ) (fun _ => rfl)) (AP.ao ap_nil)) (E2 o_len)) (EP.eo (ep_len (EP.ls (ep_var (v := law_links_here100122) 2 rfl)) rfl)) (E1 fun x y => o_eqE (neg := false) (by decide) x y))) (EP.eo (EP.som (ep_c (v := (1 : Int)) rfl))) (EP.eo (EP.nne (ep_c (v := ()) rfl)))) (ao_cons (EP.eo (ep_c (v := ()) rfl)) (AP.ao ap_nil)))) (fun _ => rfl)) (fun _ => rfl) (fun _ => .inl rfl)) (fun law_due100136 => b_ret kr_t rfl (eo_2 (eo_frz (f := fun v100157 => ([v100157.1, v100157.2.1, v100157.2.2.1] : List (Option Int))) (no_new (n := 3) (ao_cons (eo_callp (ap_cons (ep_var (v := law_web100131) 3 rfl) ap_nil) (t_class_size law_web100131) rfl) (ao_cons (eo_callp (ap_cons (ep_var (v := law_web100131) 3 rfl) ap_nil) (t_class_count law_web100131) rfl) (ao_cons (eo_callp (ap_cons (ep_var (v := law_web100131) 3 rfl) ap_nil) (t_potential_count law_web100131) rfl) (AP.ao ap_nil)))) (fun _ => rfl)) (fun _ => rfl) (fun _ => .inl rfl)) (EP.eo (ep_var (v := law_due100136) 5 rfl)) (fun _ _ => op_cast _)))))))
noncomputable def p__law_great  : W Bool := bnd (bnd (bnd (pur (1 : Int)) fun x100164 => bnd (bnd (pur ((30 : Int), ())) fun v100163 => takeW v100163.1) fun y100165 => pur (x100164 + y100165)) fun x100171 => bnd (bnd (bnd (pur (2 : Int)) fun x100167 => bnd (bnd (pur ((59 : Int), ())) fun v100166 => takeW v100166.1) fun y100168 => pur (x100167 + y100168)) fun x100169 => bnd (pur ()) fun v100170 => pur (x100169, v100170)) fun v100172 => pur (x100171, v100172)) fun x100173 => bnd (bnd (pur (x100173.1, ((60 : Int), ()))) fun v100175 => p__law_links v100175.1 v100175.2.1) fun (law_links_here100174 : (List (Int × Int))) => bnd (bnd (pur x100173.1) fun n100177 => lft (rgL 0 n100177)) fun (law_names100176 : (List Int)) => bnd (pur (0 : Int)) fun (law_tied100178 : Int) => bnd (pur law_links_here100174) fun xs100214 => bnd (forM (fun (b100179 : ((List Int) × Int)) (x100180 : (Int × Int)) => bnd (bnd (lft (ixL b100179.1 x100180.1)) fun x100181 => bnd (lft (ixL b100179.1 x100180.2)) fun y100182 => lft (.ok (true ^^ eqB x100181 y100182))) fun z => if z = true then (bnd (bnd (pur b100179.1) fun xs100188 => lcM xs100188 (fun (x100184 : Int) => pur true) (fun (x100184 : Int) => bnd (bnd (pur x100184) fun x100185 => bnd (lft (ixL b100179.1 x100180.2)) fun y100186 => lft (.ok (false ^^ eqB x100185 y100186))) fun z100187 => if z100187 = true then (lft (ixL b100179.1 x100180.1)) else (pur x100184))) fun (law_names100183 : (List Int)) => bnd (pur (b100179.2 + (1 : Int))) fun (law_tied100189 : Int) => pur (law_names100183, law_tied100189)) else (pur (b100179.1, b100179.2))) xs100214 (law_names100176, law_tied100178)) fun (b100179 : ((List Int) × Int)) => bnd (pur ([] : List Int)) fun (law_due100190 : (List Int)) => bnd (pur ([b100179.2, (((law_links_here100174).length : Int) - b100179.2), (x100173.1 - b100179.2)] : List Int)) fun xs100213 => bnd (forM (fun (b100191 : (List Int)) (x100192 : Int) => bnd (pur (1 : Int)) fun (law_power100193 : Int) => bnd (bnd (pur x100192) fun n100194 => lft (rgW 0 n100194)) fun xs100200 => bnd (forM (fun (b100195 : Int) (x100196 : Int) => bnd (lft (mulZ b100195 x100173.2.1)) fun (law_power100197 : Int) => pur law_power100197) xs100200 law_power100193) fun (b100195 : Int) => bnd (pur b100195) fun v100198 => bnd (lft (appL b100191 v100198)) fun law_due100199 => pur law_due100199) xs100213 law_due100190) fun (b100191 : (List Int)) => bnd (lft (p_Web___init__ x100173.1 law_links_here100174 x100173.2.1)) fun (law_web100201 : OWeb) => bnd (bnd (bnd (bnd (bnd (lft (p_class_size law_web100201)) fun x100206 => bnd (bnd (lft (p_class_count law_web100201)) fun x100204 => bnd (bnd (lft (p_potential_count law_web100201)) fun x100202 => bnd (pur ()) fun v100203 => pur (x100202, v100203)) fun v100205 => pur (x100204, v100205)) fun v100207 => pur (x100206, v100207)) fun v100208 => pur ([v100208.1, v100208.2.1, v100208.2.2.1] : List (Option Int))) fun v100209 => lft (castE (reprE (enc v100209)) : E Str)) fun (x100210 : Str) => bnd (lft (rprY b100191)) fun (y100211 : Str) => lft (eqS false x100210 y100211)) fun r100212 => pur (id r100212)
theorem t__law_great (pc : Nat)  : Ret false [pc] (F__law_great (.ref pc :: [])) (p__law_great ) := by
  refine ret_pool (n := 14) (g := g__law_great) (l := []) (by exact Nat.le_of_ble_eq_true rfl) (fun M0 => ?_)
  unfold g__law_great p__law_great
  exact b_par (i := 1) (j := 2) (ao_cons (eo_add (EP.eo (ep_c (v := (1 : Int)) rfl)) (eo_pool (i := 0) rfl (.inr ⟨_, rfl⟩) (AP.ao (ap_cons (ep_c (v := (30 : Int)) rfl) ap_nil)) (fun pc v100163 => t__law_take pc v100163.1) (fun _ => rfl))) (ao_cons (eo_add (EP.eo (ep_c (v := (2 : Int)) rfl)) (eo_pool (i := 0) rfl (.inr ⟨_, rfl⟩) (AP.ao (ap_cons (ep_c (v := (59 : Int)) rfl) ap_nil)) (fun pc v100166 => t__law_take pc v100166.1) (fun _ => rfl))) (AP.ao ap_nil))) (fun x100173 => b_asg (i := 3) (eo_pool (i := 0) rfl (.inr ⟨_, rfl⟩) (AP.ao (ap_cons (ep_var (v := x100173.1) 1 rfl) (ap_cons (ep_c (v := (60 : Int)) rfl) ap_nil))) (fun pc v100175 => t__law_links pc v100175.1 v100175.2.1) (fun _ => rfl)) (fun law_links_here100174 => b_asg (i := 4) (eo_lst (nl_range1 (EP.eo (ep_var (v := x100173.1) 1 rfl)))) (fun law_names100176 => b_asg (i := 5) (EP.eo (ep_c (v := (0 : Int)) rfl)) (fun law_tied100178 => b_for (b0 := (law_names100176, law_tied100178)) (fsL := fun (b100179 : ((List Int) × Int)) => [.par pc, .v x100173.1, .v x100173.2.1, .v law_links_here100174, .v b100179.1, .v b100179.2, .any, .any, .any, .any, .any, .any, .any, .any]) (io_seq (EP.eo (ep_var (v := law_links_here100174) 3 rfl))) (wk_s (wk_s (wk_s (wk_s (wk_s (wk_s (wk_a (wk_a (wk_a (wk_a (wk_a (wk_a (wk_a (wk_a wk_n)))))))))))))) (fun b100179 x100180 => tg_2 (tg_nm 6 x100180.1) (tg_nm 7 x100180.2)) (fun b100179 x100180 => b_if (to_b (eo_2 (eo_ixp (EP.ls (ep_var (v := b100179.1) 4 rfl)) (ep_var (v := x100180.1) 6 rfl) rfl) (eo_ixp (EP.ls (ep_var (v := b100179.1) 4 rfl)) (ep_var (v := x100180.2) 7 rfl) rfl) (E1 fun x y => o_eqE (neg := true) (by decide) x y))) (b_asg (i := 4) (eo_lst (nl_lc (io_seq (EP.eo (ep_var (v := b100179.1) 4 rfl))) (fun x100184 => tg_nm 13 x100184) (fun x100184 => to_yes) (fun x100184 => eo_if (to_b (eo_2 (EP.eo (ep_var (v := x100184) 13 rfl)) (eo_ixp (EP.ls (ep_var (v := b100179.1) 4 rfl)) (ep_var (v := x100180.2) 7 rfl) rfl) (E1 fun x y => o_eqE (neg := false) (by decide) x y))) (eo_ixp (EP.ls (ep_var (v := b100179.1) 4 rfl)) (ep_var (v := x100180.1) 6 rfl) rfl) (EP.eo (ep_var (v := x100184) 13 rfl))) (fun x100184 => ci_s (ci_v (ci_v (ci_v (ci_v (ci_v (ci_v (ci_v (ci_v (ci_v (ci_v (ci_v (ci_v (ci_v ci_n)))))))))))))))) (fun law_names100183 => b_last (b_asg (i := 5) (EP.eo (ep_add (ep_var (v := b100179.2) 5 rfl) (ep_c (v := (1 : Int)) rfl))) (fun law_tied100189 => b_end (law_names100183, law_tied100189) (wk_s (wk_s (wk_s (wk_s (wk_s (wk_s (wk_a (wk_a (wk_a (wk_a (wk_a (wk_a (wk_a (wk_a wk_n)))))))))))))))))) (b_end (b100179.1, b100179.2) (wk_s (wk_s (wk_s (wk_s (wk_s (wk_s (wk_a (wk_a (wk_a (wk_a (wk_a (wk_a (wk_a (wk_a wk_n)))))))))))))))) (fun b100179 => b_cell (i := 8) (NP.nl (xs := ([] : List Int)) (np_new (n := 0) ap_nil rfl)) (fun law_due100190 => b_for (b0 := law_due100190) (fsL := fun (b100191 : (List Int)) => [.par pc, .v x100173.1, .v x100173.2.1, .v law_links_here100174, .v b100179.1, .v b100179.2, .any, .any, .L b100191, .any, .any, .any, .any, .any]) (io_seq (EP.eo (ep_lst (xs := ([b100179.2, (((law_links_here100174).length : Int) - b100179.2), (x100173.1 - b100179.2)] : List Int)) (np_new (n := 3) (ap_cons (ep_var (v := b100179.2) 5 rfl) (ap_cons (ep_2 (ep_len (EP.ls (ep_var (v := law_links_here100174) 3 rfl)) rfl) (ep_var (v := b100179.2) 5 rfl) (o_sub _ _)) (ap_cons (ep_2 (ep_var (v := x100173.1) 1 rfl) (ep_var (v := b100179.2) 5 rfl) (o_sub _ _)) ap_nil))) rfl)))) (wk_s (wk_s (wk_s (wk_s (wk_s (wk_s (wk_a (wk_a (wk_s (wk_a (wk_a (wk_a (wk_a (wk_a wk_n)))))))))))))) (fun b100191 x100192 => tg_nm 9 x100192) (fun b100191 x100192 => b_asg (i := 10) (EP.eo (ep_c (v := (1 : Int)) rfl)) (fun law_power100193 => b_for (b0 := law_power100193) (fsL := fun (b100195 : Int) => [.par pc, .v x100173.1, .v x100173.2.1, .v law_links_here100174, .v b100179.1, .v b100179.2, .any, .any, .L b100191, .v x100192, .v b100195, .any, .any, .any]) (io_range1 (EP.eo (ep_var (v := x100192) 9 rfl))) (wk_s (wk_s (wk_s (wk_s (wk_s (wk_s (wk_a (wk_a (wk_s (wk_s (wk_s (wk_a (wk_a (wk_a wk_n)))))))))))))) (fun b100195 x100196 => tg_nm 11 x100196) (fun b100195 x100196 => b_last (b_asg (i := 10) (eo_2p (ep_var (v := b100195) 10 rfl) (ep_var (v := x100173.2.1) 2 rfl) (o_mul _ _)) (fun law_power100197 => b_end law_power100197 (wk_s (wk_s (wk_s (wk_s (wk_s (wk_s (wk_a (wk_a (wk_s (wk_s (wk_s (wk_a (wk_a (wk_a wk_n))))))))))))))))) (fun b100195 => b_last (b_app (i := 8) rfl (EP.eo (ep_var (v := b100195) 10 rfl)) (fun law_due100199 => b_end law_due100199 (wk_s (wk_s (wk_s (wk_s (wk_s (wk_s (wk_a (wk_a (wk_s (wk_a (wk_a (wk_a (wk_a (wk_a wk_n))))))))))))))))))) (fun b100191 => b_asg (i := 12) (eo_make (ap_cons (ep_var (v := x100173.1) 1 rfl) (ap_cons (ep_var (v := law_links_here100174) 3 rfl) ap_nil)) (ap_cons (ep_var (v := x100173.2.1) 2 rfl) ap_nil) (t_Web___init__ x100173.1 law_links_here100174 x100173.2.1) rfl rfl) (fun law_web100201 => b_ret kr_t rfl (eo_2 (eo_reprC (eo_frz (f := fun v100208 => ([v100208.1, v100208.2.1, v100208.2.2.1] : List (Option Int))) (no_new (n := 3) (ao_cons (eo_callp (ap_cons (ep_var (v := law_web100201) 12 rfl) ap_nil) (t_class_size law_web100201) rfl) (ao_cons (eo_callp (ap_cons (ep_var (v := law_web100201) 12 rfl) ap_nil) (t_class_count law_web100201) rfl) (ao_cons (eo_callp (ap_cons (ep_var (v := law_web100201) 12 rfl) ap_nil) (t_potential_count law_web100201) rfl) (AP.ao ap_nil)))) (fun _ => rfl)) (fun _ => rfl) (fun _ => .inl rfl))) (eo_reprY (ey_cell 8 rfl)) (o_eqS false))))))))))
noncomputable def p_law (law_script : Scr) : W Bool := bnd (bnd (pur (if (if (3 : Int) < (law_script.ns.length : Int) then (3 : Int) else (law_script.ns.length : Int)) > (1 : Int) then (if (3 : Int) < (law_script.ns.length : Int) then (3 : Int) else (law_script.ns.length : Int)) else (1 : Int))) fun n100001 => lft (rgW 0 n100001)) fun xs100220 => bnd (forF (ρ := Bool) (fun (b100002 : Unit) (x100003 : Int) => bnd (lft (grdC (decide (0 ≤ x100003) && decide (x100003 < 100)))) fun _ => bnd (bnd (bnd (bnd (pur (1 : Int)) fun x100005 => bnd (bnd (pur ((4 : Int), ())) fun v100004 => takeW v100004.1) fun y100006 => pur (x100005 + y100006)) fun x100012 => bnd (bnd (bnd (pur (2 : Int)) fun x100008 => bnd (bnd (pur ((3 : Int), ())) fun v100007 => takeW v100007.1) fun y100009 => pur (x100008 + y100009)) fun x100010 => bnd (pur ()) fun v100011 => pur (x100010, v100011)) fun v100013 => pur (x100012, v100013)) fun v100014 => pur (v100014.1, v100014.2.1)) fun x100015 => bnd (bnd (pur (x100015.1, ((4 : Int), ()))) fun v100017 => p__law_links v100017.1 v100017.2.1) fun (law_links_here100016 : (List (Int × Int))) => bnd (lft (p_Web___init__ x100015.1 law_links_here100016 x100015.2)) fun (law_web100018 : OWeb) => bnd (lft (p__law_all x100015.1 x100015.2)) fun (law_levels100019 : (List (List Int))) => bnd (lft (p__law_all ((law_links_here100016).length : Int) x100015.2)) fun (law_gains_there100037 : (List (List Int))) => bnd (bnd (pur law_gains_there100037) fun xs100040 => bnd (bnd (pur (((law_gains_there100037).length : Int), ())) fun v100039 => takeW v100039.1) fun i100041 => lft (ixL xs100040 i100041)) fun (law_some100038 : (List Int)) => bnd (bnd (pur law_levels100019) fun xs100044 => lcM xs100044 (fun (x100043 : (List Int)) => pur true) (fun (x100043 : (List Int)) => lft (p__law_put law_links_here100016 x100015.2 law_some100038 x100043))) fun (law_reached100042 : (List (List Int))) => bnd (bnd (bnd (lft (p_class_size law_web100018)) fun v100069 => lft (castE (reprE (enc v100069)) : E Str)) fun (x100071 : Str) => bnd (bnd (lft (p__law_unlike law_reached100042)) fun v100070 => lft (castE (reprE (enc v100070)) : E Str)) fun (y100072 : Str) => lft (eqS true x100071 y100072)) fun z => if z = true then (bnd (pur false) fun r100073 => pur (Fw.rt r100073)) else (bnd (bnd (bnd (lft (p_class_count law_web100018)) fun v100087 => lft (castE (reprE (enc v100087)) : E Str)) fun (x100094 : Str) => bnd (bnd (bnd (bnd (bnd (pur law_gains_there100037) fun xs100089 => lcM xs100089 (fun (x100088 : (List Int)) => pur true) (fun (x100088 : (List Int)) => lft (p_normal law_web100018 x100088))) fun x100090 => bnd (pur ()) fun v100091 => pur (x100090, v100091)) fun v100092 => lft (p__law_unlike v100092.1)) fun v100093 => lft (castE (reprE (enc v100093)) : E Str)) fun (y100095 : Str) => lft (eqS true x100094 y100095)) fun z => if z = true then (bnd (pur false) fun r100096 => pur (Fw.rt r100096)) else (bnd (bnd (bnd (lft (p_potential_count law_web100018)) fun v100108 => lft (castE (reprE (enc v100108)) : E Str)) fun (x100115 : Str) => bnd (bnd (bnd (bnd (bnd (pur law_reached100042) fun xs100110 => lcM xs100110 (fun (x100109 : (List Int)) => pur (false ^^ eqB x100109 law_some100038)) (fun (x100109 : (List Int)) => pur x100109)) fun x100111 => bnd (pur ()) fun v100112 => pur (x100111, v100112)) fun v100113 => lft (.ok (v100113.1.length : Int))) fun v100114 => lft (castE (reprE (enc v100114)) : E Str)) fun (y100116 : Str) => lft (eqS true x100115 y100116)) fun z => if z = true then (bnd (pur false) fun r100117 => pur (Fw.rt r100117)) else (bnd (bnd (bnd (bnd (pur ()) fun v100161 => p__law_endless ) fun z100162 => pur (!z100162)) fun z100217 => if z100217 = true then pur true else (bnd (bnd (pur ()) fun v100215 => p__law_great ) fun z100216 => pur (!z100216))) fun z => if z = true then (bnd (pur false) fun r100218 => pur (Fw.rt r100218)) else (pur (Fw.nx ())))))) xs100220 ()) (outF (fun (b100002 : Unit) => bnd (pur true) fun r100219 => pur (id r100219)) (fun xs100220r => pur (id xs100220r)))
theorem t_law (law_script : Scr) : Ret false [] (F_law [enc law_script]) (p_law law_script) := by
  refine ret_def (n := 12) (g := g_law) (l := [enc law_script]) (by exact Nat.le_of_ble_eq_true rfl) (fun M0 => ?_)
  unfold g_law p_law
  exact b_wk (fs' := [.v law_script, .any, .any, .any, .any, .any, .any, .any, .any, .any, .any, .any]) (wk_s (wk_a (wk_a (wk_a (wk_a (wk_a (wk_a (wk_a (wk_a (wk_a (wk_a (wk_a wk_n)))))))))))) (b_forF (b0 := ()) (fsL := fun (b100002 : Unit) => [.v law_script, .any, .any, .any, .any, .any, .any, .any, .any, .any, .any, .any]) kr_t (io_range1 (EP.eo (ep_c2 (ap_cons (ep_c (v := (1 : Int)) rfl) (ap_cons (ep_c2 (ap_cons (ep_len (xs := law_script.ns) (EP.ev (ep_var (v := law_script) 0 rfl) rfl) rfl) (ap_cons (ep_c (v := (3 : Int)) rfl) ap_nil)) (o_min _ _)) ap_nil)) (o_max _ _)))) (wk_s (wk_a (wk_a (wk_a (wk_a (wk_a (wk_a (wk_a (wk_a (wk_a (wk_a (wk_a wk_n)))))))))))) (fun b100002 x100003 => tg_nm 1 x100003) (fun b100002 x100003 => b_wk (fs' := [.v law_script, .v x100003, .any, .any, .any, .any, .any, .any, .any, .any, .any, .any]) (wk_s (wk_s (wk_a (wk_a (wk_a (wk_a (wk_a (wk_a (wk_a (wk_a (wk_a (wk_a wk_n)))))))))))) (b_newPoolG (i := 2) (b := (decide (0 ≤ x100003) && decide (x100003 < 100))) (ap_cons (ep_var (v := law_script) 0 rfl) (ap_cons (ep_var (v := x100003) 1 rfl) ap_nil)) (t__law_poolG law_script x100003) rfl (b_wk (fs' := [.v law_script, .v x100003, .lpl, .any, .any, .any, .any, .any, .any, .any, .any, .any]) (wk_s (wk_s (wk_s (wk_a (wk_a (wk_a (wk_a (wk_a (wk_a (wk_a (wk_a (wk_a wk_n)))))))))))) (b_tgt (eo_frz (f := fun v100014 => (v100014.1, v100014.2.1)) (no_new (n := 2) (ao_cons (eo_add (EP.eo (ep_c (v := (1 : Int)) rfl)) (eo_pool (i := 2) rfl (.inl rfl) (AP.ao (ap_cons (ep_c (v := (4 : Int)) rfl) ap_nil)) (fun pc v100004 => t__law_take pc v100004.1) (fun _ => rfl))) (ao_cons (eo_add (EP.eo (ep_c (v := (2 : Int)) rfl)) (eo_pool (i := 2) rfl (.inl rfl) (AP.ao (ap_cons (ep_c (v := (3 : Int)) rfl) ap_nil)) (fun pc v100007 => t__law_take pc v100007.1) (fun _ => rfl))) (AP.ao ap_nil))) (fun _ => rfl)) (fun _ => rfl) (fun _ => .inr rfl)) (fun x100015 => tg_2 (tg_nm 3 x100015.1) (tg_nm 4 x100015.2)) (fun x100015 => b_wk (fs' := [.v law_script, .v x100003, .lpl, .v x100015.1, .v x100015.2, .any, .any, .any, .any, .any, .any, .any]) (wk_s (wk_s (wk_s (wk_s (wk_s (wk_a (wk_a (wk_a (wk_a (wk_a (wk_a (wk_a wk_n)))))))))))) (b_asg (i := 5) (eo_pool (i := 2) rfl (.inl rfl) (AP.ao (ap_cons (ep_var (v := x100015.1) 3 rfl) (ap_cons (ep_c (v := (4 : Int)) rfl) ap_nil))) (fun pc v100017 => t__law_links pc v100017.1 v100017.2.1) (fun _ => rfl)) (fun law_links_here100016 => b_wk (fs' := [.v law_script, .v x100003, .lpl, .v x100015.1, .v x100015.2, .v law_links_here100016, .any, .any, .any, .any, .any, .any]) (wk_s (wk_s (wk_s (wk_s (wk_s (wk_s (wk_a (wk_a (wk_a (wk_a (wk_a (wk_a wk_n)))))))))))) (b_asg (i := 6) (eo_make (ap_cons (ep_var (v := x100015.1) 3 rfl) (ap_cons (ep_var (v := law_links_here100016) 5 rfl) ap_nil)) (ap_cons (ep_var (v := x100015.2) 4 rfl) ap_nil) (t_Web___init__ x100015.1 law_links_here100016 x100015.2) rfl rfl) (fun law_web100018 => b_wk (fs' := [.v law_script, .v x100003, .lpl, .v x100015.1, .v x100015.2, .v law_links_here100016, .v law_web100018, .any, .any, .any, .any, .any]) (wk_s (wk_s (wk_s (wk_s (wk_s (wk_s (wk_s (wk_a (wk_a (wk_a (wk_a (wk_a wk_n)))))))))))) (b_asg (i := 7) (eo_callp (ap_cons (ep_var (v := x100015.1) 3 rfl) (ap_cons (ep_var (v := x100015.2) 4 rfl) ap_nil)) (t__law_all x100015.1 x100015.2) rfl) (fun law_levels100019 => b_wk (fs' := [.v law_script, .v x100003, .lpl, .v x100015.1, .v x100015.2, .v law_links_here100016, .v law_web100018, .v law_levels100019, .any, .any, .any, .any]) (wk_s (wk_s (wk_s (wk_s (wk_s (wk_s (wk_s (wk_s (wk_a (wk_a (wk_a (wk_a wk_n)))))))))))) (b_asg (i := 8) (eo_callp (ap_cons (ep_len (EP.ls (ep_var (v := law_links_here100016) 5 rfl)) rfl) (ap_cons (ep_var (v := x100015.2) 4 rfl) ap_nil)) (t__law_all ((law_links_here100016).length : Int) x100015.2) rfl) (fun law_gains_there100037 => b_wk (fs' := [.v law_script, .v x100003, .lpl, .v x100015.1, .v x100015.2, .v law_links_here100016, .v law_web100018, .v law_levels100019, .v law_gains_there100037, .any, .any, .any]) (wk_s (wk_s (wk_s (wk_s (wk_s (wk_s (wk_s (wk_s (wk_s (wk_a (wk_a (wk_a wk_n)))))))))))) (b_asg (i := 9) (eo_ix (EP.eo (ep_var (v := law_gains_there100037) 8 rfl)) (eo_pool (i := 2) rfl (.inl rfl) (AP.ao (ap_cons (ep_len (EP.ls (ep_var (v := law_gains_there100037) 8 rfl)) rfl) ap_nil)) (fun pc v100039 => t__law_take pc v100039.1) (fun _ => rfl))) (fun law_some100038 => b_wk (fs' := [.v law_script, .v x100003, .lpl, .v x100015.1, .v x100015.2, .v law_links_here100016, .v law_web100018, .v law_levels100019, .v law_gains_there100037, .v law_some100038, .any, .any]) (wk_s (wk_s (wk_s (wk_s (wk_s (wk_s (wk_s (wk_s (wk_s (wk_s (wk_a (wk_a wk_n)))))))))))) (b_val' (i := 10) (nl_lc (io_seq (EP.eo (ep_var (v := law_levels100019) 7 rfl))) (fun x100043 => tg_nm 11 x100043) (fun x100043 => to_yes) (fun x100043 => eo_callp (ap_cons (ep_var (v := law_links_here100016) 5 rfl) (ap_cons (ep_var (v := x100015.2) 4 rfl) (ap_cons (ep_var (v := law_some100038) 9 rfl) (ap_cons (ep_var (v := x100043) 11 rfl) ap_nil)))) (t__law_put law_links_here100016 x100015.2 law_some100038 x100043) rfl) (fun x100043 => ci_v (ci_v (ci_s (ci_v (ci_v (ci_v (ci_v (ci_v (ci_v (ci_v (ci_v (ci_v ci_n))))))))))))) (fun law_reached100042 => b_wk (fs' := [.v law_script, .v x100003, .lpl, .v x100015.1, .v x100015.2, .v law_links_here100016, .v law_web100018, .v law_levels100019, .v law_gains_there100037, .v law_some100038, .v law_reached100042, .any]) (wk_s (wk_s (wk_s (wk_s (wk_s (wk_s (wk_s (wk_s (wk_s (wk_s (wk_s (wk_a wk_n)))))))))))) (b_ifD (to_b (eo_2 (eo_reprC (eo_callp (ap_cons (ep_var (v := law_web100018) 6 rfl) ap_nil) (t_class_size law_web100018) rfl)) (eo_reprC (eo_callp (ap_cons (ep_var (v := law_reached100042) 10 rfl) ap_nil) (t__law_unlike law_reached100042) rfl)) (o_eqS true))) (b_wk (fs' := [.v law_script, .v x100003, .lpl, .v x100015.1, .v x100015.2, .v law_links_here100016, .v law_web100018, .v law_levels100019, .v law_gains_there100037, .v law_some100038, .v law_reached100042, .any]) (wk_s (wk_s (wk_s (wk_s (wk_s (wk_s (wk_s (wk_s (wk_s (wk_s (wk_s (wk_a wk_n)))))))))))) (b_retS kr_f rfl (EP.eo (ep_c (v := false) rfl)))) (b_skip (b_wk (fs' := [.v law_script, .v x100003, .lpl, .v x100015.1, .v x100015.2, .v law_links_here100016, .v law_web100018, .v law_levels100019, .v law_gains_there100037, .v law_some100038, .v law_reached100042, .any]) (wk_s (wk_s (wk_s (wk_s (wk_s (wk_s (wk_s (wk_s (wk_s (wk_s (wk_s (wk_a wk_n)))))))))))) (b_ifD (to_b (eo_2 (eo_reprC (eo_callp (ap_cons (ep_var (v := law_web100018) 6 rfl) ap_nil) (t_class_count law_web100018) rfl)) (eo_reprC (eo_call (ao_cons (eo_lst (nl_lc (io_seq (EP.eo (ep_var (v := law_gains_there100037) 8 rfl))) (fun x100088 => tg_nm 11 x100088) (fun x100088 => to_yes) (fun x100088 => eo_callp (ap_cons (ep_var (v := law_web100018) 6 rfl) (ap_cons (ep_var (v := x100088) 11 rfl) ap_nil)) (t_normal law_web100018 x100088) rfl) (fun x100088 => ci_v (ci_v (ci_s (ci_v (ci_v (ci_v (ci_v (ci_v (ci_v (ci_v (ci_v (ci_v ci_n)))))))))))))) (AP.ao ap_nil)) (fun v100092 => t__law_unlike v100092.1) (fun _ => rfl))) (o_eqS true))) (b_wk (fs' := [.v law_script, .v x100003, .lpl, .v x100015.1, .v x100015.2, .v law_links_here100016, .v law_web100018, .v law_levels100019, .v law_gains_there100037, .v law_some100038, .v law_reached100042, .any]) (wk_s (wk_s (wk_s (wk_s (wk_s (wk_s (wk_s (wk_s (wk_s (wk_s (wk_s (wk_a wk_n)))))))))))) (b_retS kr_f rfl (EP.eo (ep_c (v := false) rfl)))) (b_skip (b_wk (fs' := [.v law_script, .v x100003, .lpl, .v x100015.1, .v x100015.2, .v law_links_here100016, .v law_web100018, .v law_levels100019, .v law_gains_there100037, .v law_some100038, .v law_reached100042, .any]) (wk_s (wk_s (wk_s (wk_s (wk_s (wk_s (wk_s (wk_s (wk_s (wk_s (wk_s (wk_a wk_n)))))))))))) (b_ifD (to_b (eo_2 (eo_reprC (eo_callp (ap_cons (ep_var (v := law_web100018) 6 rfl) ap_nil) (t_potential_count law_web100018) rfl)) (eo_reprC (eo_c1 (ao_cons (eo_lst (nl_lc (io_seq (EP.eo (ep_var (v := law_reached100042) 10 rfl))) (fun x100109 => tg_nm 11 x100109) (fun x100109 => TP.to (tp_b (ep_eq (neg := false) (EP.ey (ep_var (v := x100109) 11 rfl)) (EP.ey (ep_var (v := law_some100038) 9 rfl))))) (fun x100109 => EP.eo (ep_var (v := x100109) 11 rfl)) (fun x100109 => ci_v (ci_v (ci_s (ci_v (ci_v (ci_v (ci_v (ci_v (ci_v (ci_v (ci_v (ci_v ci_n)))))))))))))) (AP.ao ap_nil)) (E2 o_len))) (o_eqS true))) (b_wk (fs' := [.v law_script, .v x100003, .lpl, .v x100015.1, .v x100015.2, .v law_links_here100016, .v law_web100018, .v law_levels100019, .v law_gains_there100037, .v law_some100038, .v law_reached100042, .any]) (wk_s (wk_s (wk_s (wk_s (wk_s (wk_s (wk_s (wk_s (wk_s (wk_s (wk_s (wk_a wk_n)))))))))))) (b_retS kr_f rfl (EP.eo (ep_c (v := false) rfl)))) (b_skip (b_wk (fs' := [.v law_script, .v x100003, .lpl, .v x100015.1, .v x100015.2, .v law_links_here100016, .v law_web100018, .v law_levels100019, .v law_gains_there100037, .v law_some100038, .v law_reached100042, .any]) (wk_s (wk_s (wk_s (wk_s (wk_s (wk_s (wk_s (wk_s (wk_s (wk_s (wk_s (wk_a wk_n)))))))))))) (b_if (to_or (to_not (to_tru (eo_pool (i := 2) rfl (.inl rfl) (AP.ao ap_nil) (fun pc v100161 => t__law_endless pc ) (fun _ => rfl)))) (to_not (to_tru (eo_pool (i := 2) rfl (.inl rfl) (AP.ao ap_nil) (fun pc v100215 => t__law_great pc ) (fun _ => rfl))))) (b_wk (fs' := [.v law_script, .v x100003, .lpl, .v x100015.1, .v x100015.2, .v law_links_here100016, .v law_web100018, .v law_levels100019, .v law_gains_there100037, .v law_some100038, .v law_reached100042, .any]) (wk_s (wk_s (wk_s (wk_s (wk_s (wk_s (wk_s (wk_s (wk_s (wk_s (wk_s (wk_a wk_n)))))))))))) (b_ret kr_f rfl (EP.eo (ep_c (v := false) rfl)))) (b_endF () (wk_s (wk_a (wk_a (wk_a (wk_a (wk_a (wk_a (wk_a (wk_a (wk_a (wk_a (wk_a wk_n)))))))))))))))))))))))))))))))))))))))) (fun b100002 => b_wk (fs' := [.v law_script, .any, .any, .any, .any, .any, .any, .any, .any, .any, .any, .any]) (wk_s (wk_a (wk_a (wk_a (wk_a (wk_a (wk_a (wk_a (wk_a (wk_a (wk_a (wk_a wk_n)))))))))))) (b_ret kr_t rfl (EP.eo (ep_c (v := true) rfl)))))
end Lw

set_option Elab.async false
set_option linter.all false
set_option maxRecDepth 100000
set_option maxHeartbeats 1000000
/-! YA: working out typed pieces. -/
namespace TL
open PySem L2 DL
open Mo (pur bnd lft)
theorem bndWa {α β : Type} (x : W α) (k : α → W β) (Q : β → Prop) (X : Str → D → Prop) : bnd x k Q X = x (fun a => k a Q X) X := by rw [bndW]
theorem purWa {α : Type} (a : α) (Q : α → Prop) (X : Str → D → Prop) : (pur a : W α) Q X = Q a := by rw [purW]
theorem pur_bnd {α β : Type} (a : α) (k : α → E β) : bnd (pur a) k = k a := by rw [bndE, purE]; rfl
theorem lok_bnd {α β : Type} (a : α) (k : α → E β) : bnd (lft (E.ok a)) k = k a := by rw [bndE, lftE]; rfl
theorem ok_bndE {α β : Type} (a : α) (k : α → E β) : bnd (E.ok a) k = k a := by rw [bndE]; rfl
theorem pur_bndW {α β : Type} (a : α) (k : α → W β) : bnd (pur a) k = k a := by rw [bndW, purW]
theorem lok_bndW {α β : Type} (a : α) (k : α → W β) : bnd (lft (E.ok a)) k = k a := by rw [bndW, lftW]; rfl
theorem bnd_assoc {α β γ : Type} (x : E α) (k : α → E β) (j : β → E γ) : bnd (bnd x k) j = bnd x fun a => bnd (k a) j := by
  simp only [bndE]; cases x <;> rfl
theorem bnd_assocW {α β γ : Type} (x : W α) (k : α → W β) (j : β → W γ) : bnd (bnd x k) j = bnd x fun a => bnd (k a) j := by
  simp only [bndW]
theorem sl_small {n : Nat} (h : n ≤ 10000) : n ≤ sizeLine := Nat.le_trans h (by decide)
theorem at_nat' {α : Type} (xs : List α) (k : Nat) : atI xs (k : Int) = xs[k]? := by
  unfold atI ixN
  rw [if_pos (by omega)]
  by_cases h : k < xs.length
  · rw [if_pos (by omega)]; simp
  · rw [if_neg (by omega)]; simp; omega
theorem ixL_nat {α : Type} {xs : List α} {k : Nat} {a : α} (h : xs[k]? = some a) : ixL xs (k : Int) = .ok a := by
  unfold ixL
  rw [at_nat', h]
theorem ixL_lt {α : Type} [Inhabited α] {xs : List α} {i : Int} (h0 : 0 ≤ i) (h1 : i < xs.length) : ixL xs i = .ok (xs.getD i.toNat default) := by
  obtain ⟨k, rfl⟩ := Int.eq_ofNat_of_zero_le h0
  have hk : k < xs.length := by omega
  refine (ixL_nat (a := xs[k]) (List.getElem?_eq_getElem hk)).trans ?_
  simp [hk]
theorem setL_lt {α : Type} {xs : List α} {i : Int} {x : α} (h0 : 0 ≤ i) (h1 : i < xs.length) : setL xs i x = .ok (xs.set i.toNat x) := by
  unfold setL ixN
  rw [if_pos h0, if_pos h1]
theorem appL_ok {α : Type} {xs : List α} {x : α} (h : xs.length < 10000) : appL xs x = .ok (xs ++ [x]) := by
  unfold appL
  exact if_pos (Nat.lt_of_lt_of_le h (by decide))
theorem catL_ok {α : Type} {xs ys : List α} (h : xs.length + ys.length ≤ 10000) : catL xs ys = .ok (xs ++ ys) := by
  unfold catL
  exact if_pos (sl_small h)
theorem rgI_small {a b : Int} (h0 : -1000000 ≤ a) (h1 : a ≤ 1000000) (h2 : -1000000 ≤ b) (h3 : b ≤ 1000000) : RgI a b :=
  ⟨Int.le_trans (by decide) h0, Int.lt_of_le_of_lt h1 (by decide), Int.le_trans (by decide) h2, Int.lt_of_le_of_lt h3 (by decide)⟩
theorem rgW_ok {a b : Int} (h0 : -1000000 ≤ a) (h1 : a ≤ 1000000) (h2 : -1000000 ≤ b) (h3 : b ≤ 1000000) : rgW a b = .ok (rg a b) := by
  unfold rgW
  exact @if_pos _ (Classical.propDecidable _) (rgI_small h0 h1 h2 h3) _ _ _
theorem rgL_ok {n : Int} (h2 : 0 ≤ n) (h3 : n ≤ 4096) : rgL 0 n = .ok (rg 0 n) := by
  unfold rgL
  exact @if_pos _ (Classical.propDecidable _) (RgOk.of_le (Int.le_refl 0) (Int.le_trans h3 (by decide)) (by decide) h2) _ _ _
theorem rg_len (n : Int) : (rg 0 n).length = n.toNat := by unfold rg; simp
theorem rg_mem {n i : Int} : i ∈ rg 0 n ↔ 0 ≤ i ∧ i < n := by
  unfold rg
  simp only [List.mem_map, List.mem_range]
  constructor
  · rintro ⟨k, hk, rfl⟩; omega
  · rintro ⟨h0, h1⟩; exact ⟨i.toNat, by omega, by omega⟩
theorem repL_ok {x : Int} {k : Int} (h0 : 0 ≤ k) (h1 : k ≤ 10000) : repL [x] k = .ok (List.replicate k.toNat x) := by
  unfold repL
  have : -(2 ^ 63) ≤ k ∧ k < 2 ^ 63 ∧ [x].length * k.toNat ≤ sizeLine := ⟨by omega, by omega, by rw [List.length_singleton]; exact sl_small (by omega)⟩
  rw [if_pos this]
  congr 1
  induction k.toNat with
  | zero => rfl
  | succ n ih => rw [List.replicate_succ, List.flatten_cons, ih]; rfl
theorem lenG_ok {n : Nat} (h : n ≤ 10000) : lenG (n : Int) = .ok (n : Int) := by
  unfold lenG
  rw [if_pos (lenB_iff.mpr ⟨by omega, by omega⟩)]
theorem mulZ_small {x y : Int} (h0 : -10 ≤ x) (h1 : x ≤ 10) : mulZ x y = .ok (x * y) := by
  unfold mulZ
  exact if_pos (.inl ⟨by omega, by omega⟩)
theorem modZ_eq {x m : Int} (h : 0 < m) : modZ x m = .ok (x % m) := if_pos h
theorem ex_then {α β : Type} {x : E α} {k : α → E β} {J : α → Prop} {P : β → Prop} (h : ∃ r, x = .ok r ∧ J r) (h2 : ∀ r, J r → ∃ p, k r = .ok p ∧ P p) : ∃ p, bnd x k = .ok p ∧ P p := by
  obtain ⟨r, e, j⟩ := h
  rw [e, ok_bndE]
  exact h2 r j
/-! ### loops -/
/-- with an invariant that goes along -/
theorem forM_inv {α β : Type} {st : β → α → E β} (J : List α → β → Prop) {xs : List α} {b : β} (h0 : J [] b) (h : ∀ pre x post b, xs = pre ++ x :: post → J pre b → ∃ b', st b x = .ok b' ∧ J (pre ++ [x]) b') : ∃ b', forM st xs b = .ok b' ∧ J xs b' := by
  have gen : ∀ (post pre : List α) (b : β), xs = pre ++ post → J pre b → ∃ b', forM st post b = .ok b' ∧ J xs b' := by
    intro post
    induction post with
    | nil => intro pre b e j; rw [List.append_nil] at e; subst e; exact ⟨b, by rw [forM, purE], j⟩
    | cons x post ih =>
      intro pre b e j
      obtain ⟨b', h1, j'⟩ := h pre x post b e j
      obtain ⟨b'', h2, j''⟩ := ih (pre ++ [x]) b' (by rw [e]; simp) j'
      exact ⟨b'', by rw [forM, h1, ok_bndE]; exact h2, j''⟩
  exact gen xs [] b rfl h0
theorem forM_W {α β : Type} {st : β → α → W β} {Q : β → Prop} {X : Str → D → Prop} (J : List α → β → Prop) {xs : List α} {b : β} (h0 : J [] b) (h : ∀ pre x post b, xs = pre ++ x :: post → J pre b → ∀ Q' : β → Prop, (∀ b', J (pre ++ [x]) b' → Q' b') → st b x Q' X) (hq : ∀ b, J xs b → Q b) : forM st xs b Q X := by
  have gen : ∀ (post pre : List α) (b : β), xs = pre ++ post → J pre b → forM st post b Q X := by
    intro post
    induction post with
    | nil => intro pre b e j; rw [List.append_nil] at e; subst e; rw [forM, purWa]; exact hq b j
    | cons x post ih =>
      intro pre b e j
      rw [forM, bndWa]
      exact h pre x post b e j _ (fun b' j' => ih (pre ++ [x]) b' (by rw [e]; simp) j')
  exact gen xs [] b rfl h0
theorem forF_W {α β ρ : Type} {st : β → α → W (Fw β ρ)} {Q : β ⊕ ρ → Prop} {X : Str → D → Prop} (J : β → Prop) {xs : List α} {b : β} (h0 : J b) (h : ∀ b x, x ∈ xs → J b → ∀ Q' : Fw β ρ → Prop, (∀ b', J b' → Q' (.nx b')) → st b x Q' X) (hq : ∀ b, J b → Q (.inl b)) : forF st xs b Q X := by
  induction xs generalizing b with
  | nil => rw [forF, purWa]; exact hq b h0
  | cons x xs ih =>
    rw [forF, bndWa]
    exact h b x (by simp) h0 _ (fun b' j' => ih j' (fun b y hy => h b y (by simp [hy])))
/-! ### lists made -/
theorem nox_ok {α : Type} (a : α) : nox (E.ok a) = E.ok a := by unfold nox; rw [trE]; rfl
theorem comp_ok {α β : Type} {c : α → E Bool} {f : α → E β} (p : α → Bool) (g : α → β) : ∀ xs : List α, (∀ x ∈ xs, c x = .ok (p x) ∧ (p x = true → f x = .ok (g x))) → compM c f xs = .ok ((xs.filter p).map g)
  | [], _ => by rw [compM, purE]; rfl
  | x :: xs, h => by
    obtain ⟨h1, h2⟩ := h x (by simp)
    have ih := comp_ok p g xs (fun y hy => h y (by simp [hy]))
    rw [compM, h1, nox_ok, ok_bndE]
    cases q : p x with
    | true => rw [if_pos rfl, h2 q, nox_ok, ok_bndE, ih, ok_bndE, purE]; simp [q]
    | false => rw [if_neg (by decide), ih]; simp [q]
theorem lc_ok {α β : Type} {c : α → E Bool} {f : α → E β} (p : α → Bool) (g : α → β) {xs : List α} (hl : xs.length ≤ 10000) (h : ∀ x ∈ xs, c x = .ok (p x) ∧ (p x = true → f x = .ok (g x))) : lcM xs c f = .ok ((xs.filter p).map g) := by
  unfold lcM szL
  rw [if_pos (sl_small hl), lok_bnd, comp_ok p g xs h]
theorem lc_map {α β : Type} {f : α → E β} (g : α → β) {xs : List α} (hl : xs.length ≤ 10000) (h : ∀ x ∈ xs, f x = .ok (g x)) : lcM xs (fun _ => pur true) f = .ok (xs.map g) := by
  rw [lc_ok (fun _ => true) g hl (fun x hx => ⟨purE _, fun _ => h x hx⟩)]
  congr 2
  exact List.filter_eq_self.mpr (fun _ _ => rfl)
theorem bndW_ok {α β : Type} {e : E α} {a : α} {k : α → W β} {Q : β → Prop} {X : Str → D → Prop} (h : e = .ok a) (hq : k a Q X) : bnd (lft e : W α) k Q X := by rw [h, lok_bndW]; exact hq

theorem whileM_inv {β : Type} {c : β → E Bool} {st : β → E β} (J : Nat → β → Prop) (N : Nat) {fuel : Nat} {b0 : β} (hf : N < fuel) (h0 : J 0 b0)
    (hc : ∀ k b, J k b → ∃ z, c b = .ok z ∧ (z = true → k < N ∧ ∃ b', st b = .ok b' ∧ J (k + 1) b')) : ∃ k b', whileM c st fuel b0 = .ok b' ∧ J k b' ∧ c b' = .ok false := by
  have gen : ∀ (fuel k : Nat) (b : β), N < fuel + k → J k b → (k ≤ N) → ∃ k b', whileM c st fuel b = .ok b' ∧ J k b' ∧ c b' = .ok false := by
    intro fuel
    induction fuel with
    | zero => intro k b h j hk; omega
    | succ n ih =>
      intro k b h j hk
      obtain ⟨z, e, hz⟩ := hc k b j
      cases z with
      | false => exact ⟨k, b, by rw [whileM, e, ok_bndE, if_neg (by decide), purE], j, e⟩
      | true =>
        obtain ⟨hlt, b', e2, j'⟩ := hz rfl
        obtain ⟨k2, b2, h1, h2, h3⟩ := ih (k + 1) b' (by omega) j' (by omega)
        exact ⟨k2, b2, by rw [whileM, e, ok_bndE, if_pos rfl, e2, ok_bndE]; exact h1, h2, h3⟩
  exact gen fuel 0 b0 (by omega) h0 (by omega)
theorem ok_then {α β : Type} {x : E α} {r : α} {k : α → E β} {e : E β} (h : x = .ok r) (h2 : k r = e) : bnd x k = e := by rw [h, ok_bndE, h2]
theorem forM_app {α β : Type} {st : List β → α → E (List β)} (f : α → β) {xs : List α} (hl : xs.length ≤ 5000) (h : ∀ b x, x ∈ xs → b.length < 6000 → st b x = .ok (b ++ [f x])) : forM st xs [] = .ok (xs.map f) := by
  obtain ⟨b, h1, rfl⟩ := forM_inv (st := st) (fun pre b => b = pre.map f) (xs := xs) (b := []) rfl (fun pre x post b e j => by
    subst j
    have : pre.length < 6000 := by have := congrArg List.length e; simp at this; omega
    exact ⟨_, h _ x (by rw [e]; simp) (by simpa using this), by simp⟩)
  exact h1
theorem lokW {α : Type} (a : α) : (lft (E.ok a) : W α) = pur a := by rw [lftW, purW]; rfl
theorem noxW {α : Type} (a : α) : nox (pur a : W α) = pur a := by unfold nox; rw [trW, purW]
theorem comp_Wok {α β : Type} {c : α → W Bool} {f : α → W β} (p : α → Bool) (g : α → β) : ∀ xs : List α, (∀ x ∈ xs, c x = pur (p x) ∧ (p x = true → f x = pur (g x))) → compM c f xs = pur ((xs.filter p).map g)
  | [], _ => by rw [compM]; rfl
  | x :: xs, h => by
    obtain ⟨h1, h2⟩ := h x (by simp)
    have ih := comp_Wok p g xs (fun y hy => h y (by simp [hy]))
    rw [compM, h1, noxW, pur_bndW]
    cases q : p x with
    | true => rw [if_pos rfl, h2 q, noxW, pur_bndW, ih, pur_bndW]; simp [q]
    | false => rw [if_neg (by decide), ih]; simp [q]
theorem lc_Wok {α β : Type} {c : α → W Bool} {f : α → W β} (p : α → Bool) (g : α → β) {xs : List α} (hl : xs.length ≤ 10000) (h : ∀ x ∈ xs, c x = pur (p x) ∧ (p x = true → f x = pur (g x))) : lcM xs c f = pur ((xs.filter p).map g) := by
  unfold lcM szL
  rw [if_pos (sl_small hl), lok_bndW, comp_Wok p g xs h]
theorem lc_Wmap {α β : Type} {f : α → W β} (g : α → β) {xs : List α} (hl : xs.length ≤ 10000) (h : ∀ x ∈ xs, f x = pur (g x)) : lcM xs (fun _ => pur true) f = pur (xs.map g) := by
  rw [lc_Wok (fun _ => true) g hl (fun x hx => ⟨rfl, fun _ => h x hx⟩)]
  congr 2
  exact List.filter_eq_self.mpr (fun _ _ => rfl)
theorem dhas_iff {α : Type} {d : Dc α} {k : Int} : dhas d k = true ↔ k ∈ d.kv.map (·.1) := by
  unfold dhas dfind
  rw [Option.isSome_map, List.find?_isSome]
  simp
theorem dput_new {α : Type} {d : Dc α} {k : Int} {v : α} (h : dhas d k = false) (hl : d.kv.length < 10000) : dput d k v = .ok ⟨d.kv ++ [(k, v)]⟩ := by
  unfold dput dputV
  rw [if_pos (Nat.lt_of_lt_of_le hl (by decide))]
  have : (d.kv.any fun p => decide (p.1 = k)) = false := by
    cases q : d.kv.any fun p => decide (p.1 = k) with
    | false => rfl
    | true =>
      obtain ⟨p, h1, h2⟩ := List.any_eq_true.mp q
      have e := of_decide_eq_true h2
      have : dhas d k = true := dhas_iff.mpr (List.mem_map.mpr ⟨p, h1, e⟩)
      rw [h] at this; cases this
  rw [this, if_neg (by decide)]
theorem cut1 {α : Type} (xs : List α) : cutL xs (some 1) none = xs.drop 1 := by
  unfold cutL HT.sIx
  cases xs with
  | nil => simp
  | cons x xs => simp
end TL

set_option Elab.async false
set_option linter.all false
set_option maxRecDepth 100000
set_option maxHeartbeats 1000000
/-! YB: congruence, walks, connection, components: no program in it. -/
namespace Lw
open PySem L2 DL TL
open Mo (pur bnd lft)
def isres (m t : Int) : Bool := if m = 0 then true else decide (0 ≤ t) && decide (t ≤ m - 1)
theorem cg_iff {m x y : Int} : x % m = y % m ↔ m ∣ x - y := by
  rw [Int.emod_eq_emod_iff_emod_sub_eq_zero]
  exact ⟨Int.dvd_of_emod_eq_zero, Int.emod_eq_zero_of_dvd⟩
theorem cg_mod (m x : Int) : m ∣ x % m - x := by
  rw [← cg_iff, Int.emod_emod_of_dvd _ (Int.dvd_refl m)]
theorem cg_trans {m x y z : Int} (h : m ∣ x - y) (k : m ∣ y - z) : m ∣ x - z := by
  have := Int.dvd_add h k
  rwa [show x - y + (y - z) = x - z by omega] at this
theorem cg_symm {m x y : Int} (h : m ∣ x - y) : m ∣ y - x := by
  have := Int.dvd_neg.mpr h
  rwa [show -(x - y) = y - x by omega] at this
theorem cg_refl (m x : Int) : m ∣ x - x := by rw [Int.sub_self]; exact Int.dvd_zero m
theorem isres_mod {m x : Int} (h0 : 0 ≤ m) : isres m (x % m) = true := by
  unfold isres
  by_cases h : m = 0
  · rw [if_pos h]
  · rw [if_neg h]
    have h1 := Int.emod_nonneg x h
    have h2 := Int.emod_lt_of_pos x (by omega : 0 < m)
    simp; omega
theorem mod_of_isres {m x : Int} (h0 : 0 ≤ m) (h : isres m x = true) : x % m = x := by
  unfold isres at h
  by_cases hm : m = 0
  · subst hm; exact Int.emod_zero x
  · rw [if_neg hm] at h
    simp at h
    exact Int.emod_eq_of_lt h.1 (by omega)
theorem isres0 (m : Int) (h : 0 ≤ m) : isres m 0 = true := by
  unfold isres
  by_cases e : m = 0
  · rw [if_pos e]
  · rw [if_neg e]; simp; omega
abbrev Edge := Int × Int
def edg (es : List Edge) (k : Int) : Edge := es.getD k.toNat (0, 0)
def ends (es : List Edge) (s : Int × Int) : Edge := if s.2 = 1 then edg es s.1 else ((edg es s.1).2, (edg es s.1).1)
structure StepOk (es : List Edge) (s : Int × Int) : Prop where
  k0 : 0 ≤ s.1
  k1 : s.1 < es.length
  way : s.2 = 1 ∨ s.2 = -1
def Leads (es : List Edge) : Int → List (Int × Int) → Int → Prop
  | a, [], b => a = b
  | a, s :: w, b => StepOk es s ∧ (ends es s).1 = a ∧ Leads es (ends es s).2 w b
theorem Leads.app {es : List Edge} : ∀ {w v : List (Int × Int)} {a b c : Int}, Leads es a w b → Leads es b v c → Leads es a (w ++ v) c
  | [], v, a, b, c, h, k => by unfold Leads at h; subst h; exact k
  | s :: w, v, a, b, c, h, k => ⟨h.1, h.2.1, Leads.app h.2.2 k⟩
theorem Leads.one {es : List Edge} {s : Int × Int} (h : StepOk es s) : Leads es (ends es s).1 [s] (ends es s).2 := ⟨h, rfl, rfl⟩
theorem step_rev {es : List Edge} {s : Int × Int} (h : StepOk es s) : StepOk es (s.1, 0 - s.2) ∧ ends es (s.1, 0 - s.2) = ((ends es s).2, (ends es s).1) := by
  refine ⟨⟨h.k0, h.k1, by rcases h.way with e | e <;> simp [e]⟩, ?_⟩
  unfold ends
  rcases h.way with e | e <;> simp [e]
theorem Leads.rev {es : List Edge} : ∀ {w : List (Int × Int)} {a b : Int}, Leads es a w b → Leads es b (w.reverse.map fun s => (s.1, 0 - s.2)) a
  | [], a, b, h => by unfold Leads at h; subst h; rfl
  | s :: w, a, b, h => by
    rw [List.reverse_cons, List.map_append]
    refine (Leads.rev h.2.2).app ?_
    obtain ⟨h1, h2⟩ := step_rev h.1
    have := Leads.one h1
    rw [h2] at this
    rw [← h.2.1]
    exact this
theorem Leads.all {es : List Edge} : ∀ {w : List (Int × Int)} {a b : Int}, Leads es a w b → ∀ s ∈ w, StepOk es s
  | [], _, _, _, s, hs => by simp at hs
  | t :: w, _, _, h, s, hs => by
    rcases List.mem_cons.mp hs with rfl | hs
    · exact h.1
    · exact h.2.2.all s hs
theorem Leads.chain {es : List Edge} : ∀ {w : List (Int × Int)} {a b : Int}, Leads es a w b → ∀ x ∈ (w.map (ends es)).zip ((w.map (ends es)).drop 1), x.1.2 = x.2.1
  | [], _, _, _, x, hx => by simp at hx
  | [s], _, _, _, x, hx => by simp at hx
  | s :: t :: w, _, _, h, x, hx => by
    simp only [List.map_cons, List.drop_succ_cons, List.drop_zero, List.zip_cons_cons, List.mem_cons] at hx
    rcases hx with rfl | hx
    · exact h.2.2.2.1.symm
    · exact h.2.2.chain x (by simpa using hx)
/-- the value at a place -/
def pv (p : List Int) (i : Int) : Int := p.getD i.toNat 0
theorem pv_set {p : List Int} {i j x : Int} (h0 : 0 ≤ i) (h1 : i < p.length) (j0 : 0 ≤ j) : pv (p.set i.toNat x) j = if i = j then x else pv p j := by
  unfold pv
  rw [List.getD_eq_getElem?_getD, List.getD_eq_getElem?_getD]
  by_cases e : i = j
  · subst e
    rw [List.getElem?_set_self (by omega), if_pos rfl]
    rfl
  · rw [List.getElem?_set_ne (by omega), if_neg e]
theorem pv_rep (n : Nat) (i : Int) : pv (List.replicate n 0) i = 0 := by
  unfold pv
  rw [List.getD_eq_getElem?_getD, List.getElem?_replicate]
  split <;> rfl
def swL (m : Int) (es : List (Int × Int)) (g p : List Int) : List Int := (g.zip es).map fun x => (x.1 + pv p x.2.1 - pv p x.2.2) % m
def wsum (g : List Int) (l : List (Int × Int)) : Int := (l.map fun s => s.2 * pv g s.1).sum
/-- what switching does to the sum of a walk -/
theorem sw_len {m : Int} {es : List Edge} {g p : List Int} (h : g.length = es.length) : (swL m es g p).length = es.length := by unfold swL; simp [h]
theorem sw_pv {m : Int} {es : List Edge} {g p : List Int} {k : Int} (h : g.length = es.length) (h0 : 0 ≤ k) (h1 : k < es.length) : pv (swL m es g p) k = (pv g k + pv p (edg es k).1 - pv p (edg es k).2) % m := by
  obtain ⟨n, rfl⟩ := Int.eq_ofNat_of_zero_le h0
  have hn : n < es.length := by omega
  have hg : n < g.length := by omega
  have hz : (g.zip es)[n]? = some (g[n], es[n]) := by
    rw [List.getElem?_eq_getElem (by simp; omega), List.getElem_zip]
  unfold pv swL edg
  simp only [List.getD_eq_getElem?_getD, Int.toNat_natCast, List.getElem?_map, hz, Option.map_some, Option.getD_some, List.getElem?_eq_getElem hn, List.getElem?_eq_getElem hg]
  rfl
theorem edg_mem {es : List Edge} {k : Nat} (h : k < es.length) : edg es k ∈ es := by
  unfold edg
  rw [List.getD_eq_getElem?_getD, Int.toNat_natCast, List.getElem?_eq_getElem h]
  exact List.getElem_mem h
theorem pigeon : ∀ (n : Nat) (l : List Int), l.Nodup → (∀ x ∈ l, 0 ≤ x ∧ x < n) → l.length ≤ n
  | 0, l, _, h => by
    cases l with
    | nil => simp
    | cons x l => have := h x (by simp); omega
  | n + 1, l, hn, h => by
    by_cases hm : (n : Int) ∈ l
    · have p := List.perm_cons_erase hm
      have e := p.length_eq
      have := pigeon n (l.erase n) (hn.erase _) (fun x hx => by
        have h1 := h x (List.mem_of_mem_erase hx)
        have h2 : x ≠ n := fun z => by
          subst z
          exact (List.Nodup.mem_erase_iff hn).mp hx |>.1 rfl
        omega)
      simp at e
      omega
    · have := pigeon n l hn (fun x hx => by
        have h1 := h x hx
        have h2 : x ≠ n := fun z => hm (z ▸ hx)
        omega)
      omega
structure EOk (n : Int) (es : List Edge) : Prop where
  len : es.length ≤ 60
  ed : ∀ e ∈ es, 0 ≤ e.1 ∧ e.1 < n ∧ 0 ≤ e.2 ∧ e.2 < n
theorem enI_edge {es : List Edge} {x : Int × Edge} (h : x ∈ enI 0 es) : x.2 ∈ es ∧ StepOk es (x.1, 1) ∧ StepOk es (x.1, -1) ∧ edg es x.1 = x.2 := by
  unfold enI at h
  obtain ⟨y, hy, rfl⟩ := List.mem_map.mp h
  have h2 := List.mem_zipIdx hy
  have hlt : y.2 < es.length := by omega
  refine ⟨List.fst_mem_of_mem_zipIdx hy, ⟨by dsimp only; omega, by dsimp only; omega, .inl rfl⟩, ⟨by dsimp only; omega, by dsimp only; omega, .inr rfl⟩, ?_⟩
  unfold edg
  rw [List.getD_eq_getElem?_getD, Int.toNat_natCast, List.getElem?_eq_getElem hlt]
  have := h2.2.2
  simp at this ⊢
  exact this.symm
/-! ### connection -/
def Conn (es : List Edge) (a b : Int) : Prop := ∃ w, Leads es a w b
theorem Conn.refl {es : List Edge} (a : Int) : Conn es a a := ⟨[], rfl⟩
theorem Conn.trans {es : List Edge} {a b c : Int} (h : Conn es a b) (k : Conn es b c) : Conn es a c := let ⟨w, hw⟩ := h; let ⟨v, hv⟩ := k; ⟨w ++ v, hw.app hv⟩
theorem Conn.symm {es : List Edge} {a b : Int} (h : Conn es a b) : Conn es b a := let ⟨_, hw⟩ := h; ⟨_, hw.rev⟩
theorem edge_step {es : List Edge} {k : Nat} (h : k < es.length) : StepOk es ((k : Int), 1) ∧ ends es ((k : Int), 1) = es[k] := by
  refine ⟨⟨by dsimp only; omega, by dsimp only; omega, .inl rfl⟩, ?_⟩
  unfold ends edg
  simp [h]
theorem Conn.edge {es : List Edge} {e : Edge} (h : e ∈ es) : Conn es e.1 e.2 := by
  obtain ⟨k, hk, rfl⟩ := List.mem_iff_getElem.mp h
  obtain ⟨h1, h2⟩ := edge_step hk
  have := Leads.one h1
  rw [h2] at this
  exact ⟨_, this⟩
theorem step_mem {es : List Edge} {s : Int × Int} (h : StepOk es s) : edg es s.1 ∈ es := by
  obtain ⟨k, hk⟩ := Int.eq_ofNat_of_zero_le h.k0
  have := h.k1
  rw [hk] at this ⊢
  exact edg_mem (by omega)
theorem Leads.closed {es : List Edge} {S : Int → Prop} (h : ∀ e ∈ es, S e.1 ↔ S e.2) : ∀ {w : List (Int × Int)} {a b : Int}, Leads es a w b → (S a ↔ S b)
  | [], a, b, l => by unfold Leads at l; rw [l]
  | s :: w, a, b, l => by
    have ih := Leads.closed h l.2.2
    have he := h _ (step_mem l.1)
    rw [← ih, ← l.2.1]
    unfold ends
    by_cases q : s.2 = 1
    · rw [if_pos q]; exact he
    · rw [if_neg q]; exact he.symm
theorem Conn.closed {es : List Edge} {S : Int → Prop} (h : ∀ e ∈ es, S e.1 ↔ S e.2) {a b : Int} (c : Conn es a b) : S a ↔ S b := let ⟨_, hw⟩ := c; hw.closed h
/-- a potential along a walk -/
theorem tele {m : Int} {es : List Edge} {ds : List Int} {q : Int → Int} : ∀ {w : List (Int × Int)} {a b : Int}, Leads es a w b → (∀ s ∈ w, m ∣ pv ds s.1 - (q (edg es s.1).1 - q (edg es s.1).2)) → m ∣ wsum ds w - (q a - q b)
  | [], a, b, l, _ => by
    unfold Leads at l
    subst l
    rw [show wsum ds [] - (q a - q a) = 0 by unfold wsum; simp]
    exact Int.dvd_zero m
  | s :: w, a, b, l, h => by
    have ih := tele (m := m) (ds := ds) (q := q) l.2.2 (fun s hs => h s (by simp [hs]))
    have hs := h s (by simp)
    have e : wsum ds (s :: w) = s.2 * pv ds s.1 + wsum ds w := by unfold wsum; simp
    have d : m ∣ s.2 * (pv ds s.1 - (q (edg es s.1).1 - q (edg es s.1).2)) := Int.dvd_mul_of_dvd_right hs
    have t := Int.dvd_add d ih
    rw [e]
    have key : s.2 * (pv ds s.1 - (q (edg es s.1).1 - q (edg es s.1).2)) + (wsum ds w - (q (ends es s).2 - q b)) = s.2 * pv ds s.1 + wsum ds w - (q a - q b) := ?_
    · rw [key] at t; exact t
    have ha := l.2.1
    rcases l.1.way with z | z
    · unfold ends at ha ⊢
      rw [if_pos z] at ha ⊢
      rw [← ha, z]
      omega
    · have ne : ¬ s.2 = 1 := by omega
      unfold ends at ha ⊢
      rw [if_neg ne] at ha ⊢
      dsimp only at ha ⊢
      rw [← ha, z]
      omega
/-! ### ascending lists -/
theorem asc_ext : ∀ {l k : List Int}, l.Pairwise (· < ·) → k.Pairwise (· < ·) → (∀ x, x ∈ l ↔ x ∈ k) → l = k
  | [], [], _, _, _ => rfl
  | [], y :: k, _, _, h => by have := (h y).mpr (by simp); simp at this
  | x :: l, [], _, _, h => by have := (h x).mp (by simp); simp at this
  | x :: l, y :: k, hl, hk, h => by
    have h1 := List.pairwise_cons.mp hl
    have h2 := List.pairwise_cons.mp hk
    have e : x = y := by
      rcases List.mem_cons.mp ((h x).mp (by simp)) with e | e
      · exact e
      · rcases List.mem_cons.mp ((h y).mpr (by simp)) with e' | e'
        · exact e'.symm
        · have a := h1.1 y e'
          have b := h2.1 x e
          omega
    subst e
    congr 1
    refine asc_ext h1.2 h2.2 (fun z => ⟨fun hz => ?_, fun hz => ?_⟩)
    · rcases List.mem_cons.mp ((h z).mp (by simp [hz])) with e | e
      · have := h1.1 z hz; omega
      · exact e
    · rcases List.mem_cons.mp ((h z).mpr (by simp [hz])) with e | e
      · have := h2.1 z hz; omega
      · exact e
theorem rg_asc (n : Int) : (rg 0 n).Pairwise (· < ·) := by
  unfold rg
  rw [List.pairwise_map]
  exact List.Pairwise.imp (fun h => by omega) List.pairwise_lt_range
theorem asc_nodup {l : List Int} (h : l.Pairwise (· < ·)) : l.Nodup := h.imp (fun h => by omega)
theorem nodup_le_asc {l : List Int} (h : l.Pairwise (· ≤ ·)) (n : l.Nodup) : l.Pairwise (· < ·) := by
  induction l with
  | nil => exact List.Pairwise.nil
  | cons x l ih =>
    have h1 := List.pairwise_cons.mp h
    have n1 := List.nodup_cons.mp n
    refine List.pairwise_cons.mpr ⟨fun y hy => ?_, ih h1.2 n1.2⟩
    have := h1.1 y hy
    have : x ≠ y := fun e => n1.1 (by rw [e]; exact hy)
    omega
/-! ### components -/
open Classical in
noncomputable def compOf (n : Int) (es : List Edge) (a : Int) : List Int := (rg 0 n).filter fun b => decide (Conn es a b)
open Classical in
noncomputable def isFst (es : List Edge) (a : Int) : Bool := decide (∀ b : Int, 0 ≤ b → b < a → ¬ Conn es b a)
noncomputable def firsts (n : Int) (es : List Edge) : List Int := (rg 0 n).filter (isFst es)
noncomputable def comps (n : Int) (es : List Edge) : List (List Int) := (firsts n es).map (compOf n es)
theorem mem_compOf {n : Int} {es : List Edge} {a b : Int} : b ∈ compOf n es a ↔ (0 ≤ b ∧ b < n) ∧ Conn es a b := by
  unfold compOf
  rw [List.mem_filter, rg_mem]
  exact and_congr_right fun _ => @decide_eq_true_iff _ (Classical.propDecidable _)
theorem compOf_asc (n : Int) (es : List Edge) (a : Int) : (compOf n es a).Pairwise (· < ·) := (rg_asc n).filter _
theorem isFst_iff {es : List Edge} {a : Int} : isFst es a = true ↔ ∀ b : Int, 0 ≤ b → b < a → ¬ Conn es b a := by unfold isFst; exact @decide_eq_true_iff _ (Classical.propDecidable _)
theorem mem_firsts {n : Int} {es : List Edge} {a : Int} : a ∈ firsts n es ↔ (0 ≤ a ∧ a < n) ∧ ∀ b : Int, 0 ≤ b → b < a → ¬ Conn es b a := by
  unfold firsts
  rw [List.mem_filter, rg_mem, isFst_iff]
/-- each node has a first node -/
theorem fst_of {n : Int} {es : List Edge} : ∀ (k : Nat) (a : Int), 0 ≤ a → a < n → a ≤ k → ∃ f ∈ firsts n es, Conn es f a ∧ f ≤ a
  | 0, a, h0, h1, h2 => ⟨a, mem_firsts.mpr ⟨⟨h0, h1⟩, fun b b0 b1 => by omega⟩, Conn.refl a, by omega⟩
  | k + 1, a, h0, h1, h2 => by
    by_cases q : ∀ b : Int, 0 ≤ b → b < a → ¬ Conn es b a
    · exact ⟨a, mem_firsts.mpr ⟨⟨h0, h1⟩, q⟩, Conn.refl a, by omega⟩
    · have : ∃ b : Int, 0 ≤ b ∧ b < a ∧ Conn es b a := by
        apply Classical.byContradiction
        intro z
        exact q (fun b b0 b1 c => z ⟨b, b0, b1, c⟩)
      obtain ⟨b, b0, b1, c⟩ := this
      obtain ⟨f, f1, f2, f3⟩ := fst_of (n := n) (es := es) k b b0 (by omega) (by omega)
      exact ⟨f, f1, f2.trans c, by omega⟩
theorem fst_of' {n : Int} {es : List Edge} {a : Int} (h0 : 0 ≤ a) (h1 : a < n) : ∃ f ∈ firsts n es, Conn es f a ∧ f ≤ a := fst_of a.toNat a h0 h1 (by omega)
theorem fst_uniq {n : Int} {es : List Edge} {f g : Int} (hf : f ∈ firsts n es) (hg : g ∈ firsts n es) (c : Conn es f g) : f = g := by
  obtain ⟨⟨f0, f1⟩, f2⟩ := mem_firsts.mp hf
  obtain ⟨⟨g0, g1⟩, g2⟩ := mem_firsts.mp hg
  by_cases h : f < g
  · exact (g2 f f0 h c).elim
  · by_cases h2 : g < f
    · exact (f2 g g0 h2 c.symm).elim
    · omega
theorem compOf_len (n : Nat) (es : List Edge) (a : Int) : (compOf n es a).length ≤ n := by
  unfold compOf
  have := List.length_filter_le (fun b => @decide (Conn es a b) (Classical.propDecidable _)) (rg 0 (n : Int))
  rw [rg_len] at this
  omega
/-! ### dicts by their keys -/
def dkeys {α : Type} (d : Dc α) : List Int := d.kv.map (·.1)
theorem dhas_keys {α : Type} {d : Dc α} {k : Int} : dhas d k = true ↔ k ∈ dkeys d := dhas_iff
theorem dkeys_put {α : Type} {d : Dc α} {k : Int} {a : α} : dkeys (dputV d k a) = if k ∈ dkeys d then dkeys d else dkeys d ++ [k] := by
  unfold dputV dkeys
  by_cases h : k ∈ d.kv.map (·.1)
  · rw [if_pos h]
    obtain ⟨p, hp, e⟩ := List.mem_map.mp h
    have : (d.kv.any fun p => decide (p.1 = k)) = true := List.any_eq_true.mpr ⟨p, hp, decide_eq_true e⟩
    rw [if_pos this]
    rw [List.map_map]
    apply List.map_congr_left
    intro q _
    simp only [Function.comp]
    split <;> rfl
  · rw [if_neg h]
    have : (d.kv.any fun p => decide (p.1 = k)) = false := by
      cases q : d.kv.any fun p => decide (p.1 = k) with
      | false => rfl
      | true =>
        obtain ⟨p, h1, h2⟩ := List.any_eq_true.mp q
        exact (h (List.mem_map.mpr ⟨p, h1, of_decide_eq_true h2⟩)).elim
    rw [this, if_neg (by decide), List.map_append]
    rfl
theorem dget_mem {α : Type} {d : Dc α} {k : Int} {v : α} (n : (dkeys d).Nodup) (h : (k, v) ∈ d.kv) : dget d k = .ok v := by
  unfold dget dfind
  have : d.kv.find? (fun p => decide (p.1 = k)) = some (k, v) := by
    have gen : ∀ l : List (Int × α), (l.map (·.1)).Nodup → (k, v) ∈ l → l.find? (fun p => decide (p.1 = k)) = some (k, v) := by
      intro l
      induction l with
      | nil => intro _ h; simp at h
      | cons p l ih =>
        intro n h
        rw [List.map_cons, List.nodup_cons] at n
        by_cases e : p.1 = k
        · rw [List.find?_cons_of_pos (by simpa using e)]
          rcases List.mem_cons.mp h with z | z
          · rw [z]
          · exact (n.1 (by rw [e]; exact List.mem_map.mpr ⟨_, z, rfl⟩)).elim
        · rw [List.find?_cons_of_neg (by simpa using e)]
          rcases List.mem_cons.mp h with z | z
          · rw [← z] at e; exact (e rfl).elim
          · exact ih n.2 z
    exact gen d.kv n h
  rw [this]
  rfl
theorem nox_pur {α : Type} (a : α) : nox (pur a : E α) = E.ok a := by rw [purE]; exact TL.nox_ok a
theorem compD_new {α : Type} {v : α} : ∀ (xs : List Int) (d : Dc α), (dkeys d ++ xs).Nodup → d.kv.length + xs.length ≤ 10000 → compD (m := E) (fun _ => pur true) (fun x => pur x) (fun _ => pur v) xs d = .ok ⟨d.kv ++ xs.map fun x => (x, v)⟩
  | [], d, _, _ => by rw [compD, purE]; simp
  | x :: xs, d, n, hl => by
    have hx : dhas d x = false := by
      cases q : dhas d x with
      | false => rfl
      | true =>
        have := dhas_keys.mp q
        rw [List.nodup_append] at n
        exact (n.2.2 x this x (by simp) rfl).elim
    have e : dput d x v = .ok ⟨d.kv ++ [(x, v)]⟩ := dput_new hx (by simp at hl; omega)
    rw [compD, nox_pur, ok_bndE, if_pos rfl, nox_pur, ok_bndE, nox_pur, ok_bndE, e, lok_bnd, compD_new xs ⟨d.kv ++ [(x, v)]⟩ (by
      unfold dkeys at n ⊢
      simpa using n) (by simp at hl ⊢; omega)]
    simp
theorem dupd_keys {α : Type} : ∀ (l : List (Int × α)) (d : Dc α), (dkeys d).Nodup → (dkeys (l.foldl (fun a p => dputV a p.1 p.2) d)).Nodup ∧ ∀ k, k ∈ dkeys (l.foldl (fun a p => dputV a p.1 p.2) d) ↔ k ∈ dkeys d ∨ k ∈ l.map (·.1)
  | [], d, n => ⟨n, fun k => by simp⟩
  | p :: l, d, n => by
    have n2 : (dkeys (dputV d p.1 p.2)).Nodup := by
      rw [dkeys_put]
      split
      · exact n
      · rename_i h
        rw [List.nodup_append]
        exact ⟨n, by simp, fun x hx y hy e => by simp at hy; rw [hy] at e; rw [e] at hx; exact h hx⟩
    obtain ⟨a, b⟩ := dupd_keys l (dputV d p.1 p.2) n2
    refine ⟨a, fun k => ?_⟩
    rw [List.foldl_cons, b k, dkeys_put, List.map_cons, List.mem_cons]
    split
    · rename_i h
      constructor
      · rintro (z | z)
        · exact .inl z
        · exact .inr (.inr z)
      · rintro (z | z | z)
        · exact .inl z
        · rw [z]; exact .inl h
        · exact .inr z
    · rw [List.mem_append, List.mem_singleton, or_assoc]
end Lw

set_option Elab.async false
set_option linter.all false
set_option maxRecDepth 100000
set_option maxHeartbeats 1000000
/-! YC: the program's defs at valid arguments. -/
namespace Lw
open PySem L2 DL TL
open Mo (pur bnd lft)
structure WOk (w : OWeb) : Prop where
  s0 : 1 ≤ w.own_size
  s1 : w.own_size ≤ 30
  len : w.own_edges.length ≤ 60
  ed : ∀ e ∈ w.own_edges, 0 ≤ e.1 ∧ e.1 < w.own_size ∧ 0 ≤ e.2 ∧ e.2 < w.own_size
  m0 : 0 ≤ w.own_modulus
  m1 : w.own_modulus ≤ 60
theorem is_integer_eq (t : Int) : p_is_integer t = .ok true := by simp [p_is_integer, bndE, purE, E.bind]
theorem is_within_eq (t a b : Int) : p_is_within t a b = .ok (decide (a ≤ t) && decide (t ≤ b)) := by simp [p_is_within, is_integer_eq, bndE, purE, lftE, E.bind]
theorem reduced_eq (x m : Int) (h : 0 ≤ m) : p_reduced_number x m = .ok (x % m) := by
  unfold p_reduced_number
  by_cases hm : 0 < m
  · simp [bndE, purE, lftE, E.bind, hm, modZ_eq]
  · have : m = 0 := by omega
    subst this
    simp [bndE, purE, lftE, E.bind]
theorem modulus_eq (w : OWeb) : p_Web_modulus w = .ok w.own_modulus := by simp [p_Web_modulus, bndE, purE, E.bind]
theorem len_eq (w : OWeb) : p_Web___len__ w = .ok (w.own_edges.length : Int) := by simp [p_Web___len__, bndE, purE, E.bind]
theorem residue_eq (w : OWeb) (x : Int) (h : 0 ≤ w.own_modulus) : p_residue w x = .ok (x % w.own_modulus) := by
  simp [p_residue, is_integer_eq, modulus_eq, reduced_eq _ _ h, bndE, purE, lftE, E.bind]
theorem is_residue_eq (w : OWeb) (t : Int) : p_is_residue w t = .ok (isres w.own_modulus t) := by
  unfold p_is_residue isres
  by_cases h : w.own_modulus = 0
  · simp [modulus_eq, is_integer_eq, bndE, purE, lftE, E.bind, eqB, h]
  · simp [modulus_eq, is_within_eq, bndE, purE, lftE, E.bind, eqB, h]
theorem are_residues_eq (w : OWeb) (l : List Int) (n : Int) (h : l.length ≤ 10000) : p_are_residues w l n = .ok (decide ((l.length : Int) = n) && l.all (isres w.own_modulus)) := by
  unfold p_are_residues
  have e := lc_map (f := fun x => lft (p_is_residue w x)) (isres w.own_modulus) h (fun x _ => by rw [lftE, is_residue_eq])
  by_cases hn : (l.length : Int) = n
  · simp [bndE, purE, lftE, E.bind, eqB, hn] at e ⊢
    rw [e]
    simp [List.all_map]
  · simp [bndE, purE, lftE, E.bind, eqB, hn]
/-- gains and potentials that are valid -/
structure Gd (w : OWeb) (g : List Int) : Prop where
  len : g.length = w.own_edges.length
  res : ∀ x ∈ g, isres w.own_modulus x = true
structure Pt (w : OWeb) (p : List Int) : Prop where
  len : (p.length : Int) = w.own_size
  res : ∀ x ∈ p, isres w.own_modulus x = true
theorem is_gains_eq {w : OWeb} {g : List Int} (hw : WOk w) (h : Gd w g) : p_is_gains w g = .ok true := by
  have h1 := hw.len
  have h2 := h.len
  simp [p_is_gains, len_eq, lenG_ok (n := w.own_edges.length) (by omega), are_residues_eq w g _ (by omega), bndE, purE, lftE, E.bind, h.len]
  exact h.res
theorem check_gains_eq {w : OWeb} {g : List Int} (hw : WOk w) (h : Gd w g) : p_check_gains w g = .ok () := by
  simp [p_check_gains, is_gains_eq hw h, bndE, purE, lftE, E.bind]
theorem edge_eq {w : OWeb} {k : Int} (h0 : 0 ≤ k) (h1 : k < w.own_edges.length) : p_Web_edge w k = .ok (edg w.own_edges k) := by
  have e : ixL w.own_edges k = .ok (edg w.own_edges k) := ixL_lt h0 h1
  have e2 : decide (k ≤ (w.own_edges.length : Int) - 1) = true := decide_eq_true (by omega)
  simp [p_Web_edge, is_within_eq, h0, e2, e, bndE, purE, lftE, E.bind]
theorem step_ends_eq {w : OWeb} {s : Int × Int} (h : StepOk w.own_edges s) : p_step_ends w s = .ok (ends w.own_edges s) := by
  unfold p_step_ends ends
  simp only [pur_bnd, edge_eq h.k0 h.k1, lok_bnd, bnd_assoc]
  by_cases e : s.2 = 1 <;> simp [e, eqB, purE]
theorem is_step_eq {w : OWeb} {s : Int × Int} (hw : WOk w) (h : StepOk w.own_edges s) : p_is_step w s = .ok true := by
  have hl := hw.len
  have h0 := h.k0
  have h1 := h.k1
  have e2 : decide (s.1 ≤ (w.own_edges.length : Int) - 1) = true := decide_eq_true (by omega)
  rcases h.way with e | e <;> simp [p_is_step, len_eq, lenG_ok (n := w.own_edges.length) (by omega), is_within_eq, bndE, purE, lftE, E.bind, eqB, h0, e2, e]
theorem is_walk_eq {w : OWeb} {l : List (Int × Int)} {a b : Int} (hw : WOk w) (h : Leads w.own_edges a l b) (hn : l ≠ []) (hl : l.length ≤ 5000) : p_is_walk w l = .ok true := by
  unfold p_is_walk
  have hn' : decide (l = []) = false := decide_eq_false hn
  have c1 := lc_map (f := fun x => lft (p_is_step w x)) (fun _ => true) (xs := l) (by omega) (fun x hx => by rw [lftE, is_step_eq hw (h.all x hx)])
  have c2 := lc_map (f := fun x => lft (p_step_ends w x)) (ends w.own_edges) (xs := l) (by omega) (fun x hx => by rw [lftE, step_ends_eq (h.all x hx)])
  have c3 := lc_map (f := fun (x : Edge × Edge) => (pur (false ^^ eqB x.1.2 x.2.1) : E Bool)) (fun x => (false ^^ eqB x.1.2 x.2.1)) (xs := (l.map (ends w.own_edges)).zip ((l.map (ends w.own_edges)).drop 1)) (by simp; omega) (fun x hx => purE _)
  simp only [pur_bnd, c1, ok_bndE, lok_bnd, bnd_assoc, c2, cut1, c3]
  have a1 : (l.map fun _ => true).all id = true := by simp
  have a2 : (((l.map (ends w.own_edges)).zip ((l.map (ends w.own_edges)).drop 1)).map fun x => (false ^^ eqB x.1.2 x.2.1)).all id = true := by
    rw [List.all_map, List.all_eq_true]
    intro x hx
    have := h.chain x hx
    simp [eqB, this]
  rw [a1, a2]
  simp [eqB, hn', bndE, purE, E.bind]
theorem walk_sum_eq {w : OWeb} {g : List Int} {l : List (Int × Int)} {a b : Int} (hw : WOk w) (hg : Gd w g) (h : Leads w.own_edges a l b) (hn : l ≠ []) (hl : l.length ≤ 5000) : p_walk_sum w g l = .ok (wsum g l % w.own_modulus) := by
  unfold p_walk_sum
  simp only [check_gains_eq hw hg, is_walk_eq hw h hn hl, pur_bnd, lok_bnd, ok_bndE, bnd_assoc, residue_eq _ _ hw.m0, Bool.not_true, Bool.false_eq_true, if_false]
  refine ok_then (lc_map (fun s => s.2 * pv g s.1) (xs := l) (by omega) (fun x hx => ?_)) (purE _)
  have hx := h.all x hx
  have e : ixL g x.1 = .ok (pv g x.1) := ixL_lt hx.k0 (by rw [hg.len]; exact hx.k1)
  rw [e, lok_bnd, lftE]
  exact mulZ_small (by rcases hx.way with e | e <;> omega) (by rcases hx.way with e | e <;> omega)
/-- gains by their places -/
theorem gains_ext {w : OWeb} {g g' : List Int} (hw : WOk w) (h : Gd w g) (h' : Gd w g') (e : ∀ k : Nat, k < w.own_edges.length → w.own_modulus ∣ pv g k - pv g' k) : g = g' := by
  apply List.ext_getElem
  · rw [h.len, h'.len]
  · intro k h1 h2
    have hk : k < w.own_edges.length := by rw [← h.len]; exact h1
    have c := e k hk
    have p1 : pv g (k : Int) = g[k] := by unfold pv; simp [h1]
    have p2 : pv g' (k : Int) = g'[k] := by unfold pv; simp [h2]
    rw [p1, p2, ← cg_iff, mod_of_isres hw.m0 (h.res _ (List.getElem_mem h1)), mod_of_isres hw.m0 (h'.res _ (List.getElem_mem h2))] at c
    exact c
theorem sw_gd {w : OWeb} {g p : List Int} (hw : WOk w) (h : Gd w g) : Gd w (swL w.own_modulus w.own_edges g p) := ⟨sw_len h.len, fun x hx => by
  unfold swL at hx
  obtain ⟨y, _, rfl⟩ := List.mem_map.mp hx
  exact isres_mod hw.m0⟩
/-- gains to which rows of switches have led -/
structure Led (w : OWeb) (g0 : List Int) (A : Int → Int) (g : List Int) : Prop where
  gd : Gd w g
  eq : ∀ k : Nat, k < w.own_edges.length → w.own_modulus ∣ pv g k - (pv g0 k + A (edg w.own_edges k).1 - A (edg w.own_edges k).2)
theorem led_sw {w : OWeb} {g0 g p : List Int} {A B : Int → Int} (hw : WOk w) (h : Led w g0 A g) (hp : ∀ i, 0 ≤ i → w.own_modulus ∣ pv p i - B i) : Led w g0 (fun i => A i + B i) (swL w.own_modulus w.own_edges g p) := by
  refine ⟨sw_gd hw h.gd, fun k hk => ?_⟩
  rw [sw_pv h.gd.len (by omega) (by omega)]
  refine cg_trans (cg_mod _ _) ?_
  have he := hw.ed _ (edg_mem hk)
  have c1 := h.eq k hk
  have c2 := hp _ he.1
  have c3 := cg_symm (hp _ he.2.2.1)
  have := Int.dvd_add (Int.dvd_add c1 c2) c3
  have key : ∀ a b c d e f g i : Int, a - (b + c - d) + (e - f) + (g - i) = a + e - i - (b + (c + f) - (d + g)) := by intros; omega
  rw [key] at this
  exact this
theorem led_0 {w : OWeb} {g : List Int} (h : Gd w g) : Led w g (fun _ => 0) g := ⟨h, fun k _ => by
  rw [show pv g k - (pv g k + 0 - 0) = 0 by omega]; exact Int.dvd_zero _⟩
theorem is_edge_eq {n : Int} {e : Edge} (h : 0 ≤ e.1 ∧ e.1 < n ∧ 0 ≤ e.2 ∧ e.2 < n) : p_is_edge e n = .ok true := by
  have e1 : decide (e.1 ≤ n - 1) = true := decide_eq_true (by omega)
  have e2 : decide (e.2 ≤ n - 1) = true := decide_eq_true (by omega)
  simp [p_is_edge, is_within_eq, bndE, purE, lftE, E.bind, eqB, h.1, h.2.2.1, e1, e2]
theorem check_edges_eq {n : Int} {es : List Edge} (h : EOk n es) : p_check_edges n es = .ok () := by
  unfold p_check_edges
  have hl := h.len
  simp only [Bool.not_true, pur_bnd, Bool.false_eq_true, if_false]
  refine ok_then (r := ()) ?_ ?_
  · obtain ⟨b, h1, _⟩ := forM_inv (st := fun (b49 : Unit) (x50 : (Int × Int)) => bnd (bnd (lft (p_is_edge x50 n)) fun z54 => pur (!z54)) fun z => if z = true then (lft .bad) else (pur ())) (fun _ _ => True) (xs := es) (b := ()) trivial (fun pre x post b e _ => by
      refine ⟨(), ?_, trivial⟩
      rw [is_edge_eq (h.ed x (by rw [e]; simp)), lok_bnd, Bool.not_true, pur_bnd, if_neg (by decide), purE])
    exact h1
  · have : decide ((60 : Int) < (es.length : Int)) = false := decide_eq_false (by omega)
    rw [this, if_neg (by decide), purE]
theorem takeW_ok {s : Int} {Q : Int → Prop} {X : Str → D → Prop} (h0 : 0 < s) (h1 : s ≤ 10 ^ 30) (h : ∀ r, 0 ≤ r → r < s → Q r) : takeW s Q X := ⟨h0, by omega, h⟩
structure ForestOk (n : Int) (es : List Edge) (F : List Int) : Prop where
  rng : ∀ i ∈ F, 0 ≤ i ∧ i < es.length
  asc : F.Pairwise (· < ·)
  pot : ∀ ds : List Int, ∃ q : Int → Int, ∀ i ∈ F, q (edg es i).1 - q (edg es i).2 = pv ds i
  cl : ∀ S : Int → Prop, (∀ i ∈ F, S (edg es i).1 ↔ S (edg es i).2) → ∀ e ∈ es, (S e.1 ↔ S e.2)
  ex : ∀ i : Nat, i < es.length → ((i : Int) ∈ F ↔ ¬ Conn (es.take i) (edg es i).1 (edg es i).2)
structure FJ (n : Int) (es : List Edge) (k : Nat) (G F : List Int) : Prop where
  glen : (G.length : Int) = n
  flen : F.length ≤ k
  rng : ∀ i ∈ F, 0 ≤ i ∧ i < k
  asc : F.Pairwise (· < ·)
  same : ∀ e ∈ es.take k, pv G e.1 = pv G e.2
  cl : ∀ S : Int → Prop, (∀ i ∈ F, S (edg es i).1 ↔ S (edg es i).2) → ∀ a b : Int, 0 ≤ a → a < n → 0 ≤ b → b < n → pv G a = pv G b → (S a ↔ S b)
  pot : ∀ ds : List Int, ∃ q : Int → Int, ∀ i ∈ F, q (edg es i).1 - q (edg es i).2 = pv ds i
  ex : ∀ i : Nat, i < k → ((i : Int) ∈ F ↔ ¬ Conn (es.take i) (edg es i).1 (edg es i).2)
theorem take_edge {es : List Edge} {i : Int} {k : Nat} (h0 : 0 ≤ i) (h1 : i < k) (h2 : k ≤ es.length) : edg es i ∈ es.take k := by
  obtain ⟨j, rfl⟩ := Int.eq_ofNat_of_zero_le h0
  have hj : j < k := by omega
  have : edg es (j : Int) = (es.take k)[j]'(by simp; omega) := by unfold edg; simp [show j < es.length by omega]
  rw [this]
  exact List.getElem_mem _
theorem edg_nat {es : List Edge} {k : Nat} (h : k < es.length) : edg es (k : Int) = es[k] := by unfold edg; simp [h]
theorem pv_map {G : List Int} {f : Int → Int} {a : Int} (h0 : 0 ≤ a) (h1 : a < G.length) : pv (G.map f) a = f (pv G a) := by
  obtain ⟨j, rfl⟩ := Int.eq_ofNat_of_zero_le h0
  unfold pv
  have : j < G.length := by omega
  simp [this]
theorem take_succ_mem {es : List Edge} {k : Nat} (h : k < es.length) {e : Edge} : e ∈ es.take (k + 1) ↔ e ∈ es.take k ∨ e = es[k] := by
  rw [List.take_succ, List.mem_append]
  simp [h, eq_comm]
theorem fj_same {n : Int} {es : List Edge} {k : Nat} {G F : List Int} (he : EOk n es) (hk : k < es.length) (j : FJ n es k G F) (q : pv G (edg es k).1 = pv G (edg es k).2) : FJ n es (k + 1) G F := by
  have hm := he.ed _ (edg_mem hk)
  refine ⟨j.glen, by have := j.flen; omega, fun i hi => by have := j.rng i hi; omega, j.asc, fun e h => ?_, j.cl, j.pot, fun i hi => ?_⟩
  · rcases (take_succ_mem hk).mp h with z | z
    · exact j.same e z
    · rw [z, ← edg_nat hk]; exact q
  · by_cases e : i < k
    · exact j.ex i e
    · have e2 : i = k := by omega
      subst e2
      constructor
      · intro h; have := j.rng _ h; omega
      · intro h
        refine (h ?_).elim
        have := j.cl (fun x => Conn (es.take i) (edg es i).1 x) (fun f hf => ?_) _ _ hm.1 hm.2.1 hm.2.2.1 hm.2.2.2 q
        · exact this.mp (Conn.refl _)
        · have := j.rng f hf
          have c := Conn.edge (take_edge (es := es) (k := i) this.1 (by omega) (by omega))
          exact ⟨fun z => z.trans c, fun z => z.trans c.symm⟩
theorem fj_new {n : Int} {es : List Edge} {k : Nat} {G F : List Int} (he : EOk n es) (hk : k < es.length) (j : FJ n es k G F) (q : pv G (edg es k).1 ≠ pv G (edg es k).2) : FJ n es (k + 1) (G.map fun y => if y = pv G (edg es k).2 then pv G (edg es k).1 else y) (F ++ [(k : Int)]) := by
  have hm := he.ed _ (edg_mem hk)
  have pg : ∀ a : Int, 0 ≤ a → a < n → pv (G.map fun y => if y = pv G (edg es k).2 then pv G (edg es k).1 else y) a = if pv G a = pv G (edg es k).2 then pv G (edg es k).1 else pv G a := fun a a0 a1 => pv_map a0 (by rw [j.glen]; exact a1)
  refine ⟨by simpa using j.glen, by have := j.flen; simp; omega, fun i hi => ?_, ?_, fun e h => ?_, fun S hS a b a0 a1 b0 b1 e => ?_, fun ds => ?_, fun i hi => ?_⟩
  · rcases List.mem_append.mp hi with z | z
    · have := j.rng i z; omega
    · simp at z; subst z; omega
  · rw [List.pairwise_append]
    refine ⟨j.asc, by simp, fun a ha b hb => ?_⟩
    simp at hb
    have := j.rng a ha
    omega
  · have hne : ∀ a : Int, 0 ≤ a → a < n → pv (G.map fun y => if y = pv G (edg es k).2 then pv G (edg es k).1 else y) a = if pv G a = pv G (edg es k).2 then pv G (edg es k).1 else pv G a := pg
    rcases (take_succ_mem hk).mp h with z | z
    · have h1 := he.ed e (List.mem_of_mem_take z)
      rw [pg _ h1.1 h1.2.1, pg _ h1.2.2.1 h1.2.2.2, j.same e z]
    · rw [z, ← edg_nat hk, pg _ hm.1 hm.2.1, pg _ hm.2.2.1 hm.2.2.2, if_neg q, if_pos rfl]
  · have hS0 : ∀ i ∈ F, S (edg es i).1 ↔ S (edg es i).2 := fun i hi => hS i (by simp [hi])
    have hk2 : S (edg es k).1 ↔ S (edg es k).2 := hS k (by simp)
    rw [pg a a0 a1, pg b b0 b1] at e
    by_cases ha : pv G a = pv G (edg es k).2
    · have sa := j.cl S hS0 a _ a0 a1 hm.2.2.1 hm.2.2.2 ha
      by_cases hb : pv G b = pv G (edg es k).2
      · have sb := j.cl S hS0 b _ b0 b1 hm.2.2.1 hm.2.2.2 hb
        rw [sa, sb]
      · rw [if_pos ha, if_neg hb] at e
        have sb := j.cl S hS0 _ b hm.1 hm.2.1 b0 b1 e
        rw [sa, ← sb, hk2]
    · by_cases hb : pv G b = pv G (edg es k).2
      · have sb := j.cl S hS0 b _ b0 b1 hm.2.2.1 hm.2.2.2 hb
        rw [if_neg ha, if_pos hb] at e
        have sa := j.cl S hS0 a _ a0 a1 hm.1 hm.2.1 e
        rw [sa, sb, hk2]
      · rw [if_neg ha, if_neg hb] at e
        exact j.cl S hS0 a b a0 a1 b0 b1 e
  · obtain ⟨p, hp⟩ := j.pot ds
    refine ⟨fun x => if pv G x = pv G (edg es k).2 then p x + (p (edg es k).1 - pv ds k - p (edg es k).2) else p x, fun i hi => ?_⟩
    rcases List.mem_append.mp hi with z | z
    · have hr := j.rng i z
      have hs := j.same _ (take_edge (k := k) hr.1 hr.2 (by omega))
      have := hp i z
      dsimp only
      rw [hs]
      split <;> omega
    · simp at z
      subst z
      dsimp only
      rw [if_neg q, if_pos rfl]
      omega
  · by_cases e : i < k
    · rw [← j.ex i e, List.mem_append, List.mem_singleton]
      constructor
      · rintro (z | z)
        · exact z
        · omega
      · exact .inl
    · have e2 : i = k := by omega
      subst e2
      refine ⟨fun _ c => q ?_, fun _ => by simp⟩
      have := c.closed (S := fun x => pv G x = pv G (edg es i).1) (fun e he2 => by rw [j.same e he2])
      exact (this.mp rfl).symm
theorem forest_eq {n : Int} {es : List Edge} (h0 : 1 ≤ n) (h1 : n ≤ 30) (h : EOk n es) : ∃ fs, p_forest_of n es = .ok fs ∧ fs.length ≤ es.length ∧ ForestOk n es fs := by
  unfold p_forest_of
  have hl := h.len
  simp only [pur_bnd, rgL_ok (n := n) (by omega) (by omega), lok_bnd]
  have el : (enI 0 es).length = es.length := by unfold enI; simp
  refine ex_then (forM_inv (fun (pre : List (Int × Edge)) (b : List Int × List Int) => FJ n es pre.length b.1 b.2) ⟨by rw [rg_len]; omega, by simp, by simp, by simp, by simp, ?_, fun ds => ⟨fun _ => 0, by simp⟩, by simp⟩ (fun pre x post b e j => ?_)) (fun p hp => ⟨p.2, purE _, by rw [el] at hp; exact hp.flen, ?_⟩)
  · intro S _ a b a0 a1 b0 b1 e
    have pr : ∀ c : Int, 0 ≤ c → c < n → pv (rg 0 n) c = c := fun c c0 c1 => by
      obtain ⟨k, rfl⟩ := Int.eq_ofNat_of_zero_le c0
      unfold pv rg
      simp
      rw [List.getElem?_range (by omega)]
      simp
    have e' : pv (rg 0 n) a = pv (rg 0 n) b := e
    rw [pr a a0 a1, pr b b0 b1] at e'
    rw [e']
  · have hpl : pre.length < es.length := by have := congrArg List.length e; rw [el] at this; simp at this; omega
    have hx : x = ((pre.length : Int), es[pre.length]) := by
      have e1 : (enI 0 es)[pre.length]? = some x := by rw [e]; simp
      unfold enI at e1
      simp [hpl] at e1
      exact e1.symm
    have hg := j.glen
    subst hx
    have he := h.ed _ (List.getElem_mem hpl)
    have i1 : ixL b.1 es[pre.length].1 = .ok (pv b.1 es[pre.length].1) := ixL_lt he.1 (by rw [j.glen]; exact he.2.1)
    have i2 : ixL b.1 es[pre.length].2 = .ok (pv b.1 es[pre.length].2) := ixL_lt he.2.2.1 (by rw [j.glen]; exact he.2.2.2)
    have bl : b.1.length ≤ 10000 := by omega
    have ap : appL b.2 (pre.length : Int) = .ok (b.2 ++ [(pre.length : Int)]) := appL_ok (by have := j.flen; omega)
    dsimp only
    rw [i1, lok_bnd, i2, lok_bnd, lok_bnd]
    have ee := edg_nat hpl
    by_cases q : pv b.1 es[pre.length].1 = pv b.1 es[pre.length].2
    · have : (true ^^ eqB (pv b.1 es[pre.length].1) (pv b.1 es[pre.length].2)) = false := by simp [eqB, q]
      rw [this, if_neg (by decide)]
      refine ⟨_, purE _, ?_⟩
      rw [List.length_append, List.length_singleton]
      exact fj_same h hpl j (by rw [ee]; exact q)
    · have : (true ^^ eqB (pv b.1 es[pre.length].1) (pv b.1 es[pre.length].2)) = true := by simp [eqB, q]
      rw [this, if_pos rfl]
      refine ⟨(b.1.map fun y => if y = pv b.1 es[pre.length].2 then pv b.1 es[pre.length].1 else y, b.2 ++ [(pre.length : Int)]), ?_, ?_⟩
      · rw [ap, lok_bnd]
        refine ok_then (lc_map (fun y => if y = pv b.1 es[pre.length].2 then pv b.1 es[pre.length].1 else y) bl (fun y hy => ?_)) (purE _)
        rw [lok_bnd, lok_bnd]
        by_cases z : y = pv b.1 es[pre.length].2
        · rw [if_pos z, if_pos (by simp [eqB, z]), lftE]
        · rw [if_neg z, if_neg (by simp [eqB, z]), purE]
      · rw [List.length_append, List.length_singleton]
        have := fj_new h hpl j (by rw [ee]; exact q)
        rw [ee] at this
        exact this
  · rw [el] at hp
    refine ⟨hp.rng, hp.asc, hp.pot, fun S hS e he => ?_, hp.ex⟩
    have h1 := h.ed e he
    exact hp.cl S hS _ _ h1.1 h1.2.1 h1.2.2.1 h1.2.2.2 (hp.same e (by simpa using he))
end Lw

set_option Elab.async false
set_option linter.all false
set_option maxRecDepth 100000
set_option maxHeartbeats 1000000
/-! YD: links, paths along the forest, components. -/
namespace Lw
open PySem L2 DL TL
open Mo (pur bnd lft)
structure LinksOk (n : Int) (es : List Edge) (F : List Int) (L : List (List (T3 Int Int Int))) : Prop where
  len : (L.length : Int) = n
  st : ∀ (a : Nat), ∀ x ∈ L.getD a [], StepOk es (x.a, x.b) ∧ ends es (x.a, x.b) = ((a : Int), x.c) ∧ x.a ∈ F
  cl : ∀ S : Int → Prop, (∀ a : Nat, S a → ∀ x ∈ L.getD a [], S x.c) → ∀ e ∈ es, (S e.1 ↔ S e.2)
theorem lput_get {L : Rows} {k a : Nat} {y : Nat × Int × Nat} (hk : k < L.length) : (lput L k y).getD a [] = if a = k then L.getD k [] ++ [y] else L.getD a [] := by
  unfold lput
  rw [List.getD_eq_getElem?_getD]
  by_cases e : a = k
  · subst e; rw [List.getElem?_set_self hk, if_pos rfl]; rfl
  · rw [List.getElem?_set_ne (Ne.symm e), if_neg e, List.getD_eq_getElem?_getD]
def LkM (es : List (Nat × Nat)) (i a : Nat) (x : Nat × Int × Nat) : Prop := (x = (i, 1, (es.getD i (0, 0)).2) ∧ a = (es.getD i (0, 0)).1) ∨ (x = (i, -1, (es.getD i (0, 0)).1) ∧ a = (es.getD i (0, 0)).2)
theorem lstep_mem {es : List (Nat × Nat)} {L : Rows} {i a : Nat} {x : Nat × Int × Nat} (h1 : (es.getD i (0, 0)).1 < L.length) (h2 : (es.getD i (0, 0)).2 < L.length) : x ∈ (lstep es L i).getD a [] ↔ x ∈ L.getD a [] ∨ LkM es i a x := by
  unfold lstep LkM
  rw [lput_get (by rw [lput_len]; exact h2), lput_get h1, lput_get h1]
  by_cases e2 : a = (es.getD i (0, 0)).2
  · rw [if_pos e2]
    by_cases e1 : (es.getD i (0, 0)).2 = (es.getD i (0, 0)).1
    · have e3 : a = (es.getD i (0, 0)).1 := e2.trans e1
      rw [if_pos e1, List.mem_append, List.mem_append, List.mem_singleton, List.mem_singleton, e3, ← e1, or_assoc]
      simp only [and_true]
    · rw [if_neg e1, List.mem_append, List.mem_singleton, ← e2]
      have e3 : ¬ a = (es.getD i (0, 0)).1 := fun z => e1 (e2.symm.trans z)
      simp only [e3, and_false, false_or, and_true]
  · rw [if_neg e2]
    by_cases e1 : a = (es.getD i (0, 0)).1
    · rw [if_pos e1, List.mem_append, List.mem_singleton, ← e1]
      simp only [and_true, e2, and_false, or_false]
    · rw [if_neg e1]
      simp only [e1, e2, and_false, or_false]
theorem links_fold {es : List (Nat × Nat)} {n : Nat} (he : ∀ e ∈ es, e.1 < n ∧ e.2 < n) {a : Nat} {x : Nat × Int × Nat} : ∀ (fs : List Nat) (L : Rows), L.length = n → (∀ i ∈ fs, i < es.length) → (x ∈ (fs.foldl (lstep es) L).getD a [] ↔ x ∈ L.getD a [] ∨ ∃ i ∈ fs, LkM es i a x)
  | [], L, _, _ => by simp
  | i :: fs, L, hl, hf => by
    have hi := hf i (by simp)
    have hm : es.getD i (0, 0) ∈ es := by
      rw [List.getD_eq_getElem?_getD, List.getElem?_eq_getElem hi]; exact List.getElem_mem hi
    have h1 := he _ hm
    rw [List.foldl_cons, links_fold he fs (lstep es L i) (by unfold lstep; rw [lput_len, lput_len]; exact hl) (fun j hj => hf j (by simp [hj])), lstep_mem (by rw [hl]; exact h1.1) (by rw [hl]; exact h1.2), or_assoc]
    simp
theorem linksA_mem {es : List (Nat × Nat)} {n : Nat} {fs : List Nat} (he : ∀ e ∈ es, e.1 < n ∧ e.2 < n) (hf : ∀ i ∈ fs, i < es.length) {a : Nat} {x : Nat × Int × Nat} : x ∈ (linksA n es fs).getD a [] ↔ ∃ i ∈ fs, LkM es i a x := by
  unfold linksA
  rw [links_fold he fs _ (by simp) hf]
  have : (List.replicate n ([] : List (Nat × Int × Nat))).getD a [] = [] := by
    rw [List.getD_eq_getElem?_getD, List.getElem?_replicate]
    split <;> rfl
  rw [this]
  simp
theorem links_eq {n : Int} {es : List Edge} {fs : List Int} (h0 : 1 ≤ n) (h1 : n ≤ 30) (h : EOk n es) (hl : fs.length ≤ es.length) (hF : ForestOk n es fs) : ∃ L, p_links_of n es fs = .ok L ∧ LinksOk n es fs L := by
  have hle := h.len
  have hf := hF.rng
  have e1 : n = cN n.toNat := by unfold cN; omega
  have e2 : es = (es.map fun e => (e.1.toNat, e.2.toNat)).map cE := by
    rw [List.map_map]
    conv => lhs; rw [← List.map_id es]
    apply List.map_congr_left
    intro e he
    have := h.ed e he
    unfold cE
    simp only [Function.comp, id]
    cases e
    simp at this ⊢
    omega
  have e3 : fs = (fs.map Int.toNat).map cN := by
    rw [List.map_map]
    conv => lhs; rw [← List.map_id fs]
    apply List.map_congr_left
    intro i hi
    have := hf i hi
    unfold cN
    simp only [Function.comp, id]
    omega
  have hes : ∀ e ∈ es.map fun e => (e.1.toNat, e.2.toNat), e.1 < n.toNat ∧ e.2 < n.toNat := by
    intro e he
    obtain ⟨d, hd, rfl⟩ := List.mem_map.mp he
    have := h.ed d hd
    dsimp only
    omega
  have hfs : ∀ i ∈ fs.map Int.toNat, i < (es.map fun e => (e.1.toNat, e.2.toNat)).length := by
    intro i hi
    obtain ⟨j, hj, rfl⟩ := List.mem_map.mp hi
    have := hf j hj
    simp; omega
  have ok : LinkOk (cN n.toNat) ((es.map fun e => (e.1.toNat, e.2.toNat)).map cE) ((fs.map Int.toNat).map cN) (n.toNat, es.map fun e => (e.1.toNat, e.2.toNat), fs.map Int.toNat) :=
    ⟨rfl, rfl, rfl, by dsimp only; omega, by simp; omega, hfs, hes⟩
  have := links_val ok
  rw [← e1, ← e2, ← e3] at this
  refine ⟨_, this, ?_⟩
  unfold linksI
  dsimp only
  have gd : ∀ a : Nat, ((linksA n.toNat (es.map fun e => (e.1.toNat, e.2.toNat)) (fs.map Int.toNat)).map (·.map cL)).getD a [] = ((linksA n.toNat (es.map fun e => (e.1.toNat, e.2.toNat)) (fs.map Int.toNat)).getD a []).map cL := fun a => by
    rw [List.getD_eq_getElem?_getD, List.getD_eq_getElem?_getD, List.getElem?_map]
    cases (linksA n.toNat (es.map fun e => (e.1.toNat, e.2.toNat)) (fs.map Int.toNat))[a]? <;> rfl
  have ge : ∀ i : Int, 0 ≤ i → i < es.length → (es.map fun e => (e.1.toNat, e.2.toNat)).getD i.toNat (0, 0) = ((edg es i).1.toNat, (edg es i).2.toNat) := fun i i0 i1 => by
    obtain ⟨k, rfl⟩ := Int.eq_ofNat_of_zero_le i0
    unfold edg
    have : k < es.length := by omega
    simp [this]
  refine ⟨?_, fun a x hx => ?_, fun S hS => hF.cl S fun i hi => ?_⟩
  · rw [List.length_map, (linksA_ok _ _ _).1]; omega
  · rw [gd] at hx
    obtain ⟨y, hy, rfl⟩ := List.mem_map.mp hx
    obtain ⟨j, hj, hm⟩ := (linksA_mem hes hfs).mp hy
    obtain ⟨i, hi, rfl⟩ := List.mem_map.mp hj
    have hr := hf i hi
    have hed := h.ed (edg es i) (by obtain ⟨k, hk⟩ := Int.eq_ofNat_of_zero_le hr.1; rw [hk]; exact edg_mem (by omega))
    unfold LkM at hm
    rw [ge i hr.1 hr.2] at hm
    have hz : ((i.toNat : Nat) : Int) = i := by omega
    rcases hm with ⟨rfl, e⟩ | ⟨rfl, e⟩
    · unfold cL
      dsimp only
      rw [hz]
      refine ⟨⟨hr.1, hr.2, .inl rfl⟩, ?_, hi⟩
      unfold ends
      rw [if_pos rfl]
      apply Prod.ext
      · dsimp only at e ⊢; omega
      · dsimp only; omega
    · unfold cL
      dsimp only
      rw [hz]
      refine ⟨⟨hr.1, hr.2, .inr rfl⟩, ?_, hi⟩
      unfold ends
      rw [if_neg (show ¬ ((-1 : Int) = 1) by decide)]
      apply Prod.ext
      · dsimp only at e ⊢; omega
      · dsimp only; omega
  · have hr := hf i hi
    have hed := h.ed (edg es i) (by obtain ⟨k, hk⟩ := Int.eq_ofNat_of_zero_le hr.1; rw [hk]; exact edg_mem (by omega))
    have m1 : ((i.toNat, (1 : Int), (edg es i).2.toNat) : Nat × Int × Nat) ∈ (linksA n.toNat (es.map fun e => (e.1.toNat, e.2.toNat)) (fs.map Int.toNat)).getD (edg es i).1.toNat [] := (linksA_mem hes hfs).mpr ⟨i.toNat, List.mem_map.mpr ⟨i, hi, rfl⟩, .inl (by rw [ge i hr.1 hr.2]; exact ⟨rfl, rfl⟩)⟩
    have m2 : ((i.toNat, (-1 : Int), (edg es i).1.toNat) : Nat × Int × Nat) ∈ (linksA n.toNat (es.map fun e => (e.1.toNat, e.2.toNat)) (fs.map Int.toNat)).getD (edg es i).2.toNat [] := (linksA_mem hes hfs).mpr ⟨i.toNat, List.mem_map.mpr ⟨i, hi, rfl⟩, .inr (by rw [ge i hr.1 hr.2]; exact ⟨rfl, rfl⟩)⟩
    have c1 : (((edg es i).1.toNat : Nat) : Int) = (edg es i).1 := by omega
    have c2 : (((edg es i).2.toNat : Nat) : Int) = (edg es i).2 := by omega
    constructor
    · intro s
      have := hS (edg es i).1.toNat (by rw [c1]; exact s) (cL (i.toNat, 1, (edg es i).2.toNat)) (by rw [gd]; exact List.mem_map.mpr ⟨_, m1, rfl⟩)
      unfold cL at this
      dsimp only at this
      rw [c2] at this
      exact this
    · intro s
      have := hS (edg es i).2.toNat (by rw [c2]; exact s) (cL (i.toNat, -1, (edg es i).1.toNat)) (by rw [gd]; exact List.mem_map.mpr ⟨_, m2, rfl⟩)
      unfold cL at this
      dsimp only at this
      rw [c1] at this
      exact this
/-! ### paths -/
abbrev PD := Dc (List (Int × Int))
structure WJ (n : Nat) (es : List Edge) (F : List Int) (s : Int) (d : PD) : Prop where
  lead : ∀ p ∈ d.kv, Leads es s p.2 p.1
  inF : ∀ p ∈ d.kv, ∀ t ∈ p.2, t.1 ∈ F
  len : ∀ p ∈ d.kv, p.2.length < d.kv.length
  nd : (dkeys d).Nodup
  rng : ∀ p ∈ d.kv, 0 ≤ p.1 ∧ p.1 < n
  st : (s, []) ∈ d.kv
theorem WJ.sz {n : Nat} {es : List Edge} {F : List Int} {s : Int} {d : PD} (h : WJ n es F s d) : d.kv.length ≤ n := by
  have := pigeon n (dkeys d) h.nd (fun x hx => by
    obtain ⟨p, hp, rfl⟩ := List.mem_map.mp hx
    exact h.rng p hp)
  unfold dkeys at this
  simpa using this
theorem wj_put {n : Nat} {es : List Edge} {F : List Int} {s : Int} {d : PD} {a b : Int} {v : List (Int × Int)} {t : Int × Int} (h : WJ n es F s d) (hv : (a, v) ∈ d.kv) (ht : Leads es a [t] b) (hF : t.1 ∈ F) (hb : b ∉ dkeys d) (b0 : 0 ≤ b) (b1 : b < n) : WJ n es F s ⟨d.kv ++ [(b, v ++ [t])]⟩ := by
  refine ⟨fun p hp => ?_, fun p hp => ?_, fun p hp => ?_, ?_, fun p hp => ?_, by simp [h.st]⟩
  · rcases List.mem_append.mp hp with z | z
    · exact h.lead p z
    · simp at z; subst z; exact (h.lead _ hv).app ht
  · rcases List.mem_append.mp hp with z | z
    · exact h.inF p z
    · simp at z; subst z
      intro q hq
      rcases List.mem_append.mp hq with y | y
      · exact h.inF _ hv q y
      · simp at y; subst y; exact hF
  · rcases List.mem_append.mp hp with z | z
    · have := h.len p z; simp; omega
    · simp at z; subst z; have := h.len _ hv; simp at this ⊢; omega
  · unfold dkeys
    rw [List.map_append, List.nodup_append]
    refine ⟨h.nd, by simp, fun x hx y hy => ?_⟩
    simp at hy
    subst hy
    intro z
    subst z
    exact hb hx
  · rcases List.mem_append.mp hp with z | z
    · exact h.rng p z
    · simp at z; subst z; exact ⟨b0, b1⟩
structure IJ (n : Nat) (es : List Edge) (F : List Int) (s : Int) (d0 d : PD) (ll : List Int) : Prop where
  wj : WJ n es F s d
  ext : ∀ k ∈ dkeys d0, k ∈ dkeys d
  new : ∀ k ∈ dkeys d, k ∈ dkeys d0 ∨ k ∈ ll
  lat : ∀ k ∈ ll, k ∈ dkeys d
  len : d.kv.length = d0.kv.length + ll.length
theorem key_val {d : PD} {k : Int} (h : k ∈ dkeys d) : ∃ v, (k, v) ∈ d.kv := by
  obtain ⟨p, hp, rfl⟩ := List.mem_map.mp h
  exact ⟨p.2, hp⟩
structure WpOk (n : Nat) (es : List Edge) (F : List Int) (s : Int) (d : Fd (List (Int × Int))) : Prop where
  wj : WJ n es F s d.dc
  key : ∀ b, b ∈ dkeys d.dc ↔ Conn es s b
theorem walk_paths_eq {n : Nat} {es : List Edge} {F : List Int} {L : List (List (T3 Int Int Int))} {s : Int} (hn : n ≤ 500) (he : ∀ e ∈ es, 0 ≤ e.1 ∧ e.1 < (n : Int) ∧ 0 ≤ e.2 ∧ e.2 < (n : Int)) (hL : LinksOk n es F L) (s0 : 0 ≤ s) (s1 : s < n) : ∃ d, p_walk_paths L s = .ok d ∧ WpOk n es F s d := by
  unfold p_walk_paths
  have hlen : L.length = n := by have := hL.len; omega
  have step1 : ∃ k b, whileM (m := E) (fun (b3 : (PD × (List Int))) => pur (!b3.2.isEmpty)) (fun (b3 : (PD × (List Int))) => bnd (pur ([] : List Int)) fun (later4 : (List Int)) => bnd (pur b3.2) fun xs16 => bnd (forM (fun (b5 : (PD × (List Int))) (x6 : Int) => bnd (lft (ixL L x6)) fun xs15 => bnd (forM (fun (b7 : (PD × (List Int))) (x8 : (T3 Int Int Int)) => bnd (pur (true ^^ dhas b7.1 x8.c)) fun z => if z = true then (bnd (bnd (lft (dget b7.1 x6)) fun xs9 => bnd (pur ([(x8.a, x8.b)] : List (Int × Int))) fun ys10 => lft (catL xs9 ys10)) fun v11 => bnd (lft (dput b7.1 x8.c v11)) fun paths12 => bnd (pur x8.c) fun v13 => bnd (lft (appL b7.2 v13)) fun later14 => pur (paths12, later14)) else (pur (b7.1, b7.2))) xs15 (b5.1, b5.2)) fun (b7 : (PD × (List Int))) => pur (b7.1, b7.2)) xs16 (b3.1, later4)) fun (b5 : (PD × (List Int))) => pur (b5.1, b5.2)) 1000 ((⟨[(s, ([] : List (Int × Int)))]⟩ : PD), [s]) = .ok b ∧ (WJ n es F s b.1 ∧ (∀ y ∈ b.2, y ∈ dkeys b.1) ∧ (∀ a ∈ dkeys b.1, a ∉ b.2 → ∀ x ∈ L.getD a.toNat [], x.c ∈ dkeys b.1) ∧ (b.2 ≠ [] → k + 1 ≤ b.1.kv.length)) ∧ (pur (!b.2.isEmpty) : E Bool) = .ok false := by
    refine whileM_inv (fun k (b : PD × List Int) => WJ n es F s b.1 ∧ (∀ y ∈ b.2, y ∈ dkeys b.1) ∧ (∀ a ∈ dkeys b.1, a ∉ b.2 → ∀ x ∈ L.getD a.toNat [], x.c ∈ dkeys b.1) ∧ (b.2 ≠ [] → k + 1 ≤ b.1.kv.length)) n (by omega) ⟨⟨?_, ?_, ?_, ?_, ?_, by simp⟩, ?_, ?_, ?_⟩ (fun k b j => ?_)
    · intro p hp; simp at hp; subst hp; rfl
    · intro p hp; simp at hp; subst hp; simp
    · intro p hp; simp at hp; subst hp; simp
    · simp [dkeys]
    · intro p hp; simp at hp; subst hp; exact ⟨s0, s1⟩
    · intro y hy; simp [dkeys] at hy ⊢; exact hy
    · intro a ha hb; simp [dkeys] at ha hb; exact (hb ha).elim
    · simp
    · obtain ⟨d0, lev⟩ := b
      obtain ⟨jw, jl, jc, jk⟩ := j
      dsimp only at jw jl jc jk ⊢
      refine ⟨!lev.isEmpty, purE _, fun hz => ?_⟩
      have hne : lev ≠ [] := by intro z; subst z; simp at hz
      have hk := jk hne
      have hsz := jw.sz
      refine ⟨by omega, ?_⟩
      rw [pur_bnd, pur_bnd]
      refine ex_then (J := fun (b : PD × List Int) => IJ n es F s d0 b.1 b.2 ∧ ∀ y ∈ lev, ∀ x ∈ L.getD y.toNat [], x.c ∈ dkeys b.1) ?_ (fun b hb => ⟨_, purE _, hb.1.wj, hb.1.lat, fun a ha hn x hx => ?_, fun hne2 => ?_⟩)
      · refine forM_inv (fun (pre : List Int) (b : PD × List Int) => IJ n es F s d0 b.1 b.2 ∧ ∀ y ∈ pre, ∀ x ∈ L.getD y.toNat [], x.c ∈ dkeys b.1) ⟨⟨jw, fun k h => h, fun k h => .inl h, by simp, by simp⟩, by simp⟩ (fun pre y post b e j => ?_)
        obtain ⟨jb, jd⟩ := j
        have hy : y ∈ dkeys d0 := jl y (by rw [e]; simp)
        obtain ⟨v0, hv0⟩ := key_val hy
        have yr := jw.rng _ hv0
        dsimp only at yr
        have i1 : ixL L y = .ok (L.getD y.toNat []) := ixL_lt yr.1 (by rw [hL.len]; exact yr.2)
        rw [i1, lok_bnd]
        have ycast : ((y.toNat : Nat) : Int) = y := by omega
        refine ex_then (J := fun (b' : PD × List Int) => IJ n es F s d0 b'.1 b'.2 ∧ (∀ k ∈ dkeys b.1, k ∈ dkeys b'.1) ∧ ∀ x ∈ L.getD y.toNat [], x.c ∈ dkeys b'.1) ?_ (fun b' hb => ⟨_, purE _, hb.1, fun z hz x hx => ?_⟩)
        · refine forM_inv (fun (pre2 : List (T3 Int Int Int)) (b' : PD × List Int) => IJ n es F s d0 b'.1 b'.2 ∧ (∀ k ∈ dkeys b.1, k ∈ dkeys b'.1) ∧ ∀ x ∈ pre2, x.c ∈ dkeys b'.1) ⟨jb, fun k h => h, by simp⟩ (fun pre2 x post2 b' e2 j2 => ?_)
          obtain ⟨ja, jx, jp⟩ := j2
          obtain ⟨d, lat⟩ := b'
          dsimp only at ja jx jp ⊢
          have hx : x ∈ L.getD y.toNat [] := by rw [e2]; simp
          obtain ⟨x1, x2, x3⟩ := hL.st y.toNat x hx
          rw [pur_bnd, Bool.true_xor]
          cases q : dhas d x.c with
          | true =>
            rw [if_neg (by simp)]
            refine ⟨_, purE _, ja, jx, fun z hz => ?_⟩
            rcases List.mem_append.mp hz with z' | z'
            · exact jp z z'
            · simp at z'; subst z'; exact dhas_keys.mp q
          | false =>
            rw [if_pos (by simp)]
            have hyd : y ∈ dkeys d := ja.ext y hy
            obtain ⟨v, hv⟩ := key_val hyd
            have g1 : dget d y = .ok v := dget_mem ja.wj.nd hv
            have sz := ja.wj.sz
            have vl := ja.wj.len _ hv
            dsimp only at vl
            have g2 : catL v [(x.a, x.b)] = .ok (v ++ [(x.a, x.b)]) := catL_ok (by simp; omega)
            have g3 : dput d x.c (v ++ [(x.a, x.b)]) = .ok ⟨d.kv ++ [(x.c, v ++ [(x.a, x.b)])]⟩ := dput_new q (by omega)
            have hll := ja.len
            have g4 : appL lat x.c = .ok (lat ++ [x.c]) := appL_ok (by omega)
            rw [g1, lok_bnd, pur_bnd, g2]
            rw [show (lft (E.ok (v ++ [(x.a, x.b)])) : E _) = .ok (v ++ [(x.a, x.b)]) from lftE _, ok_bndE, g3, lok_bnd, pur_bnd, g4, lok_bnd]
            have hnot : x.c ∉ dkeys d := fun z => by have := dhas_keys.mpr z; rw [q] at this; cases this
            have lead1 : Leads es y [(x.a, x.b)] x.c := by
              have := Leads.one x1
              rw [x2, ycast] at this
              exact this
            have hcr : 0 ≤ x.c ∧ x.c < (n : Int) := by
              have hm := he _ (step_mem x1)
              dsimp only at hm
              have h2 : (ends es (x.a, x.b)).2 = x.c := by rw [x2]
              unfold ends at h2
              dsimp only at h2
              by_cases w : x.b = 1
              · rw [if_pos w] at h2; omega
              · rw [if_neg w] at h2; omega
            have keq : ∀ k, k ∈ dkeys (⟨d.kv ++ [(x.c, v ++ [(x.a, x.b)])]⟩ : PD) ↔ k ∈ dkeys d ∨ k = x.c := fun k => by
              unfold dkeys
              rw [List.map_append, List.mem_append]
              simp
            refine ⟨_, purE _, ⟨wj_put ja.wj hv lead1 x3 hnot hcr.1 hcr.2, fun k hk => ?_, fun k hk => ?_, fun k hk => ?_, ?_⟩, fun k hk => ?_, fun z hz => ?_⟩
            · exact (keq k).mpr (.inl (ja.ext k hk))
            · rcases (keq k).mp hk with z | z
              · rcases ja.new k z with u | u
                · exact .inl u
                · exact .inr (by simp [u])
              · exact .inr (by simp [z])
            · rcases List.mem_append.mp hk with z | z
              · exact (keq k).mpr (.inl (ja.lat k z))
              · simp at z; exact (keq k).mpr (.inr z)
            · simp; omega
            · exact (keq k).mpr (.inl (jx k hk))
            · rcases List.mem_append.mp hz with u | u
              · exact (keq _).mpr (.inl (jp z u))
              · simp at u; subst u; exact (keq _).mpr (.inr rfl)
        · rcases List.mem_append.mp hz with u | u
          · exact hb.2.1 _ (jd z u x hx)
          · simp at u; subst u; exact hb.2.2 x hx
      · rcases hb.1.new a ha with u | u
        · by_cases v : a ∈ lev
          · exact hb.2 a v x hx
          · exact hb.1.ext _ (jc a u v x hx)
        · exact (hn u).elim
      · have := hb.1.len
        have : 0 < b.2.length := List.length_pos_iff.mpr hne2
        show k + 1 + 1 ≤ b.1.kv.length
        omega
  obtain ⟨k, b, e1, ⟨j1, j2, j3, j4⟩, e2⟩ := step1
  have hemp : b.2 = [] := by
    rw [purE] at e2
    have : (!b.2.isEmpty) = false := E.ok.inj e2
    simpa using this
  rw [pur_bnd, e1, ok_bndE]
  refine ⟨_, purE _, ⟨j1, fun x => ?_⟩⟩
  have hcl := hL.cl (fun a => a ∈ dkeys b.1) (fun a ha x hx => j3 a ha (by rw [hemp]; simp) x (by rw [Int.toNat_natCast]; exact hx))
  constructor
  · intro h
    obtain ⟨v, hv⟩ := key_val h
    exact ⟨v, j1.lead _ hv⟩
  · intro c
    exact (c.closed (S := fun a => a ∈ dkeys b.1) hcl).mp (List.mem_map.mpr ⟨_, j1.st, rfl⟩)
/-! ### components -/
theorem srt_perm (xs : List Int) : (srt xs).Perm xs := List.mergeSort_perm _ _
theorem srt_le (xs : List Int) : (srt xs).Pairwise (· ≤ ·) := by
  have := List.pairwise_mergeSort (le := fun a b : Int => decide (a ≤ b)) (fun a b c h1 h2 => by simp at h1 h2 ⊢; omega) (fun a b => by simp; omega) xs
  exact this.imp (fun h => by simpa using h)
theorem srt_asc {xs : List Int} (h : xs.Nodup) : (srt xs).Pairwise (· < ·) ∧ ∀ x, x ∈ srt xs ↔ x ∈ xs := by
  have p := srt_perm xs
  exact ⟨nodup_le_asc (srt_le xs) (p.nodup_iff.mpr h), fun x => p.mem_iff⟩
theorem comp_keys {n : Nat} {es : List Edge} {F : List Int} {s : Int} {d : Fd (List (Int × Int))} (h : WpOk n es F s d) : srt (d.kv.map (Prod.fst : Int × List (Int × Int) → Int)) = compOf n es s := by
  obtain ⟨a, b⟩ := srt_asc (xs := d.kv.map Prod.fst) h.wj.nd
  refine asc_ext a (compOf_asc _ _ _) (fun x => ?_)
  rw [b, mem_compOf]
  constructor
  · intro hx
    obtain ⟨p, hp, rfl⟩ := List.mem_map.mp hx
    exact ⟨h.wj.rng p hp, ⟨p.2, h.wj.lead p hp⟩⟩
  · intro hx
    exact (h.key x).mpr hx.2
structure CJ (n : Nat) (es : List Edge) (pre : List Int) (b : List (List Int) × Dc Bool) : Prop where
  fd : b.1 = (pre.filter (isFst es)).map (compOf n es)
  nd : (dkeys b.2).Nodup
  rng : ∀ k ∈ dkeys b.2, 0 ≤ k ∧ k < n
  key : ∀ k : Int, 0 ≤ k → k < n → (k ∈ dkeys b.2 ↔ ∃ a ∈ pre, Conn es a k)
theorem rg_split {n : Int} {pre post : List Int} {x : Int} (e : rg 0 n = pre ++ x :: post) : ∀ b, b ∈ pre ↔ 0 ≤ b ∧ b < x := by
  have h := rg_asc n
  rw [e, List.pairwise_append] at h
  obtain ⟨h1, h2, h3⟩ := h
  have hx : 0 ≤ x ∧ x < n := rg_mem.mp (by rw [e]; simp)
  intro b
  constructor
  · intro hb
    have : b ∈ rg 0 n := by rw [e]; simp [hb]
    exact ⟨(rg_mem.mp this).1, h3 b hb x (by simp)⟩
  · intro hb
    have : b ∈ rg 0 n := rg_mem.mpr ⟨hb.1, by omega⟩
    rw [e] at this
    rcases List.mem_append.mp this with z | z
    · exact z
    · rcases List.mem_cons.mp z with z | z
      · omega
      · have := (List.pairwise_cons.mp h2).1 b z
        omega
theorem eq_of_ex {α : Type} {x : E α} {v : α} (h : ∃ p, x = .ok p ∧ p = v) : x = .ok v := by obtain ⟨p, h1, h2⟩ := h; rw [h1, h2]
theorem components_eq {n : Nat} {es : List Edge} {F : List Int} {L : List (List (T3 Int Int Int))} (hn : n ≤ 63) (he : ∀ e ∈ es, 0 ≤ e.1 ∧ e.1 < (n : Int) ∧ 0 ≤ e.2 ∧ e.2 < (n : Int)) (hL : LinksOk n es F L) : p_components_of L = .ok (comps n es) := by
  unfold p_components_of
  have hlen : L.length = n := by have := hL.len; omega
  simp only [pur_bnd, hlen, Bool.true_xor]
  rw [rgW_ok (by omega) (by omega) (by omega) (by omega), lok_bnd]
  refine eq_of_ex (ex_then (forM_inv (fun (pre : List Int) (b : List (List Int) × Dc Bool) => CJ n es pre b) ⟨rfl, by simp [dkeys], by simp [dkeys], by simp [dkeys]⟩ (fun pre x post b e j => ?_)) (fun b hb => ⟨b.1, purE _, hb.fd⟩))
  · have hx : 0 ≤ x ∧ x < (n : Int) := rg_mem.mp (by rw [e]; simp)
    have hp := rg_split e
    have hpl : pre.length ≤ n := by have := congrArg List.length e; rw [rg_len] at this; simp at this; omega
    have fc : (x ∈ dkeys b.2) ↔ isFst es x = false := by
      rw [j.key x hx.1 hx.2]
      constructor
      · rintro ⟨a, ha, c⟩
        cases q : isFst es x with
        | false => rfl
        | true => exact (isFst_iff.mp q a ((hp a).mp ha).1 ((hp a).mp ha).2 c).elim
      · intro q
        apply Classical.byContradiction
        intro z
        have : isFst es x = true := isFst_iff.mpr (fun a a0 a1 c => z ⟨a, (hp a).mpr ⟨a0, a1⟩, c⟩)
        rw [q] at this; cases this
    cases q : dhas b.2 x with
    | true =>
      rw [if_neg (by simp)]
      have hf := fc.mp (dhas_keys.mp q)
      refine ⟨_, purE _, ⟨?_, j.nd, j.rng, fun k k0 k1 => ?_⟩⟩
      · rw [List.filter_append, List.map_append, ← j.fd]; simp [hf]
      · rw [j.key k k0 k1]
        constructor
        · rintro ⟨a, ha, c⟩; exact ⟨a, by simp [ha], c⟩
        · rintro ⟨a, ha, c⟩
          rcases List.mem_append.mp ha with z | z
          · exact ⟨a, z, c⟩
          · simp at z; subst z
            obtain ⟨a', ha', c'⟩ := (j.key a hx.1 hx.2).mp (dhas_keys.mp q)
            exact ⟨a', ha', c'.trans c⟩
    | false =>
      rw [if_pos (by simp)]
      have hnk : x ∉ dkeys b.2 := fun z => by have := dhas_keys.mpr z; rw [q] at this; cases this
      have hf : isFst es x = true := by
        cases z : isFst es x with
        | true => rfl
        | false => exact (hnk (fc.mpr z)).elim
      obtain ⟨d, w1, w2⟩ := walk_paths_eq (by omega) he hL hx.1 hx.2
      have sz := w2.wj.sz
      have ck := comp_keys w2
      have cl := compOf_len n es x
      have g1 : srtL (d.kv.map (Prod.fst : Int × List (Int × Int) → Int)) = .ok (compOf n es x) := by
        unfold srtL
        rw [if_pos (by simp; exact Nat.lt_of_le_of_lt sz (by omega)), ck]
      have dn : (compOf n es x).Nodup := asc_nodup (compOf_asc _ _ _)
      have g2 : dcM (m := E) (compOf n es x) (fun _ => pur true) (fun x => pur x) (fun _ => pur true) = .ok ⟨(compOf n es x).map fun y => (y, true)⟩ := by
        unfold dcM
        rw [compD_new _ _ (by simpa [dkeys] using dn) (by simp; omega)]
        simp
      have dl : (dkeys b.2).length ≤ n := pigeon n _ j.nd (fun k hk => j.rng k hk)
      have dl2 : b.2.kv.length ≤ n := by unfold dkeys at dl; simpa using dl
      have g3 : dupd b.2 ⟨(compOf n es x).map fun y => (y, true)⟩ = .ok (dupdV b.2 ⟨(compOf n es x).map fun y => (y, true)⟩) := by
        unfold dupd
        rw [if_pos (sl_small (by simp; omega))]
      have fl : b.1.length ≤ n := by
        rw [j.fd, List.length_map]
        have := List.length_filter_le (isFst es) pre
        omega
      have g4 : appL b.1 (compOf n es x) = .ok (b.1 ++ [compOf n es x]) := appL_ok (by omega)
      rw [w1, lok_bnd, g1]
      rw [show (lft (E.ok (compOf n es x)) : E _) = .ok (compOf n es x) from lftE _, ok_bndE, g2, ok_bndE, g3, lok_bnd, g4, lok_bnd]
      obtain ⟨k1, k2⟩ := dupd_keys ((compOf n es x).map fun y => (y, true)) b.2 j.nd
      refine ⟨_, purE _, ⟨?_, k1, fun k hk => ?_, fun k k0 k9 => ?_⟩⟩
      · rw [List.filter_append, List.map_append, ← j.fd]; simp [hf]
      · rcases (k2 k).mp hk with z | z
        · exact j.rng k z
        · simp at z; exact (mem_compOf.mp z).1
      · refine (k2 k).trans ?_
        rw [j.key k k0 k9]
        constructor
        · rintro (⟨a, ha, c⟩ | z)
          · exact ⟨a, by simp [ha], c⟩
          · simp at z; exact ⟨x, by simp, (mem_compOf.mp z).2⟩
        · rintro ⟨a, ha, c⟩
          rcases List.mem_append.mp ha with z | z
          · exact .inl ⟨a, z, c⟩
          · simp at z; subst z
            exact .inr (by simp; exact mem_compOf.mpr ⟨⟨k0, k9⟩, c⟩)
end Lw

set_option Elab.async false
set_option linter.all false
set_option maxRecDepth 100000
set_option maxHeartbeats 1000000
/-! YE: systems: levels, bad cycles, what is solved. -/
namespace Lw
open PySem L2 DL TL
open Mo (pur bnd lft)
def prs (rows : List (T3 Int Int Int)) : List Edge := rows.map fun r => (r.a, r.b)
def dfs (rows : List (T3 Int Int Int)) : List Int := rows.map (·.c)
structure SOk (n : Nat) (F : List Int) (s : OSystem) : Prop where
  n1 : 1 ≤ n
  n2 : n ≤ 30
  m0 : 0 ≤ s.own_modulus
  ed : EOk n (prs s.rows)
  fo : ForestOk n (prs s.rows) F
  lk : LinksOk n (prs s.rows) F s.links
  gr : s.groups = comps n (prs s.rows)
theorem SOk.rl {n : Nat} {F : List Int} {s : OSystem} (h : SOk n F s) : s.rows.length ≤ 60 := by have := h.ed.len; unfold prs at this; simpa using this
section
variable {n : Nat} {F : List Int} {s : OSystem}
structure LvG (n : Nat) (F : List Int) (s : OSystem) (a x : Int) : Prop where
  ex : ∃ f ∈ firsts n (prs s.rows), ∃ w, Leads (prs s.rows) f w a ∧ (∀ t ∈ w, t.1 ∈ F) ∧ x = (0 - wsum (dfs s.rows) w) % s.own_modulus ∧ (a = f → w = [])
theorem forM_map {α β γ : Type} (st : β → γ → E β) (g : α → γ) : ∀ (xs : List α) (b : β), forM st (xs.map g) b = forM (fun b x => st b (g x)) xs b
  | [], b => rfl
  | x :: xs, b => by
    rw [List.map_cons, TL.forM, TL.forM]
    congr 1
    funext b'
    exact forM_map st g xs b'
structure LvOk (n : Nat) (F : List Int) (s : OSystem) (lv : List Int) : Prop where
  len : (lv.length : Int) = n
  res : ∀ x ∈ lv, isres s.own_modulus x = true
  lev : ∀ a : Int, 0 ≤ a → a < n → LvG n F s a (pv lv a)
theorem pv_mem {p : List Int} {a : Int} (h0 : 0 ≤ a) (h1 : a < p.length) : pv p a ∈ p := by
  obtain ⟨k, rfl⟩ := Int.eq_ofNat_of_zero_le h0
  have : k < p.length := by omega
  unfold pv
  simp [this]
/-- levels by a potential of the forest -/
theorem LvOk.pot {lv : List Int} (h : SOk n F s) (hl : LvOk n F s lv) {q : Int → Int} (hq : ∀ i ∈ F, q (edg (prs s.rows) i).1 - q (edg (prs s.rows) i).2 = pv (dfs s.rows) i) {a b : Int} (a0 : 0 ≤ a) (a1 : a < n) (b0 : 0 ≤ b) (b1 : b < n) (c : Conn (prs s.rows) a b) : s.own_modulus ∣ (pv lv a - pv lv b) - (q a - q b) := by
  obtain ⟨f, f1, w, w1, w2, w3, _⟩ := (hl.lev a a0 a1).ex
  obtain ⟨g, g1, v, v1, v2, v3, _⟩ := (hl.lev b b0 b1).ex
  have efg : f = g := fst_uniq f1 g1 (Conn.trans ⟨w, w1⟩ (c.trans (Conn.symm ⟨v, v1⟩)))
  subst efg
  have t1 := tele (m := 0) (ds := dfs s.rows) (q := q) w1 (fun t ht => by rw [hq _ (w2 t ht)]; simp)
  have t2 := tele (m := 0) (ds := dfs s.rows) (q := q) v1 (fun t ht => by rw [hq _ (v2 t ht)]; simp)
  have t1 := Int.zero_dvd.mp t1
  have t2 := Int.zero_dvd.mp t2
  have c1 := cg_mod s.own_modulus (0 - wsum (dfs s.rows) w)
  have c2 := cg_symm (cg_mod s.own_modulus (0 - wsum (dfs s.rows) v))
  rw [← w3] at c1
  rw [← v3] at c2
  have := Int.dvd_add c1 c2
  rw [show pv lv a - (0 - wsum (dfs s.rows) w) + (0 - wsum (dfs s.rows) v - pv lv b) = (pv lv a - pv lv b) - (q a - q b) by omega] at this
  exact this
theorem LvOk.fst {lv : List Int} (h : SOk n F s) (hl : LvOk n F s lv) {f : Int} (hf : f ∈ firsts n (prs s.rows)) : pv lv f = 0 := by
  have hr := (mem_firsts.mp hf).1
  obtain ⟨g, g1, w, w1, _, w3, w4⟩ := (hl.lev f hr.1 hr.2).ex
  have : f = g := (fst_uniq g1 hf ⟨w, w1⟩).symm
  rw [w4 this] at w3
  rw [w3]
  unfold wsum
  simp
/-- a potential fits the rows -/
def Fits (s : OSystem) (p : List Int) : Prop := ∀ r ∈ s.rows, s.own_modulus ∣ pv p r.a - pv p r.b - r.c
structure BadC (s : OSystem) (w : List (Int × Int)) : Prop where
  ne : w ≠ []
  len : w.length ≤ 31
  lead : ∃ a, Leads (prs s.rows) a w a
  sum : ¬ s.own_modulus ∣ wsum (dfs s.rows) w
/-! ### solved -/
structure FixB (s : OSystem) (fx : List Int) (w : List (Int × Int)) : Prop where
  ne : w ≠ []
  len : w.length ≤ 31
  lead : ∃ a b, a ∈ fx ∧ b ∈ fx ∧ a ≠ b ∧ Leads (prs s.rows) a w b
  sum : ¬ s.own_modulus ∣ wsum (dfs s.rows) w
structure PotOk (n : Nat) (s : OSystem) (fx : List Int) (p : List Int) : Prop where
  len : (p.length : Int) = n
  res : ∀ x ∈ p, isres s.own_modulus x = true
  fit : Fits s p
  fix : ∀ x ∈ fx, pv p x = 0
  fst : ∀ f ∈ firsts n (prs s.rows), (∀ x ∈ fx, ¬ Conn (prs s.rows) f x) → pv p f = 0
structure GrG (n : Nat) (s : OSystem) (fx lv b : List Int) (f : Int) : Prop where
  ex : ∃ c, (∀ a ∈ compOf n (prs s.rows) f, pv b a = (pv lv a - c) % s.own_modulus) ∧ (∀ x ∈ fx, x ∈ compOf n (prs s.rows) f → pv b x = 0) ∧ ((∀ x ∈ fx, x ∉ compOf n (prs s.rows) f) → c = 0)
structure GJ (n : Nat) (s : OSystem) (fx lv : List Int) (pre b : List Int) : Prop where
  len : (b.length : Int) = n
  res : ∀ x ∈ b, isres s.own_modulus x = true
  old : ∀ f ∈ pre, GrG n s fx lv b f
  new : ∀ f ∈ firsts n (prs s.rows), f ∉ pre → ∀ a ∈ compOf n (prs s.rows) f, pv b a = pv lv a
end
end Lw

set_option Elab.async false
set_option linter.all false
set_option maxRecDepth 100000
set_option maxHeartbeats 1000000
/-! YF: a Web made; transform. -/
namespace Lw
open PySem L2 DL TL
open Mo (pur bnd lft)
structure WebOk (w : OWeb) : Prop extends WOk w where
  fo : ForestOk w.own_size w.own_edges w.own_forest
  lk : LinksOk w.own_size w.own_edges w.own_forest w.links
  m2 : w.own_modulus ≠ 1
theorem WOk.eok {w : OWeb} (h : WOk w) : EOk w.own_size w.own_edges := ⟨h.len, h.ed⟩
/-! ### fixed nodes -/
structure FxOk (w : OWeb) (fx : SqI) : Prop where
  rng : ∀ x ∈ fx.xs, 0 ≤ x ∧ x < w.own_size
  nd : fx.xs.Nodup
theorem FxOk.len {w : OWeb} {fx : SqI} (hw : WOk w) (h : FxOk w fx) : fx.xs.length ≤ 30 := by
  have s0 := hw.s0
  have s1 := hw.s1
  have := pigeon w.own_size.toNat fx.xs h.nd (fun x hx => by have := h.rng x hx; omega)
  omega
/-! ### rows of differences -/
theorem rg_get {n : Nat} {k : Nat} (h : k < n) : (rg 0 (n : Int))[k]? = some (k : Int) := by
  unfold rg
  simp [h]
/-! ### transform -/
structure CycW (w : OWeb) (b a : List Int) (l : List (Int × Int)) : Prop where
  ne : l ≠ []
  len : l.length ≤ 31
  lead : ∃ x, Leads w.own_edges x l x
  sum : ¬ w.own_modulus ∣ wsum a l - wsum b l
structure FixW (w : OWeb) (b a : List Int) (fx : List Int) (l : List (Int × Int)) : Prop where
  ne : l ≠ []
  len : l.length ≤ 31
  lead : ∃ x y, x ∈ fx ∧ y ∈ fx ∧ x ≠ y ∧ Leads w.own_edges x l y
  sum : ¬ w.own_modulus ∣ wsum a l - wsum b l
structure PotW (w : OWeb) (b a : List Int) (fx : List Int) (p : List Int) : Prop where
  pt : Pt w p
  sw : swL w.own_modulus w.own_edges b p = a
  fix : ∀ x ∈ fx, pv p x = 0
  fst : ∀ f ∈ firsts w.own_size w.own_edges, (∀ x ∈ fx, ¬ Conn w.own_edges f x) → pv p f = 0
/-! ### what can be reached -/
def Rch (w : OWeb) (b a : List Int) : Prop := ∃ p, Pt w p ∧ swL w.own_modulus w.own_edges b p = a
theorem led_uniq' {w : OWeb} {g0 g g' : List Int} {A B : Int → Int} (hw : WOk w) (h : Led w g0 A g) (h' : Led w g0 B g') (e : ∀ i, 0 ≤ i → i < w.own_size → w.own_modulus ∣ A i - B i) : g = g' := by
  refine gains_ext hw h.gd h'.gd (fun k hk => ?_)
  have he := hw.ed _ (edg_mem hk)
  have c1 := h.eq k hk
  have c2 := cg_symm (h'.eq k hk)
  have c3 := e _ he.1 he.2.1
  have c4 := cg_symm (e _ he.2.2.1 he.2.2.2)
  have := Int.dvd_add (Int.dvd_add c1 c2) (Int.dvd_add c3 c4)
  have key : ∀ x y z a b c d : Int, x - (y + a - b) + (y + c - d - z) + (a - c + (d - b)) = x - z + 2 * (d - b) - 2 * (d - b) := by intros; omega
  rw [show pv g ↑k - (pv g0 ↑k + A (edg w.own_edges ↑k).1 - A (edg w.own_edges ↑k).2) + (pv g0 ↑k + B (edg w.own_edges ↑k).1 - B (edg w.own_edges ↑k).2 - pv g' ↑k) + (A (edg w.own_edges ↑k).1 - B (edg w.own_edges ↑k).1 + (B (edg w.own_edges ↑k).2 - A (edg w.own_edges ↑k).2)) = pv g ↑k - pv g' ↑k by omega] at this
  exact this
theorem led_1 {w : OWeb} {g p : List Int} (hw : WOk w) (h : Gd w g) : Led w g (pv p) (swL w.own_modulus w.own_edges g p) := by
  have := led_sw (B := pv p) hw (led_0 h) (p := p) (fun i _ => cg_refl _ _)
  have e : (fun i => 0 + pv p i) = pv p := by funext i; omega
  rw [e] at this
  exact this
def negP (m : Int) (p : List Int) : List Int := p.map fun x => (0 - x) % m
def addP (m : Int) (p q : List Int) : List Int := (p.zip q).map fun x => (x.1 + x.2) % m
theorem neg_pt {w : OWeb} {p : List Int} (hw : WOk w) (h : Pt w p) : Pt w (negP w.own_modulus p) := ⟨by unfold negP; simpa using h.len, fun x hx => by
  unfold negP at hx
  obtain ⟨y, _, rfl⟩ := List.mem_map.mp hx
  exact isres_mod hw.m0⟩
theorem neg_pv {w : OWeb} {p : List Int} (h : Pt w p) {i : Int} (h0 : 0 ≤ i) (h1 : i < w.own_size) : pv (negP w.own_modulus p) i = (0 - pv p i) % w.own_modulus := pv_map h0 (by rw [h.len]; exact h1)
theorem add_pt {w : OWeb} {p q : List Int} (hw : WOk w) (h : Pt w p) (k : Pt w q) : Pt w (addP w.own_modulus p q) := ⟨by
  have h1 := h.len
  have h2 := k.len
  unfold addP
  rw [List.length_map, List.length_zip]
  omega, fun x hx => by
  unfold addP at hx
  obtain ⟨y, _, rfl⟩ := List.mem_map.mp hx
  exact isres_mod hw.m0⟩
theorem add_pv {w : OWeb} {p q : List Int} (h : Pt w p) (k : Pt w q) {i : Int} (h0 : 0 ≤ i) (h1 : i < w.own_size) : pv (addP w.own_modulus p q) i = (pv p i + pv q i) % w.own_modulus := by
  have l1 := h.len
  have l2 := k.len
  obtain ⟨j, rfl⟩ := Int.eq_ofNat_of_zero_le h0
  have a : j < p.length := by omega
  have b : j < q.length := by omega
  have hz : (p.zip q)[j]? = some (p[j], q[j]) := by rw [List.getElem?_eq_getElem (by simp; omega), List.getElem_zip]
  unfold addP pv
  rw [List.getD_eq_getElem?_getD, Int.toNat_natCast, List.getElem?_map, hz]
  simp [a, b]
theorem sw_neg {w : OWeb} {b p : List Int} (hw : WOk w) (hb : Gd w b) (hp : Pt w p) : swL w.own_modulus w.own_edges (swL w.own_modulus w.own_edges b p) (negP w.own_modulus p) = b := by
  refine led_uniq' hw (led_sw (B := pv (negP w.own_modulus p)) hw (led_1 hw hb) (fun i _ => cg_refl _ _)) (led_0 hb) (fun i i0 i1 => ?_)
  rw [neg_pv hp i0 i1]
  have := cg_mod w.own_modulus (0 - pv p i)
  rw [show pv p i + (0 - pv p i) % w.own_modulus - 0 = (0 - pv p i) % w.own_modulus - (0 - pv p i) by omega]
  exact this
theorem sw_add {w : OWeb} {b p q : List Int} (hw : WOk w) (hb : Gd w b) (hp : Pt w p) (hq : Pt w q) : swL w.own_modulus w.own_edges (swL w.own_modulus w.own_edges b p) q = swL w.own_modulus w.own_edges b (addP w.own_modulus p q) := by
  refine led_uniq' hw (led_sw (B := pv q) hw (led_1 hw hb) (fun i _ => cg_refl _ _)) (led_1 hw hb) (fun i i0 i1 => ?_)
  rw [add_pv hp hq i0 i1]
  exact cg_symm (cg_mod w.own_modulus _)
theorem Rch.symm {w : OWeb} {b a : List Int} (hw : WOk w) (hb : Gd w b) (h : Rch w b a) : Rch w a b := by
  obtain ⟨p, hp, rfl⟩ := h
  exact ⟨_, neg_pt hw hp, sw_neg hw hb hp⟩
theorem Rch.trans {w : OWeb} {a b c : List Int} (hw : WOk w) (ha : Gd w a) (h : Rch w a b) (k : Rch w b c) : Rch w a c := by
  obtain ⟨p, hp, rfl⟩ := h
  obtain ⟨q, hq, rfl⟩ := k
  exact ⟨_, add_pt hw hp hq, (sw_add hw ha hp hq).symm⟩
/-! ### is_transform at a potential -/
theorem strOk_cyc : PyData.strOk ("cycle" : Str) = true := by decide +kernel
theorem strOk_fix : PyData.strOk ("fixed" : Str) = true := by decide +kernel
theorem eqS_ok {neg : Bool} {x y : Str} (hx : PyData.strOk x = true) (hy : PyData.strOk y = true) : eqS neg x y = .ok (neg ^^ decide (x = y)) := by unfold eqS; rw [hx, hy]; rfl
end Lw

set_option Elab.async false
set_option linter.all false
set_option maxRecDepth 100000
set_option maxHeartbeats 1000000
/-! YG: what laws draw. -/
namespace Lw
open PySem L2 DL TL
open Mo (pur bnd lft)
theorem links_W {n most : Int} {Q : List Edge → Prop} {X : Str → D → Prop} (hn : 0 < n) (hn2 : n ≤ 1000) (hm : 0 ≤ most) (hm2 : most ≤ 1000) (h : ∀ es : List Edge, (es.length : Int) ≤ most → (∀ e ∈ es, 0 ≤ e.1 ∧ e.1 < n ∧ 0 ≤ e.2 ∧ e.2 < n) → Q es) : p__law_links n most Q X := by
  unfold p__law_links
  simp only [pur_bndW, bnd_assocW]
  rw [bndWa]
  refine takeW_ok (by omega) (by omega) (fun r r0 r1 => ?_)
  refine bndW_ok (rgW_ok (by omega) (by omega) (by omega) (by omega)) ?_
  rw [bndWa]
  refine forM_W (fun pre b => b.length = pre.length ∧ ∀ e ∈ b, 0 ≤ e.1 ∧ e.1 < n ∧ 0 ≤ e.2 ∧ e.2 < n) ⟨rfl, by simp⟩ (fun pre x post b e j Q' hq => ?_) (fun b j => ?_)
  · rw [bndWa]
    refine takeW_ok (by omega) (by omega) (fun u u0 u1 => ?_)
    rw [bndWa]
    refine takeW_ok (by omega) (by omega) (fun v v0 v1 => ?_)
    have hp : pre.length < (rg 0 r).length := by rw [e]; simp
    rw [rg_len] at hp
    refine bndW_ok (appL_ok (by rw [j.1]; omega)) ?_
    rw [purWa]
    refine hq _ ⟨by simp [j.1], fun d hd => ?_⟩
    rcases List.mem_append.mp hd with z | z
    · exact j.2 d z
    · simp at z; subst z; exact ⟨u0, u1, v0, v1⟩
  · rw [purWa]
    exact h b (by rw [j.1, rg_len]; omega) j.2
theorem low_eq {x d : Int} (h : 0 ≤ d) : p__law_low x d = .ok (x % d) := by
  unfold p__law_low
  simp only [pur_bnd, bnd_assoc]
  by_cases hm : 0 < d
  · rw [if_pos (decide_eq_true hm), modZ_eq hm, lok_bnd, purE]; rfl
  · have : d = 0 := by omega
    subst this
    rw [if_neg (by decide), pur_bnd, purE]
    simp
theorem put_eq {n d : Int} {es : List Edge} {g lv : List Int} (hd : 0 ≤ d) (he : EOk n es) (hl : (lv.length : Int) = n) : p__law_put es d g lv = .ok (swL d es g lv) := by
  have el := he.len
  unfold p__law_put
  simp only [pur_bnd, bnd_assoc, lok_bnd]
  refine ok_then (forM_app (fun x => (x.1 + pv lv x.2.1 - pv lv x.2.2) % d) (by simp; omega) (fun b x hx hb => ?_)) (purE _)
  have hr := he.ed x.2 (List.of_mem_zip hx).2
  have i1 : ixL lv x.2.1 = .ok (pv lv x.2.1) := ixL_lt hr.1 (by rw [hl]; exact hr.2.1)
  have i2 : ixL lv x.2.2 = .ok (pv lv x.2.2) := ixL_lt hr.2.2.1 (by rw [hl]; exact hr.2.2.2)
  rw [i1, lok_bnd, i2, lok_bnd, low_eq hd, lok_bnd, appL_ok (by omega), lok_bnd, purE]
end Lw

set_option Elab.async false
set_option linter.all false
set_option maxRecDepth 100000
set_option maxHeartbeats 1000000
/-! YH: walks looked at, results judged. -/
namespace Lw
open PySem L2 DL TL
open Mo (pur bnd lft)
theorem Leads.head {es : List Edge} {l : List (Int × Int)} {a b : Int} (h : Leads es a l b) {s : Int × Int} (hs : l[0]? = some s) : (ends es s).1 = a := by
  cases l with
  | nil => simp at hs
  | cons t l => simp at hs; subst hs; exact h.2.1
/-- the two words of walks -/
def WdOk (x : Str) : Prop := x = ("cycle" : Str) ∨ x = ("fixed" : Str)
theorem WdOk.str {x : Str} (h : WdOk x) : PyData.strOk x = true := by rcases h with rfl | rfl; exact strOk_cyc; exact strOk_fix
end Lw

set_option Elab.async false
set_option linter.all false
set_option maxRecDepth 100000
set_option maxHeartbeats 2000000
/-! YI: marks spread along edges, n times: levels and groups as the laws find them. -/
namespace Lw
open PySem L2 DL TL
open Mo (pur bnd lft)
/-! ### bounds -/
def BB (B x : Int) : Prop := -B ≤ x ∧ x ≤ B
/-! ### spreading -/
/-! ### levels -/
def PotF (m : Int) (es : List Edge) (old new : List Int) (q : Int → Int) : Prop := ∀ k : Nat, k < es.length → m ∣ pv new k - (pv old k + q (edg es k).1 - q (edg es k).2)
structure LJ (n : Nat) (m : Int) (es : List Edge) (old new P : List Int) (d : Dc Int) : Prop where
  nd : (dkeys d).Nodup
  rg : ∀ a ∈ dkeys d, 0 ≤ a ∧ a < (n : Int)
  co : ∀ a ∈ dkeys d, ∃ b ∈ P, Conn es b a
  vl : ∀ p ∈ d.kv, isres m p.2 = true ∧ (p.1 ∈ firsts n es → p.2 = 0) ∧ ∃ f ∈ firsts n es, f ∈ dkeys d ∧ Conn es f p.1 ∧ ∀ q, PotF m es old new q → m ∣ p.2 - (q p.1 - q f)
  bb : ∀ B : Int, 60 ≤ B → m ≤ 60 → (∀ x ∈ old, BB B x) → (∀ x ∈ new, BB B x) → ∀ p ∈ d.kv, BB (2 * B * d.kv.length) p.2
theorem LJ.sz {n : Nat} {m : Int} {es : List Edge} {old new P : List Int} {d : Dc Int} (h : LJ n m es old new P d) : d.kv.length ≤ n := by
  have := pigeon n (dkeys d) h.nd h.rg
  unfold dkeys at this
  simpa using this
structure LvL (n : Nat) (m : Int) (es : List Edge) (old new lv : List Int) : Prop where
  len : (lv.length : Int) = n
  res : ∀ x ∈ lv, isres m x = true
  fst : ∀ f ∈ firsts n es, pv lv f = 0
  dif : ∀ a : Int, 0 ≤ a → a < n → ∃ f ∈ firsts n es, Conn es f a ∧ ∀ q, PotF m es old new q → m ∣ pv lv a - (q a - q f)
  bb : ∀ B : Int, 60 ≤ B → m ≤ 60 → (∀ x ∈ old, BB B x) → (∀ x ∈ new, BB B x) → ∀ x ∈ lv, BB (2 * B * n) x
theorem bnd_purE {α : Type} (x : E α) : (bnd x fun a => pur a) = x := by
  rw [bndE]
  cases x <;> simp [E.bind, purE]
theorem potF_of {w : OWeb} {b a p : List Int} (hb : Gd w b) (h : swL w.own_modulus w.own_edges b p = a) : PotF w.own_modulus w.own_edges b a (pv p) := fun k hk => by
  rw [← h, sw_pv hb.len (by omega) (by omega)]
  exact cg_mod _ _
theorem LvL.pt {w : OWeb} {n : Nat} {b a lv : List Int} (hn : (n : Int) = w.own_size) (h : LvL n w.own_modulus w.own_edges b a lv) : Pt w lv := ⟨by rw [← hn]; exact h.len, h.res⟩
theorem LvL.iff {w : OWeb} {n : Nat} {b a lv : List Int} (hw : WOk w) (hn : (n : Int) = w.own_size) (hb : Gd w b) (ha : Gd w a) (h : LvL n w.own_modulus w.own_edges b a lv) : swL w.own_modulus w.own_edges b lv = a ↔ Rch w b a := by
  constructor
  · intro e
    exact ⟨lv, h.pt hn, e⟩
  · rintro ⟨p, hp, e⟩
    refine gains_ext hw (sw_gd hw hb) ha fun k hk => ?_
    rw [sw_pv hb.len (by omega) (by omega)]
    have hr := hw.ed _ (edg_mem hk)
    obtain ⟨f, hf, cf, h1⟩ := h.dif (edg w.own_edges k).1 hr.1 (by omega)
    obtain ⟨g, hg, cg, h2⟩ := h.dif (edg w.own_edges k).2 hr.2.2.1 (by omega)
    have := fst_uniq hf hg ((cf.trans (Conn.edge (edg_mem hk))).trans cg.symm)
    subst this
    have q := potF_of hb e
    have h1 := h1 _ q
    have h2 := h2 _ q
    have h3 := q k hk
    have c := cg_mod w.own_modulus (pv b k + pv lv (edg w.own_edges k).1 - pv lv (edg w.own_edges k).2)
    have := Int.dvd_sub (Int.dvd_add c (Int.dvd_sub h1 h2)) h3
    refine (Int.dvd_iff_emod_eq_zero ..).mpr ?_
    have e := (Int.dvd_iff_emod_eq_zero ..).mp this
    rw [← e]
    congr 1
    omega
end Lw

set_option Elab.async false
set_option linter.all false
set_option maxRecDepth 100000
set_option maxHeartbeats 2000000
/-! YJ: walks and sums as the laws look at them; groups. -/
namespace Lw
open PySem L2 DL TL
open Mo (pur bnd lft)
theorem outF_inl {β ρ φ : Type} {k : β → W φ} {j : ρ → W φ} {b : β} {Q : φ → Prop} {X : Str → D → Prop} (h : k b Q X) : outF k j (.inl b) Q X := h
theorem Leads.split {es : List Edge} : ∀ {w v : List (Int × Int)} {a b : Int}, Leads es a (w ++ v) b → ∃ c, Leads es a w c ∧ Leads es c v b
  | [], v, a, b, h => ⟨a, rfl, h⟩
  | s :: w, v, a, b, h => by
    obtain ⟨c, h1, h2⟩ := Leads.split (w := w) h.2.2
    exact ⟨c, ⟨h.1, h.2.1, h1⟩, h2⟩
/-! ### groups by least names -/
structure GN (n : Nat) (es : List Edge) (g : List Int) : Prop where
  len : (g.length : Int) = n
  co : ∀ a : Int, 0 ≤ a → a < n → 0 ≤ pv g a ∧ pv g a ≤ a ∧ Conn es (pv g a) a
theorem GN.fst {n : Nat} {es : List Edge} {g : List Int} (h : GN n es g) {f : Int} (hf : f ∈ firsts n es) : pv g f = f := by
  have hr := (mem_firsts.mp hf).1
  have c := h.co f hr.1 hr.2
  by_cases e : pv g f = f
  · exact e
  · exact ((mem_firsts.mp hf).2 _ c.1 (by omega) c.2.2).elim
theorem pv_rg {n a : Int} (a0 : 0 ≤ a) (a1 : a < n) : pv (rg 0 n) a = a := by
  obtain ⟨k, rfl⟩ := Int.eq_ofNat_of_zero_le a0
  obtain ⟨N, rfl⟩ := Int.eq_ofNat_of_zero_le (show 0 ≤ n by omega)
  unfold pv
  rw [List.getD_eq_getElem?_getD, Int.toNat_natCast, rg_get (by omega)]
  rfl
end Lw

set_option Elab.async false
set_option linter.all false
set_option maxRecDepth 100000
set_option maxHeartbeats 2000000
/-! YK: the cycles of a web, their sums, normal gains. -/
namespace Lw
open PySem L2 DL TL
open Mo (pur bnd lft)
def restL (w : OWeb) : List Int := (rg 0 (w.own_edges.length : Int)).filter fun k => !inI k w.own_forest
theorem mem_rest {w : OWeb} {k : Int} : k ∈ restL w ↔ (0 ≤ k ∧ k < w.own_edges.length) ∧ k ∉ w.own_forest := by
  unfold restL
  rw [List.mem_filter, rg_mem]
  simp [inI]
noncomputable def cycV (w : OWeb) (k : Int) : List (Int × Int) := match p_walk_paths w.links (edg w.own_edges k).2 with
  | .ok d => (match fget d (edg w.own_edges k).1 with
    | .ok v => (k, 1) :: v
    | _ => [])
  | _ => []
theorem cyc_ex {w : OWeb} {k : Int} (hw : WebOk w) (k0 : 0 ≤ k) (k1 : k < w.own_edges.length) : ∃ d v, p_walk_paths w.links (edg w.own_edges k).2 = .ok d ∧ fget d (edg w.own_edges k).1 = .ok v ∧ cycV w k = (k, 1) :: v ∧ Leads w.own_edges (edg w.own_edges k).2 v (edg w.own_edges k).1 ∧ (∀ t ∈ v, t.1 ∈ w.own_forest) ∧ v.length ≤ 30 := by
  have s0 := hw.s0
  have s1 := hw.s1
  obtain ⟨n, hn⟩ := Int.eq_ofNat_of_zero_le (show 0 ≤ w.own_size by omega)
  obtain ⟨j, rfl⟩ := Int.eq_ofNat_of_zero_le k0
  have hm := edg_mem (es := w.own_edges) (k := j) (by omega)
  have hr := hw.ed _ hm
  have he := hw.ed
  have hL := hw.lk
  rw [hn] at hr he hL
  obtain ⟨d, d1, d2⟩ := walk_paths_eq (n := n) (s := (edg w.own_edges j).2) (by omega) he hL hr.2.2.1 hr.2.2.2
  obtain ⟨v, hv⟩ := key_val ((d2.key (edg w.own_edges j).1).mpr (Conn.edge hm).symm)
  have sz := d2.wj.sz
  have ln := d2.wj.len _ hv
  dsimp only at ln
  have e2 : fget d (edg w.own_edges j).1 = .ok v := by unfold fget; exact dget_mem d2.wj.nd hv
  refine ⟨d, v, d1, e2, ?_, d2.wj.lead _ hv, d2.wj.inF _ hv, by omega⟩
  unfold cycV
  rw [d1]
  dsimp only
  rw [e2]
theorem enI_fst {α : Type} (xs : List α) : (enI 0 xs).map (·.1) = rg 0 (xs.length : Int) := by
  apply List.ext_getElem?
  intro i
  by_cases h : i < xs.length
  · rw [rg_get h]
    simp [enI, h]
  · rw [List.getElem?_eq_none (by simp [enI]; omega), List.getElem?_eq_none (by rw [rg_len]; omega)]
theorem cycles_eq {w : OWeb} (hw : WebOk w) : p_Web_cycles w = .ok ((restL w).map (cycV w)) := by
  have hl := hw.len
  unfold p_Web_cycles
  simp only [pur_bnd, bnd_assoc, bnd_purE, Bool.true_xor]
  refine eq_of_ex (ex_then (forM_inv (fun (pre : List (Int × Edge)) (b : List (List (Int × Int))) => b = ((pre.map (·.1)).filter fun k => !inI k w.own_forest).map (cycV w)) rfl (fun pre x post b e j => ?_)) (fun b j => ⟨b, by rw [purE]; rfl, by rw [j, enI_fst]; rfl⟩))
  subst j
  obtain ⟨x1, x2, x3, x4⟩ := enI_edge (es := w.own_edges) (x := x) (by rw [e]; simp)
  have hlp : pre.length ≤ 60 := by
    have := congrArg List.length e
    simp [enI] at this
    omega
  cases q : inI x.1 w.own_forest with
  | true =>
    simp only [Bool.not_true, Bool.false_eq_true, if_false]
    refine ⟨_, purE _, ?_⟩
    rw [List.map_append, List.filter_append]
    simp [q]
  | false =>
    simp only [Bool.not_false, if_true]
    obtain ⟨d, v, e1, e2, e3, _, _, ln⟩ := cyc_ex hw x2.k0 x2.k1
    rw [x4] at e1 e2
    dsimp only at e3
    rw [e1, lok_bnd, e2, lok_bnd, catL_ok (by simp; omega), lok_bnd, appL_ok (by
      have := List.length_filter_le (fun k => !inI k w.own_forest) (pre.map (·.1))
      simp at this ⊢
      omega), lftE]
    refine ⟨_, rfl, ?_⟩
    rw [List.map_append, List.filter_append]
    simp [q, e3]
noncomputable def sumsL (w : OWeb) (g : List Int) : List Int := (restL w).map fun k => wsum g (cycV w k) % w.own_modulus
theorem cyc_lead {w : OWeb} {k : Int} (hw : WebOk w) (k0 : 0 ≤ k) (k1 : k < w.own_edges.length) : Leads w.own_edges (edg w.own_edges k).1 (cycV w k) (edg w.own_edges k).1 ∧ cycV w k ≠ [] ∧ (cycV w k).length ≤ 31 := by
  obtain ⟨d, v, _, _, e3, e4, _, ln⟩ := cyc_ex hw k0 k1
  rw [e3]
  refine ⟨⟨⟨k0, k1, .inl rfl⟩, ?_, ?_⟩, by simp, by simp; omega⟩
  · simp [ends]
  · simpa [ends] using e4
theorem rest_len (w : OWeb) : (restL w).length ≤ w.own_edges.length := by
  unfold restL
  refine Nat.le_trans (List.length_filter_le _ _) ?_
  rw [rg_len]; omega
theorem cycle_sums_eq {w : OWeb} {g : List Int} (hw : WebOk w) (hg : Gd w g) : p_cycle_sums w g = .ok (sumsL w g) := by
  have hl := hw.len
  have hrl := rest_len w
  unfold p_cycle_sums
  simp only [pur_bnd, bnd_assoc]
  rw [check_gains_eq hw.toWOk hg, lok_bnd, cycles_eq hw, lok_bnd]
  rw [lc_map (fun c => wsum g c % w.own_modulus) (by simp; omega) (fun c hc => by
    obtain ⟨k, hk, rfl⟩ := List.mem_map.mp hc
    have hk := (mem_rest.mp hk).1
    have := cyc_lead hw hk.1 hk.2
    rw [lftE]
    exact walk_sum_eq hw.toWOk hg this.1 this.2.1 (by omega)), ok_bndE]
  rw [purE, id, List.map_map]
  rfl
noncomputable def nrmL (w : OWeb) (g : List Int) : List Int := (rg 0 (w.own_edges.length : Int)).map fun k => if k ∈ w.own_forest then 0 else wsum g (cycV w k) % w.own_modulus
theorem nrm_pv {w : OWeb} {g : List Int} {k : Int} (k0 : 0 ≤ k) (k1 : k < w.own_edges.length) : pv (nrmL w g) k = if k ∈ w.own_forest then 0 else wsum g (cycV w k) % w.own_modulus := by
  unfold nrmL
  rw [pv_map k0 (by rw [rg_len]; omega), pv_rg k0 k1]
theorem nrm_len (w : OWeb) (g : List Int) : (nrmL w g).length = w.own_edges.length := by unfold nrmL; rw [List.length_map, rg_len]; omega
theorem nrm_gd {w : OWeb} {g : List Int} (hw : WOk w) : Gd w (nrmL w g) := ⟨nrm_len w g, fun x hx => by
  obtain ⟨k, _, rfl⟩ := List.mem_map.mp hx
  split
  · exact isres0 _ hw.m0
  · exact isres_mod hw.m0⟩
theorem nox_okE {α : Type} {x : E α} {a : α} (h : x = .ok a) : nox x = .ok a := by rw [h]; exact nox_ok a
theorem pv_ext {a b : List Int} (h : a.length = b.length) (e : ∀ k : Nat, k < a.length → pv a k = pv b k) : a = b := by
  refine List.ext_getElem h fun k k1 k2 => ?_
  have := e k k1
  unfold pv at this
  simpa [k1, k2] using this
theorem normal_eq {w : OWeb} {g : List Int} (hw : WebOk w) (hg : Gd w g) : p_normal w g = .ok (nrmL w g) := by
  have hl := hw.len
  have hrl := rest_len w
  unfold p_normal
  simp only [pur_bnd, bnd_assoc, bnd_purE]
  rw [cycle_sums_eq hw hg, lok_bnd, len_eq, lok_bnd, lenG_ok (by omega), lok_bnd, repL_ok (by omega) (by omega), lok_bnd, cycles_eq hw, lok_bnd]
  have hz : ((restL w).map (cycV w)).zip (sumsL w g) = (restL w).map fun k => (cycV w k, wsum g (cycV w k) % w.own_modulus) := by
    unfold sumsL
    rw [List.zip_map', ]
  rw [hz, forM_map]
  refine eq_of_ex (ex_then (forM_inv (fun (pre : List Int) (b : List Int) => b.length = w.own_edges.length ∧ ∀ j : Int, 0 ≤ j → j < w.own_edges.length → pv b j = if j ∈ pre then wsum g (cycV w j) % w.own_modulus else 0) ⟨by simp, fun j _ _ => by rw [if_neg (by simp)]; exact pv_rep _ _⟩ (fun pre x post b e ⟨j1, j2⟩ => ?_)) (fun b ⟨j1, j2⟩ => ⟨b, by rw [purE]; rfl, ?_⟩))
  · have hx := mem_rest.mp (show x ∈ restL w by rw [e]; simp)
    obtain ⟨d, v, _, _, e3, _, _, _⟩ := cyc_ex hw hx.1.1 hx.1.2
    have i1 : ixL (cycV w x) (0 : Int) = .ok (x, 1) := ixL_nat (k := 0) (by rw [e3]; rfl)
    have hx1 := hx.1
    dsimp only
    rw [nox_okE (a := x) (by simp only [i1, lok_bnd]; first | exact purE _ | rfl), ok_bndE, setL_lt hx1.1 (by omega), lftE]
    refine ⟨_, rfl, by simp [j1], fun j h0 h1 => ?_⟩
    rw [pv_set hx1.1 (by omega) h0, j2 j h0 h1]
    by_cases z : x = j
    · subst z; rw [if_pos rfl, if_pos (by simp)]
    · rw [if_neg z]
      have : (j ∈ pre ++ [x]) ↔ j ∈ pre := by simp; exact fun e => absurd e.symm z
      simp only [this]
  · refine pv_ext (by rw [j1, nrm_len]) fun k hk => ?_
    rw [j2 k (by omega) (by omega), nrm_pv (by omega) (by omega)]
    by_cases z : (k : Int) ∈ w.own_forest
    · rw [if_pos z, if_neg (fun h => (mem_rest.mp h).2 z)]
    · rw [if_neg z, if_pos (mem_rest.mpr ⟨⟨by omega, by omega⟩, z⟩)]
theorem wsum_zero {g : List Int} : ∀ {l : List (Int × Int)}, (∀ t ∈ l, pv g t.1 = 0) → wsum g l = 0
  | [], _ => by unfold wsum; simp
  | t :: l, h => by
    have e : wsum g (t :: l) = t.2 * pv g t.1 + wsum g l := by unfold wsum; simp
    rw [e, h t (by simp), wsum_zero fun u hu => h u (by simp [hu])]
    simp
end Lw

set_option Elab.async false
set_option linter.all false
set_option maxRecDepth 100000
set_option maxHeartbeats 2000000
/-! YL: how large the drawn numbers are; texts of lists of numbers. -/
namespace Lw
open PySem L2 DL TL
open Mo (pur bnd lft)
open Enc (enc)
/-! ### texts -/
theorem strOk_of (s : String) : PyData.strOk (Str.ofString s) = true := by
  rw [Str.ofString_eq_toList]
  unfold PyData.strOk
  simp
  intro c hc
  have := c.valid
  unfold UInt32.isValidChar Nat.isValidChar at this
  show c.val.toNat < 1114112
  omega
theorem strOk_app {a b : Str} (ha : PyData.strOk a = true) (hb : PyData.strOk b = true) : PyData.strOk (a ++ b) = true := by
  unfold PyData.strOk at *
  show (a.cps ++ b.cps).all _ = true
  rw [Array.all_append, ha, hb]
  rfl
theorem strOk_from : ∀ (ts : List Str) (k : Nat) (acc : Str), PyData.strOk acc = true → (∀ t ∈ ts, PyData.strOk t = true) → PyData.strOk (textFrom k acc ts) = true
  | [], k, acc, h, _ => h
  | t :: ts, k, acc, h, ht => by
    unfold textFrom
    exact strOk_from ts _ _ (strOk_app (strOk_app h (strOk_of _)) (ht t (by simp))) (fun u hu => ht u (by simp [hu]))
theorem strOk_list {ts : List Str} (h : ∀ t ∈ ts, PyData.strOk t = true) : PyData.strOk (listText ts) = true := strOk_app (strOk_from ts 0 _ (strOk_of _) h) (strOk_of _)
def rpS (l : List Int) : Str := (PyEq.pd l).shown
theorem shownAll_ints : ∀ l : List Int, PyData.shownAll (l.map PyData.int) = l.map fun i => Str.ofString (toString i)
  | [] => rfl
  | x :: l => by rw [List.map_cons, PyData.shownAll, shownAll_ints l]; rfl
theorem rpS_eq (l : List Int) : rpS l = listText (l.map fun i => Str.ofString (toString i)) := by
  show PyData.shown (.list (l.map PyData.int)) = _
  rw [PyData.shown, shownAll_ints]
theorem strOk_rp (l : List Int) : PyData.strOk (rpS l) = true := by
  rw [rpS_eq]
  refine strOk_list fun t ht => ?_
  obtain ⟨i, _, rfl⟩ := List.mem_map.mp ht
  exact strOk_of _
theorem log2_bb {i : Int} (h : BB (10 ^ 30) i) : i.natAbs.log2 < 1920 := by
  by_cases z : i.natAbs = 0
  · rw [z]; decide
  · rw [Nat.log2_lt z]
    have h1 : i.natAbs ≤ 10 ^ 30 := by unfold BB at h; omega
    refine Nat.lt_of_le_of_lt h1 (Nat.lt_of_lt_of_le (show 10 ^ 30 < 2 ^ 100 by decide) (Nat.pow_le_pow_right (by decide) (by decide)))
theorem showable_ints : ∀ {l : List Int}, (∀ x ∈ l, BB (10 ^ 30) x) → PyData.showableAll (l.map PyData.int) = true
  | [], _ => rfl
  | x :: l, h => by
    rw [List.map_cons, PyData.showableAll, showable_ints fun y hy => h y (by simp [hy]), PyData.showable, decide_eq_true (log2_bb (h x (by simp)))]
    rfl
theorem noDict_ints : ∀ l : List Int, PyData.hasDictAll (l.map PyData.int) = false
  | [] => rfl
  | x :: l => by rw [List.map_cons, PyData.hasDictAll, noDict_ints l]; rfl
theorem sum_le {k : Nat} : ∀ {l : List Nat}, (∀ x ∈ l, x ≤ k) → l.sum ≤ l.length * k
  | [], _ => by simp
  | x :: l, h => by
    have := sum_le (k := k) (l := l) fun y hy => h y (by simp [hy])
    have := h x (by simp)
    rw [List.sum_cons, List.length_cons, Nat.add_mul]
    omega
theorem rpOk_ints {l : List Int} (hl : l.length ≤ 1000) (h : ∀ x ∈ l, BB (10 ^ 30) x) : RpOk (PyEq.pd l) := by
  refine ⟨?_, ?_, ?_⟩
  · show PyData.showable (.list (l.map PyData.int)) = true
    rw [PyData.showable]; exact showable_ints h
  · show PyData.hasDict (.list (l.map PyData.int)) = false
    rw [PyData.hasDict]; exact noDict_ints l
  · have := listText_len_le (l.map fun i => Str.ofString (toString i))
    rw [← rpS_eq] at this
    have e := sum_le (k := 1921) (l := (l.map fun i => Str.ofString (toString i)).map (·.length)) (fun x hx => by
      obtain ⟨t, ht, rfl⟩ := List.mem_map.mp hx
      obtain ⟨i, hi, rfl⟩ := List.mem_map.mp ht
      exact PyProof.Rows.int_text_len_1921 (log2_bb (h i hi)))
    simp only [List.length_map] at e this
    show (rpS l).length ≤ sizeLine
    have : sizeLine = 16777216 := by decide
    omega
end Lw

set_option Elab.async false
set_option linter.all false
set_option maxRecDepth 100000
set_option maxHeartbeats 2000000
/-! YR: what can be shown, and its text. -/
namespace Lw
open PySem L2 DL TL
open Mo (pur bnd lft)
open Enc (enc)
/-- depth at most e, bulk at most n, whole numbers of 30 digits -/
structure Shw (e n : Nat) (d : PyData) : Prop where
  sh : d.showable = true
  de : d.depth ≤ e
  lv : d.leavesShort 1921 = true
  bk : d.bulk ≤ n
  ok : PyData.strOk d.shown = true
theorem Shw.mono {e n e' n' : Nat} {d : PyData} (h : Shw e n d) (he : e ≤ e') (hn : n ≤ n') : Shw e' n' d := ⟨h.sh, Nat.le_trans h.de he, h.lv, Nat.le_trans h.bk hn, h.ok⟩
theorem Shw.int {i : Int} (h : BB (10 ^ 30) i) : Shw 0 0 (.int i) := ⟨by rw [PyData.showable, decide_eq_true (log2_bb h)], by rw [PyData.depth]; omega, by
  rw [PyData.leavesShort]; exact decide_eq_true (PyProof.Rows.int_text_len_1921 (log2_bb h)), by rw [PyData.bulk]; omega, strOk_of _⟩
theorem Shw.bool (b : Bool) : Shw 0 0 (.bool b) := ⟨rfl, by rw [PyData.depth]; omega, rfl, by rw [PyData.bulk]; omega, by cases b <;> decide +kernel⟩
theorem Shw.none : Shw 0 0 .none := ⟨rfl, by rw [PyData.depth]; omega, rfl, by rw [PyData.bulk]; omega, by decide +kernel⟩
theorem shw_all {e n : Nat} : ∀ {ds : List PyData}, (∀ d ∈ ds, Shw e n d) → PyData.showableAll ds = true ∧ PyData.depthAll ds ≤ e ∧ PyData.leavesShortAll 1921 ds = true ∧ PyData.bulkAll ds ≤ ds.length * (n + 1) ∧ ∀ t ∈ PyData.shownAll ds, PyData.strOk t = true
  | [], _ => ⟨rfl, by rw [PyData.depthAll]; omega, rfl, by rw [PyData.bulkAll]; omega, by rw [PyData.shownAll]; simp⟩
  | d :: ds, h => by
    obtain ⟨h1, h2, h3, h4, h5⟩ := shw_all (ds := ds) fun x hx => h x (by simp [hx])
    have k := h d (by simp)
    refine ⟨by rw [PyData.showableAll, k.sh, h1]; rfl, by rw [PyData.depthAll]; exact Nat.max_le.mpr ⟨k.de, h2⟩, by rw [PyData.leavesShortAll, k.lv, h3]; rfl, ?_, ?_⟩
    · rw [PyData.bulkAll, List.length_cons, Nat.add_mul]
      have := k.bk
      omega
    · rw [PyData.shownAll]
      intro t ht
      rcases List.mem_cons.mp ht with rfl | z
      · exact k.ok
      · exact h5 t z
theorem Shw.list {e n c : Nat} {ds : List PyData} (h : ∀ d ∈ ds, Shw e n d) (hc : ds.length * (n + 1) ≤ c) : Shw (e + 1) c (.list ds) := by
  obtain ⟨h1, h2, h3, h4, h5⟩ := shw_all h
  exact ⟨by rw [PyData.showable]; exact h1, by rw [PyData.depth]; omega, by rw [PyData.leavesShort]; exact h3, by rw [PyData.bulk]; omega, by rw [PyData.shown]; exact strOk_list h5⟩
theorem strOk_join : ∀ {ts : List Str}, (∀ t ∈ ts, PyData.strOk t = true) → PyData.strOk (Str.join ", " ts) = true
  | [], _ => by decide +kernel
  | [x], h => h x (by simp)
  | x :: y :: r, h => by
    have e : Str.join ", " (x :: y :: r) = x ++ ", " ++ Str.join ", " (y :: r) := rfl
    rw [e]
    exact strOk_app (strOk_app (h x (by simp)) (strOk_of _)) (strOk_join fun t ht => h t (by simp [List.mem_cons.mp ht]))
theorem strOk_tuple {ts : List Str} (h : ∀ t ∈ ts, PyData.strOk t = true) : PyData.strOk (tupleText ts) = true := by
  unfold tupleText
  refine strOk_app (strOk_app (strOk_of _) (strOk_join h)) ?_
  split <;> exact strOk_of _
theorem strOk_dict {ts : List Str} (h : ∀ t ∈ ts, PyData.strOk t = true) : PyData.strOk (dictText ts) = true :=
  strOk_app (strOk_app (strOk_of _) (strOk_join h)) (strOk_of _)
theorem Shw.tuple {e n c : Nat} {ds : List PyData} (h : ∀ d ∈ ds, Shw e n d) (hc : ds.length * (n + 1) ≤ c) : Shw (e + 1) c (.tuple ds) := by
  obtain ⟨h1, h2, h3, h4, h5⟩ := shw_all h
  exact ⟨by rw [PyData.showable]; exact h1, by rw [PyData.depth]; omega, by rw [PyData.leavesShort]; exact h3, by rw [PyData.bulk]; omega, by rw [PyData.shown]; exact strOk_tuple h5⟩
theorem shw_kv {e n : Nat} : ∀ {ds : List (PyData × PyData)}, (∀ d ∈ ds, Shw e n d.1 ∧ Shw e n d.2) → PyData.showableKv ds = true ∧ PyData.depthKv ds ≤ e ∧ PyData.leavesShortKv 1921 ds = true ∧ PyData.bulkKv ds ≤ ds.length * (2 * n + 2) ∧ ∀ t ∈ PyData.shownKv ds, PyData.strOk t = true
  | [], _ => ⟨rfl, by rw [PyData.depthKv]; omega, rfl, by rw [PyData.bulkKv]; omega, by rw [PyData.shownKv]; simp⟩
  | (a, b) :: ds, h => by
    obtain ⟨h1, h2, h3, h4, h5⟩ := shw_kv (ds := ds) fun x hx => h x (by simp [hx])
    obtain ⟨k, l⟩ := h (a, b) (by simp)
    refine ⟨by rw [PyData.showableKv, k.sh, l.sh, h1]; rfl, by rw [PyData.depthKv]; exact Nat.max_le.mpr ⟨Nat.max_le.mpr ⟨k.de, l.de⟩, h2⟩, by rw [PyData.leavesShortKv, k.lv, l.lv, h3]; rfl, ?_, ?_⟩
    · rw [PyData.bulkKv, List.length_cons, Nat.add_mul]
      have := k.bk
      have := l.bk
      dsimp only at *
      omega
    · rw [PyData.shownKv]
      intro t ht
      rcases List.mem_cons.mp ht with rfl | z
      · exact strOk_app (strOk_app k.ok (strOk_of _)) l.ok
      · exact h5 t z
theorem Shw.dict {e n c : Nat} {ds : List (PyData × PyData)} (h : ∀ d ∈ ds, Shw e n d.1 ∧ Shw e n d.2) (hc : ds.length * (2 * n + 2) ≤ c) : Shw (e + 1) c (.dict ds) := by
  obtain ⟨h1, h2, h3, h4, h5⟩ := shw_kv h
  exact ⟨by rw [PyData.showable]; exact h1, by rw [PyData.depth]; omega, by rw [PyData.leavesShort]; exact h3, by rw [PyData.bulk]; omega, by rw [PyData.shown]; exact strOk_dict h5⟩
theorem Shw.rpF {e n : Nat} {d : PyData} (h : Shw e n d) (he : e ≤ 14) (hn : n ≤ 8000) : RpF d := ⟨h.sh, Nat.le_trans h.de he, by
  have q := PyData.shown_le_bulk 1921 (by decide) d h.lv
  have := h.bk
  have : sizeLine = 16777216 := by decide
  have : (1921 + 2) * d.bulk ≤ 1923 * 8000 := Nat.mul_le_mul (by omega) (by omega)
  omega⟩
theorem castF {α : Type} [Enc α] {a : PyData} {x : α} (hp : ∀ M, pyR M 14 (enc x) = some a) (h : RpF a) : (castE (reprF (enc x)) : E Str) = .ok a.shown := by
  refine castE_ok (fun M => ?_) (fun x y h => by cases h; rfl)
  unfold reprF
  rw [hp M]
  dsimp only
  rw [if_pos h]
  rfl
/-! ### reading of data of a type -/
mutual
theorem pyR_of_py {M : Store} : ∀ (k : Nat) (d : D) (a : PyData), py M k d = some a → pyR M k d = some a
  | 0, d, a, h => by unfold py at h; cases h
  | k + 1, d, a, h => by
    cases d with
    | non => unfold py at h; cases h; unfold pyR; rfl
    | bl b => unfold py at h; cases h; unfold pyR; rfl
    | int i => unfold py at h; cases h; unfold pyR; rfl
    | str x =>
      unfold py at h; dsimp only at h
      by_cases c : PyData.strOk x = true
      · rw [if_pos c] at h; cases h; unfold pyR; rfl
      · rw [if_neg c] at h; cases h
    | ty n => unfold py at h; cases h
    | gl x => unfold py at h; cases h
    | ref n =>
      unfold py at h; dsimp only at h
      unfold pyR; dsimp only
      cases q : M[n]? with
      | none => rw [q] at h; cases h
      | some c =>
        obtain ⟨t, l⟩ := c
        rw [q] at h
        cases t <;> first | (cases h; done) | skip
        dsimp only at h ⊢
        cases q2 : pys M k l with
        | none => rw [q2] at h; cases h
        | some ds => rw [q2] at h; rw [pyRs_of_py k l ds q2]; exact h
    | nd t l =>
      unfold py at h
      unfold pyR
      cases t with
      | lst =>
        dsimp only at h ⊢
        cases q2 : pys M k l with
        | none => rw [q2] at h; cases h
        | some ds => rw [q2] at h; rw [pyRs_of_py k l ds q2]; exact h
      | slst =>
        dsimp only at h ⊢
        cases q2 : pys M k l with
        | none => rw [q2] at h; cases h
        | some ds => rw [q2] at h; rw [pyRs_of_py k l ds q2]; exact h
      | tup =>
        dsimp only at h ⊢
        cases q2 : pys M k l with
        | none => rw [q2] at h; cases h
        | some ds => rw [q2] at h; rw [pyRs_of_py k l ds q2]; exact h
      | dct ks => cases h
      | fdct ks => cases h
      | obj c ns => cases h
      | fn k => cases h
      | iset => cases h
  termination_by k _ => (k, 0)
theorem pyRs_of_py {M : Store} : ∀ (k : Nat) (l : List D) (ds : List PyData), pys M k l = some ds → pyRs M k l = some ds
  | k, [], ds, h => by unfold pys at h; cases h; unfold pyRs; rfl
  | k, d :: l, ds, h => by
    unfold pys at h
    cases q1 : py M k d with
    | none => simp only [q1] at h; cases h
    | some a =>
      cases q2 : pys M k l with
      | none => simp only [q1, q2] at h; cases h
      | some as' =>
        simp only [q1, q2] at h
        cases h
        unfold pyRs
        rw [pyR_of_py k d a q1, pyRs_of_py k l as' q2]
  termination_by k l => (k, l.length + 1)
end
end Lw

set_option Elab.async false
set_option linter.all false
set_option maxRecDepth 100000
set_option maxHeartbeats 1000000
/-! YM: targets: reach, is_reach, unmet. -/
namespace Lw
open PySem L2 DL TL
open Mo (pur bnd lft)
def tks (t : Fd Int) : List Int := srt (t.kv.map (Prod.fst : Int × Int → Int))
def tv (t : Fd Int) (k : Int) : Int := match dfind t.dc k with
  | some v => v
  | none => 0
structure TgOk (w : OWeb) (t : Fd Int) : Prop where
  nd : (dkeys t.dc).Nodup
  rng : ∀ p ∈ t.kv, 0 ≤ p.1 ∧ p.1 < w.own_edges.length
  res : ∀ p ∈ t.kv, isres w.own_modulus p.2 = true
section
variable {w : OWeb} {t : Fd Int}
theorem TgOk.keys (h : TgOk w t) {k : Int} (hk : k ∈ dkeys t.dc) : 0 ≤ k ∧ k < w.own_edges.length := by
  obtain ⟨p, hp, rfl⟩ := List.mem_map.mp hk
  exact h.rng p hp
/-! ### the web of the target -/
def tEs (w : OWeb) (t : Fd Int) : List Edge := (tks t).map (edg w.own_edges)
/-! ### sums along target edges -/
def tsum (t : Fd Int) (g : List Int) (l : List (Int × Int)) : Int := (l.map fun s => s.2 * (tv t s.1 - pv g s.1)).sum
/-- a potential meets the target -/
def MeetP (w : OWeb) (g : List Int) (t : Fd Int) (p : List Int) : Prop := ∀ k ∈ dkeys t.dc, pv (swL w.own_modulus w.own_edges g p) k = tv t k
/-! ### the functions -/
/-! ### reach -/
structure TCyc (w : OWeb) (g : List Int) (t : Fd Int) (l : List (Int × Int)) : Prop where
  ne : l ≠ []
  len : l.length ≤ 31
  lead : ∃ x, Leads w.own_edges x l x
  ks : ∀ s ∈ l, s.1 ∈ dkeys t.dc
  sum : ¬ w.own_modulus ∣ tsum t g l
structure TFix (w : OWeb) (g : List Int) (t : Fd Int) (fx : List Int) (l : List (Int × Int)) : Prop where
  ne : l ≠ []
  len : l.length ≤ 31
  lead : ∃ x y, x ∈ fx ∧ y ∈ fx ∧ x ≠ y ∧ Leads w.own_edges x l y
  ks : ∀ s ∈ l, s.1 ∈ dkeys t.dc
  sum : ¬ w.own_modulus ∣ tsum t g l
structure TPot (w : OWeb) (g : List Int) (t : Fd Int) (fx : List Int) (p : List Int) : Prop where
  pt : Pt w p
  meet : MeetP w g t p
  fix : ∀ x ∈ fx, pv p x = 0
  fst : ∀ f ∈ firsts w.own_size (tEs w t), (∀ x ∈ fx, ¬ Conn (tEs w t) f x) → pv p f = 0
end
end Lw

set_option Elab.async false
set_option linter.all false
set_option maxRecDepth 100000
set_option maxHeartbeats 1000000
/-! YN: one potential; a target as a web of its own; dicts filled; answers compared. -/
namespace Lw
open PySem L2 DL TL
open Mo (pur bnd lft)
open Enc (enc)
/-! ### dicts filled -/
structure DK (n : Nat) (m : Int) (b : Dc Int) : Prop where
  nd : (dkeys b).Nodup
  rng : ∀ p ∈ b.kv, 0 ≤ p.1 ∧ p.1 < (n : Int)
  res : ∀ p ∈ b.kv, isres m p.2 = true
theorem DK.nil {n : Nat} {m : Int} : DK n m ⟨[]⟩ := ⟨by simp [dkeys], by simp, by simp⟩
theorem DK.len {n : Nat} {m : Int} {b : Dc Int} (h : DK n m b) : b.kv.length ≤ n := by
  have := pigeon n (dkeys b) h.nd (fun x hx => by
    obtain ⟨p, hp, rfl⟩ := List.mem_map.mp hx
    exact h.rng p hp)
  unfold dkeys at this
  rwa [List.length_map] at this
theorem putV_mem {α : Type} {b : Dc α} {k : Int} {v : α} {p : Int × α} (h : p ∈ (dputV b k v).kv) : p ∈ b.kv ∨ p = (k, v) := by
  unfold dputV at h
  dsimp only at h
  split at h
  · obtain ⟨q, hq, e⟩ := List.mem_map.mp h
    split at e
    · rename_i z
      right; rw [← e, z]
    · left; rw [← e]; exact hq
  · rcases List.mem_append.mp h with z | z
    · exact .inl z
    · right; simpa using z
theorem putV_self {α : Type} {b : Dc α} {k : Int} {v : α} : (k, v) ∈ (dputV b k v).kv := by
  unfold dputV
  dsimp only
  split
  · rename_i z
    obtain ⟨q, hq, e⟩ := List.any_eq_true.mp z
    have e : q.1 = k := of_decide_eq_true e
    exact List.mem_map.mpr ⟨q, hq, by rw [if_pos e, e]⟩
  · simp
theorem DK.put {n : Nat} {m : Int} {b : Dc Int} {x v : Int} (h : DK n m b) (hn : n ≤ 1000) (x0 : 0 ≤ x) (x1 : x < n) (hv : isres m v = true) : dput b x v = .ok (dputV b x v) ∧ DK n m (dputV b x v) ∧ dget (dputV b x v) x = .ok v := by
  have hl := h.len
  have nd : (dkeys (dputV b x v)).Nodup := by
    rw [dkeys_put]
    split
    · exact h.nd
    · rename_i z
      rw [List.nodup_append]
      refine ⟨h.nd, by simp, fun y hy w hw e => ?_⟩
      simp at hw
      rw [e, hw] at hy
      exact z hy
  refine ⟨?_, ⟨nd, fun p hp => ?_, fun p hp => ?_⟩, dget_mem nd putV_self⟩
  · unfold dput
    rw [if_pos (Nat.lt_of_le_of_lt hl (Nat.lt_of_le_of_lt hn (by decide)))]
  · rcases putV_mem hp with z | z
    · exact h.rng p z
    · rw [z]; exact ⟨x0, x1⟩
  · rcases putV_mem hp with z | z
    · exact h.res p z
    · rw [z]; exact hv
theorem DK.tg {w : OWeb} {b : Dc Int} (h : DK w.own_edges.length w.own_modulus b) : TgOk w b.fd := ⟨h.nd, h.rng, h.res⟩
/-! ### a target as a web of its own -/
def tB (g : List Int) (t : Fd Int) : List Int := (tks t).map (pv g)
structure Alone (w : OWeb) (t : Fd Int) (w' : OWeb) : Prop where
  s : w'.own_size = w.own_size
  e : w'.own_edges = tEs w t
  m : w'.own_modulus = w.own_modulus
section
variable {w w' : OWeb} {t : Fd Int} {g : List Int}
end
end Lw

set_option Elab.async false
set_option linter.all false
set_option maxRecDepth 100000
set_option maxHeartbeats 2000000
/-! YS: how large potentials are; what reach returns is accepted. -/
namespace Lw
open PySem L2 DL TL
open Mo (pur bnd lft)
open Enc (enc)
end Lw

set_option Elab.async false
set_option linter.all false
set_option maxRecDepth 100000
set_option maxHeartbeats 2000000
/-! YO: plain data. -/
namespace Lw
open PySem L2 DL TL
open Mo (pur bnd lft)
open Enc (enc)
mutual
/-- numbers, truths, texts, None, lists and tuples of these -/
def plD : D → Bool
  | .non => true
  | .bl _ => true
  | .int _ => true
  | .str _ => true
  | .nd t l => (match t with | .lst => true | .tup => true | _ => false) && plDs l
  | _ => false
def plDs : List D → Bool
  | [] => true
  | d :: l => plD d && plDs l
end
theorem bool_inj : ∀ a b : Bool, enc a = enc b → a = b := fun a b h => by cases h; rfl
end Lw

set_option Elab.async false
set_option linter.all false
set_option maxRecDepth 100000
set_option maxHeartbeats 2000000
/-! YP: steps and walks as data. -/
namespace Lw
open PySem L2 DL TL
open Mo (pur bnd lft)
open Enc (enc)
end Lw

set_option Elab.async false
set_option linter.all false
set_option maxRecDepth 100000
set_option maxHeartbeats 2000000
/-! YQ: is_transform at data. -/
namespace Lw
open PySem L2 DL TL
open Mo (pur bnd lft)
open Enc (enc)
end Lw

set_option Elab.async false
set_option linter.all false
set_option maxRecDepth 100000
set_option maxHeartbeats 2000000
/-! YT: the laws' own look at walks, as data; values of any kind, shown. -/
namespace Lw
open PySem L2 DL TL
open Mo (pur bnd lft)
open Enc (enc)
/-! ### shown -/
structure Sh (k e n : Nat) (d : D) : Prop where
  ex : ∃ a, (∀ M, pyR M k d = some a) ∧ Shw e n a
theorem Sh.mono {k e n e' n' : Nat} {d : D} (h : Sh k e n d) (he : e ≤ e') (hn : n ≤ n') : Sh k e' n' d := let ⟨a, h1, h2⟩ := h.ex; ⟨a, h1, h2.mono he hn⟩
theorem Sh.int {k : Nat} {i : Int} (h : BB (10 ^ 30) i) : Sh (k + 1) 0 0 (.int i) := ⟨.int i, fun M => by unfold pyR; rfl, .int h⟩
theorem Sh.bl {k : Nat} {b : Bool} : Sh (k + 1) 0 0 (.bl b) := ⟨.bool b, fun M => by unfold pyR; rfl, .bool b⟩
theorem Sh.non {k : Nat} : Sh (k + 1) 0 0 .non := ⟨.none, fun M => by unfold pyR; rfl, .none⟩
def okW (x : Str) : Bool := PyData.strOk (reprText x) && x.cps.toList.all (fun c => decide (c < 16 ^ 8)) && decide (x.cps.size ≤ 10)
theorem Sh.str {k : Nat} {x : Str} (h : okW x = true) : Sh (k + 1) 0 10 (.str x) := ⟨.str x, fun M => by unfold pyR; rfl, by
  unfold okW at h
  rw [Bool.and_eq_true, Bool.and_eq_true] at h
  exact ⟨rfl, by rw [PyData.depth]; omega, by rw [PyData.leavesShort]; exact h.1.2, by rw [PyData.bulk]; exact of_decide_eq_true h.2, by rw [PyData.shown]; exact h.1.1⟩⟩
theorem shs {k e n : Nat} : ∀ (l : List D), (∀ d ∈ l, Sh k e n d) → ∃ ds, (∀ M, pyRs M k l = some ds) ∧ ds.length = l.length ∧ ∀ d ∈ ds, Shw e n d
  | [], _ => ⟨[], fun M => by unfold pyRs; rfl, rfl, by simp⟩
  | d :: l, h => by
    obtain ⟨a, h1, h2⟩ := (h d (by simp)).ex
    obtain ⟨ds, q1, q2, q3⟩ := shs l fun x hx => h x (by simp [hx])
    exact ⟨a :: ds, fun M => by unfold pyRs; rw [h1 M, q1 M], by simp [q2], fun x hx => by
      rcases List.mem_cons.mp hx with rfl | z
      · exact h2
      · exact q3 x z⟩
theorem Sh.lst {k e n c : Nat} {l : List D} (h : ∀ d ∈ l, Sh k e n d) (hc : l.length * (n + 1) ≤ c) : Sh (k + 1) (e + 1) c (.nd .lst l) := by
  obtain ⟨ds, q1, q2, q3⟩ := shs l h
  exact ⟨.list ds, fun M => by unfold pyR; dsimp only; rw [q1 M]; rfl, .list q3 (by rw [q2]; exact hc)⟩
theorem Sh.tup {k e n c : Nat} {l : List D} (h : ∀ d ∈ l, Sh k e n d) (hc : l.length * (n + 1) ≤ c) : Sh (k + 1) (e + 1) c (.nd .tup l) := by
  obtain ⟨ds, q1, q2, q3⟩ := shs l h
  exact ⟨.tuple ds, fun M => by unfold pyR; dsimp only; rw [q1 M]; rfl, .tuple q3 (by rw [q2]; exact hc)⟩
theorem Sh.rp {e n : Nat} {x : Dt} (h : Sh 14 e n x.d) (he : e ≤ 14) (hn : n ≤ 8000) : ∃ s, (castE (reprF (enc x)) : E Str) = .ok s ∧ PyData.strOk s = true := by
  obtain ⟨a, h1, h2⟩ := h.ex
  exact ⟨_, castF (x := x) (a := a) h1 (h2.rpF he hn), h2.ok⟩
theorem Sh.ints {k c : Nat} {l : List Int} (hl : l.length ≤ c) (h : ∀ x ∈ l, BB (10 ^ 30) x) : Sh (k + 2) 1 c (enc l) := by
  refine Sh.lst (e := 0) (n := 0) (l := l.map enc) (fun d hd => ?_) (by rw [List.length_map]; omega)
  obtain ⟨x, hx, rfl⟩ := List.mem_map.mp hd
  exact .int (h x hx)
/-- numbers of edges and ways -/
def StB (s : Int × Int) : Prop := (-100 ≤ s.1 ∧ s.1 ≤ 100) ∧ (-1 ≤ s.2 ∧ s.2 ≤ 1)
theorem Sh.step {k : Nat} {s : Int × Int} (h : StB s) : Sh (k + 2) 1 2 (enc s) := by
  refine Sh.tup (e := 0) (n := 0) (l := [.int s.1, .int s.2]) (fun d hd => ?_) (by simp)
  obtain ⟨h1, h2⟩ := h
  simp only [List.mem_cons, List.not_mem_nil, or_false] at hd
  rcases hd with rfl | rfl
  · exact .int (by unfold BB; omega)
  · exact .int (by unfold BB; omega)
theorem Sh.steps {k : Nat} {l : List (Int × Int)} (hl : l.length ≤ 100) (h : ∀ s ∈ l, StB s) : Sh (k + 3) 2 300 (enc l) := by
  refine Sh.lst (e := 1) (n := 2) (l := l.map enc) (fun d hd => ?_) (by rw [List.length_map]; omega)
  obtain ⟨x, hx, rfl⟩ := List.mem_map.mp hd
  exact .step (h x hx)
theorem Sh.two {k e n : Nat} {a b : D} {t : Tg} (ht : t = .tup ∨ t = .lst) (ha : Sh k e n a) (hb : Sh k e n b) : Sh (k + 1) (e + 1) (2 * (n + 1)) (.nd t [a, b]) := by
  have h : ∀ d ∈ [a, b], Sh k e n d := fun d hd => by
    simp only [List.mem_cons, List.not_mem_nil, or_false] at hd
    rcases hd with rfl | rfl
    · exact ha
    · exact hb
  rcases ht with rfl | rfl
  · exact .tup h (by simp)
  · exact .lst h (by simp)
theorem Sh.three {k e n : Nat} {a b c : D} (ha : Sh k e n a) (hb : Sh k e n b) (hc : Sh k e n c) : Sh (k + 1) (e + 1) (3 * (n + 1)) (.nd .tup [a, b, c]) := .tup (fun d hd => by
    simp only [List.mem_cons, List.not_mem_nil, or_false] at hd
    rcases hd with rfl | rfl | rfl
    · exact ha
    · exact hb
    · exact hc) (by simp)
theorem StB.of {es : List Edge} {s : Int × Int} (h : StepOk es s) (hl : es.length ≤ 60) : StB s := by
  have := h.k0
  have := h.k1
  unfold StB
  rcases h.way with z | z <;> omega
/-! ### numbers, one by one -/
end Lw

set_option Elab.async false
set_option linter.all false
set_option maxRecDepth 100000
set_option maxHeartbeats 2000000
/-! YU: what laws with lambdas share: plain data with the empty dict, exceptions and their texts, loops. -/
namespace Lw
open PySem L2 DL TL
open Mo (pur bnd lft)
open Enc (enc)
instance inhDt : Inhabited Dt := ⟨Dt.of ()⟩
/-! ### plain data with the empty dict -/
mutual
def plE : D → Bool
  | .non => true
  | .bl _ => true
  | .int _ => true
  | .str _ => true
  | .nd t l => (match t with | .lst => true | .tup => true | .dct ks => ks.isEmpty && l.isEmpty | _ => false) && plEs l
  | _ => false
def plEs : List D → Bool
  | [] => true
  | d :: l => plE d && plEs l
end
/-! ### exceptions -/
def ShD (x : Dt) : Prop := ∃ s, (castE (reprF (enc x)) : E Str) = .ok s ∧ PyData.strOk s = true
structure Okd (x : Dt) : Prop where
  pl : plE x.d = true
  sh : Sh 13 1 10 x.d
structure Bent (x : Dt) : Prop where
  pl : plE x.d = true
  sh : ShD x
theorem getD_in {α : Type} {l : List α} {k : Nat} {d : α} (h : k < l.length) : l.getD k d ∈ l := by
  rw [List.getD_eq_getElem?_getD, List.getElem?_eq_getElem h]; exact List.getElem_mem h
end Lw

set_option Elab.async false
set_option linter.all false
set_option maxRecDepth 100000
set_option maxHeartbeats 2000000
/-! YV: the draws of the later laws: base, pairs, residue; values led. -/
namespace Lw
open PySem L2 DL TL
open Mo (pur bnd lft)
open Enc (enc)
end Lw

set_option Elab.async false
set_option linter.all false
set_option maxRecDepth 100000
set_option maxHeartbeats 2000000
/-! YW: webs by their moduli; moduli without a common divisor. -/
namespace Lw
open PySem L2 DL TL
open Mo (pur bnd lft)
open Enc (enc)
/-- the webs over the same edges, by their moduli -/
def wb (n : Int) (es : List Edge) (F : List Int) (L : List (List (T3 Int Int Int))) (m : Int) : OWeb := ⟨n, es, m, F, L⟩
theorem web_fam {n : Int} {es : List Edge} (h0 : 1 ≤ n) (h1 : n ≤ 30) (h : EOk n es) : ∃ F L, ∀ m : Int, 0 ≤ m → m ≤ 60 → m ≠ 1 → p_Web___init__ n es m = .ok (wb n es F L m) ∧ WebOk (wb n es F L m) := by
  obtain ⟨fs, f1, f2, f3⟩ := forest_eq h0 h1 h
  obtain ⟨L, l1, l2⟩ := links_eq h0 h1 h f2 f3
  refine ⟨fs, L, fun m m0 m1 m2 => ⟨?_, ⟨⟨h0, h1, h.len, h.ed, m0, m1⟩, f3, l2, m2⟩⟩⟩
  unfold p_Web___init__ p_is_modulus wb
  simp [is_within_eq, check_edges_eq h, f1, l1, bndE, purE, lftE, E.bind, eqB, h0, h1, m0, m1, m2]
section
variable {n : Int} {es : List Edge} {F : List Int} {L : List (List (T3 Int Int Int))} {m d : Int} {b a p : List Int}
end

/-! ### powers of primes, by going through -/
def nxF (x : Int) : Nat → Int × Int → Option (Int × Int)
  | 0, _ => none
  | n + 1, b => if b.1 % x = 0 then (if 0 ≤ b.1 ∧ b.1 ≤ 1000 ∧ 0 ≤ b.2 ∧ b.2 ≤ 1000 then nxF x n (b.1 / x, b.2 * x) else none) else some b
def stF (b : Int × List Int) (x : Int) : Option (Int × List Int) := match nxF x 1000 (b.1, 1) with
  | none => none
  | some r => if 1 < r.2 then (if b.2.length < 60 then some (r.1, b.2 ++ [r.2]) else none) else some (r.1, b.2)
def foF : List Int → Int × List Int → Option (Int × List Int)
  | [], b => some b
  | x :: xs, b => match stF b x with
    | none => none
    | some b' => foF xs b'
def fcL (m : Int) : List Int := match foF (rg 2 (m + 1)) (m, []) with
  | some r => r.2
  | none => []
def insS (x : Int) : List Int → List Int
  | [] => [x]
  | y :: l => if x ≤ y then x :: y :: l else y :: insS x l
/-- the factors, ascending -/
def fc (m : Int) : List Int := (fcL m).foldr insS []
def allT : List Int → List (List Int)
  | [] => [[]]
  | d :: l => (rg 0 d).flatMap fun r => (allT l).map (r :: ·)
structure FcOk (m : Int) : Prop where
  some : ∃ r, foF (rg 2 (m + 1)) (m, []) = some r ∧ r.2 = fcL m
  srt : srt (fcL m) = fc m
  len : (fc m).length < 10
  len2 : (fcL m).length < 10
  mem : ∀ d ∈ fc m, 2 ≤ d ∧ d ≤ 60 ∧ d ∣ m
  ne : fc m ≠ []
  ex : ∀ t ∈ allT (fc m), ∃ x, 0 ≤ x ∧ x < m ∧ (fc m).map (fun d => x % d) = t
  dvd : ∀ y, (∀ d ∈ fc m, d ∣ y) → m ∣ y
/-! ### two moduli without a common divisor -/
end Lw

set_option Elab.async false
set_option linter.all false
set_option maxRecDepth 100000
set_option maxHeartbeats 2000000
/-! K18m: counting gains and potentials. -/
namespace Lw
open PySem L2 DL TL
open Mo (pur bnd lft)
open Enc (enc)
/-! ### lists without repetition -/
theorem nd_len {α : Type} [DecidableEq α] : ∀ {A B : List α}, A.Nodup → (∀ x ∈ A, x ∈ B) → A.length ≤ B.length
  | [], B, _, _ => Nat.zero_le _
  | x :: A, B, h, s => by
    obtain ⟨h1, h2⟩ := List.nodup_cons.mp h
    have hx : x ∈ B := s x (by simp)
    have := nd_len (A := A) (B := B.erase x) h2 (fun y hy => (List.mem_erase_of_ne (fun (e : y = x) => h1 (e ▸ hy))).mpr (s y (by simp [hy])))
    have e := List.length_erase_of_mem hx
    have := List.length_pos_of_mem hx
    simp only [List.length_cons]
    omega
theorem nd_map {α β : Type} {f : α → β} : ∀ {A : List α}, A.Nodup → (∀ x ∈ A, ∀ y ∈ A, f x = f y → x = y) → (A.map f).Nodup
  | [], _, _ => by simp
  | x :: A, h, i => by
    obtain ⟨h1, h2⟩ := List.nodup_cons.mp h
    rw [List.map_cons, List.nodup_cons]
    refine ⟨fun hm => ?_, nd_map h2 fun a ha b hb => i a (by simp [ha]) b (by simp [hb])⟩
    obtain ⟨y, hy, e⟩ := List.mem_map.mp hm
    have := i y (by simp [hy]) x (by simp) e
    exact h1 (this ▸ hy)
/-- as many as in another list -/
theorem nd_bij {α β : Type} [DecidableEq β] {A : List α} {B : List β} (f : α → β) (hA : A.Nodup) (hB : B.Nodup) (inj : ∀ x ∈ A, ∀ y ∈ A, f x = f y → x = y) (into : ∀ x ∈ A, f x ∈ B) (onto : ∀ y ∈ B, ∃ x ∈ A, f x = y) : A.length = B.length := by
  have h1 : (A.map f).length ≤ B.length := nd_len (nd_map hA inj) (fun y hy => by
    obtain ⟨x, hx, rfl⟩ := List.mem_map.mp hy
    exact into x hx)
  have h2 : B.length ≤ (A.map f).length := nd_len hB (fun y hy => by
    obtain ⟨x, hx, rfl⟩ := onto y hy
    exact List.mem_map.mpr ⟨x, hx, rfl⟩)
  rw [List.length_map] at h1 h2
  omega
/-- the different things of a list -/
def uqD {α : Type} [DecidableEq α] (l : List α) : List α := l.foldl (fun acc x => if x ∈ acc then acc else acc ++ [x]) []
theorem uqD_snoc {α : Type} [DecidableEq α] (l : List α) (x : α) : uqD (l ++ [x]) = if x ∈ uqD l then uqD l else uqD l ++ [x] := by
  unfold uqD
  rw [List.foldl_append]; rfl
theorem list_rev {α : Type} {P : List α → Prop} (h0 : P []) (h : ∀ l x, P l → P (l ++ [x])) : ∀ l, P l := fun l => by
  have gen : ∀ n (l : List α), l.length = n → P l := by
    intro n
    induction n with
    | zero => intro l hl; rw [List.eq_nil_of_length_eq_zero hl]; exact h0
    | succ n ih =>
      intro l hl
      have hne : l ≠ [] := fun e => by rw [e] at hl; cases hl
      rw [← List.dropLast_concat_getLast hne]
      exact h _ _ (ih _ (by rw [List.length_dropLast]; omega))
  exact gen _ l rfl
theorem uqD_ok {α : Type} [DecidableEq α] (l : List α) : (uqD l).Nodup ∧ ∀ x, x ∈ uqD l ↔ x ∈ l := by
  revert l
  refine list_rev ⟨List.nodup_nil, fun x => Iff.rfl⟩ (fun l x ⟨h1, h2⟩ => ?_)
  rw [uqD_snoc]
  by_cases q : x ∈ uqD l
  · rw [if_pos q]
    refine ⟨h1, fun y => ?_⟩
    rw [h2 y, List.mem_append, List.mem_singleton]
    exact ⟨.inl, fun z => z.elim id fun e => by rw [e]; exact (h2 x).mp q⟩
  · rw [if_neg q]
    refine ⟨?_, fun y => ?_⟩
    · rw [List.nodup_append]
      refine ⟨h1, by simp, fun a ha b hb => ?_⟩
      have : b = x := by simpa using hb
      subst this
      exact fun e => q (e ▸ ha)
    · rw [List.mem_append, List.mem_append, h2 y]
theorem uq_map {α : Type} [DecidableEq α] {f : α → Str} {l : List α} (inj : ∀ x ∈ l, ∀ y ∈ l, f x = f y → x = y) : uq (l.map f) = (uqD l).map f := by
  revert l
  intro l
  refine list_rev (P := fun l => (∀ x ∈ l, ∀ y ∈ l, f x = f y → x = y) → uq (l.map f) = (uqD l).map f) (fun _ => rfl) (fun l x ih inj => ?_) l
  have ih := ih fun a ha b hb => inj a (by simp [ha]) b (by simp [hb])
  rw [List.map_append, List.map_singleton, uq_snoc, uqD_snoc, ih]
  have e : f x ∈ (uqD l).map f ↔ x ∈ uqD l := by
    rw [List.mem_map]
    constructor
    · rintro ⟨y, hy, e⟩
      have := inj y (by simp [((uqD_ok l).2 y).mp hy]) x (by simp) e
      exact this ▸ hy
    · exact fun h => ⟨x, h, rfl⟩
  by_cases q : x ∈ uqD l
  · rw [if_pos (e.mpr q), if_pos q]
  · rw [if_neg (fun h => q (e.mp h)), if_neg q, List.map_append]; rfl
/-! ### all rows -/
def allL (d : Int) : Nat → List (List Int)
  | 0 => [[]]
  | k + 1 => (allL d k).flatMap fun row => (rg 0 d).map fun x => row ++ [x]
theorem mem_allL {d : Int} : ∀ {k : Nat} {l : List Int}, l ∈ allL d k ↔ l.length = k ∧ ∀ x ∈ l, 0 ≤ x ∧ x < d
  | 0, l => by
    simp [allL]
    rintro rfl
    simp
  | k + 1, l => by
    unfold allL
    rw [List.mem_flatMap]
    constructor
    · rintro ⟨row, hr, hl⟩
      obtain ⟨x, hx, rfl⟩ := List.mem_map.mp hl
      have ih := mem_allL.mp hr
      have hx := rg_mem.mp hx
      refine ⟨by simp [ih.1], fun y hy => ?_⟩
      rcases List.mem_append.mp hy with z | z
      · exact ih.2 y z
      · simp at z; rw [z]; exact hx
    · rintro ⟨hl, hx⟩
      have hne : l ≠ [] := by intro z; subst z; simp at hl
      refine ⟨l.dropLast, mem_allL.mpr ⟨by simp [hl], fun y hy => hx y (List.dropLast_subset l hy)⟩, List.mem_map.mpr ⟨l.getLast hne, rg_mem.mpr (hx _ (List.getLast_mem hne)), List.dropLast_concat_getLast hne⟩⟩
theorem flat_len {d : Int} (h0 : 0 ≤ d) : ∀ rows : List (List Int), (rows.flatMap fun row => (rg 0 d).map fun x => row ++ [x]).length = d.toNat * rows.length
  | [] => by simp
  | r :: rows => by
    rw [List.flatMap_cons, List.length_append, List.length_map, rg_len, flat_len h0 rows, List.length_cons, Nat.mul_succ]
    have : (d - 0).toNat = d.toNat := by omega
    omega
theorem allL_card {d : Int} (h0 : 0 ≤ d) : ∀ k, (allL d k).length = d.toNat ^ k
  | 0 => by simp [allL]
  | k + 1 => by
    unfold allL
    rw [flat_len h0, allL_card h0 k, Nat.pow_succ, Nat.mul_comm]
theorem allL_nd {d : Int} : ∀ k, (allL d k).Nodup
  | 0 => by simp [allL]
  | k + 1 => by
    unfold allL
    have ih := allL_nd (d := d) k
    have gen : ∀ rows : List (List Int), rows.Nodup → (rows.flatMap fun row => (rg 0 d).map fun x => row ++ [x]).Nodup := by
      intro rows
      induction rows with
      | nil => intro _; simp
      | cons r rows ihr =>
        intro h
        obtain ⟨h1, h2⟩ := List.nodup_cons.mp h
        rw [List.flatMap_cons, List.nodup_append]
        refine ⟨nd_map (asc_nodup (rg_asc d)) (fun x _ y _ e => ?_), ihr h2, fun a ha b hb e => ?_⟩
        · have := List.append_inj_right e rfl
          simpa using this
        · subst e
          obtain ⟨x, _, rfl⟩ := List.mem_map.mp ha
          obtain ⟨r2, hr2, hb⟩ := List.mem_flatMap.mp hb
          obtain ⟨y, _, e⟩ := List.mem_map.mp hb
          have := List.append_inj_left' e rfl
          exact h1 (this ▸ hr2)
    exact gen _ ih
end Lw

set_option Elab.async false
set_option linter.all false
set_option maxRecDepth 100000
set_option maxHeartbeats 2000000
/-! K18n: how many gains are reached, how many are normal, how many potentials change nothing. -/
namespace Lw
open PySem L2 DL TL
open Mo (pur bnd lft)
open Enc (enc)
theorem mod_lt {m x : Int} (h0 : 0 ≤ x) (h1 : x < m) : x % m = x := Int.emod_eq_of_lt h0 h1
theorem row_pv {m : Int} {k : Nat} {p : List Int} (h : p ∈ allL m k) {i : Int} (i0 : 0 ≤ i) (i1 : i < k) : 0 ≤ pv p i ∧ pv p i < m := by
  obtain ⟨h1, h2⟩ := mem_allL.mp h
  exact h2 _ (pv_mem i0 (by omega))
section
variable {n m : Int} {es : List Edge} {F : List Int} {g p q : List Int}
theorem diff_conn (hf : ForestOk n es F) (hg : g.length = es.length) (h : ∀ i ∈ F, pv (swL m es g p) i = pv (swL m es g q) i) {x y : Int} (c : Conn es x y) : m ∣ (pv p x - pv q x) - (pv p y - pv q y) := by
  have key : ∀ i ∈ F, m ∣ (pv p (edg es i).1 - pv q (edg es i).1) - (pv p (edg es i).2 - pv q (edg es i).2) := fun i hi => by
    have r := hf.rng i hi
    have e := h i hi
    rw [sw_pv hg r.1 r.2, sw_pv hg r.1 r.2] at e
    have := cg_iff.mp e
    rw [show (pv p (edg es i).1 - pv q (edg es i).1) - (pv p (edg es i).2 - pv q (edg es i).2) = pv g i + pv p (edg es i).1 - pv p (edg es i).2 - (pv g i + pv q (edg es i).1 - pv q (edg es i).2) by omega]
    exact this
  have cl := hf.cl (fun z => m ∣ (pv p z - pv q z) - (pv p y - pv q y)) (fun i hi => by
    have := key i hi
    constructor
    · intro z
      have := Int.dvd_sub z this
      rw [show pv p (edg es i).1 - pv q (edg es i).1 - (pv p y - pv q y) - ((pv p (edg es i).1 - pv q (edg es i).1) - (pv p (edg es i).2 - pv q (edg es i).2)) = pv p (edg es i).2 - pv q (edg es i).2 - (pv p y - pv q y) by omega] at this
      exact this
    · intro z
      have := Int.dvd_add z this
      rw [show pv p (edg es i).2 - pv q (edg es i).2 - (pv p y - pv q y) + ((pv p (edg es i).1 - pv q (edg es i).1) - (pv p (edg es i).2 - pv q (edg es i).2)) = pv p (edg es i).1 - pv q (edg es i).1 - (pv p y - pv q y) by omega] at this
      exact this)
  refine (Conn.closed (S := fun z => m ∣ (pv p z - pv q z) - (pv p y - pv q y)) cl c).mpr ?_
  rw [Int.sub_self]; exact Int.dvd_zero m
theorem sw_same (hf : ForestOk n es F) (hg : g.length = es.length) (h : ∀ i ∈ F, pv (swL m es g p) i = pv (swL m es g q) i) : swL m es g p = swL m es g q := by
  refine pv_ext (by rw [sw_len hg, sw_len hg]) (fun k hk => ?_)
  rw [sw_len hg] at hk
  rw [sw_pv hg (by omega) (by omega), sw_pv hg (by omega) (by omega)]
  have c := diff_conn hf hg h (Conn.edge (edg_mem (es := es) (k := k) hk))
  refine cg_iff.mpr ?_
  rw [show pv g k + pv p (edg es k).1 - pv p (edg es k).2 - (pv g k + pv q (edg es k).1 - pv q (edg es k).2) = (pv p (edg es k).1 - pv q (edg es k).1) - (pv p (edg es k).2 - pv q (edg es k).2) by omega]
  exact c
theorem pot_same {k : Nat} (hn : n = (k : Int)) (hf : ForestOk n es F) (hg : g.length = es.length) (hp : p ∈ allL m k) (hq : q ∈ allL m k) (h : ∀ i ∈ F, pv (swL m es g p) i = pv (swL m es g q) i) (h2 : ∀ f ∈ firsts n es, pv p f = pv q f) : p = q := by
  have l1 := (mem_allL.mp hp).1
  have l2 := (mem_allL.mp hq).1
  refine pv_ext (by omega) (fun j hj => ?_)
  obtain ⟨f, hf1, c, _⟩ := fst_of' (n := n) (es := es) (a := (j : Int)) (by omega) (by omega)
  have d := diff_conn hf hg h c
  rw [h2 f hf1, Int.sub_self] at d
  have r1 := row_pv hp (i := (j : Int)) (by omega) (by omega)
  have r2 := row_pv hq (i := (j : Int)) (by omega) (by omega)
  have e : pv p j % m = pv q j % m := cg_iff.mpr (by
    have := Int.dvd_neg.mpr d
    rw [show -(0 - (pv p (j : Int) - pv q j)) = pv p (j : Int) - pv q j by omega] at this
    exact this)
  rw [mod_lt r1.1 r1.2, mod_lt r2.1 r2.2] at e
  exact e
/-- the place of a thing -/
theorem getD_idx {l : List Int} {v : List Int} (nd : l.Nodup) (hl : v.length = l.length) : l.map (fun x => v.getD (l.idxOf x) 0) = v := by
  apply List.ext_getElem?
  intro i
  by_cases hi : i < l.length
  · rw [List.getElem?_map, List.getElem?_eq_getElem hi, Option.map_some, List.Nodup.idxOf_getElem nd i hi, List.getElem?_eq_getElem (by omega), List.getD_eq_getElem?_getD, List.getElem?_eq_getElem (by omega)]
    rfl
  · rw [List.getElem?_eq_none (by rw [List.length_map]; omega), List.getElem?_eq_none (by omega)]
theorem firsts_nd : (firsts n es).Nodup := (asc_nodup (rg_asc n)).filter _
theorem pot_ex {k : Nat} (hn : n = (k : Int)) (hm : 0 < m) (he : ∀ e ∈ es, 0 ≤ e.1 ∧ e.1 < n ∧ 0 ≤ e.2 ∧ e.2 < n) (hf : ForestOk n es F) (hg : g.length = es.length) {v t : List Int} (hv : v ∈ allL m (firsts n es).length) (ht : t ∈ allL m F.length) :
    ∃ p ∈ allL m k, (firsts n es).map (pv p) = v ∧ F.map (pv (swL m es g p)) = t := by
  have nF : F.Nodup := asc_nodup hf.asc
  obtain ⟨v1, v2⟩ := mem_allL.mp hv
  obtain ⟨t1, t2⟩ := mem_allL.mp ht
  have fst0 : ∀ x : Int, ∃ f : Int, 0 ≤ x → x < n → f ∈ firsts n es ∧ Conn es f x := fun x => by
    by_cases h : 0 ≤ x ∧ x < n
    · obtain ⟨f, h1, h2, _⟩ := fst_of' (n := n) (es := es) h.1 h.2
      exact ⟨f, fun _ _ => ⟨h1, h2⟩⟩
    · exact ⟨0, fun a b => (h ⟨a, b⟩).elim⟩
  let fs : Int → Int := fun x => (fst0 x).choose
  have hfs : ∀ x : Int, 0 ≤ x → x < n → fs x ∈ firsts n es ∧ Conn es (fs x) x := fun x => (fst0 x).choose_spec
  let ds : List Int := (rg 0 (es.length : Int)).map fun i => t.getD (F.idxOf i) 0 - pv g i
  obtain ⟨q, hq⟩ := hf.pot ds
  have hds : ∀ i ∈ F, pv ds i = t.getD (F.idxOf i) 0 - pv g i := fun i hi => by
    have r := hf.rng i hi
    show pv ((rg 0 (es.length : Int)).map fun i => t.getD (F.idxOf i) 0 - pv g i) i = _
    rw [pv_map r.1 (by rw [rg_len]; omega), pv_rg r.1 r.2]
  let f : Int → Int := fun x => (q x - q (fs x) + v.getD ((firsts n es).idxOf (fs x)) 0) % m
  let p : List Int := (rg 0 n).map f
  have hp : ∀ x : Int, 0 ≤ x → x < n → pv p x = f x := fun x h0 h1 => by
    show pv ((rg 0 n).map f) x = f x
    rw [pv_map h0 (by rw [rg_len]; omega), pv_rg h0 h1]
  refine ⟨p, mem_allL.mpr ⟨by show ((rg 0 n).map f).length = k; rw [List.length_map, rg_len]; omega, fun x hx => ?_⟩, ?_, ?_⟩
  · obtain ⟨y, _, rfl⟩ := List.mem_map.mp hx
    exact ⟨Int.emod_nonneg _ (by omega), Int.emod_lt_of_pos _ hm⟩
  · rw [← getD_idx (l := firsts n es) (v := v) firsts_nd v1]
    refine List.map_congr_left fun x hx => ?_
    have hx0 := (mem_firsts.mp hx).1
    obtain ⟨a1, a2⟩ := hfs x hx0.1 hx0.2
    have ex : fs x = x := fst_uniq a1 hx a2
    rw [hp x hx0.1 hx0.2]
    show (q x - q (fs x) + v.getD ((firsts n es).idxOf (fs x)) 0) % m = _
    rw [ex, Int.sub_self, Int.zero_add]
    have hi : (firsts n es).idxOf x < v.length := by rw [v1]; exact List.idxOf_lt_length_iff.mpr hx
    have hm : v.getD ((firsts n es).idxOf x) 0 ∈ v := by rw [List.getD_eq_getElem?_getD, List.getElem?_eq_getElem hi]; exact List.getElem_mem hi
    exact mod_lt (v2 _ hm).1 (v2 _ hm).2
  · rw [← getD_idx (l := F) (v := t) nF t1]
    refine List.map_congr_left fun i hi => ?_
    have r := hf.rng i hi
    obtain ⟨j, rfl⟩ := Int.eq_ofNat_of_zero_le r.1
    have hj : j < es.length := by omega
    have hme := edg_mem (es := es) (k := j) hj
    have b := he _ hme
    rw [sw_pv hg r.1 r.2, hp _ b.1 b.2.1, hp _ b.2.2.1 b.2.2.2]
    have s1 := hfs _ b.1 b.2.1
    have s2 := hfs _ b.2.2.1 b.2.2.2
    have es' : fs (edg es j).1 = fs (edg es j).2 := fst_uniq s1.1 s2.1 (s1.2.trans ((Conn.edge hme).trans s2.2.symm))
    have hq1 := hq _ hi
    rw [hds _ hi] at hq1
    have hix : F.idxOf (j : Int) < t.length := by rw [t1]; exact List.idxOf_lt_length_iff.mpr hi
    have hmm : t.getD (F.idxOf (j : Int)) 0 ∈ t := by rw [List.getD_eq_getElem?_getD, List.getElem?_eq_getElem hix]; exact List.getElem_mem hix
    have tb := t2 _ hmm
    have e2 : t.getD (F.idxOf (j : Int)) 0 = t.getD (F.idxOf (j : Int)) 0 % m := (mod_lt tb.1 tb.2).symm
    rw [e2]
    refine cg_iff.mpr ?_
    show m ∣ pv g j + (q (edg es j).1 - q (fs (edg es j).1) + v.getD ((firsts n es).idxOf (fs (edg es j).1)) 0) % m - (q (edg es j).2 - q (fs (edg es j).2) + v.getD ((firsts n es).idxOf (fs (edg es j).2)) 0) % m - t.getD (F.idxOf (j : Int)) 0
    rw [es']
    have c1 := cg_mod m (q (edg es j).1 - q (fs (edg es j).2) + v.getD ((firsts n es).idxOf (fs (edg es j).2)) 0)
    have c2 := cg_mod m (q (edg es j).2 - q (fs (edg es j).2) + v.getD ((firsts n es).idxOf (fs (edg es j).2)) 0)
    have := Int.dvd_sub c1 c2
    revert this
    generalize (q (edg es j).1 - q (fs (edg es j).2) + v.getD ((firsts n es).idxOf (fs (edg es j).2)) 0) % m = A
    generalize (q (edg es j).2 - q (fs (edg es j).2) + v.getD ((firsts n es).idxOf (fs (edg es j).2)) 0) % m = B
    intro this
    rw [show pv g j + A - B - t.getD (F.idxOf (j : Int)) 0 = A - (q (edg es j).1 - q (fs (edg es j).2) + v.getD ((firsts n es).idxOf (fs (edg es j).2)) 0) - (B - (q (edg es j).2 - q (fs (edg es j).2) + v.getD ((firsts n es).idxOf (fs (edg es j).2)) 0)) by omega]
    exact this
theorem sw_rz {k : Int} (hm : 0 < m) (hg : g.length = es.length) (k0 : 0 ≤ k) (k1 : k < es.length) : 0 ≤ pv (swL m es g p) k ∧ pv (swL m es g p) k < m := by
  rw [sw_pv hg k0 k1]
  exact ⟨Int.emod_nonneg _ (by omega), Int.emod_lt_of_pos _ hm⟩
theorem map_eq {α β : Type} {f h : α → β} : ∀ {l : List α}, l.map f = l.map h → ∀ x ∈ l, f x = h x := fun {l} e x hx => by
  obtain ⟨i, hi, rfl⟩ := List.mem_iff_getElem.mp hx
  have := congrArg (fun z => z[i]?) e
  simpa [hi] using this
/-- how many gains are reached -/
theorem count_reach {k : Nat} (hn : n = (k : Int)) (hm : 0 < m) (he : ∀ e ∈ es, 0 ≤ e.1 ∧ e.1 < n ∧ 0 ≤ e.2 ∧ e.2 < n) (hf : ForestOk n es F) (hg : g.length = es.length) : (uqD ((allL m k).map (swL m es g))).length = m.toNat ^ F.length := by
  rw [← allL_card (by omega : 0 ≤ m)]
  have U := uqD_ok ((allL m k).map (swL m es g))
  refine nd_bij (fun r => F.map (pv r)) U.1 (allL_nd _) (fun x hx y hy e => ?_) (fun x hx => ?_) (fun t ht => ?_)
  · obtain ⟨p, _, rfl⟩ := List.mem_map.mp ((U.2 x).mp hx)
    obtain ⟨q, _, rfl⟩ := List.mem_map.mp ((U.2 y).mp hy)
    exact sw_same hf hg (map_eq e)
  · obtain ⟨p, _, rfl⟩ := List.mem_map.mp ((U.2 x).mp hx)
    refine mem_allL.mpr ⟨by rw [List.length_map], fun z hz => ?_⟩
    obtain ⟨i, hi, rfl⟩ := List.mem_map.mp hz
    have r := hf.rng i hi
    exact sw_rz hm hg r.1 r.2
  · obtain ⟨p, hp, _, h2⟩ := pot_ex (v := List.replicate (firsts n es).length 0) hn hm he hf hg (mem_allL.mpr ⟨by simp, fun x hx => by rw [List.eq_of_mem_replicate hx]; omega⟩) ht
    exact ⟨_, (U.2 _).mpr (List.mem_map.mpr ⟨p, hp, rfl⟩), h2⟩
/-- how many potentials change nothing -/
theorem count_stab {k : Nat} (hn : n = (k : Int)) (hm : 0 < m) (he : ∀ e ∈ es, 0 ≤ e.1 ∧ e.1 < n ∧ 0 ≤ e.2 ∧ e.2 < n) (hf : ForestOk n es F) (hg : g ∈ allL m es.length) : ((allL m k).filter fun p => decide (swL m es g p = g)).length = m.toNat ^ (firsts n es).length := by
  rw [← allL_card (by omega : 0 ≤ m)]
  have lg := (mem_allL.mp hg).1
  refine nd_bij (fun p => (firsts n es).map (pv p)) ((allL_nd _).filter _) (allL_nd _) (fun p hp q hq e => ?_) (fun p hp => ?_) (fun v hv => ?_)
  · obtain ⟨p1, p2⟩ := List.mem_filter.mp hp
    obtain ⟨q1, q2⟩ := List.mem_filter.mp hq
    have p2 : swL m es g p = g := by simpa using p2
    have q2 : swL m es g q = g := by simpa using q2
    exact pot_same hn hf lg p1 q1 (fun i _ => by rw [p2, q2]) (map_eq e)
  · obtain ⟨p1, _⟩ := List.mem_filter.mp hp
    refine mem_allL.mpr ⟨by rw [List.length_map], fun z hz => ?_⟩
    obtain ⟨i, hi, rfl⟩ := List.mem_map.mp hz
    have := (mem_firsts.mp hi).1
    exact row_pv p1 this.1 (by omega)
  · obtain ⟨p, hp, h1, h2⟩ := pot_ex (t := F.map (pv g)) hn hm he hf lg hv (mem_allL.mpr ⟨by rw [List.length_map], fun x hx => by
      obtain ⟨i, hi, rfl⟩ := List.mem_map.mp hx
      have r := hf.rng i hi
      exact row_pv hg r.1 r.2⟩)
    refine ⟨p, List.mem_filter.mpr ⟨hp, ?_⟩, h1⟩
    -- the same as with no potential at all
    have z0 : swL m es g (List.replicate k 0) = g := by
      refine pv_ext (by rw [sw_len lg, lg]) (fun j hj => ?_)
      rw [sw_len lg] at hj
      rw [sw_pv lg (by omega) (by omega), pv_rep, pv_rep]
      have := row_pv hg (i := (j : Int)) (by omega) (by omega)
      rw [Int.add_zero, Int.sub_zero, mod_lt this.1 this.2]
    have e : swL m es g p = swL m es g (List.replicate k 0) := sw_same hf lg fun i hi => by rw [z0]; exact map_eq h2 i hi
    rw [z0] at e
    simpa using e
/-- as many nodes as components and edges of the forest -/
theorem nodes_eq' {k : Nat} (hn : n = (k : Int)) (he : ∀ e ∈ es, 0 ≤ e.1 ∧ e.1 < n ∧ 0 ≤ e.2 ∧ e.2 < n) (hf : ForestOk n es F) : k = (firsts n es).length + F.length := by
  have lg : (List.replicate es.length (0 : Int)).length = es.length := by simp
  have h := nd_bij (A := allL 2 k) (B := allL 2 ((firsts n es).length + F.length)) (fun p => (firsts n es).map (pv p) ++ F.map (pv (swL 2 es (List.replicate es.length 0) p))) (allL_nd _) (allL_nd _) (fun p hp q hq e => ?_) (fun p hp => ?_) (fun y hy => ?_)
  · rw [allL_card (by omega), allL_card (by omega)] at h
    have t2 : (2 : Int).toNat = 2 := rfl
    rw [t2] at h
    rcases Nat.lt_trichotomy k ((firsts n es).length + F.length) with q | q | q
    · have := Nat.pow_lt_pow_right (a := 2) (by omega) q; omega
    · exact q
    · have := Nat.pow_lt_pow_right (a := 2) (by omega) q; omega
  · have e1 := List.append_inj_left e (by simp)
    have e2 := List.append_inj_right e (by simp)
    exact pot_same hn hf lg hp hq (map_eq e2) (map_eq e1)
  · refine mem_allL.mpr ⟨by simp, fun z hz => ?_⟩
    rcases List.mem_append.mp hz with hz | hz
    · obtain ⟨i, hi, rfl⟩ := List.mem_map.mp hz
      have := (mem_firsts.mp hi).1
      exact row_pv hp this.1 (by omega)
    · obtain ⟨i, hi, rfl⟩ := List.mem_map.mp hz
      have r := hf.rng i hi
      exact sw_rz (by omega) lg r.1 r.2
  · obtain ⟨y1, y2⟩ := mem_allL.mp hy
    obtain ⟨p, hp, h1, h2⟩ := pot_ex (m := 2) (g := List.replicate es.length 0) (v := y.take (firsts n es).length) (t := y.drop (firsts n es).length) hn (by omega) he hf lg (mem_allL.mpr ⟨by rw [List.length_take]; omega, fun x hx => y2 x (List.mem_of_mem_take hx)⟩) (mem_allL.mpr ⟨by rw [List.length_drop]; omega, fun x hx => y2 x (List.mem_of_mem_drop hx)⟩)
    exact ⟨p, hp, by rw [h1, h2, List.take_append_drop]⟩
end
/-- how many gains are normal -/
theorem rest_card {w : OWeb} (hw : WebOk w) : (restL w).length + w.own_forest.length = w.own_edges.length := by
  have nF : w.own_forest.Nodup := asc_nodup hw.fo.asc
  have h1 : ((rg 0 (w.own_edges.length : Int)).filter fun k => inI k w.own_forest).length = w.own_forest.length := by
    refine nd_bij id ((asc_nodup (rg_asc _)).filter _) nF (fun _ _ _ _ e => e) (fun x hx => ?_) (fun x hx => ?_)
    · have := (List.mem_filter.mp hx).2
      simpa [inI] using this
    · have r := hw.fo.rng x hx
      exact ⟨x, List.mem_filter.mpr ⟨rg_mem.mpr ⟨r.1, by exact r.2⟩, by simpa [inI] using hx⟩, rfl⟩
  have h2 : (restL w).length + ((rg 0 (w.own_edges.length : Int)).filter fun k => inI k w.own_forest).length = (rg 0 (w.own_edges.length : Int)).length := by
    unfold restL
    generalize rg 0 (w.own_edges.length : Int) = l
    induction l with
    | nil => rfl
    | cons x l ih =>
      rw [List.filter_cons, List.filter_cons]
      cases inI x w.own_forest with
      | true => rw [if_neg (by simp), if_pos rfl, List.length_cons, List.length_cons]; omega
      | false => rw [if_pos (by simp), if_neg (by simp), List.length_cons, List.length_cons]; omega
  rw [h1, rg_len] at h2
  omega
theorem count_norm {w : OWeb} (hw : WebOk w) (hm : 0 < w.own_modulus) : (uqD ((allL w.own_modulus w.own_edges.length).map (nrmL w))).length = w.own_modulus.toNat ^ (w.own_edges.length - w.own_forest.length) := by
  have rc := rest_card hw
  rw [show w.own_edges.length - w.own_forest.length = (restL w).length by omega, ← allL_card (by omega : 0 ≤ w.own_modulus)]
  have U := uqD_ok ((allL w.own_modulus w.own_edges.length).map (nrmL w))
  have nr : (restL w).Nodup := (asc_nodup (rg_asc _)).filter _
  refine nd_bij (fun r => (restL w).map (pv r)) U.1 (allL_nd _) (fun x hx y hy e => ?_) (fun x hx => ?_) (fun t ht => ?_)
  · obtain ⟨a, _, rfl⟩ := List.mem_map.mp ((U.2 x).mp hx)
    obtain ⟨b, _, rfl⟩ := List.mem_map.mp ((U.2 y).mp hy)
    refine pv_ext (by rw [nrm_len, nrm_len]) (fun k hk => ?_)
    rw [nrm_len] at hk
    by_cases q : (k : Int) ∈ w.own_forest
    · rw [nrm_pv (by omega) (by omega), nrm_pv (by omega) (by omega), if_pos q, if_pos q]
    · exact map_eq e k (mem_rest.mpr ⟨⟨by omega, by omega⟩, q⟩)
  · obtain ⟨a, _, rfl⟩ := List.mem_map.mp ((U.2 x).mp hx)
    refine mem_allL.mpr ⟨by rw [List.length_map], fun z hz => ?_⟩
    obtain ⟨i, hi, rfl⟩ := List.mem_map.mp hz
    have r := (mem_rest.mp hi)
    rw [nrm_pv r.1.1 r.1.2, if_neg r.2]
    exact ⟨Int.emod_nonneg _ (by omega), Int.emod_lt_of_pos _ hm⟩
  · obtain ⟨t1, t2⟩ := mem_allL.mp ht
    let r : List Int := (rg 0 (w.own_edges.length : Int)).map fun k => if k ∈ w.own_forest then 0 else t.getD ((restL w).idxOf k) 0
    have hr : ∀ k : Int, 0 ≤ k → k < w.own_edges.length → pv r k = if k ∈ w.own_forest then 0 else t.getD ((restL w).idxOf k) 0 := fun k k0 k1 => by
      show pv ((rg 0 (w.own_edges.length : Int)).map fun k => if k ∈ w.own_forest then 0 else t.getD ((restL w).idxOf k) 0) k = _
      rw [pv_map k0 (by rw [rg_len]; omega), pv_rg k0 k1]
    have tb : ∀ k ∈ restL w, 0 ≤ t.getD ((restL w).idxOf k) 0 ∧ t.getD ((restL w).idxOf k) 0 < w.own_modulus := fun k hk => by
      have hix : (restL w).idxOf k < t.length := by rw [t1]; exact List.idxOf_lt_length_iff.mpr hk
      have hmm : t.getD ((restL w).idxOf k) 0 ∈ t := by rw [List.getD_eq_getElem?_getD, List.getElem?_eq_getElem hix]; exact List.getElem_mem hix
      exact t2 _ hmm
    have mr : r ∈ allL w.own_modulus w.own_edges.length := by
      refine mem_allL.mpr ⟨by show ((rg 0 (w.own_edges.length : Int)).map _).length = _; rw [List.length_map, rg_len]; omega, fun x hx => ?_⟩
      obtain ⟨k, hk, rfl⟩ := List.mem_map.mp hx
      have hk := rg_mem.mp hk
      split
      · omega
      · rename_i q
        exact tb k (mem_rest.mpr ⟨hk, q⟩)
    have er : nrmL w r = r := by
      refine pv_ext (by rw [nrm_len]; exact (mem_allL.mp mr).1.symm) (fun k hk => ?_)
      rw [nrm_len] at hk
      rw [nrm_pv (by omega) (by omega), hr k (by omega) (by omega)]
      by_cases q : (k : Int) ∈ w.own_forest
      · rw [if_pos q, if_pos q]
      · rw [if_neg q, if_neg q]
        obtain ⟨d, v, _, _, ec, _, hv, _⟩ := cyc_ex (k := (k : Int)) hw (by omega) (by omega)
        have z : wsum r v = 0 := wsum_zero fun s hs => by
          have hs := hv s hs
          have rr := hw.fo.rng _ hs
          rw [hr _ rr.1 rr.2, if_pos hs]
        have e1 : wsum r (((k : Int), (1 : Int)) :: v) = pv r k + wsum r v := by unfold wsum; simp
        rw [ec, e1, z, Int.add_zero, hr k (by omega) (by omega), if_neg q]
        have b := tb (k : Int) (mem_rest.mpr ⟨⟨by omega, by omega⟩, q⟩)
        exact mod_lt b.1 b.2
    refine ⟨r, (U.2 _).mpr (List.mem_map.mpr ⟨r, mr, er⟩), ?_⟩
    rw [← getD_idx (l := restL w) (v := t) nr t1]
    refine List.map_congr_left fun k hk => ?_
    have h := mem_rest.mp hk
    rw [hr k h.1.1 h.1.2, if_neg h.2]
end Lw

set_option Elab.async false
set_option linter.all false
set_option maxRecDepth 100000
set_option maxHeartbeats 2000000
/-! K18x: the law of k18. -/
namespace Lw
open PySem L2 DL TL
open Mo (pur bnd lft)
open Enc (enc)
/-! ### texts -/
def decL : List Nat → List Int
  | c :: 93 :: [] => [(c : Int) - 48]
  | c :: 44 :: 32 :: rest => ((c : Int) - 48) :: decL rest
  | _ => []
def decS (s : Str) : List Int := decL (s.cps.toList.drop 1)
theorem dec_tab : ((List.range 5).all fun k => (allL 4 k).all fun r => decide (decS (shT r) = r)) = true := by decide +kernel
theorem dec_row {r : List Int} (hl : r.length ≤ 4) (h : ∀ x ∈ r, 0 ≤ x ∧ x < 4) : decS (shT r) = r := by
  have h1 := List.all_eq_true.mp dec_tab r.length (List.mem_range.mpr (by omega))
  have := List.all_eq_true.mp h1 r (mem_allL.mpr ⟨rfl, h⟩)
  exact of_decide_eq_true this
theorem unlike_eq {rows : List (List Int)} (hn : rows.length ≤ 1000) (h : ∀ r ∈ rows, r.length ≤ 4 ∧ ∀ x ∈ r, 0 ≤ x ∧ x < 4) : p__law_unlike rows = .ok ((uqD rows).length : Int) := by
  have e : uq (rows.map shT) = (uqD rows).map shT := uq_map fun x hx y hy e => by
    rw [← dec_row (h x hx).1 (h x hx).2, ← dec_row (h y hy).1 (h y hy).2, e]
  unfold p__law_unlike
  rw [if_pos ⟨hn, fun r hr => rpOk_ints (by have := (h r hr).1; omega) fun x hx => by have := (h r hr).2 x hx; unfold BB; omega⟩, e, List.length_map]
theorem rpOk_big {l : List Int} (hl : l.length ≤ 1000) (h : ∀ x ∈ l, x.natAbs.log2 < 1920) : RpOk (PyEq.pd l) := by
  refine ⟨?_, ?_, ?_⟩
  · show PyData.showable (.list (l.map PyData.int)) = true
    rw [PyData.showable]
    have gen : ∀ l : List Int, (∀ x ∈ l, x.natAbs.log2 < 1920) → PyData.showableAll (l.map PyData.int) = true := by
      intro l
      induction l with
      | nil => intro _; rfl
      | cons x l ih =>
        intro h
        rw [List.map_cons, PyData.showableAll, ih fun y hy => h y (by simp [hy]), PyData.showable, decide_eq_true (h x (by simp))]
        rfl
    exact gen l h
  · show PyData.hasDict (.list (l.map PyData.int)) = false
    rw [PyData.hasDict]; exact noDict_ints l
  · have := listText_len_le (l.map fun i => Str.ofString (toString i))
    rw [← rpS_eq] at this
    have e := sum_le (k := 1921) (l := (l.map fun i => Str.ofString (toString i)).map (·.length)) (fun x hx => by
      obtain ⟨t, ht, rfl⟩ := List.mem_map.mp hx
      obtain ⟨i, hi, rfl⟩ := List.mem_map.mp ht
      exact PyProof.Rows.int_text_len_1921 (h i hi))
    simp only [List.length_map] at e this
    show (rpS l).length ≤ sizeLine
    have : sizeLine = 16777216 := by decide
    omega
theorem rprY_big {l : List Int} (hl : l.length ≤ 1000) (h : ∀ x ∈ l, x.natAbs.log2 < 1920) : rprY l = .ok (rpS l) := if_pos (rpOk_big hl h)
theorem castE_big {α : Type} [Enc α] {a : α} {l : List Int} (e : enc a = enc l) (hl : l.length ≤ 1000) (h : ∀ x ∈ l, x.natAbs.log2 < 1920) : (castE (reprE (enc a)) : E Str) = .ok (rpS l) := castE_ok (fun M => by
  rw [e]
  unfold reprE
  rw [PyEq.ok M 14 l (by decide)]
  exact if_pos (rpOk_big hl h)) (fun x y h => by cases h; rfl)
theorem castE_int1 {α : Type} [Enc α] {a : α} {x : Int} (e : enc a = enc x) (h : x.natAbs.log2 < 1920) : (castE (reprE (enc a)) : E Str) = .ok (Str.ofString (toString x)) := castE_ok (fun M => by
  rw [e]
  unfold reprE
  rw [PyEq.ok M 14 x (by decide)]
  refine if_pos ⟨by show PyData.showable (.int x) = true; rw [PyData.showable, decide_eq_true h], by show PyData.hasDict (.int x) = false; rw [PyData.hasDict], ?_⟩
  have : sizeLine = 16777216 := by decide
  have h2 : (PyEq.pd x).shown.length ≤ 1921 := PyProof.Rows.int_text_len_1921 h
  omega) (fun x y h => by cases h; rfl)
/-! ### powers -/
theorem pow_log {m : Int} {k : Nat} (m0 : 0 ≤ m) (m1 : m ≤ 60) (hk : k ≤ 60) : (m ^ k).natAbs.log2 < 1920 := by
  obtain ⟨c, rfl⟩ := Int.eq_ofNat_of_zero_le m0
  have e : (((c : Int)) ^ k).natAbs = c ^ k := by
    rw [← Int.natCast_pow]; rfl
  rw [e]
  have h1 : c ^ k ≤ 60 ^ 60 := Nat.le_trans (Nat.pow_le_pow_left (by omega) k) (Nat.pow_le_pow_right (by omega) hk)
  by_cases z : c ^ k = 0
  · rw [z]; decide
  · rw [Nat.log2_lt z]
    refine Nat.lt_of_le_of_lt h1 (Nat.lt_of_lt_of_le (show 60 ^ 60 < 2 ^ 400 by decide) (Nat.pow_le_pow_right (by decide) (by decide)))
theorem mulZ_sm {a b : Int} (h0 : 0 ≤ b) (h1 : b ≤ 60) : mulZ a b = .ok (a * b) := if_pos (.inr ⟨by omega, by omega⟩)
theorem pow_loop {m : Int} (m0 : 0 ≤ m) (m1 : m ≤ 60) : ∀ (xs : List Int) (b : Int), forM (m := E) (fun (b : Int) (_ : Int) => bnd (lft (mulZ b m)) fun f => pur f) xs b = .ok (b * m ^ xs.length)
  | [], b => by rw [TL.forM, purE]; simp
  | x :: xs, b => by
    rw [TL.forM, mulZ_sm m0 m1, lok_bnd, pur_bnd, pow_loop m0 m1 xs, List.length_cons, Int.pow_succ, Int.mul_assoc, Int.mul_comm m]
theorem pow_loopW {m : Int} (m0 : 0 ≤ m) (m1 : m ≤ 60) : ∀ (xs : List Int) (b : Int), forM (m := W) (fun (b : Int) (_ : Int) => bnd (lft (mulZ b m)) fun f => pur f) xs b = pur (b * m ^ xs.length)
  | [], b => by rw [TL.forM]; simp
  | x :: xs, b => by
    rw [TL.forM, mulZ_sm m0 m1, lok_bndW, pur_bndW, pow_loopW m0 m1 xs, List.length_cons, Int.pow_succ, Int.mul_assoc, Int.mul_comm m]
section
variable {n : Int} {es : List Edge} {F : List Int} {L : List (List (T3 Int Int Int))} {m : Int}
theorem power_pos {k : Nat} (m0 : 0 < m) (m1 : m ≤ 60) (hk : k ≤ 60) : p_power_of (wb n es F L m) (k : Int) = .ok (some (m ^ k)) := by
  unfold p_power_of
  simp only [pur_bnd, bnd_assoc, modulus_eq, lok_bnd]
  have wm : (wb n es F L m).own_modulus = m := rfl
  rw [wm, if_pos (by simpa using m0), rgW_ok (by omega) (by omega) (by omega) (by omega), lok_bnd]
  have := pow_loop (m := m) (by omega) m1 (rg 0 (k : Int)) 1
  rw [rg_len, Int.one_mul, Int.toNat_natCast] at this
  rw [this, ok_bndE, purE]; rfl
theorem power_zero {k : Nat} : p_power_of (wb n es F L 0) (k : Int) = .ok (if k = 0 then some 1 else none) := by
  unfold p_power_of
  simp only [pur_bnd, bnd_assoc, modulus_eq, lok_bnd]
  have wm : (wb n es F L 0).own_modulus = 0 := rfl
  rw [wm, if_neg (by simp), purE]
  by_cases z : k = 0
  · subst z; rfl
  · rw [if_neg (by simp [eqB]; omega), if_neg z]; rfl
theorem size_p (k : Nat) (hk : F.length = k) {r : Option Int} (h : p_power_of (wb n es F L m) (k : Int) = .ok r) : p_class_size (wb n es F L m) = .ok r := by
  unfold p_class_size p_Web_forest
  simp only [pur_bnd, bnd_assoc]
  show bnd (lft (pur (id F) : E (List Int))) _ = _
  rw [show (pur (id F) : E (List Int)) = .ok F from purE _, lok_bnd, hk, lok_bnd, h, lok_bnd, purE]; rfl
theorem count_p (k : Nat) (hk : es.length = F.length + k) (hl : es.length ≤ 60) {r : Option Int} (h : p_power_of (wb n es F L m) (k : Int) = .ok r) : p_class_count (wb n es F L m) = .ok r := by
  unfold p_class_count p_Web_forest
  simp only [pur_bnd, bnd_assoc, len_eq, lok_bnd]
  have we : (wb n es F L m).own_edges = es := rfl
  rw [we, lenG_ok (by omega), lok_bnd]
  show bnd (lft (pur (id F) : E (List Int))) _ = _
  rw [show (pur (id F) : E (List Int)) = .ok F from purE _, lok_bnd, show ((es.length : Int) - (F.length : Int)) = (k : Int) by omega, h, lok_bnd, purE]; rfl
theorem pot_p {w : OWeb} (hw : WebOk w) {r : Option Int} (h : p_power_of w (((firsts w.own_size w.own_edges).length : Nat) : Int) = .ok r) : p_potential_count w = .ok r := by
  obtain ⟨k, hk⟩ := Int.eq_ofNat_of_zero_le (show 0 ≤ w.own_size by have := hw.s0; omega)
  have ec : p_components_of w.links = .ok (comps w.own_size w.own_edges) := by
    have he := hw.ed
    have lk := hw.lk
    have s1 := hw.s1
    rw [hk] at he lk ⊢
    exact components_eq (n := k) (by omega) he lk
  have cl : (comps w.own_size w.own_edges).length = (firsts w.own_size w.own_edges).length := by unfold comps; rw [List.length_map]
  unfold p_potential_count p_Web_components
  simp only [pur_bnd, bnd_assoc]
  show bnd (lft (bnd (lft (p_components_of w.links)) _)) _ = _
  rw [ec, lok_bnd, show (pur (id (comps w.own_size w.own_edges)) : E (List (List Int))) = .ok (comps w.own_size w.own_edges) from purE _, lok_bnd, cl, lok_bnd, h, lok_bnd, purE]; rfl
end
theorem allL_small {d : Int} (h0 : 0 ≤ d) (h1 : d ≤ 4) {k : Nat} (hk : k ≤ 4) : (allL d k).length ≤ 256 := by
  rw [allL_card h0]
  have : ∀ c ≤ 4, ∀ k ≤ 4, c ^ k ≤ 256 := by decide
  exact this _ (by omega) _ hk
theorem all_eq {n d : Int} (n0 : 0 ≤ n) (n1 : n ≤ 4) (d0 : 0 ≤ d) (d1 : d ≤ 4) : p__law_all n d = .ok (allL d n.toNat) := by
  unfold p__law_all
  simp only [pur_bnd, bnd_assoc]
  rw [rgW_ok (by omega) (by omega) (by omega) (by omega), lok_bnd]
  refine eq_of_ex (ex_then (forM_inv (fun (pre : List Int) (b : List (List Int)) => b = allL d pre.length) rfl (fun pre x post b e j => ?_)) (fun b hb => ⟨b, by rw [purE]; rfl, by rw [hb, rg_len]⟩))
  subst j
  have hp : pre.length ≤ 4 := by have := congrArg List.length e; rw [rg_len] at this; simp at this; omega
  have hlen := allL_small d0 d1 hp
  refine ex_then (forM_inv (fun (pre2 : List (List Int)) (b : List (List Int)) => b = pre2.flatMap fun row => (rg 0 d).map fun x => row ++ [x]) rfl (fun pre2 row post2 b e2 j2 => ?_)) (fun b hb => ⟨b, purE _, by rw [hb]; simp [allL]⟩)
  subst j2
  have hrow : row.length ≤ 5 := by
    have : row ∈ allL d pre.length := by rw [e2]; simp
    rw [(mem_allL.mp this).1]; omega
  have hl2 : pre2.length ≤ 256 := by have := congrArg List.length e2; simp at this; omega
  have bl := flat_len d0 pre2
  have bl2 : d.toNat * pre2.length ≤ 4 * 256 := Nat.mul_le_mul (by omega) hl2
  rw [rgW_ok (by omega) (by omega) (by omega) (by omega), lok_bnd]
  rw [lc_map (fun x : Int => row ++ [x]) (by rw [rg_len]; omega) (fun x _ => by rw [catL_ok (by simp; omega), lftE]), ok_bndE]
  rw [catL_ok (by rw [List.length_map, rg_len]; omega), lok_bnd]
  exact ⟨_, purE _, by simp⟩
/-! ### webs with modulus 0 -/
theorem loops_iff {n : Int} {es : List Edge} {F : List Int} (hf : ForestOk n es F) : (es.filter fun e => !decide (e.1 = e.2)) = [] ↔ F.length = 0 := by
  constructor
  · intro h
    by_cases z : F.length = 0
    · exact z
    · exfalso
      obtain ⟨i, hi⟩ := List.exists_mem_of_length_pos (show 0 < F.length by omega)
      have r := hf.rng i hi
      obtain ⟨j, rfl⟩ := Int.eq_ofNat_of_zero_le r.1
      have hj : j < es.length := by omega
      have := (hf.ex j hj).mp hi
      have hm := edg_mem (es := es) (k := j) hj
      by_cases q : (edg es (j : Int)).1 = (edg es (j : Int)).2
      · rw [q] at this; exact this (Conn.refl _)
      · have : edg es (j : Int) ∈ es.filter fun e => !decide (e.1 = e.2) := List.mem_filter.mpr ⟨hm, by simp [q]⟩
        rw [h] at this; cases this
  · intro h
    have h : F = [] := List.eq_nil_of_length_eq_zero h
    rw [List.filter_eq_nil_iff]
    intro e he
    have := (hf.cl (fun x => x = e.1) (fun i hi => by rw [h] at hi; cases hi) e he).mp rfl
    simp [this]
theorem eq3 {a b : Option Int} (ha : a = none ∨ a = some 1) (hb : b = none ∨ b = some 1) : (castE (eqE false (enc ([a, b, none] : List (Option Int))) (enc (H3.mk a b ()))) : E Bool) = .ok true := castE_ok (fun M => by
  rcases ha with rfl | rfl <;> rcases hb with rfl | rfl
  · show eqE false (.nd .lst [.non, .non, .non]) (.nd .lst [.non, .non, .non]) M = _
    simp [eqE, py, pys, PyData.eqv, PyData.eqvAll, enc]
  · show eqE false (.nd .lst [.non, .int 1, .non]) (.nd .lst [.non, .int 1, .non]) M = _
    simp [eqE, py, pys, PyData.eqv, PyData.eqvAll, enc]
  · show eqE false (.nd .lst [.int 1, .non, .non]) (.nd .lst [.int 1, .non, .non]) M = _
    simp [eqE, py, pys, PyData.eqv, PyData.eqvAll, enc]
  · show eqE false (.nd .lst [.int 1, .int 1, .non]) (.nd .lst [.int 1, .int 1, .non]) M = _
    simp [eqE, py, pys, PyData.eqv, PyData.eqvAll, enc]) bool_inj
theorem endless_W {Q : Bool → Prop} {X : Str → D → Prop} (hq : Q true) : p__law_endless Q X := by
  unfold p__law_endless
  simp only [pur_bndW, bnd_assocW, lokW, Bool.true_xor, Bool.false_xor]
  rw [bndWa]
  refine takeW_ok (by decide) (by decide) (fun n n0 n1 => ?_)
  rw [bndWa]
  refine takeW_ok (by decide) (by decide) (fun i i0 i1 => ?_)
  have em : ixL ([2, 60] : List Int) i = .ok (([2, 60] : List Int).getD i.toNat default) := ixL_lt i0 (by simpa using i1)
  refine bndW_ok em ?_
  have hm : ([2, 60] : List Int).getD i.toNat default ∈ ([2, 60] : List Int) := getD_in (by simp; omega)
  revert hm
  generalize ([2, 60] : List Int).getD i.toNat default = c
  intro hm
  have hc : c = 2 ∨ c = 60 := by simpa using hm
  rw [bndWa]
  refine links_W (by omega) (by omega) (by omega) (by omega) (fun es el ee => ?_)
  have eok : EOk (1 + n) es := ⟨by omega, ee⟩
  obtain ⟨F, L, hI⟩ := web_fam (by omega) (by omega) eok
  obtain ⟨w1, hw⟩ := hI 0 (by omega) (by omega) (by omega)
  have hF : F.length ≤ es.length := by
    have := rest_card hw
    have : (restL (wb (1 + n) es F L 0)).length + F.length = es.length := this
    omega
  refine bndW_ok w1 ?_
  have hf : ForestOk (1 + n) es F := hw.fo
  rw [lc_Wok (fun e => !decide (e.1 = e.2)) (fun e => e) (by omega) (fun e _ => ⟨by simp [eqB], fun _ => rfl⟩), pur_bndW, List.map_id']
  have fe : p_Web_forest (wb (1 + n) es F L 0) = .ok F := by unfold p_Web_forest; simp only [pur_bnd]; exact purE _
  have lf := loops_iff hf
  have e1 : p_class_size (wb (1 + n) es F L 0) = .ok (if F.length = 0 then some 1 else none) := size_p F.length rfl power_zero
  have e2 : p_class_count (wb (1 + n) es F L 0) = .ok (if es.length - F.length = 0 then some 1 else none) := count_p (es.length - F.length) (by omega) (by omega) power_zero
  have fne : (firsts (1 + n) es).length ≠ 0 := by
    obtain ⟨f, hf, _⟩ := fst_of' (n := 1 + n) (es := es) (a := 0) (by omega) (by omega)
    have := List.length_pos_of_mem hf
    omega
  have e3 : p_potential_count (wb (1 + n) es F L 0) = .ok none := pot_p hw (by
    show p_power_of (wb (1 + n) es F L 0) (((firsts (1 + n) es).length : Nat) : Int) = _
    rw [power_zero, if_neg fne])
  refine bndW_ok fe ?_
  have key : ∀ c : Bool, (if c = true then (pur (some (1 : Int)) : W (Option Int)) else pur none) = pur (if c = true then some 1 else none) := fun c => by cases c <;> rfl
  simp only [key, pur_bndW]
  refine bndW_ok e1 ?_
  refine bndW_ok e2 ?_
  refine bndW_ok e3 ?_
  have d1 : (if (!eqB (es.filter fun e => !decide (e.1 = e.2)) ([] : List (Int × Int))) = true then (none : Option Int) else some 1) = if F.length = 0 then some 1 else none := by
    unfold eqB
    by_cases z : F.length = 0
    · rw [if_pos z, if_neg (by simp [lf.mpr z])]
    · rw [if_neg z, if_pos (by rw [Bool.not_eq_true', decide_eq_false_iff_not]; exact fun h => z (lf.mp h))]
  have d2 : (if eqB (F.length : Int) (es.length : Int) = true then some (1 : Int) else none) = if es.length - F.length = 0 then some 1 else none := by
    unfold eqB
    by_cases z : es.length - F.length = 0
    · rw [if_pos z, if_pos (by rw [decide_eq_true_eq]; omega)]
    · rw [if_neg z, if_neg (by rw [decide_eq_true_eq]; omega)]
  rw [d1, d2]
  refine bndW_ok (eq3 (by split <;> simp) (by split <;> simp)) ?_
  rw [purWa]
  exact hq
/-! ### great webs -/
theorem great_W {Q : Bool → Prop} {X : Str → D → Prop} (hq : Q true) : p__law_great Q X := by
  unfold p__law_great
  simp only [pur_bndW, bnd_assocW, lokW, Bool.true_xor, Bool.false_xor]
  rw [bndWa]
  refine takeW_ok (by decide) (by decide) (fun n n0 n1 => ?_)
  rw [bndWa]
  refine takeW_ok (by decide) (by decide) (fun c c0 c1 => ?_)
  rw [bndWa]
  refine links_W (by omega) (by omega) (by omega) (by omega) (fun es el ee => ?_)
  have eok : EOk (1 + n) es := ⟨by omega, ee⟩
  obtain ⟨F, L, hI⟩ := web_fam (by omega) (by omega) eok
  obtain ⟨w1, hw⟩ := hI (2 + c) (by omega) (by omega) (by omega)
  have hf : ForestOk (1 + n) es F := hw.fo
  have hF : F.length ≤ es.length := by
    have := rest_card hw
    have : (restL (wb (1 + n) es F L (2 + c))).length + F.length = es.length := this
    omega
  obtain ⟨k, hk⟩ := Int.eq_ofNat_of_zero_le (show 0 ≤ 1 + n by omega)
  have cn := nodes_eq' hk ee hf
  refine bndW_ok (rgL_ok (by omega) (by omega)) ?_
  rw [bndWa]
  refine forM_W (fun (pre : List Edge) (b : List Int × Int) => ∃ F', FJ (1 + n) es pre.length b.1 F' ∧ b.2 = (F'.length : Int)) ⟨[], ⟨by rw [rg_len]; omega, by simp, by simp, by simp, by simp, ?_, fun ds => ⟨fun _ => 0, by simp⟩, by simp⟩, rfl⟩ (fun pre x post b e j Q' hq' => ?_) (fun b j => ?_)
  · intro S _ a b a0 a1 b0 b1 e
    have e' : pv (rg 0 (1 + n)) a = pv (rg 0 (1 + n)) b := e
    rw [pv_rg a0 a1, pv_rg b0 b1] at e'
    rw [e']
  · obtain ⟨F', j, jl⟩ := j
    have hpl : pre.length < es.length := by rw [e]; simp
    have hx : x = es[pre.length] := by
      have e1 : es[pre.length]? = some x := by rw [e]; simp
      rw [List.getElem?_eq_getElem hpl] at e1
      exact (Option.some.inj e1).symm
    have he := ee _ (List.getElem_mem hpl)
    subst hx
    have ed := edg_nat hpl
    have i1 : ixL b.1 es[pre.length].1 = .ok (pv b.1 es[pre.length].1) := ixL_lt he.1 (by rw [j.glen]; exact he.2.1)
    have i2 : ixL b.1 es[pre.length].2 = .ok (pv b.1 es[pre.length].2) := ixL_lt he.2.2.1 (by rw [j.glen]; exact he.2.2.2)
    have bl : b.1.length ≤ 10000 := by have := j.glen; omega
    refine bndW_ok i1 ?_
    refine bndW_ok i2 ?_
    by_cases q : pv b.1 es[pre.length].1 = pv b.1 es[pre.length].2
    · rw [if_neg (by simp [eqB, q]), purWa]
      refine hq' _ ⟨F', ?_, jl⟩
      rw [List.length_append, List.length_singleton]
      exact fj_same eok hpl j (by rw [ed]; exact q)
    · rw [if_pos (by simp [eqB, q])]
      rw [lc_Wmap (fun y => if y = pv b.1 es[pre.length].2 then pv b.1 es[pre.length].1 else y) bl (fun y hy => by
        rw [i2, lokW, pur_bndW]
        by_cases z : y = pv b.1 es[pre.length].2
        · rw [if_pos z, if_pos (by simp [eqB, z]), i1, lokW]
        · rw [if_neg z, if_neg (by simp [eqB, z])]), pur_bndW, purWa]
      refine hq' _ ⟨F' ++ [(pre.length : Int)], ?_, by rw [List.length_append, List.length_singleton]; dsimp only; omega⟩
      rw [List.length_append, List.length_singleton]
      have := fj_new eok hpl j (by rw [ed]; exact q)
      rw [ed] at this
      exact this
  · obtain ⟨F', j, jl⟩ := j
    have eF : F' = F := asc_ext j.asc hf.asc fun x => by
      constructor
      · intro h
        have r := j.rng x h
        obtain ⟨i, rfl⟩ := Int.eq_ofNat_of_zero_le r.1
        exact (hf.ex i (by omega)).mpr ((j.ex i (by omega)).mp h)
      · intro h
        have r := hf.rng x h
        obtain ⟨i, rfl⟩ := Int.eq_ofNat_of_zero_le r.1
        exact (j.ex i (by omega)).mpr ((hf.ex i (by omega)).mp h)
    subst eF
    have lk : F'.length ≤ k := by omega
    have st : ∀ (b : List Int) (x : Nat), b.length ≤ 5 → x ≤ 60 → (bnd (lft (rgW 0 (x : Int))) fun xs => bnd (forM (m := W) (fun (b : Int) (_ : Int) => bnd (lft (mulZ b (2 + c))) fun f => pur f) xs 1) fun p => bnd (lft (appL b p)) fun f => pur f) = (pur (b ++ [(2 + c) ^ x]) : W (List Int)) := fun b x hb hx => by
      rw [rgW_ok (by omega) (by omega) (by omega) (by omega), lok_bndW, pow_loopW (by omega) (by omega), pur_bndW, rg_len, Int.toNat_natCast, Int.one_mul, appL_ok (by omega), lok_bndW]
    rw [jl, show ((es.length : Int) - (F'.length : Int)) = ((es.length - F'.length : Nat) : Int) by omega, hk, show ((k : Int) - (F'.length : Int)) = ((firsts (k : Int) es).length : Int) by rw [← hk]; omega]
    rw [TL.forM, st [] F'.length (by simp) (by omega), pur_bndW, TL.forM, st _ (es.length - F'.length) (by simp) (by omega), pur_bndW, TL.forM, st _ (firsts (k : Int) es).length (by simp) (by rw [← hk]; omega), pur_bndW, TL.forM, pur_bndW]
    have e1 : p_class_size (wb (1 + n) es F' L (2 + c)) = .ok (some ((2 + c) ^ F'.length)) := size_p F'.length rfl (power_pos (by omega) (by omega) (by omega))
    have e2 : p_class_count (wb (1 + n) es F' L (2 + c)) = .ok (some ((2 + c) ^ (es.length - F'.length))) := count_p (es.length - F'.length) (by omega) (by omega) (power_pos (by omega) (by omega) (by omega))
    have e3 : p_potential_count (wb (1 + n) es F' L (2 + c)) = .ok (some ((2 + c) ^ (firsts (k : Int) es).length)) := pot_p hw (by
      show p_power_of (wb (1 + n) es F' L (2 + c)) (((firsts (1 + n) es).length : Nat) : Int) = _
      rw [hk]
      exact power_pos (by omega) (by omega) (by rw [← hk]; omega))
    rw [hk] at w1 e1 e2 e3
    refine bndW_ok w1 ?_
    refine bndW_ok e1 ?_
    refine bndW_ok e2 ?_
    refine bndW_ok e3 ?_
    have bd : ∀ x ∈ ([] ++ [(2 + c) ^ F'.length] ++ [(2 + c) ^ (es.length - F'.length)] ++ [(2 + c) ^ (firsts (k : Int) es).length] : List Int), x.natAbs.log2 < 1920 := fun x hx => by
      simp only [List.nil_append, List.cons_append, List.mem_cons, List.not_mem_nil, or_false] at hx
      rcases hx with z | z | z <;> subst z
      · exact pow_log (by omega) (by omega) (by omega)
      · exact pow_log (by omega) (by omega) (by omega)
      · exact pow_log (by omega) (by omega) (by rw [← hk]; omega)
    refine bndW_ok (castE_big (l := [] ++ [(2 + c) ^ F'.length] ++ [(2 + c) ^ (es.length - F'.length)] ++ [(2 + c) ^ (firsts (k : Int) es).length]) rfl (by simp) bd) ?_
    refine bndW_ok (rprY_big (by simp) bd) ?_
    refine bndW_ok (eqS_ok (strOk_rp _) (strOk_rp _)) ?_
    rw [purWa]
    simpa using hq
/-! ### the law -/
theorem law_W (s : Scr) : p_law s (fun v => v = true) (fun _ _ => False) := by
  unfold p_law
  simp only [pur_bndW, bnd_assocW, lokW, Bool.false_xor, Bool.true_xor]
  refine bndW_ok (rgW_ok (by omega) (by omega) (by split <;> split <;> omega) (by split <;> split <;> omega)) ?_
  rw [bndWa]
  refine forF_W (fun _ => True) trivial (fun b x hx _ Q' hq => ?_) (fun b _ => ?_)
  · have hx := rg_mem.mp hx
    have hx2 : x < 100 := by have := hx.2; revert this; split <;> split <;> omega
    have hg : grdC (decide (0 ≤ x) && decide (x < 100)) = .ok () := by
      unfold grdC
      rw [if_pos (by simp; omega)]
    refine bndW_ok hg ?_
    rw [bndWa]
    refine takeW_ok (by decide) (by decide) (fun n n0 n1 => ?_)
    rw [bndWa]
    refine takeW_ok (by decide) (by decide) (fun c c0 c1 => ?_)
    rw [bndWa]
    refine links_W (by omega) (by omega) (by omega) (by omega) (fun es el ee => ?_)
    have eok : EOk (1 + n) es := ⟨by omega, ee⟩
    obtain ⟨F, L, hI⟩ := web_fam (by omega) (by omega) eok
    obtain ⟨w1, hw⟩ := hI (2 + c) (by omega) (by omega) (by omega)
    have hf : ForestOk (1 + n) es F := hw.fo
    have hF : F.length ≤ es.length := by
      have := rest_card hw
      have : (restL (wb (1 + n) es F L (2 + c))).length + F.length = es.length := this
      omega
    obtain ⟨k, hk⟩ := Int.eq_ofNat_of_zero_le (show 0 ≤ 1 + n by omega)
    have cn := nodes_eq' hk ee hf
    refine bndW_ok w1 ?_
    refine bndW_ok (all_eq (by omega) (by omega) (by omega) (by omega)) ?_
    refine bndW_ok (all_eq (by omega) (by omega) (by omega) (by omega)) ?_
    rw [hk, Int.toNat_natCast, Int.toNat_natCast]
    have m0 : 0 < 2 + c := by omega
    have m1 : 2 + c ≤ 4 := by omega
    have k4 : k ≤ 4 := by omega
    have e4 : es.length ≤ 4 := by omega
    have GL := allL_small (d := 2 + c) (by omega) m1 e4
    have PL := allL_small (d := 2 + c) (by omega) m1 k4
    have gpos : 0 < (allL (2 + c) es.length).length := by rw [allL_card (by omega)]; exact Nat.pow_pos (by omega)
    rw [bndWa]
    refine takeW_ok (by omega) (by omega) (fun i i0 i1 => ?_)
    have hix : i.toNat < (allL (2 + c) es.length).length := by omega
    have ei : ixL (allL (2 + c) es.length) i = .ok ((allL (2 + c) es.length).getD i.toNat default) := ixL_lt i0 (by omega)
    have hm : (allL (2 + c) es.length).getD i.toNat default ∈ allL (2 + c) es.length := getD_in hix
    refine bndW_ok ei ?_
    revert hm
    generalize (allL (2 + c) es.length).getD i.toNat default = g
    intro hm
    have lg := (mem_allL.mp hm).1
    have rp : ∀ p ∈ allL (2 + c) k, p__law_put es (2 + c) g p = .ok (swL (2 + c) es g p) := fun p hp => put_eq (n := 1 + n) (by omega) eok (by rw [(mem_allL.mp hp).1, hk])
    rw [lc_Wmap (swL (2 + c) es g) (by omega) (fun p hp => by rw [rp p hp, lokW]), pur_bndW]
    have rr : ∀ r ∈ (allL (2 + c) k).map (swL (2 + c) es g), r.length ≤ 4 ∧ ∀ x ∈ r, 0 ≤ x ∧ x < 4 := fun r hr => by
      obtain ⟨p, _, rfl⟩ := List.mem_map.mp hr
      refine ⟨by rw [sw_len lg]; exact e4, fun x hx => ?_⟩
      unfold swL at hx
      obtain ⟨y, _, rfl⟩ := List.mem_map.mp hx
      have := Int.emod_nonneg (y.1 + pv p y.2.1 - pv p y.2.2) (show 2 + c ≠ 0 by omega)
      have := Int.emod_lt_of_pos (y.1 + pv p y.2.1 - pv p y.2.2) m0
      omega
    have eN : ∀ q : Nat, (((2 + c).toNat ^ q : Nat) : Int) = (2 + c) ^ q := fun q => by
      obtain ⟨d, hd⟩ := Int.eq_ofNat_of_zero_le (show 0 ≤ 2 + c by omega)
      rw [hd, Int.toNat_natCast, Int.natCast_pow]
    have t0 : ∀ q : Nat, PyData.strOk (Str.ofString (toString ((2 + c) ^ q))) = true := fun q => strOk_of _
    -- class_size
    have e1 : p_class_size (wb (1 + n) es F L (2 + c)) = .ok (some ((2 + c) ^ F.length)) := size_p F.length rfl (power_pos (by omega) (by omega) (by omega))
    have c1 := count_reach (k := k) (g := g) hk m0 ee hf lg
    have p1 : ((2 + c) ^ F.length).natAbs.log2 < 1920 := pow_log (by omega) (by omega) (by omega)
    rw [hk] at e1
    refine bndW_ok e1 ?_
    refine bndW_ok (castE_int1 (x := (2 + c) ^ F.length) rfl p1) ?_
    refine bndW_ok (unlike_eq (by rw [List.length_map]; omega) rr) ?_
    rw [c1, eN]
    refine bndW_ok (castE_int1 (x := (2 + c) ^ F.length) rfl p1) ?_
    refine bndW_ok (eqS_ok (t0 _) (t0 _)) ?_
    rw [if_neg (by simp)]
    -- class_count
    have e2 : p_class_count (wb (1 + n) es F L (2 + c)) = .ok (some ((2 + c) ^ (es.length - F.length))) := count_p (es.length - F.length) (by omega) (by omega) (power_pos (by omega) (by omega) (by omega))
    have p2 : ((2 + c) ^ (es.length - F.length)).natAbs.log2 < 1920 := pow_log (by omega) (by omega) (by omega)
    have gd : ∀ r ∈ allL (2 + c) es.length, Gd (wb (1 + n) es F L (2 + c)) r := fun r hr => by
      obtain ⟨r1, r2⟩ := mem_allL.mp hr
      refine ⟨r1, fun x hx => ?_⟩
      have := r2 x hx
      show isres (2 + c) x = true
      unfold isres
      rw [if_neg (by omega)]
      simp; omega
    have c2 := count_norm hw (by show 0 < 2 + c; exact m0)
    have c2 : (uqD ((allL (2 + c) es.length).map (nrmL (wb (1 + n) es F L (2 + c))))).length = (2 + c).toNat ^ (es.length - F.length) := c2
    have nn : ∀ r ∈ allL (2 + c) es.length, p_normal (wb (1 + n) es F L (2 + c)) r = .ok (nrmL (wb (1 + n) es F L (2 + c)) r) := fun r hr => normal_eq hw (gd r hr)
    have rn : ∀ r ∈ (allL (2 + c) es.length).map (nrmL (wb (1 + n) es F L (2 + c))), r.length ≤ 4 ∧ ∀ x ∈ r, 0 ≤ x ∧ x < 4 := fun r hr => by
      obtain ⟨p, _, rfl⟩ := List.mem_map.mp hr
      have h1 := nrm_gd (w := wb (1 + n) es F L (2 + c)) (g := p) hw.toWOk
      refine ⟨by rw [h1.len]; exact e4, fun x hx => ?_⟩
      have := h1.res x hx
      have : isres (2 + c) x = true := this
      unfold isres at this
      rw [if_neg (by omega)] at this
      simp at this
      omega
    rw [hk] at e2 c2 nn rn
    refine bndW_ok e2 ?_
    refine bndW_ok (castE_int1 (x := (2 + c) ^ (es.length - F.length)) rfl p2) ?_
    rw [lc_Wmap (nrmL (wb (k : Int) es F L (2 + c))) (by omega) (fun r hr => by rw [nn r hr, lokW]), pur_bndW]
    refine bndW_ok (unlike_eq (by rw [List.length_map]; omega) rn) ?_
    rw [c2, eN]
    refine bndW_ok (castE_int1 (x := (2 + c) ^ (es.length - F.length)) rfl p2) ?_
    refine bndW_ok (eqS_ok (t0 _) (t0 _)) ?_
    rw [if_neg (by simp)]
    -- potential_count
    have fl : (firsts (1 + n) es).length ≤ 4 := by omega
    have e3 : p_potential_count (wb (1 + n) es F L (2 + c)) = .ok (some ((2 + c) ^ (firsts (1 + n) es).length)) := pot_p hw (by
      show p_power_of (wb (1 + n) es F L (2 + c)) (((firsts (1 + n) es).length : Nat) : Int) = _
      exact power_pos (by omega) (by omega) (by omega))
    have p3 : ((2 + c) ^ (firsts (1 + n) es).length).natAbs.log2 < 1920 := pow_log (by omega) (by omega) (by omega)
    have c3 := count_stab (k := k) hk m0 ee hf hm
    rw [hk] at e3
    refine bndW_ok e3 ?_
    refine bndW_ok (castE_int1 (x := (2 + c) ^ (firsts (k : Int) es).length) rfl (by rw [← hk]; exact p3)) ?_
    rw [lc_Wok (fun r => eqB r g) (fun r => r) (by rw [List.length_map]; omega) (fun r _ => ⟨rfl, fun _ => rfl⟩), pur_bndW, List.map_id']
    have el : (((allL (2 + c) k).map (swL (2 + c) es g)).filter fun r => eqB r g).length = (2 + c).toNat ^ (firsts (1 + n) es).length := by
      rw [List.filter_map, List.length_map, ← c3]
      rfl
    rw [el, eN, hk]
    refine bndW_ok (castE_int1 (x := (2 + c) ^ (firsts (k : Int) es).length) rfl (by rw [← hk]; exact p3)) ?_
    refine bndW_ok (eqS_ok (t0 _) (t0 _)) ?_
    rw [if_neg (by simp), bndWa]
    refine endless_W ?_
    rw [if_neg (by simp), bndWa, bndWa]
    refine great_W ?_
    rw [purWa, if_neg (by simp), purWa]
    exact hq () trivial
  · refine outF_inl ?_
    rw [purWa]
    rfl
theorem law_true (ns : List Int) : ∃ M', F_law [scr ns] [] = .ok (.bl true) M' := law_end (t_law ⟨ns⟩) (law_W ⟨ns⟩)
end Lw

set_option Elab.async false
set_option linter.all false
set_option maxRecDepth 100000
set_option maxHeartbeats 0
open PySem PySem.W PySem.Calls PyProof.Rows
theorem PySem.Challenge.cw_turnedties_k18_whole_classes_by_going_th_holds : PySem.Challenge.rw_turnedties_k18_whole_classes_by_going_th.Holds := by
  w_on; o_law
  refine HandSHeadRun.head_any (r := OpenLaw.row PySem.Challenge.rw_turnedties_k18_whole_classes_by_going_th) (q := view (OpenLaw.row PySem.Challenge.rw_turnedties_k18_whole_classes_by_going_th).prog [58]) (H := Lw.hkD) (ob := Lw.obD) (M := 100000) (loose := Lw.loose) (d := HandSHeadRun.topDef (OpenLaw.row PySem.Challenge.rw_turnedties_k18_whole_classes_by_going_th).prog 58) (kwd := []) Lw.obD_eq
    (by kernel_rfl) (fun s => by kernel_rfl) Lw.runD (by kernel_rfl) (by kernel_rfl) (by kernel_rfl) (by rfl) (by first | assumption | decide +kernel) (by decide +kernel) ⟨rfl, rfl, rfl, rfl, rfl, by decide +kernel⟩ ?hw ?hc
  case hw => w_witness2
  case hc =>
    refine DL.walk_ofG (l := PySem.Challenge.rw_turnedties_k18_whole_classes_by_going_th) (n := 63) (k := 10) (x := "_law_script") (CX := L2.CX0) rfl (by decide) (by kernel_rfl) ⟨rfl, by decide, by decide⟩ ?F (fun _ _ _ _ z => z)
    intro w mg fa0 h Y G hmg0
    obtain ⟨K, KX, c, cx⟩ := Y
    have hmg : mg ("law" : PySem.Str) = some (.ref fa0) := by
      have e : (HandSHeadRun.topDef (OpenLaw.row PySem.Challenge.rw_turnedties_k18_whole_classes_by_going_th).prog 58).name = ("law" : PySem.Str) := by kernel_rfl
      rw [← e]
      exact hmg0
    have e := hmg.symm.trans (He.glo_ok KX G (c.fact 73 (f := .glo "law") rfl))
    cases e
    obtain ⟨fd, hb, hF⟩ := Lw.ok_law (P := (PySem.Challenge.rw_turnedties_k18_whole_classes_by_going_th).prog) (w := w) KX G c cx
    exact ⟨K, fd, _, KX, hb, fun H a ns hl _ hS => let ⟨M1, hM⟩ := Lw.law_true ns; DL.spL_script hS hM, fun base _ _ => hF base⟩
