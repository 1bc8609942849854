import PyProof.Rows.All
import Wide.All
import OpenK.AllK
import Wide.FinOn
import KE.KStateDown
import Lean
import HandS.ForMost
import HandS.More
import HandS.WordsExc
import HandS.Defaults
import HandS.Wide
import HandS.Head0
import HandS.Head1
import HandS.Head2
import HandS.HeadEnd
import HandS.HeadHook1
import HandS.HeadHook2
import HandS.Lambda
import HandS.EndTab
import HandS.Conv
import HandS.SortInts
import HandS.MakeKw
import HandS.MakeKwOnly
import HandS.CallSlots
import HandS.IsInst
import HandS.DictComp
import PyProof.TupleOfSeq
import HandS.Zip
import HandS.Style
import HandS.NamedTupGet
import HandS.Strs
import HandS.SetFor
import HandS.Iter
import KE.GoesNew
import KE.GoesMore
import KE.GoesEnum
import HandS.Flow
import HandS.NoneIn
import HandS.WideMore
import HandS.TupAny
import HandS.Deep
import HandS.RaiseMore
import PyProof.Rows.NestShow
import PyProof.ReprLen
import HandS.TupLe
import HandS.ExcInit
import HandS.ExcField
import HandS.TryMany
import KE.KItemsList
import KE.KDictZip
import HandS.OwnEq
import HandS.FStr
import KE.KExcIs
import HandS.ExcIs
import HandS.SetBool
import KE.GoesEnumKw
import HandS.SortKw
import PySem.Challenge.RW_turnedties_k70_reduced_webs_and_gains
import HandS.Nested
import KE.DataMinKey
import KE.KMinKey
import HandS.Zip0
import HandS.FStrTup
set_option Elab.async false
set_option linter.all false
set_option maxRecDepth 100000
set_option maxHeartbeats 4000000
/-! DL1: data trees, the store, judgements whose index is a deterministic function. -/
namespace DL
open PySem L2
/-- a lambda of the text that is handed on as a value: its name, its captured names -/
structure LamR where
  qual : Str
  params : Arguments
  body : Expr
  scope : Scope
  fr : List Str
/-- the tables of code objects that a law's lambdas ask for; the lambdas -/
class Tb where
  T : PySem.W.Frag → List (Addr × Str)
  L : Nat → Option LamR
instance (priority := low) tb0 : Tb := ⟨fun _ => [], fun _ => none⟩
variable [Tb]

/-- a node's tag -/
inductive Tg where
  | lst | slst | tup | dct (ks : List Key) | fdct (ks : List Key) | obj (c : Str) (ns : List Str) | fn (k : Nat) | iset
/-- data: scalars, built-in classes, globals by name, a cell of the store, a frozen node -/
inductive D where
  | non | bl (b : Bool) | int (i : Int) | str (x : Str) | ty (n : String) | gl (x : Str) | ref (n : Nat) | nd (t : Tg) (l : List D)
abbrev Store := List (Tg × List D)
abbrev D.lst (l : List D) : D := .nd .lst l
abbrev D.tup (l : List D) : D := .nd .tup l
/-- outcomes -/
inductive Out (α : Type) where
  | ok (a : α) (M : Store) | exc (c : Str) (d : D) (M : Store) | stuck
abbrev Ev (α : Type) := Store → Out α
def Ev.ret {α : Type} (a : α) : Ev α := fun M => .ok a M
def Ev.no {α : Type} : Ev α := fun _ => .stuck
def Out.bnd {α β : Type} (o : Out α) (k : α → Ev β) : Out β := match o with
  | .ok a M => k a M
  | .exc c d M => .exc c d M
  | .stuck => .stuck
def Ev.bnd {α β : Type} (m : Ev α) (k : α → Ev β) : Ev β := fun M => (m M).bnd k
theorem ret_bnd {α β : Type} (a : α) (k : α → Ev β) : (Ev.ret a).bnd k = k a := rfl
theorem bnd_bnd {α β γ : Type} (m : Ev α) (k : α → Ev β) (j : β → Ev γ) : (m.bnd k).bnd j = m.bnd fun a => (k a).bnd j := by
  funext M; unfold Ev.bnd; cases m M <;> rfl
/-- a local frame -/
abbrev Lo := List (Option D)
inductive Fl where
  | nx (S : Lo) | rt (d : D) | bk (S : Lo) | ct (S : Lo) | xc (c : Str) (d : D) (S : Lo)

structure Gx where
  K : PySem.W.Frag
  mg : Str → Option Value
abbrev gx (X : Cx) : Gx := ⟨X.K, X.mg⟩

/-- a thing of which just its object is told -/
abbrev Fz (o : Obj) : HO := .frz o (.ext fun _ => True)
/-- the lambda k stands at a; what it captured is vs -/
def LamAt (H : Hp) (a : Addr) (k : Nat) (vs : List V) : Prop := ∃ (r : LamR) (cl : List (Str × Addr)) (c : Addr) (pm ctv : Value), Tb.L k = some r ∧
  H a = some (Fz (PySem.W.kla_obj "<lambda>" r.qual r.params r.body r.scope cl pm c ctv)) ∧ H c = some (LamX.CodeO c r.qual) ∧ vs.length = r.fr.length ∧ (∀ x y d, cl.lookup x = some d → cl.lookup y = some d → x = y) ∧
  (∀ x d, cl.lookup x = some d → x ∈ r.fr ∧ ∃ ob v, H d = some (Fz ob) ∧ ob.data = .cell v) ∧ ∀ (i : Nat) (x : Str), r.fr[i]? = some x → ∃ d ob u v, vs[i]? = some v ∧ cl.lookup x = some d ∧ H d = some (Fz ob) ∧ ob.data = .cell (some u) ∧ RelV v u
theorem LamAt.to {H H' : Hp} {a : Addr} {k : Nat} {vs : List V} (h : LamAt H a k vs) (e1 : ∀ o, H a = some (Fz o) → (∀ v, o.data ≠ .cell v) → H' a = some (Fz o)) (e2 : ∀ c q, H c = some (LamX.CodeO c q) → H' c = some (LamX.CodeO c q)) (e3 : ∀ d o v, H d = some (Fz o) → o.data = .cell v → H' d = some (Fz o)) : LamAt H' a k vs := by
  obtain ⟨r, cl, c, pm, ctv, h1, h2, h3, h4, h5, h6, h7⟩ := h
  refine ⟨r, cl, c, pm, ctv, h1, e1 _ h2 (fun v => nofun), e2 _ _ h3, h4, h5, fun x d e => ?_, fun i x e => ?_⟩
  · obtain ⟨hx, ob, v, z1, z2⟩ := h6 x d e
    exact ⟨hx, ob, v, e3 _ _ _ z1 z2, z2⟩
  · obtain ⟨d, ob, u, v, z1, z2, z3, z4, z5⟩ := h7 i x e
    exact ⟨d, ob, u, v, z1, z2, e3 _ _ _ z3 z4, z4, z5⟩
/-- a set of numbers -/
def SetAt (H : Hp) (a : Addr) (vs : List V) : Prop := ∃ (S : Int → Bool), H a = some (.set S vs.length) ∧ (∀ z, S z = true ↔ V.int z ∈ vs) ∧ vs.Nodup
/-- a frozen node at p -/
def FC (G : Gx) (B : Hp) (p : Addr) : Tg → List V → Prop
  | .lst, vs => B p = some (.lst vs)
  | .slst, vs => SqL G.K B p vs
  | .tup, vs => SqT G.K B p vs
  | .dct ks, vs => B p = some (.dK (ks.zip vs)) ∧ ks.length = vs.length
  | .fdct ks, vs => (∃ o, B p = some (.frz o (.dK (ks.zip vs)))) ∧ ks.length = vs.length
  | .obj c ns, vs => ∃ C dx, G.mg c = some (.ref C) ∧ B p = some (.ins C dx (ns.zip vs)) ∧ ns.length = vs.length
  | .fn _, _ => ∃ o, B p = some (Fz o)
  | .iset, vs => SetAt B p vs
/-- a cell at a -/
def MC (G : Gx) (H : Hp) (a : Addr) : Tg → List V → Prop
  | .lst, vs => H a = some (.lst vs)
  | .slst, _ => False
  | .tup, _ => False
  | .dct ks, vs => H a = some (.dK (ks.zip vs)) ∧ ks.length = vs.length
  | .fdct ks, vs => (∃ o, H a = some (.frz o (.dK (ks.zip vs)))) ∧ ks.length = vs.length
  | .obj c ns, vs => ∃ C dx, G.mg c = some (.ref C) ∧ H a = some (.ins C dx (ns.zip vs)) ∧ ns.length = vs.length
  | .fn k, vs => LamAt H a k vs
  | .iset, vs => SetAt H a vs
mutual
inductive R (G : Gx) (B : Hp) (as : List Addr) : V → D → Prop
  | non : R G B as .non .non
  | bl (b : Bool) : R G B as (.bl b) (.bl b)
  | int (i : Int) : R G B as (.int i) (.int i)
  | str (x : Str) : R G B as (.str x) (.str x)
  | ty (n : String) : R G B as (.ty n) (.ty n)
  | gl {x : Str} {a : Addr} : G.mg x = some (.ref a) → R G B as (.ref a) (.gl x)
  | ref {n : Nat} {a : Addr} : as[n]? = some a → R G B as (.ref a) (.ref n)
  | nd {t : Tg} {p : Addr} {vs : List V} {l : List D} : FC G B p t vs → Rs G B as vs l → R G B as (.ref p) (.nd t l)
inductive Rs (G : Gx) (B : Hp) (as : List Addr) : List V → List D → Prop
  | nil : Rs G B as [] []
  | cons {v : V} {vs : List V} {d : D} {l : List D} : R G B as v d → Rs G B as vs l → Rs G B as (v :: vs) (d :: l)
end
theorem pre_get {α : Type} {l l' : List α} (p : l <+: l') {n : Nat} {a : α} (h : l[n]? = some a) : l'[n]? = some a := by
  obtain ⟨t, rfl⟩ := p
  rw [List.getElem?_append_left (List.getElem?_eq_some_iff.mp h).1]; exact h
theorem sqT_mono {K : PySem.W.Frag} {B B' : Hp} {a : Addr} {xs : List V} (e : Same B B') (h : SqT K B a xs) : SqT K B' a xs := by
  rcases h with h | h
  · rcases h with h | ⟨o, h⟩
    · exact .inl (.inl (e _ _ h))
    · exact .inl (.inr ⟨o, e _ _ h⟩)
  · exact .inr h
theorem FC.mono {G : Gx} {B B' : Hp} {p : Addr} (e : Same B B') : ∀ {t : Tg} {vs : List V}, FC G B p t vs → FC G B' p t vs
  | .lst, _, h => e _ _ h
  | .slst, _, h => e.seq h
  | .tup, _, h => sqT_mono e h
  | .dct _, _, h => ⟨e _ _ h.1, h.2⟩
  | .fdct _, _, h => ⟨let ⟨o, q⟩ := h.1; ⟨o, e _ _ q⟩, h.2⟩
  | .obj _ _, _, h => let ⟨C, dx, a, b, c⟩ := h; ⟨C, dx, a, e _ _ b, c⟩
  | .fn _, _, h => let ⟨o, q⟩ := h; ⟨o, e _ _ q⟩
  | .iset, _, h => let ⟨S, a, b⟩ := h; ⟨S, e _ _ a, b⟩
mutual
theorem R.mono {G : Gx} {B B' : Hp} {as as' : List Addr} (e : Same B B') (p : as <+: as') : ∀ {v : V} {d : D}, R G B as v d → R G B' as' v d
  | _, _, .non => .non
  | _, _, .bl b => .bl b
  | _, _, .int i => .int i
  | _, _, .str x => .str x
  | _, _, .ty n => .ty n
  | _, _, .gl h => .gl h
  | _, _, .ref h => .ref (pre_get p h)
  | _, _, .nd h r => .nd (h.mono e) (Rs.mono e p r)
theorem Rs.mono {G : Gx} {B B' : Hp} {as as' : List Addr} (e : Same B B') (p : as <+: as') : ∀ {vs : List V} {l : List D}, Rs G B as vs l → Rs G B' as' vs l
  | _, _, .nil => .nil
  | _, _, .cons h r => .cons (R.mono e p h) (Rs.mono e p r)
end
section
variable {G : Gx} {Fr B B' : Hp} {as as' : List Addr}
theorem Rs.length : ∀ {vs : List V} {l : List D}, Rs G B as vs l → vs.length = l.length
  | _, _, .nil => rfl
  | _, _, .cons _ r => congrArg (· + 1) r.length
theorem Rs.get : ∀ {vs : List V} {l : List D} {i : Nat} {d : D}, Rs G B as vs l → l[i]? = some d → ∃ v, vs[i]? = some v ∧ R G B as v d
  | _, _, _, _, .nil, e => by simp at e
  | _, _, 0, _, .cons h _, e => by simp at e; subst e; exact ⟨_, rfl, h⟩
  | _, _, i + 1, d, .cons _ r, e => by
    obtain ⟨v, h1, h2⟩ := Rs.get (i := i) (d := d) r (by simpa using e)
    exact ⟨v, by simpa using h1, h2⟩
theorem Rs.app : ∀ {vs ws : List V} {l m : List D}, Rs G B as vs l → Rs G B as ws m → Rs G B as (vs ++ ws) (l ++ m)
  | _, _, _, _, .nil, r => r
  | _, _, _, _, .cons h t, r => .cons h (Rs.app t r)
theorem Rs.set {v : V} {d : D} (h : R G B as v d) : ∀ {vs : List V} {l : List D} (i : Nat), Rs G B as vs l → Rs G B as (vs.set i v) (l.set i d)
  | _, _, _, .nil => .nil
  | _, _, 0, .cons _ t => .cons h t
  | _, _, i + 1, .cons q t => .cons q (Rs.set h i t)
theorem Rs.take : ∀ {vs : List V} {l : List D} (n : Nat), Rs G B as vs l → Rs G B as (vs.take n) (l.take n)
  | _, _, 0, _ => .nil
  | _, _, _ + 1, .nil => .nil
  | _, _, n + 1, .cons h t => .cons h (Rs.take n t)
theorem Rs.drop : ∀ {vs : List V} {l : List D} (n : Nat), Rs G B as vs l → Rs G B as (vs.drop n) (l.drop n)
  | _, _, 0, r => r
  | _, _, _ + 1, .nil => .nil
  | _, _, n + 1, .cons _ t => Rs.drop n t
theorem Rs.one {v : V} {d : D} (h : R G B as v d) : Rs G B as [v] [d] := .cons h .nil
/-- no table, no code object and no captured cell of a lambda -/
def Pln (H : Hp) (a : Addr) : Prop := (∀ ps, H a ≠ some (.tbl ps)) ∧ (∀ c q, H a ≠ some (LamX.CodeO c q)) ∧ ∀ o f v, H a = some (.frz o (.ext f)) → o.data ≠ .cell v
theorem Pln.of {H : Hp} {a : Addr} {o : HO} (h : H a = some o) (h1 : ∀ ps, o ≠ .tbl ps) (h2 : ∀ f, o ≠ .ext f) (h3 : ∀ ob f v, o = .frz ob (.ext f) → ob.data ≠ .cell v := by simp) : Pln H a :=
  ⟨fun ps e => h1 ps (Option.some.inj (h.symm.trans e)), fun c q e => h2 _ (Option.some.inj (h.symm.trans e)), fun ob f v e => h3 ob f v (Option.some.inj (h.symm.trans e))⟩
theorem Pln.non {H : Hp} {a : Addr} (n : H a = none) : Pln H a := And.intro (fun _ e => nomatch n.symm.trans e) (And.intro (fun _ _ e => nomatch n.symm.trans e) (fun _ _ _ e => nomatch n.symm.trans e))
theorem LamAt.off {H H' : Hp} {a p : Addr} {k : Nat} {vs : List V} (hp : a ≠ p) (pl : Pln H p) (e : ∀ b, b ≠ p → H' b = H b) (h : LamAt H a k vs) : LamAt H' a k vs :=
  h.to (fun o z _ => by rw [e _ hp]; exact z) (fun c q z => by rw [e _ fun y => pl.2.1 c q (by rw [← y]; exact z)]; exact z) (fun d o v z zd => by rw [e _ fun y => pl.2.2 o _ v (by rw [← y]; exact z) zd]; exact z)
theorem LamAt.pln {H : Hp} {a : Addr} {k : Nat} {vs : List V} (h : LamAt H a k vs) : Pln H a := by
  obtain ⟨_, _, _, _, _, _, q, _⟩ := h
  exact .of q (by simp) (by simp) (fun ob f v e => by cases e; simp [PySem.W.kla_obj])
theorem tabs_off {T : List (Addr × Str)} {H H' : Hp} {a : Addr} (h : LamX.Tabs T H) (p : Pln H a) (k : ∀ b, b ≠ a → H' b = H b) : LamX.Tabs T H' := fun x hx => by
  obtain ⟨ps, h1, h2, h3⟩ := h x hx
  refine ⟨ps, ?_, h2, fun pos cv hc => ?_⟩
  · rw [k _ fun e => p.1 ps (by rw [← e]; exact h1)]; exact h1
  · obtain ⟨c, e1, e2⟩ := h3 pos cv hc
    exact ⟨c, e1, by rw [k _ fun e => p.2.1 c x.2 (by rw [← e]; exact e2)]; exact e2⟩
theorem tabs_new {T : List (Addr × Str)} {H : Hp} {a : Addr} {o : HO} (h : LamX.Tabs T H) (n : H a = none) : LamX.Tabs T (L2.upd H a o) := tabs_off h (Pln.non n) fun _ hb => upd_ne hb
theorem MC.pln {G : Gx} {H : Hp} {a : Addr} : ∀ {t : Tg} {vs : List V}, MC G H a t vs → Pln H a
  | .lst, _, h => .of h (by simp) (by simp)
  | .slst, _, h => h.elim
  | .tup, _, h => h.elim
  | .dct _, _, h => .of h.1 (by simp) (by simp)
  | .fdct _, _, h => let ⟨_, q⟩ := h.1; .of q (by simp) (by simp)
  | .obj _ _, _, h => let ⟨_, _, _, q, _⟩ := h; .of q (by simp) (by simp)
  | .fn _, _, h => LamAt.pln h
  | .iset, _, h => let ⟨_, q, _⟩ := h; .of q (by simp) (by simp)
/-- no table among what is kept -/
def NoT (B : Hp) : Prop := ∀ b ps, B b ≠ some (.tbl ps)
/-- neither a table nor a captured cell -/
def NoB (B : Hp) : Prop := NoT B ∧ ∀ b o f v, B b = some (.frz o (.ext f)) → o.data ≠ .cell v
theorem NoT.upd {B : Hp} {p : Addr} {o : HO} (h : NoT B) (ho : ∀ ps, o ≠ .tbl ps) : NoT (L2.upd B p o) := fun b ps e => by
  by_cases hb : b = p
  · subst hb; rw [upd_same] at e; exact ho ps (Option.some.inj e)
  · rw [upd_ne hb] at e; exact h b ps e
theorem NoB.upd {B : Hp} {p : Addr} {o : HO} (h : NoB B) (ho : ∀ ps, o ≠ .tbl ps) (hx : ∀ ob f v, o = .frz ob (.ext f) → ob.data ≠ .cell v) : NoB (L2.upd B p o) := ⟨h.1.upd ho, fun b ob f v e => by
  by_cases hb : b = p
  · subst hb; rw [upd_same] at e; exact hx ob f v (Option.some.inj e)
  · rw [upd_ne hb] at e; exact h.2 b ob f v e⟩
/-- the heap bears the store -/
structure Rep (G : Gx) (Fr B : Hp) (as : List Addr) (H : Hp) (M : Store) : Prop where
  sub : Same B H
  frm : Same Fr H
  fout : ∀ a ∈ as, Fr a = none
  dis : ∀ a o, Fr a = some o → B a = none
  nd : as.Nodup
  out : ∀ a ∈ as, B a = none
  len : as.length = M.length
  cell : ∀ (n : Nat) (a : Addr) (c : Tg × List D), as[n]? = some a → M[n]? = some c → ∃ vs, MC G H a c.1 vs ∧ Rs G B as vs c.2
  nB : NoB B
  nF : NoT Fr
  tb : LamX.Tabs (Tb.T G.K) H
/-- the slots hold the frame -/
structure RS (G : Gx) (B : Hp) (as : List Addr) (σ : St) (S : Lo) : Prop where
  len : σ.length = S.length
  at_ : ∀ (i : Nat) (d : D), S[i]? = some (some d) → ∃ v, σ[i]? = some (some v) ∧ R G B as v d
theorem RS.mono {σ : St} {S : Lo} (h : RS G B as σ S) (e : Same B B') (p : as <+: as') : RS G B' as' σ S :=
  ⟨h.len, fun i d q => let ⟨v, a, r⟩ := h.at_ i d q; ⟨v, a, r.mono e p⟩⟩
theorem RS.set {σ : St} {S : Lo} {v : V} {d : D} (h : RS G B as σ S) (r : R G B as v d) (i : Nat) : RS G B as (σ.set i (some v)) (S.set i (some d)) := by
  refine ⟨by simp [h.len], fun j e q => ?_⟩
  by_cases hj : i = j
  · subst hj
    by_cases hi : i < S.length
    · rw [List.getElem?_set_self hi] at q
      cases q
      exact ⟨v, by rw [List.getElem?_set_self (by rw [h.len]; exact hi)], r⟩
    · rw [List.getElem?_eq_none (by simpa using hi)] at q; cases q
  · rw [List.getElem?_set_ne hj] at q
    obtain ⟨w, a, b⟩ := h.at_ j e q
    exact ⟨w, by rw [List.getElem?_set_ne hj]; exact a, b⟩
theorem Rep.fresh {H : Hp} {M : Store} {p : Addr} (h : Rep G Fr B as H M) (n : H p = none) : B p = none ∧ p ∉ as := by
  refine ⟨h.sub.free n, fun hp => ?_⟩
  obtain ⟨k, hk, e⟩ := List.getElem_of_mem hp
  have hM : k < M.length := by rw [← h.len]; exact hk
  obtain ⟨vs, c, _⟩ := h.cell k p M[k] (by rw [List.getElem?_eq_getElem hk, e]) (List.getElem?_eq_getElem hM)
  cases t : M[k].1 with
  | lst => rw [t] at c; have c' : H p = some (.lst vs) := c; rw [n] at c'; cases c'
  | slst => rw [t] at c; exact c
  | tup => rw [t] at c; exact c
  | dct ks => rw [t] at c; have c' := c.1; rw [n] at c'; cases c'
  | fdct ks => rw [t] at c; obtain ⟨_, c'⟩ := c.1; rw [n] at c'; cases c'
  | obj a b => rw [t] at c; obtain ⟨_, _, _, c', _⟩ := c; rw [n] at c'; cases c'
  | fn k => rw [t] at c; obtain ⟨_, _, _, _, _, _, c', _⟩ := c; rw [n] at c'; cases c'
  | iset => rw [t] at c; obtain ⟨_, c', _⟩ := c; rw [n] at c'; cases c'
theorem MC.upd {H : Hp} {a p : Addr} {o : HO} (hp : a ≠ p) (pl : Pln H p) : ∀ {t : Tg} {vs : List V}, MC G H a t vs → MC G (upd H p o) a t vs
  | .lst, _, h => by show L2.upd H p o a = _; rw [upd_ne hp]; exact h
  | .slst, _, h => h
  | .tup, _, h => h
  | .dct _, _, h => ⟨by rw [upd_ne hp]; exact h.1, h.2⟩
  | .fdct _, _, h => ⟨let ⟨o, q⟩ := h.1; ⟨o, by rw [upd_ne hp]; exact q⟩, h.2⟩
  | .obj _ _, _, h => let ⟨C, dx, a', b, c⟩ := h; ⟨C, dx, a', by rw [upd_ne hp]; exact b, c⟩
  | .fn _, _, h => h.off hp pl fun b hb => upd_ne hb
  | .iset, _, h => let ⟨S, a, b⟩ := h; ⟨S, by rw [upd_ne hp]; exact a, b⟩
theorem MC.keep {H H' : Hp} {a : Addr} (hp : ∀ o, H a = some o → H' a = some o) (hl : ∀ k vs, LamAt H a k vs → LamAt H' a k vs) : ∀ {t : Tg} {vs : List V}, MC G H a t vs → MC G H' a t vs
  | .lst, _, h => hp _ h
  | .slst, _, h => h
  | .tup, _, h => h
  | .dct _, _, h => ⟨hp _ h.1, h.2⟩
  | .fdct _, _, h => ⟨let ⟨o, q⟩ := h.1; ⟨o, hp _ q⟩, h.2⟩
  | .obj _ _, _, h => let ⟨C, dx, a', b, c⟩ := h; ⟨C, dx, a', hp _ b, c⟩
  | .fn _, _, h => hl _ _ h
  | .iset, _, h => let ⟨S, a, b⟩ := h; ⟨S, hp _ a, b⟩
theorem same_upd {p : Addr} {o : HO} (n : B p = none) : Same B (L2.upd B p o) := fun b u e => by
  rw [upd_ne (ne_of_none e n)]; exact e
theorem same_upd2 {H : Hp} {p : Addr} {o : HO} (s : Same B H) : Same (L2.upd B p o) (L2.upd H p o) := fun b u e => by
  by_cases hb : b = p
  · subst hb; rw [upd_same] at e ⊢; exact e
  · rw [upd_ne hb] at e ⊢; exact s b u e
/-- a new thing laid and frozen -/
theorem Rep.froze {H : Hp} {M : Store} {p : Addr} {o : HO} (h : Rep G Fr B as H M) (n : H p = none) (ho : ∀ ps, o ≠ .tbl ps := by simp) (hx : ∀ ob f v, o = .frz ob (.ext f) → ob.data ≠ .cell v := by simp) : Rep G Fr (L2.upd B p o) as (L2.upd H p o) M := by
  obtain ⟨nb, na⟩ := h.fresh n
  refine ⟨same_upd2 h.sub, h.frm.trans (same_upd n), h.fout, fun b u e => by rw [upd_ne (ne_of_none e (h.frm.free n))]; exact h.dis b u e, h.nd, fun a ha => ?_, h.len, fun k a c ha hc => ?_, h.nB.upd ho hx, h.nF, tabs_new h.tb n⟩
  · rw [upd_ne (fun e => na (by rw [← e]; exact ha))]; exact h.out a ha
  · obtain ⟨vs, m, r⟩ := h.cell k a c ha hc
    exact ⟨vs, m.upd (fun e => na (by rw [← e]; exact List.mem_of_getElem? ha)) (Pln.non n), r.mono (same_upd nb) (List.prefix_refl _)⟩
/-- a thing laid that nobody tracks as data -/
theorem Rep.laid {H : Hp} {M : Store} {p : Addr} {o : HO} (h : Rep G Fr B as H M) (n : H p = none) : Rep G Fr B as (L2.upd H p o) M := by
  obtain ⟨nb, na⟩ := h.fresh n
  refine ⟨h.sub.trans (same_upd n), h.frm.trans (same_upd n), h.fout, h.dis, h.nd, h.out, h.len, fun k a c ha hc => ?_, h.nB, h.nF, tabs_new h.tb n⟩
  obtain ⟨vs, m, r⟩ := h.cell k a c ha hc
  exact ⟨vs, m.upd (fun e => na (by rw [← e]; exact List.mem_of_getElem? ha)) (Pln.non n), r⟩
/-- a new cell -/
theorem Rep.push {H : Hp} {M : Store} {p : Addr} {o : HO} {t : Tg} {vs : List V} {l : List D} (h : Rep G Fr B as H M) (n : H p = none) (c : MC G (L2.upd H p o) p t vs) (r : Rs G B as vs l) :
    Rep G Fr B (as ++ [p]) (L2.upd H p o) (M ++ [(t, l)]) := by
  obtain ⟨nb, na⟩ := h.fresh n
  refine ⟨h.sub.trans (same_upd n), h.frm.trans (same_upd n), fun a ha => ?_, h.dis, ?_, fun a ha => ?_, by simp [h.len], fun k a q ha hc => ?_, h.nB, h.nF, tabs_new h.tb n⟩
  · rcases List.mem_append.mp ha with z | z
    · exact h.fout a z
    · simp at z; subst z; exact h.frm.free n
  · rw [List.nodup_append]
    exact ⟨h.nd, by simp, fun x hx y hy e => by simp at hy; subst hy; exact na (by rw [← e]; exact hx)⟩
  · rcases List.mem_append.mp ha with z | z
    · exact h.out a z
    · simp at z; subst z; exact nb
  · have pre : as <+: as ++ [p] := List.prefix_append _ _
    by_cases hk : k < as.length
    · rw [List.getElem?_append_left hk] at ha
      rw [List.getElem?_append_left (by rw [← h.len]; exact hk)] at hc
      obtain ⟨vs', m, r'⟩ := h.cell k a q ha hc
      exact ⟨vs', m.upd (fun e => na (by rw [← e]; exact List.mem_of_getElem? ha)) (Pln.non n), r'.mono (Same.refl _) pre⟩
    · have hk' : k = as.length := by
        have := (List.getElem?_eq_some_iff.mp ha).1
        simp at this; omega
      subst hk'
      rw [List.getElem?_append_right (Nat.le_refl _)] at ha
      rw [h.len, List.getElem?_append_right (Nat.le_refl _)] at hc
      simp at ha hc
      subst ha; subst hc
      exact ⟨vs, c, r.mono (Same.refl _) pre⟩
theorem pre_push {p : Addr} : as <+: as ++ [p] := List.prefix_append _ _
theorem nodup_ixA {l : List Addr} {i j : Nat} {x : Addr} (hl : l.Nodup) (a : l[i]? = some x) (b : l[j]? = some x) : i = j := by
  obtain ⟨h1, e1⟩ := List.getElem?_eq_some_iff.mp a
  obtain ⟨h2, e2⟩ := List.getElem?_eq_some_iff.mp b
  exact (List.getElem_inj hl).mp (e1.trans e2.symm)
/-- a cell is written -/
theorem Rep.write {H : Hp} {M : Store} {n : Nat} {a : Addr} {o : HO} {t : Tg} {vs : List V} {l : List D} (h : Rep G Fr B as H M) (ha : as[n]? = some a) (c : MC G (L2.upd H a o) a t vs) (r : Rs G B as vs l) :
    Rep G Fr B as (L2.upd H a o) (M.set n (t, l)) := by
  have hn := (List.getElem?_eq_some_iff.mp ha).1
  have hM : n < M.length := by rw [← h.len]; exact hn
  obtain ⟨_, mc0, _⟩ := h.cell n a M[n] ha (List.getElem?_eq_getElem hM)
  refine ⟨fun b u e => ?_, fun b u e => ?_, h.fout, h.dis, h.nd, h.out, by simp [h.len], fun k b q hb hc => ?_, h.nB, h.nF, tabs_off h.tb mc0.pln fun _ hb => upd_ne hb⟩
  · have : b ≠ a := ne_of_none e (h.out a (List.mem_of_getElem? ha))
    rw [upd_ne this]; exact h.sub b u e
  · have : b ≠ a := ne_of_none e (h.fout a (List.mem_of_getElem? ha))
    rw [upd_ne this]; exact h.frm b u e
  · by_cases hk : n = k
    · subst hk
      rw [ha] at hb; cases hb
      rw [List.getElem?_set_self (by rw [← h.len]; exact hn)] at hc
      cases hc
      exact ⟨vs, c, r⟩
    · rw [List.getElem?_set_ne hk] at hc
      obtain ⟨vs', m, r'⟩ := h.cell k b q hb hc
      refine ⟨vs', m.upd (fun e => hk ?_) mc0.pln, r'⟩
      subst e
      exact nodup_ixA h.nd ha hb
end

/-- what is wanted behind an outcome -/
def Post {α : Type} (B : Hp) (as : List Addr) (o : Out α) (k : α → Store → Hp → List Addr → Prop) (x : Str → D → Store → Hp → List Addr → Prop) : Prop :=
  match o with
  | .ok a M => ∀ B' as', Same B B' → as <+: as' → k a M B' as'
  | .exc c d M => ∀ B' as', Same B B' → as <+: as' → x c d M B' as'
  | .stuck => False
theorem Post.mono {α : Type} {B B' : Hp} {as as' : List Addr} {o : Out α} {k : α → Store → Hp → List Addr → Prop} {x : Str → D → Store → Hp → List Addr → Prop} (h : Post B as o k x) (e : Same B B') (p : as <+: as') : Post B' as' o k x := by
  cases o with
  | ok a M => exact fun B2 as2 e2 p2 => h B2 as2 (e.trans e2) (p.trans p2)
  | exc c d M => exact fun B2 as2 e2 p2 => h B2 as2 (e.trans e2) (p.trans p2)
  | stuck => exact h
theorem Post.imp {α : Type} {B : Hp} {as : List Addr} {o : Out α} {k k' : α → Store → Hp → List Addr → Prop} {x : Str → D → Store → Hp → List Addr → Prop} (h : Post B as o k x)
    (f : ∀ a M B' as', Same B B' → as <+: as' → k a M B' as' → k' a M B' as') : Post B as o k' x := by
  cases o with
  | ok a M => exact fun B2 as2 e2 p2 => f a M B2 as2 e2 p2 (h B2 as2 e2 p2)
  | exc c d M => exact h
  | stuck => exact h
theorem Post.bnd {α β : Type} {B : Hp} {as : List Addr} {m : Ev α} {f : α → Ev β} {M : Store} {k : β → Store → Hp → List Addr → Prop} {x : Str → D → Store → Hp → List Addr → Prop} (h : Post B as ((m.bnd f) M) k x) :
    Post B as (m M) (fun a M' B' as' => Post B' as' (f a M') k x) x := by
  unfold Ev.bnd at h
  cases e : m M with
  | ok a M' => rw [e] at h; exact fun B2 as2 e2 p2 => Post.mono (o := f a M') h e2 p2
  | exc c d M' => rw [e] at h; exact h
  | stuck => rw [e] at h; exact h
theorem Post.unbnd {α β : Type} {B : Hp} {as : List Addr} {m : Ev α} {f : α → Ev β} {M : Store} {k : β → Store → Hp → List Addr → Prop} {x : Str → D → Store → Hp → List Addr → Prop}
    (h : Post B as (m M) (fun a M' B' as' => Post B' as' (f a M') k x) x) : Post B as ((m.bnd f) M) k x := by
  unfold Ev.bnd
  cases e : m M with
  | ok a M' => rw [e] at h; exact h B as (Same.refl _) (List.prefix_refl _)
  | exc c d M' => rw [e] at h; exact h
  | stuck => rw [e] at h; exact h
theorem Post.ok {α : Type} {B : Hp} {as : List Addr} {a : α} {M : Store} {k : α → Store → Hp → List Addr → Prop} {x : Str → D → Store → Hp → List Addr → Prop} (h : Post B as (.ok a M) k x) : k a M B as := h B as (Same.refl _) (List.prefix_refl _)
theorem Post.ret {α : Type} {B : Hp} {as : List Addr} {a : α} {M : Store} {k : α → Store → Hp → List Addr → Prop} {x : Str → D → Store → Hp → List Addr → Prop} (h : Post B as (Ev.ret a M) k x) : k a M B as := Post.ok h

/-- an exception of the class named c whose field value is d -/
def XR (G : Gx) (B : Hp) (as : List Addr) (H : Hp) (c : Str) (d : D) (cls : Value) (dx : Option Addr) : Prop :=
  ∃ C a v, cls = .ref C ∧ G.mg c = some (.ref C) ∧ dx = some a ∧ H a = some (.xd [("value", v)]) ∧ R G B as v d ∧ B a = none ∧ a ∉ as
section
variable (X : Cx) (W : WX)
def kD (Fr : Hp) (Q : VK) : D → Store → Hp → List Addr → Prop := fun d M B as => ∀ v H, Rep (gx X) Fr B as H M → R (gx X) B as v d → Q v H
def kB (Fr : Hp) (Q : Bool → Hp → Prop) : Bool → Store → Hp → List Addr → Prop := fun b M B as => ∀ H, Rep (gx X) Fr B as H M → Q b H
def kA (Fr : Hp) (Q : List V → Hp → Prop) : List D → Store → Hp → List Addr → Prop := fun l M B as => ∀ vs H, Rep (gx X) Fr B as H M → Rs (gx X) B as vs l → Q vs H
def kX (Fr : Hp) (W : WX) (σ : St) : Str → D → Store → Hp → List Addr → Prop := fun c d M B as => ∀ cls dx H, Rep (gx X) Fr B as H M → XR (gx X) B as H c d cls dx → W cls dx σ H
def kF (Fr : Hp) (W : WX) (D : Ends) : Fl → Store → Hp → List Addr → Prop := fun fl M B as => match fl with
  | .nx S => ∀ σ H, Rep (gx X) Fr B as H M → RS (gx X) B as σ S → D.nx σ H
  | .rt d => ∀ v H, Rep (gx X) Fr B as H M → R (gx X) B as v d → D.rt v H
  | .bk S => ∀ σ H, Rep (gx X) Fr B as H M → RS (gx X) B as σ S → D.bk σ H
  | .ct S => ∀ σ H, Rep (gx X) Fr B as H M → RS (gx X) B as σ S → D.ct σ H
  | .xc c d S => ∀ σ cls dx H, Rep (gx X) Fr B as H M → RS (gx X) B as σ S → XR (gx X) B as H c d cls dx → W cls dx σ H
/-- an expression -/
def DE (e : Expr) (f : Lo → Ev D) : Prop := ∃ t, PE X e t ∧ ∀ Fr B as σ H S M Q, RS (gx X) B as σ S → Rep (gx X) Fr B as H M → Post B as (f S M) (kD X Fr Q) (kX X Fr W σ) → t σ H Q
def DT (e : Expr) (f : Lo → Ev Bool) : Prop := ∃ t, PT X e t ∧ ∀ Fr B as σ H S M Q, RS (gx X) B as σ S → Rep (gx X) Fr B as H M → Post B as (f S M) (kB X Fr Q) (kX X Fr W σ) → t σ H Q
def DW (e : Expr) (f : Lo → Ev Bool) : Prop := ∃ t, PW X e t ∧ ∀ Fr B as σ H S M Q, RS (gx X) B as σ S → Rep (gx X) Fr B as H M → Post B as (f S M) (kB X Fr Q) (kX X Fr W σ) → t σ H Q
def DA (es : List Expr) (f : Lo → Ev (List D)) : Prop := ∃ t, PA X es t ∧ ∀ Fr B as σ H S M Q, RS (gx X) B as σ S → Rep (gx X) Fr B as H M → Post B as (f S M) (kA X Fr Q) (kX X Fr W σ) → t σ H Q
/-- statements -/
def DS (st : Stmt) (f : Lo → Ev Fl) : Prop := ∃ t, PS X st t ∧ ∀ Fr B as σ H S M D, RS (gx X) B as σ S → Rep (gx X) Fr B as H M → Post B as (f S M) (kF X Fr W D) (fun _ _ _ _ _ => False) → t D σ H
def DSs (st : List Stmt) (f : Lo → Ev Fl) : Prop := ∃ t, PSs X st t ∧ ∀ Fr B as σ H S M D, RS (gx X) B as σ S → Rep (gx X) Fr B as H M → Post B as (f S M) (kF X Fr W D) (fun _ _ _ _ _ => False) → t D σ H
end

/-! ### readings of expressions -/
def eVar (i : Nat) : Lo → Ev D := fun S => match S[i]? with
  | some (some d) => Ev.ret d
  | _ => Ev.no
def eC (d : D) : Lo → Ev D := fun _ => Ev.ret d
def e2 (op : D → D → Ev D) (fa fb : Lo → Ev D) : Lo → Ev D := fun S => (fa S).bnd fun x => (fb S).bnd fun y => op x y
def e1 (op : D → Ev D) (fa : Lo → Ev D) : Lo → Ev D := fun S => (fa S).bnd op
def eA0 : Lo → Ev (List D) := fun _ => Ev.ret []
def eAc (fa : Lo → Ev D) (fr : Lo → Ev (List D)) : Lo → Ev (List D) := fun S => (fa S).bnd fun x => (fr S).bnd fun l => Ev.ret (x :: l)
def asB : D → Ev Bool
  | .bl b => Ev.ret b
  | _ => Ev.no
def eB (f : Lo → Ev D) : Lo → Ev Bool := fun S => (f S).bnd asB
def eAnd (f g : Lo → Ev Bool) : Lo → Ev Bool := fun S => (f S).bnd fun b => if b = true then g S else Ev.ret false
def eOr (f g : Lo → Ev Bool) : Lo → Ev Bool := fun S => (f S).bnd fun b => if b = true then Ev.ret true else g S
def eNot (f : Lo → Ev Bool) : Lo → Ev Bool := fun S => (f S).bnd fun b => Ev.ret (!b)
def eAndV (f g : Lo → Ev D) : Lo → Ev D := fun S => (f S).bnd fun x => (asB x).bnd fun b => if b = true then g S else Ev.ret (.bl false)
def eOrV (f g : Lo → Ev D) : Lo → Ev D := fun S => (f S).bnd fun x => (asB x).bnd fun b => if b = true then Ev.ret (.bl true) else g S
def eNotV (f : Lo → Ev D) : Lo → Ev D := fun S => (f S).bnd fun x => (asB x).bnd fun b => Ev.ret (.bl (!b))
def eIf (c : Lo → Ev Bool) (f g : Lo → Ev D) : Lo → Ev D := fun S => (c S).bnd fun b => if b = true then f S else g S
section
variable {X : Cx} {W : WX} {e a b c : Expr} {pos : Pos}
theorem de_var {i : Nat} {x : Str} (hN : X.N[i]? = some x) (hv : Vis X.env.scope x) (hd : (x == ("__debug__" : Str)) = false := by decide) (hcd : (x == ("__classdict__" : Str)) = false := by decide) : DE X W (.Name x pos) (eVar i) := by
  refine ⟨_, pe_var hN hv hd hcd, fun Fr B as σ H S M Q rs rp h => ?_⟩
  unfold eVar at h
  cases q : S[i]? with
  | none => rw [q] at h; exact h.elim
  | some o =>
    cases o with
    | none => rw [q] at h; exact h.elim
    | some d =>
      rw [q] at h
      obtain ⟨v, hv, r⟩ := rs.at_ i d q
      exact ⟨v, hv, h.ret v H rp r⟩
theorem de_int {i j} : DE X W (.Constant (.int i) j pos) (eC (.int i)) := ⟨_, pe_int, fun _ _ _ _ _ _ _ _ _ rp h => h.ret _ _ rp (.int i)⟩
theorem de_bl {b j} : DE X W (.Constant (.bool b) j pos) (eC (.bl b)) := ⟨_, pe_bl, fun _ _ _ _ _ _ _ _ _ rp h => h.ret _ _ rp (.bl b)⟩
theorem de_non {j} : DE X W (.Constant .none j pos) (eC .non) := ⟨_, pe_non, fun _ _ _ _ _ _ _ _ _ rp h => h.ret _ _ rp .non⟩
theorem de_str {x j} : DE X W (.Constant (.str x) j pos) (eC (.str x)) := ⟨_, pe_str, fun _ _ _ _ _ _ _ _ _ rp h => h.ret _ _ rp (.str x)⟩
theorem de_globI {x : Str} {i : Int} (hg : Gl X x) (hm : ∃ t, X.mg x = some (.int i t)) (hd : (x == ("__debug__" : Str)) = false := by decide) : DE X W (.Name x pos) (eC (.int i)) :=
  ⟨_, pe_glob (v := .int i) hg hm.choose_spec ⟨_, rfl⟩ hd, fun _ _ _ _ _ _ _ _ _ rp h => h.ret _ _ rp (.int i)⟩
theorem de_ty {x : Str} {n : String} (hg : Gl X x) (hm : X.mg x = none) (hv : bootBuiltins x = some (.type n)) (hn : x ≠ "__name__" := by decide) (hd : (x == ("__debug__" : Str)) = false := by decide) : DE X W (.Name x pos) (eC (.ty n)) :=
  ⟨_, pe_bltn (v := .ty n) hg hm hv rfl hn hd, fun _ _ _ _ _ _ _ _ _ rp h => h.ret _ _ rp (.ty n)⟩
/-- a binary operation by values -/
def Op2 (X : Cx) (W : WX) (r : R2) (op : D → D → Ev D) : Prop := ∀ Fr B as σ H M v w x y Q, Rep (gx X) Fr B as H M → R (gx X) B as v x → R (gx X) B as w y → Post B as (op x y M) (kD X Fr Q) (kX X Fr W σ) → r v w H Q
def Op1 (X : Cx) (W : WX) (r : V → Hp → VK → Prop) (op : D → Ev D) : Prop := ∀ Fr B as σ H M v x Q, Rep (gx X) Fr B as H M → R (gx X) B as v x → Post B as (op x M) (kD X Fr Q) (kX X Fr W σ) → r v H Q
def OpN (X : Cx) (W : WX) (r : List V → Hp → VK → Prop) (op : List D → Ev D) : Prop := ∀ Fr B as σ H M vs l Q, Rep (gx X) Fr B as H M → Rs (gx X) B as vs l → Post B as (op l M) (kD X Fr Q) (kX X Fr W σ) → r vs H Q
theorem post_two {Fr B : Hp} {as : List Addr} {σ : St} {H : Hp} {S : Lo} {M : Store} {Q : VK} {fa fb : Lo → Ev D} {ta tb : TE} {r : R2} {op : D → D → Ev D}
    (ha : ∀ Fr B as σ H S M Q, RS (gx X) B as σ S → Rep (gx X) Fr B as H M → Post B as (fa S M) (kD X Fr Q) (kX X Fr W σ) → ta σ H Q)
    (hb : ∀ Fr B as σ H S M Q, RS (gx X) B as σ S → Rep (gx X) Fr B as H M → Post B as (fb S M) (kD X Fr Q) (kX X Fr W σ) → tb σ H Q)
    (ho : Op2 X W r op) (rs : RS (gx X) B as σ S) (rp : Rep (gx X) Fr B as H M) (h : Post B as (e2 op fa fb S M) (kD X Fr Q) (kX X Fr W σ)) : tOp r ta tb σ H Q := by
  refine ha Fr B as σ H S M _ rs rp (h.bnd.imp fun x M1 B1 as1 s1 p1 h1 v H1 rp1 r1 => ?_)
  refine hb Fr B1 as1 σ H1 S M1 _ (rs.mono s1 p1) rp1 (h1.bnd.imp fun y M2 B2 as2 s2 p2 h2 w H2 rp2 r2 => ?_)
  exact ho Fr B2 as2 σ H2 M2 v w x y Q rp2 (r1.mono s2 p2) r2 h2
theorem de_op {op : Operator} {r : R2} {fo : D → D → Ev D} {fa fb : Lo → Ev D} (hr : OpR X (binaryOp op) r) (ho : Op2 X W r fo) (ha : DE X W a fa) (hb : DE X W b fb) : DE X W (.BinOp a op b pos) (e2 fo fa fb) := by
  obtain ⟨ta, pa, sa⟩ := ha
  obtain ⟨tb, pb, sb⟩ := hb
  exact ⟨_, pe_op hr pa pb, fun Fr B as σ H S M Q rs rp h => post_two sa sb ho rs rp h⟩
theorem de_cmp {op : CmpOp} {r : R2} {fo : D → D → Ev D} {fa fb : Lo → Ev D} (hr : OpR X (compareOp op) r) (ho : Op2 X W r fo) (ha : DE X W a fa) (hb : DE X W b fb) (hm : behindInMarks op b = false) : DE X W (.Compare a [op] [b] pos) (e2 fo fa fb) := by
  obtain ⟨ta, pa, sa⟩ := ha
  obtain ⟨tb, pb, sb⟩ := hb
  exact ⟨_, pe_cmpR hr pa pb hm, fun Fr B as σ H S M Q rs rp h => post_two sa sb ho rs rp h⟩
theorem dt_cmp {op : CmpOp} {r : R2} {fo : D → D → Ev D} {fa fb : Lo → Ev D} (hr : OpR X (compareOp op) r) (ho : Op2 X W r fo) (ha : DE X W a fa) (hb : DE X W b fb) (hm : behindInMarks op b = false) : DT X W (.Compare a [op] [b] pos) (eB (e2 fo fa fb)) := by
  obtain ⟨ta, pa, sa⟩ := ha
  obtain ⟨tb, pb, sb⟩ := hb
  refine ⟨_, pt_cmpR hr pa pb hm, fun Fr B as σ H S M Q rs rp h => ?_⟩
  refine post_two sa sb ho rs rp (h.bnd.imp fun x M1 B1 as1 s1 p1 h1 v H1 rp1 r1 => ?_)
  cases x <;> first | exact h1.elim | skip
  cases r1
  exact ⟨_, rfl, h1.ret H1 rp1⟩
theorem de_un {op : UnaryOp} {r : V → Hp → VK → Prop} {fo : D → Ev D} {fa : Lo → Ev D} (hr : UnR X (unaryOp op) r) (ho : Op1 X W r fo) (ha : DE X W a fa) : DE X W (.UnaryOp op a pos) (e1 fo fa) := by
  obtain ⟨ta, pa, sa⟩ := ha
  refine ⟨_, pe_un hr pa, fun Fr B as σ H S M Q rs rp h => ?_⟩
  exact sa Fr B as σ H S M _ rs rp (h.bnd.imp fun x M1 B1 as1 s1 p1 h1 v H1 rp1 r1 => ho Fr B1 as1 σ H1 M1 v x Q rp1 r1 h1)
theorem dw_or1 {f : Lo → Ev Bool} (h : DT X W a f) : DW X W (.BoolOp .Or [a] pos) f := by
  obtain ⟨t, p, s⟩ := h
  exact ⟨_, pw_or1 p, s⟩
theorem dw_or {rest : List Expr} {f g : Lo → Ev Bool} (ha : DT X W a f) (hb : DW X W (.BoolOp .Or (b :: rest) pos) g) : DW X W (.BoolOp .Or (a :: b :: rest) pos) (eOr f g) := by
  obtain ⟨t, p, s⟩ := ha
  obtain ⟨t', p', s'⟩ := hb
  refine ⟨_, pw_or p p', fun Fr B as σ H S M Q rs rp h => ?_⟩
  refine s Fr B as σ H S M _ rs rp (h.bnd.imp fun x M1 B1 as1 s1 p1 h1 H1 rp1 => ?_)
  cases x with
  | true => rw [if_pos rfl] at h1 ⊢; exact h1.ret H1 rp1
  | false => rw [if_neg Bool.false_ne_true] at h1 ⊢; exact s' Fr B1 as1 σ H1 S M1 _ (rs.mono s1 p1) rp1 h1
theorem dt_w {f : Lo → Ev Bool} (h : DW X W e f) : DT X W e f := by
  obtain ⟨t, p, s⟩ := h
  exact ⟨_, p.pt, s⟩
theorem dt_not {f : Lo → Ev Bool} (h : DT X W a f) : DT X W (.UnaryOp .Not a pos) (eNot f) := by
  obtain ⟨t, p, s⟩ := h
  refine ⟨_, pt_not p, fun Fr B as σ H S M Q rs rp h => ?_⟩
  exact s Fr B as σ H S M _ rs rp (h.bnd.imp fun x M1 B1 as1 s1 p1 h1 H1 rp1 => h1.ret H1 rp1)
theorem de_one {op} {f : Lo → Ev D} (h : DE X W a f) : DE X W (.BoolOp op [a] pos) f := by
  obtain ⟨t, p, s⟩ := h
  exact ⟨_, pe_one p, s⟩
theorem de_and {rest : List Expr} {f g : Lo → Ev D} (ha : DE X W a f) (hb : DE X W (.BoolOp .And (b :: rest) pos) g) : DE X W (.BoolOp .And (a :: b :: rest) pos) (eAndV f g) := by
  obtain ⟨t, p, s⟩ := ha
  obtain ⟨t', p', s'⟩ := hb
  refine ⟨_, pe_and p p', fun Fr B as σ H S M Q rs rp h => ?_⟩
  refine s Fr B as σ H S M _ rs rp (h.bnd.imp fun x M1 B1 as1 s1 p1 h1 v H1 rp1 r1 => ?_)
  cases x <;> first | exact h1.elim | skip
  rename_i c
  cases r1
  refine ⟨c, rfl, ?_⟩
  cases c with
  | true => rw [if_pos rfl]; exact s' Fr B1 as1 σ H1 S M1 _ (rs.mono s1 p1) rp1 h1
  | false => rw [if_neg Bool.false_ne_true]; exact (Post.ret (a := D.bl false) h1) _ H1 rp1 (.bl false)
theorem de_not {f : Lo → Ev D} (ha : DE X W a f) : DE X W (.UnaryOp .Not a pos) (eNotV f) := by
  obtain ⟨t, p, s⟩ := ha
  refine ⟨_, pe_not p, fun Fr B as σ H S M Q rs rp h => ?_⟩
  refine s Fr B as σ H S M _ rs rp (h.bnd.imp fun x M1 B1 as1 s1 p1 h1 v H1 rp1 r1 => ?_)
  cases x <;> first | exact h1.elim | skip
  rename_i c
  cases r1
  exact ⟨c, rfl, (Post.ret (a := D.bl (!c)) h1) _ H1 rp1 (.bl _)⟩
theorem de_ifExp {f : Lo → Ev Bool} {g h : Lo → Ev D} (hc : DT X W c f) (ha : DE X W a g) (hb : DE X W b h) : DE X W (.IfExp c a b pos) (eIf f g h) := by
  obtain ⟨t, p, s⟩ := hc
  obtain ⟨t', p', s'⟩ := ha
  obtain ⟨t'', p'', s''⟩ := hb
  refine ⟨_, pe_ifExp p p' p'', fun Fr B as σ H S M Q rs rp h => ?_⟩
  refine s Fr B as σ H S M _ rs rp (h.bnd.imp fun x M1 B1 as1 s1 p1 h1 H1 rp1 => ?_)
  cases x with
  | true => rw [if_pos rfl] at h1 ⊢; exact s' Fr B1 as1 σ H1 S M1 _ (rs.mono s1 p1) rp1 h1
  | false => rw [if_neg Bool.false_ne_true] at h1 ⊢; exact s'' Fr B1 as1 σ H1 S M1 _ (rs.mono s1 p1) rp1 h1
theorem da_nil : DA X W [] eA0 := ⟨_, pa_nil, fun _ _ _ _ _ _ _ _ _ rp h => h.ret [] _ rp .nil⟩
theorem da_cons {es : List Expr} {f : Lo → Ev D} {g : Lo → Ev (List D)} (ha : DE X W e f) (hr : DA X W es g) (hs : starEach (e :: es) X.env = (false, eval e X.env) :: starEach es X.env := by rfl) : DA X W (e :: es) (eAc f g) := by
  obtain ⟨t, p, s⟩ := ha
  obtain ⟨t', p', s'⟩ := hr
  refine ⟨_, pa_cons p p' hs, fun Fr B as σ H S M Q rs rp h => ?_⟩
  refine s Fr B as σ H S M _ rs rp (h.bnd.imp fun x M1 B1 as1 s1 p1 h1 v H1 rp1 r1 => ?_)
  refine s' Fr B1 as1 σ H1 S M1 _ (rs.mono s1 p1) rp1 (h1.bnd.imp fun l M2 B2 as2 s2 p2 h2 vs H2 rp2 r2 => ?_)
  exact h2.ret _ H2 rp2 (.cons (r1.mono s2 p2) r2)
end
end DL

set_option Elab.async false
set_option linter.all false
set_option maxRecDepth 100000
set_option maxHeartbeats 4000000
/-! DL2: new nodes, views, operators. -/
namespace DL
open PySem L2
variable [Tb]

/-- a value, or a new node -/
inductive NR where
  | v (d : D) | n (t : Tg) (l : List D)
def hoT : Tg → List V → HO
  | .lst, vs => .lst vs
  | .tup, vs => .tup vs
  | .dct ks, vs => .dK (ks.zip vs)
  | _, vs => .lst vs
theorem hoT_nt : ∀ {t : Tg} {vs : List V} (ps : Array Value), hoT t vs ≠ .tbl ps
  | .lst, _, _ => by simp [hoT]
  | .slst, _, _ => by simp [hoT]
  | .tup, _, _ => by simp [hoT]
  | .dct _, _, _ => by simp [hoT]
  | .fdct _, _, _ => by simp [hoT]
  | .obj _ _, _, _ => by simp [hoT]
  | .fn _, _, _ => by simp [hoT]
  | .iset, _, _ => by simp [hoT]
theorem hoT_nx : ∀ {t : Tg} {vs : List V} (ob : Obj) (f : Heap → Prop) (v : Option Value), hoT t vs = .frz ob (.ext f) → ob.data ≠ .cell v
  | .lst, _, _ => by simp [hoT]
  | .slst, _, _ => by simp [hoT]
  | .tup, _, _ => by simp [hoT]
  | .dct _, _, _ => by simp [hoT]
  | .fdct _, _, _ => by simp [hoT]
  | .obj _ _, _, _ => by simp [hoT]
  | .fn _, _, _ => by simp [hoT]
  | .iset, _, _ => by simp [hoT]
/-- a new node is frozen; becomes a cell -/
def frz : NR → Ev D
  | .v d => Ev.ret d
  | .n .lst l => Ev.ret (.nd .lst l)
  | .n .tup l => Ev.ret (.nd .tup l)
  | .n (.dct ks) l => if ks.length = l.length then Ev.ret (.nd (.dct ks) l) else Ev.no
  | _ => Ev.no
def cel : NR → Ev D
  | .v d => Ev.ret d
  | .n .lst l => fun M => .ok (.ref M.length) (M ++ [(.lst, l)])
  | .n (.dct ks) l => if ks.length = l.length then fun M => .ok (.ref M.length) (M ++ [(.dct ks, l)]) else Ev.no
  | _ => Ev.no
def kN (X : Cx) (Fr : Hp) (Q : VK) : NR → Store → Hp → List Addr → Prop := fun r M B as => match r with
  | .v d => kD X Fr Q d M B as
  | .n t l => ∀ vs H p, Rep (gx X) Fr B as H M → Rs (gx X) B as vs l → H p = none → Q (.ref p) (upd H p (hoT t vs))
def DN (X : Cx) (W : WX) (e : Expr) (f : Lo → Ev NR) : Prop := ∃ t, PE X e t ∧ ∀ Fr B as σ H S M Q, RS (gx X) B as σ S → Rep (gx X) Fr B as H M → Post B as (f S M) (kN X Fr Q) (kX X Fr W σ) → t σ H Q
def eF (f : Lo → Ev NR) : Lo → Ev D := fun S => (f S).bnd frz
def eCl (f : Lo → Ev NR) : Lo → Ev D := fun S => (f S).bnd cel
section
variable {X : Cx} {W : WX} {e a b : Expr} {pos : Pos}
theorem kN_frz {Fr B : Hp} {as : List Addr} {σ : St} {r : NR} {M : Store} {Q : VK} (h : Post B as (frz r M) (kD X Fr Q) (kX X Fr W σ)) : kN X Fr Q r M B as := by
  have go : ∀ (t : Tg) (l : List D) (vs : List V) (H : Hp) (p : Addr), FC (gx X) (upd B p (hoT t vs)) p t vs → (∀ B' as', Same B B' → as <+: as' → kD X Fr Q (.nd t l) M B' as') → Rep (gx X) Fr B as H M → Rs (gx X) B as vs l → H p = none → Q (.ref p) (upd H p (hoT t vs)) :=
    fun t l vs H p fc h rp rs n => by
      have nb := (rp.fresh n).1
      exact h (upd B p (hoT t vs)) as (same_upd nb) (List.prefix_refl _) _ _ (rp.froze n hoT_nt hoT_nx) (.nd fc (rs.mono (same_upd nb) (List.prefix_refl _)))
  cases r with
  | v d => exact h.ret
  | n t l =>
    cases t with
    | lst => exact fun vs H p => go .lst l vs H p upd_same h
    | tup => exact fun vs H p => go .tup l vs H p (SqT.of upd_same) h
    | dct ks =>
      unfold DL.frz at h; dsimp only at h
      by_cases hl : ks.length = l.length
      · rw [if_pos hl] at h
        exact fun vs H p rp rs n => go (.dct ks) l vs H p ⟨upd_same, hl.trans rs.length.symm⟩ h rp rs n
      · rw [if_neg hl] at h; exact h.elim
    | slst => exact h.elim
    | fdct ks => exact h.elim
    | obj c ns => exact h.elim
    | fn k => exact h.elim
    | iset => exact h.elim
theorem kN_cel {Fr B : Hp} {as : List Addr} {σ : St} {r : NR} {M : Store} {Q : VK} (h : Post B as (cel r M) (kD X Fr Q) (kX X Fr W σ)) : kN X Fr Q r M B as := by
  have go : ∀ (t : Tg) (l : List D) (vs : List V) (H : Hp) (p : Addr), MC (gx X) (upd H p (hoT t vs)) p t vs → (∀ B' as', Same B B' → as <+: as' → kD X Fr Q (.ref M.length) (M ++ [(t, l)]) B' as') → Rep (gx X) Fr B as H M → Rs (gx X) B as vs l → H p = none → Q (.ref p) (upd H p (hoT t vs)) :=
    fun t l vs H p mc h rp rs n => by
      exact h B (as ++ [p]) (Same.refl _) pre_push _ _ (rp.push n mc rs) (.ref (by rw [← rp.len]; simp))
  cases r with
  | v d => exact h.ret
  | n t l =>
    cases t with
    | lst => exact fun vs H p => go .lst l vs H p upd_same h
    | tup => exact h.elim
    | dct ks =>
      unfold DL.cel at h; dsimp only at h
      by_cases hl : ks.length = l.length
      · rw [if_pos hl] at h
        exact fun vs H p rp rs n => go (.dct ks) l vs H p ⟨upd_same, hl.trans rs.length.symm⟩ h rp rs n
      · rw [if_neg hl] at h; exact h.elim
    | slst => exact h.elim
    | fdct ks => exact h.elim
    | obj c ns => exact h.elim
    | fn k => exact h.elim
    | iset => exact h.elim
theorem DN.frz {f : Lo → Ev NR} (h : DN X W e f) : DE X W e (eF f) := by
  obtain ⟨t, p, s⟩ := h
  exact ⟨t, p, fun Fr B as σ H S M Q rs rp h => s Fr B as σ H S M Q rs rp (h.bnd.imp fun r M1 B1 as1 _ _ h1 => kN_frz h1)⟩
theorem DN.cel {f : Lo → Ev NR} (h : DN X W e f) : DE X W e (eCl f) := by
  obtain ⟨t, p, s⟩ := h
  exact ⟨t, p, fun Fr B as σ H S M Q rs rp h => s Fr B as σ H S M Q rs rp (h.bnd.imp fun r M1 B1 as1 _ _ h1 => kN_cel h1)⟩
/-! ### views -/
def vw : D → Ev (Tg × List D)
  | .nd t l => Ev.ret (t, l)
  | .ref n => fun M => match M[n]? with
    | some c => .ok c M
    | none => .stuck
  | _ => Ev.no
theorem FC.sub {G : Gx} {B H : Hp} {p : Addr} {t : Tg} {vs : List V} (s : Same B H) (h : FC G B p t vs) : FC G H p t vs := h.mono s
theorem MC.fc {G : Gx} {H : Hp} {p : Addr} : ∀ {t : Tg} {vs : List V}, MC G H p t vs → FC G H p t vs
  | .lst, _, h => h
  | .slst, _, h => h.elim
  | .tup, _, h => h.elim
  | .dct _, _, h => h
  | .fdct _, _, h => h
  | .obj _ _, _, h => h
  | .fn _, _, h => let ⟨_, _, _, _, _, _, q, _⟩ := id h; ⟨_, q⟩
  | .iset, _, h => h
/-- a node leans on its own place alone -/
theorem FC.here {G : Gx} {H H' : Hp} {p : Addr} (e : ∀ o, H p = some o → H' p = some o) : ∀ {t : Tg} {vs : List V}, FC G H p t vs → FC G H' p t vs
  | .lst, _, h => e _ h
  | .slst, _, h => h.imp (fun q => q.imp (e _) fun ⟨o, z⟩ => ⟨o, e _ z⟩) id
  | .tup, _, h => h.imp (fun q => q.imp (e _) fun ⟨o, z⟩ => ⟨o, e _ z⟩) id
  | .dct _, _, h => ⟨e _ h.1, h.2⟩
  | .fdct _, _, h => ⟨let ⟨o, q⟩ := h.1; ⟨o, e _ q⟩, h.2⟩
  | .obj _ _, _, h => let ⟨C, dx, a, b, c⟩ := h; ⟨C, dx, a, e _ b, c⟩
  | .fn _, _, h => let ⟨o, q⟩ := h; ⟨o, e _ q⟩
  | .iset, _, h => let ⟨S, a, b⟩ := h; ⟨S, e _ a, b⟩
theorem Post.vw {α : Type} {G : Gx} {Fr B : Hp} {as : List Addr} {d : D} {f : Tg × List D → Ev α} {M : Store} {H : Hp} {v : V} {k : α → Store → Hp → List Addr → Prop} {x : Str → D → Store → Hp → List Addr → Prop} (h : Post B as (((DL.vw d).bnd f) M) k x)
    (rp : Rep G Fr B as H M) (r : R G B as v d) : ∃ t l p vs, v = .ref p ∧ FC G H p t vs ∧ Rs G B as vs l ∧ Post B as (f (t, l) M) k x ∧ (∀ n, d = .ref n → as[n]? = some p ∧ M[n]? = some (t, l) ∧ MC G H p t vs) := by
  cases r with
  | nd fc rs => exact ⟨_, _, _, _, rfl, fc.sub rp.sub, rs, h, fun n e => by cases e⟩
  | ref ha =>
    rename_i n a
    unfold Ev.bnd DL.vw at h
    cases q : M[n]? with
    | none => simp only [q] at h; exact h.elim
    | some c =>
      simp only [q] at h
      obtain ⟨vs, mc, rs⟩ := rp.cell n a c ha q
      exact ⟨c.1, c.2, a, vs, rfl, mc.fc, rs, h, fun m e => by cases e; exact ⟨ha, q, mc⟩⟩
  | _ => exact h.elim
/-- a sequence: a list or a tuple -/
def FC.isSeq : Tg → Bool
  | .lst => true
  | .slst => true
  | .tup => true
  | _ => false
def sq (d : D) : Ev (List D) := (vw d).bnd fun c => if FC.isSeq c.1 = true then Ev.ret c.2 else Ev.no
theorem Post.sq {α : Type} {G : Gx} {Fr B : Hp} {as : List Addr} {d : D} {f : List D → Ev α} {M : Store} {H : Hp} {v : V} {k : α → Store → Hp → List Addr → Prop} {x : Str → D → Store → Hp → List Addr → Prop} (h : Post B as (((DL.sq d).bnd f) M) k x)
    (rp : Rep G Fr B as H M) (r : R G B as v d) : ∃ l p vs, v = .ref p ∧ (SqL G.K H p vs ∨ SqT G.K H p vs) ∧ Rs G B as vs l ∧ Post B as (f l M) k x := by
  unfold DL.sq at h
  rw [bnd_bnd] at h
  obtain ⟨t, l, p, vs, e, fc, rs, h, _⟩ := h.vw rp r
  cases t with
  | lst => exact ⟨l, p, vs, e, .inl (SqL.of fc), rs, h⟩
  | slst => exact ⟨l, p, vs, e, .inl fc, rs, h⟩
  | tup => exact ⟨l, p, vs, e, .inr fc, rs, h⟩
  | _ => exact h.elim

/-! ### scalars -/
def toV : D → Option V
  | .non => some .non
  | .bl b => some (.bl b)
  | .int i => some (.int i)
  | .str x => some (.str x)
  | _ => none
theorem R.toV {G : Gx} {B : Hp} {as : List Addr} {v w : V} {d : D} (r : R G B as v d) (h : DL.toV d = some w) : v = w ∧ flatV w = true := by
  cases r <;> first | (cases h; exact ⟨rfl, rfl⟩) | (cases h)
def toVs : List D → Option (List V)
  | [] => some []
  | d :: l => match toV d, toVs l with
    | some v, some vs => some (v :: vs)
    | _, _ => none
theorem Rs.toVs {G : Gx} {B : Hp} {as : List Addr} : ∀ {vs ws : List V} {l : List D}, Rs G B as vs l → DL.toVs l = some ws → vs = ws ∧ ws.all flatV = true
  | _, _, _, .nil, h => by cases h; exact ⟨rfl, rfl⟩
  | _, ws, _, .cons r t, h => by
    rename_i d l
    unfold DL.toVs at h
    cases q : DL.toV d with
    | none => simp only [q] at h; cases h
    | some v =>
      cases q2 : DL.toVs l with
      | none => simp only [q, q2] at h; cases h
      | some vs =>
        simp only [q, q2] at h
        cases h
        obtain ⟨e1, f1⟩ := r.toV q
        obtain ⟨e2, f2⟩ := Rs.toVs t q2
        exact ⟨by rw [e1, e2], by simp [f1, f2]⟩
def intsOf : List D → Option (List Int)
  | [] => some []
  | .int i :: l => (intsOf l).map (i :: ·)
  | _ => none
theorem intsOf_eq : ∀ {l : List D} {ns : List Int}, intsOf l = some ns → l = ns.map D.int
  | [], _, h => by cases h; rfl
  | .int i :: l, _, h => by
    unfold intsOf at h
    cases q : intsOf l with
    | none => rw [q] at h; cases h
    | some ms => rw [q] at h; cases h; rw [intsOf_eq q]; rfl
  | .non :: _, _, h | .bl _ :: _, _, h | .str _ :: _, _, h | .ty _ :: _, _, h | .gl _ :: _, _, h | .ref _ :: _, _, h | .nd _ _ :: _, _, h => by cases h
theorem Rs.ints {G : Gx} {B : Hp} {as : List Addr} : ∀ {vs : List V} {ns : List Int}, Rs G B as vs (ns.map D.int) → vs = ns.map V.int
  | _, [], h => by cases h; rfl
  | _, n :: ns, h => by
    cases h with
    | cons r t => cases r; rw [Rs.ints t]; rfl
theorem Rs.ofInts {G : Gx} {B : Hp} {as : List Addr} : ∀ (ns : List Int), Rs G B as (ns.map V.int) (ns.map D.int)
  | [] => .nil
  | n :: ns => .cons (.int n) (Rs.ofInts ns)
def blsOf : List D → Option (List Bool)
  | [] => some []
  | .bl i :: l => (blsOf l).map (i :: ·)
  | _ => none
theorem blsOf_map (ns : List Bool) : blsOf (ns.map D.bl) = some ns := by
  induction ns with
  | nil => rfl
  | cons n l ih => simp [blsOf, ih]
theorem blsOf_eq : ∀ {l : List D} {ns : List Bool}, blsOf l = some ns → l = ns.map D.bl
  | [], _, h => by cases h; rfl
  | .bl i :: l, _, h => by
    unfold blsOf at h
    cases q : blsOf l with
    | none => rw [q] at h; cases h
    | some ms => rw [q] at h; cases h; rw [blsOf_eq q]; rfl
  | .non :: _, _, h | .int _ :: _, _, h | .str _ :: _, _, h | .ty _ :: _, _, h | .gl _ :: _, _, h | .ref _ :: _, _, h | .nd _ _ :: _, _, h => by cases h
theorem Rs.bls {G : Gx} {B : Hp} {as : List Addr} : ∀ {vs : List V} {ns : List Bool}, Rs G B as vs (ns.map D.bl) → vs = ns.map V.bl
  | _, [], h => by cases h; rfl
  | _, n :: ns, h => by
    cases h with
    | cons r t => cases r; rw [Rs.bls t]; rfl

/-! ### deep data -/
mutual
def py (M : Store) : Nat → D → Option PyData
  | 0, _ => none
  | k + 1, d => match d with
    | .non => some .none
    | .bl b => some (.bool b)
    | .int i => some (.int i)
    | .str x => if PyData.strOk x = true then some (.str x) else none
    | .nd .lst l => (pys M k l).map .list
    | .nd .slst l => (pys M k l).map .list
    | .nd .tup l => (pys M k l).map .tuple
    | .ref n => match M[n]? with
      | some (.lst, l) => (pys M k l).map .list
      | _ => none
    | _ => none
  termination_by k _ => (k, 0)
def pys (M : Store) : Nat → List D → Option (List PyData)
  | _, [] => some []
  | k, d :: l => match py M k d, pys M k l with
    | some a, some as => some (a :: as)
    | _, _ => none
  termination_by k l => (k, l.length + 1)
end
mutual
theorem py_ok {G : Gx} {Fr B H : Hp} {as : List Addr} {M : Store} (rp : Rep G Fr B as H M) : ∀ (k : Nat) (d : D) (v : V) (a : PyData), R G B as v d → py M k d = some a → Dp G.K H v a ∧ a.canLay0 = true ∧ a.depth ≤ k
  | 0, d, v, a, r, h => by unfold py at h; cases h
  | k + 1, d, v, a, r, h => by
    have one : ∀ (p : Addr) (vs : List V) (l : List D) (a : PyData), SqL G.K H p vs → Rs G B as vs l → (pys M k l).map PyData.list = some a → Dp G.K H (.ref p) a ∧ a.canLay0 = true ∧ a.depth ≤ k + 1 := fun p vs l a sl rs h => by
      cases q : pys M k l with
      | none => rw [q] at h; cases h
      | some ds =>
        rw [q] at h; cases h
        obtain ⟨h1, h2, h3⟩ := pys_ok rp k l vs ds rs q
        exact ⟨.lst sl h1, by unfold PyData.canLay0; exact h2, by unfold PyData.depth; omega⟩
    cases r with
    | non => unfold py at h; cases h; exact ⟨.non, by unfold PyData.canLay0; rfl, by unfold PyData.depth; omega⟩
    | bl b => unfold py at h; cases h; exact ⟨.bl b, by unfold PyData.canLay0; rfl, by unfold PyData.depth; omega⟩
    | int i => unfold py at h; cases h; exact ⟨.int i, by unfold PyData.canLay0; rfl, by unfold PyData.depth; omega⟩
    | str x =>
      unfold py at h; dsimp only at h
      by_cases c : PyData.strOk x = true
      · rw [if_pos c] at h; cases h; exact ⟨.str x, by unfold PyData.canLay0; exact c, by unfold PyData.depth; omega⟩
      · rw [if_neg c] at h; cases h
    | ty n => unfold py at h; cases h
    | gl x => unfold py at h; cases h
    | ref ha =>
      rename_i n p
      unfold py at h; dsimp only at h
      cases q : M[n]? with
      | none => rw [q] at h; cases h
      | some c =>
        obtain ⟨t, l⟩ := c
        rw [q] at h
        obtain ⟨vs, mc, rs⟩ := rp.cell n p (t, l) ha q
        cases t <;> first | (cases h; done) | skip
        exact one p vs l a (SqL.of mc) rs h
    | nd fc rs =>
      rename_i t p vs l
      unfold py at h
      cases t with
      | lst => exact one p vs l a (SqL.of (rp.sub _ _ fc)) rs h
      | slst => exact one p vs l a (rp.sub.seq fc) rs h
      | tup =>
        dsimp only at h
        cases q : pys M k l with
        | none => rw [q] at h; cases h
        | some ds =>
          rw [q] at h; cases h
          obtain ⟨h1, h2, h3⟩ := pys_ok rp k l vs ds rs q
          exact ⟨.tup (sqT_mono rp.sub fc) h1, by unfold PyData.canLay0; exact h2, by unfold PyData.depth; omega⟩
      | dct ks => cases h
      | fdct ks => cases h
      | obj c ns => cases h
      | fn k => cases h
      | iset => cases h
  termination_by k _ => (k, 0)
theorem pys_ok {G : Gx} {Fr B H : Hp} {as : List Addr} {M : Store} (rp : Rep G Fr B as H M) : ∀ (k : Nat) (l : List D) (vs : List V) (ds : List PyData), Rs G B as vs l → pys M k l = some ds → DpAll G.K H vs ds ∧ PyData.canLayAll0 ds = true ∧ PyData.depthAll ds ≤ k
  | k, [], vs, ds, rs, h => by
    unfold pys at h; cases h; cases rs
    exact ⟨.nil, by unfold PyData.canLayAll0; rfl, by unfold PyData.depthAll; omega⟩
  | k, d :: l, vs, ds, rs, h => by
    cases rs with
    | cons r t =>
      unfold pys at h
      cases q1 : py M k d with
      | none => simp only [q1] at h; cases h
      | some a =>
        cases q2 : pys M k l with
        | none => simp only [q1, q2] at h; cases h
        | some as' =>
          simp only [q1, q2] at h
          cases h
          obtain ⟨a1, a2, a3⟩ := py_ok rp k d _ a r q1
          obtain ⟨b1, b2, b3⟩ := pys_ok rp k l _ as' t q2
          exact ⟨.cons a1 b1, by unfold PyData.canLayAll0; rw [a2, b2]; rfl, by unfold PyData.depthAll; exact Nat.max_le.mpr ⟨a3, b3⟩⟩
  termination_by k l => (k, l.length + 1)
end
/-- == of data; not equal -/
def eqE (neg : Bool) (x y : D) : Ev D := fun M => match py M 14 x, py M 14 y with
  | some a, some b => .ok (.bl (neg ^^ PyData.eqv a b)) M
  | _, _ => .stuck
theorem o_eq {X : Cx} {W : WX} : Op2 X W (rEqD X.K) (eqE false) := by
  intro Fr B as σ H M v w x y Q rp r1 r2 h
  unfold eqE at h
  cases q1 : py M 14 x with
  | none => simp only [q1] at h; exact h.elim
  | some a =>
    cases q2 : py M 14 y with
    | none => simp only [q1, q2] at h; exact h.elim
    | some b =>
      simp only [q1, q2] at h
      obtain ⟨a1, a2, a3⟩ := py_ok rp 14 x v a r1 q1
      obtain ⟨b1, b2, b3⟩ := py_ok rp 14 y w b r2 q2
      refine ⟨a, b, a1, b1, ?_, ?_, ?_⟩
      · unfold SeqAt.shaped; rw [a2, decide_eq_true (by omega)]; rfl
      · unfold SeqAt.shaped; rw [b2, decide_eq_true (by omega)]; rfl
      · have := h.ok _ H rp (.bl _)
        simpa using this
theorem o_ne {X : Cx} {W : WX} : Op2 X W (rNeD X.K) (eqE true) := by
  intro Fr B as σ H M v w x y Q rp r1 r2 h
  unfold eqE at h
  cases q1 : py M 14 x with
  | none => simp only [q1] at h; exact h.elim
  | some a =>
    cases q2 : py M 14 y with
    | none => simp only [q1, q2] at h; exact h.elim
    | some b =>
      simp only [q1, q2] at h
      obtain ⟨a1, a2, a3⟩ := py_ok rp 14 x v a r1 q1
      obtain ⟨b1, b2, b3⟩ := py_ok rp 14 y w b r2 q2
      refine ⟨a, b, a1, b1, ?_, ?_, ?_⟩
      · unfold SeqAt.shaped; rw [a2, decide_eq_true (by omega)]; rfl
      · unfold SeqAt.shaped; rw [b2, decide_eq_true (by omega)]; rfl
      · have := h.ok _ H rp (.bl _)
        simpa using this
end
end DL

set_option Elab.async false
set_option linter.all false
set_option maxRecDepth 100000
set_option maxHeartbeats 4000000
/-! DL3: arithmetic, comparisons, displays, subscripts, slices, built-in calls. -/
namespace DL
open PySem L2
variable [Tb]
section
variable {X : Cx} {W : WX} {e a b c : Expr} {pos : Pos}
def n2 (op : D → D → Ev NR) (fa fb : Lo → Ev D) : Lo → Ev NR := fun S => (fa S).bnd fun x => (fb S).bnd fun y => op x y
def Op2N (X : Cx) (W : WX) (r : R2) (op : D → D → Ev NR) : Prop := ∀ Fr B as σ H M v w x y Q, Rep (gx X) Fr B as H M → R (gx X) B as v x → R (gx X) B as w y → Post B as (op x y M) (kN X Fr Q) (kX X Fr W σ) → r v w H Q
def OpNN (X : Cx) (W : WX) (r : List V → Hp → VK → Prop) (op : List D → Ev NR) : Prop := ∀ Fr B as σ H M vs l Q, Rep (gx X) Fr B as H M → Rs (gx X) B as vs l → Post B as (op l M) (kN X Fr Q) (kX X Fr W σ) → r vs H Q
theorem post_twoN {Fr B : Hp} {as : List Addr} {σ : St} {H : Hp} {S : Lo} {M : Store} {Q : VK} {fa fb : Lo → Ev D} {ta tb : TE} {r : R2} {op : D → D → Ev NR}
    (ha : ∀ Fr B as σ H S M Q, RS (gx X) B as σ S → Rep (gx X) Fr B as H M → Post B as (fa S M) (kD X Fr Q) (kX X Fr W σ) → ta σ H Q)
    (hb : ∀ Fr B as σ H S M Q, RS (gx X) B as σ S → Rep (gx X) Fr B as H M → Post B as (fb S M) (kD X Fr Q) (kX X Fr W σ) → tb σ H Q)
    (ho : Op2N X W r op) (rs : RS (gx X) B as σ S) (rp : Rep (gx X) Fr B as H M) (h : Post B as (n2 op fa fb S M) (kN X Fr Q) (kX X Fr W σ)) : tOp r ta tb σ H Q := by
  refine ha Fr B as σ H S M _ rs rp (h.bnd.imp fun x M1 B1 as1 s1 p1 h1 v H1 rp1 r1 => ?_)
  refine hb Fr B1 as1 σ H1 S M1 _ (rs.mono s1 p1) rp1 (h1.bnd.imp fun y M2 B2 as2 s2 p2 h2 w H2 rp2 r2 => ?_)
  exact ho Fr B2 as2 σ H2 M2 v w x y Q rp2 (r1.mono s2 p2) r2 h2
theorem dn_op {op : Operator} {r : R2} {fo : D → D → Ev NR} {fa fb : Lo → Ev D} (hr : OpR X (binaryOp op) r) (ho : Op2N X W r fo) (ha : DE X W a fa) (hb : DE X W b fb) : DN X W (.BinOp a op b pos) (n2 fo fa fb) := by
  obtain ⟨ta, pa, sa⟩ := ha
  obtain ⟨tb, pb, sb⟩ := hb
  exact ⟨_, pe_op hr pa pb, fun Fr B as σ H S M Q rs rp h => post_twoN sa sb ho rs rp h⟩
def iop (f : Int → Int → Ev D) : D → D → Ev D
  | .int i, .int j => f i j
  | _, _ => Ev.no
theorem o_int0 {g : Int → Int → V} {f : Int → Int → D} (hg : ∀ G B as i j, R G B as (g i j) (f i j)) : Op2 X W (rI0 g) (iop fun i j => Ev.ret (f i j)) := by
  intro Fr B as σ H M v w x y Q rp r1 r2 h
  cases r1 <;> first | exact h.elim | skip
  cases r2 <;> first | exact h.elim | skip
  exact ⟨_, _, rfl, rfl, h.ret _ H rp (hg _ _ _ _ _)⟩
theorem o_intC {C : Int → Int → Prop} [∀ i j, Decidable (C i j)] {g : Int → Int → V} {f : Int → Int → D} (hg : ∀ G B as i j, R G B as (g i j) (f i j)) : Op2 X W (rI C g) (iop fun i j => if C i j then Ev.ret (f i j) else Ev.no) := by
  intro Fr B as σ H M v w x y Q rp r1 r2 h
  cases r1 <;> first | exact h.elim | skip
  cases r2 <;> first | exact h.elim | skip
  rename_i i j
  have h : Post B as ((if C i j then Ev.ret (f i j) else Ev.no) M) (kD X Fr Q) (kX X Fr W σ) := h
  by_cases c : C i j
  · rw [if_pos c] at h; exact ⟨_, _, rfl, rfl, c, h.ret _ H rp (hg _ _ _ _ _)⟩
  · rw [if_neg c] at h; exact h.elim
instance : ∀ i j, Decidable (CMul i j) := fun i j => by unfold CMul; infer_instance
instance : ∀ i j, Decidable (CDivW i j) := fun i j => by unfold CDivW; infer_instance
instance : ∀ i j, Decidable (CPow i j) := fun i j => by unfold CPow; infer_instance
def subE : D → D → Ev D := iop fun i j => Ev.ret (.int (i - j))
def mulE : D → D → Ev D := iop fun i j => if CMul i j then Ev.ret (.int (i * j)) else Ev.no
def divE : D → D → Ev D := iop fun i j => if CDivW i j then Ev.ret (.int (i / j)) else Ev.no
def modE : D → D → Ev D := iop fun i j => if 0 < j then Ev.ret (.int (i % j)) else Ev.no
def powE : D → D → Ev D := iop fun i j => if CPow i j then Ev.ret (.int (i ^ j.toNat)) else Ev.no
def ltE : D → D → Ev D := iop fun i j => Ev.ret (.bl (decide (i < j)))
def leE : D → D → Ev D := iop fun i j => Ev.ret (.bl (decide (i ≤ j)))
def gtE : D → D → Ev D := iop fun i j => Ev.ret (.bl (decide (j < i)))
def geE : D → D → Ev D := iop fun i j => Ev.ret (.bl (decide (j ≤ i)))
variable {fa fb : Lo → Ev D}
theorem de_sub (ha : DE X W a fa) (hb : DE X W b fb) : DE X W (.BinOp a .Sub b pos) (e2 subE fa fb) := de_op op_sub (o_int0 fun _ _ _ _ _ => .int _) ha hb
theorem de_mul (ha : DE X W a fa) (hb : DE X W b fb) : DE X W (.BinOp a .Mult b pos) (e2 mulE fa fb) := de_op op_mul (o_intC fun _ _ _ _ _ => .int _) ha hb
theorem de_div (ha : DE X W a fa) (hb : DE X W b fb) : DE X W (.BinOp a .FloorDiv b pos) (e2 divE fa fb) := de_op op_fdivW (o_intC fun _ _ _ _ _ => .int _) ha hb
theorem de_mod (ha : DE X W a fa) (hb : DE X W b fb) : DE X W (.BinOp a .Mod b pos) (e2 modE fa fb) := de_op op_mod (o_intC (C := fun _ j => 0 < j) fun _ _ _ _ _ => .int _) ha hb
theorem de_pow (ha : DE X W a fa) (hb : DE X W b fb) : DE X W (.BinOp a .Pow b pos) (e2 powE fa fb) := de_op op_pow (o_intC fun _ _ _ _ _ => .int _) ha hb
theorem o_lt : Op2 X W (rI0 fun i j => .bl (decide (i < j))) ltE := o_int0 fun _ _ _ _ _ => .bl _
theorem o_le : Op2 X W (rI0 fun i j => .bl (decide (i ≤ j))) leE := o_int0 fun _ _ _ _ _ => .bl _
theorem o_gt : Op2 X W (rI0 fun i j => .bl (decide (j < i))) gtE := o_int0 fun _ _ _ _ _ => .bl _
theorem o_ge : Op2 X W (rI0 fun i j => .bl (decide (j ≤ i))) geE := o_int0 fun _ _ _ _ _ => .bl _
theorem de_ge (ha : DE X W a fa) (hb : DE X W b fb) : DE X W (.Compare a [.GtE] [b] pos) (e2 geE fa fb) := de_cmp op_ge o_ge ha hb (nomark _)
theorem dt_lt (ha : DE X W a fa) (hb : DE X W b fb) : DT X W (.Compare a [.Lt] [b] pos) (eB (e2 ltE fa fb)) := dt_cmp op_lt o_lt ha hb (nomark _)
theorem dt_gt (ha : DE X W a fa) (hb : DE X W b fb) : DT X W (.Compare a [.Gt] [b] pos) (eB (e2 gtE fa fb)) := dt_cmp op_gt o_gt ha hb (nomark _)
theorem de_eq (hu : X.A.units + 64 < cLine) (ha : DE X W a fa) (hb : DE X W b fb) : DE X W (.Compare a [.Eq] [b] pos) (e2 (eqE false) fa fb) := de_cmp (op_eqD hu) o_eq ha hb (nomark _)
theorem de_ne (hu : X.A.units + 64 < cLine) (ha : DE X W a fa) (hb : DE X W b fb) : DE X W (.Compare a [.NotEq] [b] pos) (e2 (eqE true) fa fb) := de_cmp (op_neD hu) o_ne ha hb (nomark _)
theorem dt_eq (hu : X.A.units + 64 < cLine) (ha : DE X W a fa) (hb : DE X W b fb) : DT X W (.Compare a [.Eq] [b] pos) (eB (e2 (eqE false) fa fb)) := dt_cmp (op_eqD hu) o_eq ha hb (nomark _)
theorem dt_ne (hu : X.A.units + 64 < cLine) (ha : DE X W a fa) (hb : DE X W b fb) : DT X W (.Compare a [.NotEq] [b] pos) (eB (e2 (eqE true) fa fb)) := dt_cmp (op_neD hu) o_ne ha hb (nomark _)
/-- a <= b <= c (bools) -/
def eChain (o o' : D → D → Ev D) (fa fb fc : Lo → Ev D) : Lo → Ev D := fun S => (fa S).bnd fun x => (fb S).bnd fun y => (o x y).bnd fun z => (asB z).bnd fun k => if k = true then (fc S).bnd fun w => o' y w else Ev.ret (.bl false)
theorem de_chain {op op' : CmpOp} {r r' : R2} {fo fo' : D → D → Ev D} {fc : Lo → Ev D} (hr : OpR X (compareOp op) r) (hr' : OpR X (compareOp op') r') (ho : Op2 X W r fo) (ho' : Op2 X W r' fo') (ha : DE X W a fa) (hb : DE X W b fb) (hc : DE X W c fc)
    (hm : lastMarks [op, op'] [b, c] = false) : DE X W (.Compare a [op, op'] [b, c] pos) (eChain fo fo' fa fb fc) := by
  obtain ⟨ta, pa, sa⟩ := ha
  obtain ⟨tb, pb, sb⟩ := hb
  obtain ⟨tc, pc, sc⟩ := hc
  refine ⟨_, pe_chain hr hr' pa pb pc hm, fun Fr B as σ H S M Q rs rp h => ?_⟩
  refine sa Fr B as σ H S M _ rs rp (h.bnd.imp fun x M1 B1 as1 s1 p1 h1 v H1 rp1 r1 => ?_)
  refine sb Fr B1 as1 σ H1 S M1 _ (rs.mono s1 p1) rp1 (h1.bnd.imp fun y M2 B2 as2 s2 p2 h2 w H2 rp2 r2 => ?_)
  refine ho Fr B2 as2 σ H2 M2 v w x y _ rp2 (r1.mono s2 p2) r2 (h2.bnd.imp fun z M3 B3 as3 s3 p3 h3 u H3 rp3 r3 => ?_)
  cases z <;> first | exact h3.elim | skip
  rename_i k
  cases r3
  refine ⟨k, rfl, ?_⟩
  cases k with
  | true =>
    have h3 : Post B3 as3 (((fc S).bnd fun w => fo' y w) M3) (kD X Fr Q) (kX X Fr W σ) := h3
    refine sc Fr B3 as3 σ H3 S M3 _ ((rs.mono s1 p1).mono s2 p2 |>.mono s3 p3) rp3 (h3.bnd.imp fun z' M4 B4 as4 s4 p4 h4 u' H4 rp4 r4 => ?_)
    exact ho' Fr B4 as4 σ H4 M4 w u' y z' Q rp4 (r2.mono s3 p3 |>.mono s4 p4) r4 h4
  | false => exact (Post.ret (a := D.bl false) h3) _ H3 rp3 (.bl false)
theorem de_lele {fc : Lo → Ev D} (ha : DE X W a fa) (hb : DE X W b fb) (hc : DE X W c fc) (hm : lastMarks [.LtE, .LtE] [b, c] = false := by rfl) : DE X W (.Compare a [.LtE, .LtE] [b, c] pos) (eChain leE leE fa fb fc) := de_chain op_le op_le o_le o_le ha hb hc hm
/-- - a -/
def negE : D → Ev D
  | .int i => Ev.ret (.int (-i))
  | _ => Ev.no
theorem de_neg (ha : DE X W a fa) : DE X W (.UnaryOp .USub a pos) (e1 negE fa) := de_un un_neg (fun Fr B as σ H M v x Q rp r h => by
  cases r <;> first | exact h.elim | skip
  exact ⟨_, rfl, h.ret _ H rp (.int _)⟩) ha
/-- + of ints, texts, lists, tuples -/
def addN : D → D → Ev NR
  | .int i, .int j => Ev.ret (.v (.int (i + j)))
  | .str i, .str j => if i.length + j.length ≤ sizeLine then Ev.ret (.v (.str (i ++ j))) else Ev.no
  | x, y => (vw x).bnd fun p => (vw y).bnd fun q => match p.1, q.1 with
    | .lst, .lst => if p.2.length + q.2.length ≤ sizeLine then Ev.ret (.n .lst (p.2 ++ q.2)) else Ev.no
    | .tup, .tup => if p.2.isEmpty = false ∧ q.2.isEmpty = false ∧ p.2.length + q.2.length ≤ sizeLine then Ev.ret (.n .tup (p.2 ++ q.2)) else Ev.no
    | _, _ => Ev.no
abbrev rAddU (K : PySem.W.Frag) : R2 := fun x y H Q => (rI0 fun i j => .int (i + j)) x y H Q ∨ (∃ i j, x = .str i ∧ y = .str j ∧ i.length + j.length ≤ sizeLine ∧ Q (.str (i ++ j)) H) ∨ rCat x y H Q ∨ rCatT K x y H Q
theorem op_addU : OpR X (binaryOp .Add) (rAddU X.K) := op_add.or (op_add_str.or (op_cat.or op_catT))
theorem o_addU : Op2N X W (rAddU X.K) addN := by
  intro Fr B as σ H M v w x y Q rp r1 r2 h
  have gen : Post B as (((vw x).bnd fun p => (vw y).bnd fun q => match p.1, q.1 with
      | .lst, .lst => if p.2.length + q.2.length ≤ sizeLine then Ev.ret (.n .lst (p.2 ++ q.2)) else Ev.no
      | .tup, .tup => if p.2.isEmpty = false ∧ q.2.isEmpty = false ∧ p.2.length + q.2.length ≤ sizeLine then Ev.ret (.n .tup (p.2 ++ q.2)) else Ev.no
      | _, _ => Ev.no) M) (kN X Fr Q) (kX X Fr W σ) → rAddU X.K v w H Q := fun h => by
    obtain ⟨t, l, p, vs, rfl, fc, rs, h, _⟩ := h.vw rp r1
    obtain ⟨u, m, q, ws, rfl, fc2, rs2, h, _⟩ := h.vw rp r2
    cases t <;> cases u <;> first | exact h.elim | skip
    · dsimp only at h
      by_cases c : l.length + m.length ≤ sizeLine
      · rw [if_pos c] at h
        exact .inr (.inr (.inl ⟨p, q, vs, ws, rfl, rfl, fc, fc2, by rw [rs.length, rs2.length]; exact c, fun z hz => h.ret _ H z rp (rs.app rs2) hz⟩))
      · rw [if_neg c] at h; exact h.elim
    · dsimp only at h
      by_cases c : l.isEmpty = false ∧ m.isEmpty = false ∧ l.length + m.length ≤ sizeLine
      · rw [if_pos c] at h
        have e1 := rs.length
        have e2 := rs2.length
        obtain ⟨c1, c2, c3⟩ := c
        refine .inr (.inr (.inr ⟨p, q, vs, ws, rfl, rfl, fc, fc2, ?_, by rw [e1, e2]; exact c3, ?_, ?_⟩))
        · intro z; subst z; cases rs; simp at c1
        · intro z; subst z; cases rs2; simp at c2
        · exact fun _ z hz => h.ret _ H z rp (rs.app rs2) hz
      · rw [if_neg c] at h; exact h.elim
  cases r1 with
  | int i =>
    cases r2 with
    | int j => exact .inl ⟨i, j, rfl, rfl, h.ret _ H rp (.int _)⟩
    | _ => exact gen h
  | str i =>
    cases r2 with
    | str j =>
      have h : Post B as ((if i.length + j.length ≤ sizeLine then Ev.ret (.v (.str (i ++ j))) else Ev.no) M) (kN X Fr Q) (kX X Fr W σ) := h
      by_cases c : i.length + j.length ≤ sizeLine
      · rw [if_pos c] at h; exact .inr (.inl ⟨i, j, rfl, rfl, c, h.ret _ H rp (.str _)⟩)
      · rw [if_neg c] at h; exact h.elim
    | _ => exact gen h
  | _ => cases r2 <;> exact gen h
theorem dn_add (ha : DE X W a fa) (hb : DE X W b fb) : DN X W (.BinOp a .Add b pos) (n2 addN fa fb) := dn_op op_addU o_addU ha hb
/-! ### displays -/
def nNew (t : Tg) (f : Lo → Ev (List D)) : Lo → Ev NR := fun S => (f S).bnd fun l => if l.length ≤ sizeLine then Ev.ret (.n t l) else Ev.no
theorem dn_lst {es : List Expr} {f : Lo → Ev (List D)} (h : DA X W es f) : DN X W (.List es pos) (nNew .lst f) := by
  obtain ⟨t, p, s⟩ := h
  refine ⟨_, pe_lst p, fun Fr B as σ H S M Q rs rp h => ?_⟩
  refine s Fr B as σ H S M _ rs rp (h.bnd.imp fun l M1 B1 as1 s1 p1 h1 vs H1 rp1 r1 => ?_)
  by_cases c : l.length ≤ sizeLine
  · rw [if_pos c] at h1; exact ⟨by rw [r1.length]; exact c, fun z hz => h1.ret _ H1 z rp1 r1 hz⟩
  · rw [if_neg c] at h1; exact h1.elim
theorem dn_tup {es : List Expr} {x1} {f : Lo → Ev (List D)} (h : DA X W es f) : DN X W (.Tuple es x1 pos) (nNew .tup f) := by
  obtain ⟨t, p, s⟩ := h
  refine ⟨_, pe_tup p, fun Fr B as σ H S M Q rs rp h => ?_⟩
  refine s Fr B as σ H S M _ rs rp (h.bnd.imp fun l M1 B1 as1 s1 p1 h1 vs H1 rp1 r1 => ?_)
  by_cases c : l.length ≤ sizeLine
  · rw [if_pos c] at h1; exact ⟨by rw [r1.length]; exact c, fun z hz => h1.ret _ H1 z rp1 r1 hz⟩
  · rw [if_neg c] at h1; exact h1.elim
/-! ### subscripts -/
def optE {α : Type} : Option α → Ev α
  | some a => Ev.ret a
  | none => Ev.no
def ixE (x y : D) : Ev D := match y with
  | .int i => match x with
    | .str z => if z.length ≤ sizeLine then (optE (atI z.cps.toList i)).bnd fun c => Ev.ret (.str ⟨#[c]⟩) else Ev.no
    | _ => (sq x).bnd fun l => optE (atI l i)
  | _ => Ev.no
theorem Rs.atI {G : Gx} {B : Hp} {as : List Addr} {vs : List V} {l : List D} {i : Int} {d : D} (r : Rs G B as vs l) (h : L2.atI l i = some d) : ∃ v, L2.atI vs i = some v ∧ R G B as v d := by
  unfold L2.atI at h ⊢
  rw [r.length]
  cases q : ixN l.length i with
  | none => rw [q] at h; cases h
  | some j =>
    rw [q] at h
    exact r.get h
theorem o_ix : Op2 X W (rIx X.K) ixE := by
  intro Fr B as σ H M v w x y Q rp r1 r2 h
  cases r2 <;> first | exact h.elim | skip
  rename_i i
  have gen : Post B as (((sq x).bnd fun l => optE (atI l i)) M) (kD X Fr Q) (kX X Fr W σ) → rIx X.K v (.int i) H Q := fun h => by
    obtain ⟨l, p, vs, rfl, hs, rs, h⟩ := h.sq rp r1
    cases q : atI l i with
    | none => rw [q] at h; exact h.elim
    | some d =>
      rw [q] at h
      obtain ⟨u, hu, ru⟩ := rs.atI q
      have fin := h.ret u H rp ru
      rcases hs with hs | hs
      · exact .inl ⟨p, vs, i, u, rfl, rfl, hs, hu, fin⟩
      · exact .inr (.inl ⟨p, vs, i, u, rfl, rfl, hs, hu, fin⟩)
  cases r1 with
  | str z =>
    have h : Post B as ((if z.length ≤ sizeLine then (optE (atI z.cps.toList i)).bnd fun c => Ev.ret (.str ⟨#[c]⟩) else Ev.no) M) (kD X Fr Q) (kX X Fr W σ) := h
    by_cases c : z.length ≤ sizeLine
    · rw [if_pos c] at h
      cases q : atI z.cps.toList i with
      | none => rw [q] at h; exact h.elim
      | some d => rw [q] at h; exact .inr (.inr ⟨z, i, d, rfl, rfl, c, q, (Post.ret (a := D.str ⟨#[d]⟩) h) _ H rp (.str _)⟩)
    · rw [if_neg c] at h; exact h.elim
  | _ => exact gen h
theorem de_ix (ha : DE X W a fa) (hb : DE X W b fb) (hs : PlainIx b) : DE X W (.Subscript a b pos) (e2 ixE fa fb) := by
  obtain ⟨ta, pa, sa⟩ := ha
  obtain ⟨tb, pb, sb⟩ := hb
  exact ⟨_, pe_ix ix_seq pa pb hs, fun Fr B as σ H S M Q rs rp h => post_two sa sb o_ix rs rp h⟩
/-! ### slices -/
def oNo : Lo → Ev (Option Int) := fun _ => Ev.ret none
def asI : D → Ev (Option Int)
  | .int i => Ev.ret (some i)
  | _ => Ev.no
def oSo (f : Lo → Ev D) : Lo → Ev (Option Int) := fun S => (f S).bnd asI
/-! ### built-in functions -/
theorem de_callB {x : Str} {id : String} {r : List V → Hp → VK → Prop} {es : List Expr} {p : Pos} {f : Lo → Ev (List D)} {op : List D → Ev D} (hc : CallR X (.builtin id) r) (ho : OpN X W r op) (hg : Gl X x) (hm : X.mg x = none) (hv : bootBuiltins x = some (.builtin id)) (ha : DA X W (e :: es) f)
    (hn : x ≠ "__name__" := by decide) (hdb : (x == ("__debug__" : Str)) = false := by decide) (he : starEach (e :: es) X.env = (false, eval e X.env) :: starEach es X.env := by rfl) (hpl : (backTo pos (starEach es X.env)).any (·.1) = false := by rfl) :
    DE X W (.Call (.Name x p) (e :: es) [] pos) (fun S => (f S).bnd op) := by
  obtain ⟨t, pa, s⟩ := ha
  refine ⟨_, pe_callB hc hg hm hv pa hn hdb he hpl, fun Fr B as σ H S M Q rs rp h => ?_⟩
  exact s Fr B as σ H S M _ rs rp (h.bnd.imp fun l M1 B1 as1 s1 p1 h1 vs H1 rp1 r1 => ho Fr B1 as1 σ H1 M1 vs l Q rp1 r1 h1)
theorem de_callTy {x : Str} {T : String} {r : List V → Hp → VK → Prop} {es : List Expr} {p : Pos} {f : Lo → Ev (List D)} {op : List D → Ev D} (hc : CallR X (.type T) r) (ho : OpN X W r op) (hg : Gl X x) (hm : X.mg x = none) (hv : bootBuiltins x = some (.type T)) (ha : DA X W (e :: es) f)
    (hn : x ≠ "__name__" := by decide) (hdb : (x == ("__debug__" : Str)) = false := by decide) (he : starEach (e :: es) X.env = (false, eval e X.env) :: starEach es X.env := by rfl) (hpl : (backTo pos (starEach es X.env)).any (·.1) = false := by rfl) :
    DE X W (.Call (.Name x p) (e :: es) [] pos) (fun S => (f S).bnd op) := by
  obtain ⟨t, pa, s⟩ := ha
  refine ⟨_, pe_callTy hc hg hm hv pa hn hdb he hpl, fun Fr B as σ H S M Q rs rp h => ?_⟩
  exact s Fr B as σ H S M _ rs rp (h.bnd.imp fun l M1 B1 as1 s1 p1 h1 vs H1 rp1 r1 => ho Fr B1 as1 σ H1 M1 vs l Q rp1 r1 h1)
theorem dn_callTy {x : Str} {T : String} {r : List V → Hp → VK → Prop} {es : List Expr} {p : Pos} {f : Lo → Ev (List D)} {op : List D → Ev NR} (hc : CallR X (.type T) r) (ho : OpNN X W r op) (hg : Gl X x) (hm : X.mg x = none) (hv : bootBuiltins x = some (.type T)) (ha : DA X W (e :: es) f)
    (hn : x ≠ "__name__" := by decide) (hdb : (x == ("__debug__" : Str)) = false := by decide) (he : starEach (e :: es) X.env = (false, eval e X.env) :: starEach es X.env := by rfl) (hpl : (backTo pos (starEach es X.env)).any (·.1) = false := by rfl) :
    DN X W (.Call (.Name x p) (e :: es) [] pos) (fun S => (f S).bnd op) := by
  obtain ⟨t, pa, s⟩ := ha
  refine ⟨_, pe_callTy hc hg hm hv pa hn hdb he hpl, fun Fr B as σ H S M Q rs rp h => ?_⟩
  exact s Fr B as σ H S M _ rs rp (h.bnd.imp fun l M1 B1 as1 s1 p1 h1 vs H1 rp1 r1 => ho Fr B1 as1 σ H1 M1 vs l Q rp1 r1 h1)
/-- one argument -/
def op1 {α : Type} (f : D → Ev α) : List D → Ev α
  | [d] => f d
  | _ => Ev.no
def op2 {α : Type} (f : D → D → Ev α) : List D → Ev α
  | [d, e] => f d e
  | _ => Ev.no
theorem oN1 {r : List V → Hp → VK → Prop} {f : D → Ev D} (h : ∀ Fr B as σ H M v d Q, Rep (gx X) Fr B as H M → R (gx X) B as v d → Post B as (f d M) (kD X Fr Q) (kX X Fr W σ) → r [v] H Q) : OpN X W r (op1 f) := by
  intro Fr B as σ H M vs l Q rp rs hp
  cases rs with
  | nil => exact hp.elim
  | cons r t =>
    cases t with
    | nil => exact h Fr B as σ H M _ _ Q rp r hp
    | cons _ _ => exact hp.elim
theorem oNN1 {r : List V → Hp → VK → Prop} {f : D → Ev NR} (h : ∀ Fr B as σ H M v d Q, Rep (gx X) Fr B as H M → R (gx X) B as v d → Post B as (f d M) (kN X Fr Q) (kX X Fr W σ) → r [v] H Q) : OpNN X W r (op1 f) := by
  intro Fr B as σ H M vs l Q rp rs hp
  cases rs with
  | nil => exact hp.elim
  | cons r t =>
    cases t with
    | nil => exact h Fr B as σ H M _ _ Q rp r hp
    | cons _ _ => exact hp.elim
theorem oN2 {r : List V → Hp → VK → Prop} {f : D → D → Ev D} (h : ∀ Fr B as σ H M v w d e Q, Rep (gx X) Fr B as H M → R (gx X) B as v d → R (gx X) B as w e → Post B as (f d e M) (kD X Fr Q) (kX X Fr W σ) → r [v, w] H Q) : OpN X W r (op2 f) := by
  intro Fr B as σ H M vs l Q rp rs hp
  cases rs with
  | nil => exact hp.elim
  | cons r t =>
    cases t with
    | nil => exact hp.elim
    | cons r' t' =>
      cases t' with
      | nil => exact h Fr B as σ H M _ _ _ _ Q rp r r' hp
      | cons _ _ => exact hp.elim
/-- len -/
def lenE (x : D) : Ev D := match x with
  | .str z => if z.length ≤ sizeLine then Ev.ret (.int z.length) else Ev.no
  | _ => (sq x).bnd fun l => Ev.ret (.int l.length)
theorem o_len : OpN X W (fun xs H Q => ∃ x n, xs = [x] ∧ LenV X.K x H n ∧ Q (.int n) H) (op1 lenE) := oN1 fun Fr B as σ H M v d Q rp r h => by
  have gen : Post B as (((sq d).bnd fun l => Ev.ret (.int l.length)) M) (kD X Fr Q) (kX X Fr W σ) → ∃ x n, [v] = [x] ∧ LenV X.K x H n ∧ Q (.int n) H := fun h => by
    obtain ⟨l, p, vs, rfl, hs, rs, h⟩ := h.sq rp r
    refine ⟨.ref p, l.length, rfl, ?_, (Post.ret (a := D.int l.length) h) _ H rp (.int _)⟩
    rcases hs with hs | hs
    · exact .inl ⟨vs, hs, rs.length.symm⟩
    · exact .inr ⟨vs, hs, rs.length.symm⟩
  cases r with
  | str z =>
    have h : Post B as ((if z.length ≤ sizeLine then Ev.ret (.int z.length) else Ev.no) M) (kD X Fr Q) (kX X Fr W σ) := h
    by_cases c : z.length ≤ sizeLine
    · rw [if_pos c] at h; exact ⟨_, _, rfl, ⟨c, rfl⟩, (Post.ret (a := D.int z.length) h) _ H rp (.int _)⟩
    · rw [if_neg c] at h; exact h.elim
  | _ => exact gen h
def eCall (op : List D → Ev D) (f : Lo → Ev (List D)) : Lo → Ev D := fun S => (f S).bnd op
def nCall (op : List D → Ev NR) (f : Lo → Ev (List D)) : Lo → Ev NR := fun S => (f S).bnd op
variable {es : List Expr} {p : Pos} {f : Lo → Ev (List D)}
theorem de_len (hg : Gl X "len") (hm : X.mg "len" = none) (ha : DA X W [e] f) (he : starEach [e] X.env = (false, eval e X.env) :: starEach [] X.env := by rfl) : DE X W (.Call (.Name "len" p) [e] [] pos) (eCall (op1 lenE) f) :=
  de_callB call_len o_len hg hm PySem.boot_len ha (by decide) (by decide) he
def minE : D → D → Ev D := iop fun i j => Ev.ret (.int (if j < i then j else i))
def maxE : D → D → Ev D := iop fun i j => Ev.ret (.int (if j > i then j else i))
theorem o_mm {g : Int → Int → Int} : OpN X W (fun xs H Q => ∃ i j, xs = [.int i, .int j] ∧ Q (.int (g i j)) H) (op2 (iop fun i j => Ev.ret (.int (g i j)))) := oN2 fun Fr B as σ H M v w d e Q rp r1 r2 h => by
  cases r1 <;> first | exact h.elim | skip
  cases r2 <;> first | exact h.elim | skip
  exact ⟨_, _, rfl, h.ret _ H rp (.int _)⟩
theorem de_min2 (hc : X.calm = true) (hg : Gl X "min") (hm : X.mg "min" = none) (ha : DA X W [a, b] f) (he : starEach [a, b] X.env = (false, eval a X.env) :: starEach [b] X.env := by rfl) (hpl : (backTo pos (starEach [b] X.env)).any (·.1) = false := by rfl) : DE X W (.Call (.Name "min" p) [a, b] [] pos) (eCall (op2 minE) f) :=
  de_callB (call_min2 hc) o_mm hg hm (by decide +kernel) ha (by decide) (by decide) he hpl
theorem de_max2 (hc : X.calm = true) (hg : Gl X "max") (hm : X.mg "max" = none) (ha : DA X W [a, b] f) (he : starEach [a, b] X.env = (false, eval a X.env) :: starEach [b] X.env := by rfl) (hpl : (backTo pos (starEach [b] X.env)).any (·.1) = false := by rfl) : DE X W (.Call (.Name "max" p) [a, b] [] pos) (eCall (op2 maxE) f) :=
  de_callB (call_max2 hc) o_mm hg hm (by decide +kernel) ha (by decide) (by decide) he hpl
def absE : D → Ev D
  | .int i => Ev.ret (.int (if i < 0 then -i else i))
  | _ => Ev.no
theorem de_abs (hg : Gl X "abs") (hm : X.mg "abs" = none) (ha : DA X W [e] f) (he : starEach [e] X.env = (false, eval e X.env) :: starEach [] X.env := by rfl) : DE X W (.Call (.Name "abs" p) [e] [] pos) (eCall (op1 absE) f) :=
  de_callB call_abs (oN1 fun Fr B as σ H M v d Q rp r h => by
    cases r <;> first | exact h.elim | skip
    exact ⟨_, rfl, h.ret _ H rp (.int _)⟩) hg hm (by decide +kernel) ha (by decide) (by decide) he
def allE (x : D) : Ev D := (vw x).bnd fun p => match p.1 with
  | .lst => match blsOf p.2 with
    | some ns => Ev.ret (.bl (ns.all id))
    | none => Ev.no
  | _ => Ev.no
theorem de_all (hc : X.calm = true) (hg : Gl X "all") (hm : X.mg "all" = none) (ha : DA X W [e] f) (he : starEach [e] X.env = (false, eval e X.env) :: starEach [] X.env := by rfl) : DE X W (.Call (.Name "all" p) [e] [] pos) (eCall (op1 allE) f) :=
  de_callB (cr_all hc) (oN1 fun Fr B as σ H M v d Q rp r h => by
    obtain ⟨t, l, p, vs, rfl, fc, rs, h, _⟩ := Post.vw (d := d) h rp r
    cases t <;> first | exact h.elim | skip
    dsimp only at h
    cases q : blsOf l with
    | none => rw [q] at h; exact h.elim
    | some ns =>
      rw [q] at h
      rw [blsOf_eq q] at rs
      have e := rs.bls
      subst e
      exact ⟨p, ns, rfl, SqL.of fc, h.ret _ H rp (.bl _)⟩) hg hm (by decide +kernel) ha (by decide) (by decide) he
/-- list(x), x a list or a tuple -/
def listN (x : D) : Ev NR := (sq x).bnd fun l => Ev.ret (.n .lst l)
theorem dn_list (hg : Gl X "list") (hm : X.mg "list" = none) (ha : DA X W [e] f) (he : starEach [e] X.env = (false, eval e X.env) :: starEach [] X.env := by rfl) : DN X W (.Call (.Name "list" p) [e] [] pos) (nCall (op1 listN) f) :=
  dn_callTy call_list_of (oNN1 fun Fr B as σ H M v d Q rp r h => by
    obtain ⟨l, p, vs, rfl, hs, rs, h⟩ := Post.sq (d := d) h rp r
    exact ⟨p, vs, rfl, hs, fun z hz => h.ret _ H z rp rs hz⟩) hg hm (by decide +kernel) ha (by decide) (by decide) he
/-- list(range(n)), list(range(a, b)) -/
def DR (X : Cx) (W : WX) (e : Expr) (f : Lo → Ev (Int × Int)) : Prop := ∃ t, PRg X e t ∧ ∀ Fr B as σ H S M (Q : Int → Int → Hp → Prop), RS (gx X) B as σ S → Rep (gx X) Fr B as H M →
  Post B as (f S M) (fun o M B as => ∀ H, Rep (gx X) Fr B as H M → Q o.1 o.2 H) (kX X Fr W σ) → t σ H Q
def r1E (f : Lo → Ev D) : Lo → Ev (Int × Int) := fun S => (f S).bnd fun x => match x with
  | .int n => Ev.ret (0, n)
  | _ => Ev.no
theorem dr_1 {g : Lo → Ev D} (hg : Gl X "range") (hm : X.mg "range" = none) (ha : DE X W a g) (na : starEach [a] X.env = (false, eval a X.env) :: starEach [] X.env := by rfl) : DR X W (.Call (.Name "range" p) [a] [] pos) (r1E g) := by
  obtain ⟨t, pa, s⟩ := ha
  refine ⟨_, prg_1 hg hm pa na, fun Fr B as σ H S M Q rs rp h => ?_⟩
  refine s Fr B as σ H S M _ rs rp (h.bnd.imp fun x M1 B1 as1 s1 p1 h1 v H1 rp1 r1 => ?_)
  cases r1 <;> first | exact h1.elim | skip
  exact ⟨_, rfl, h1.ret H1 rp1⟩
def rgD (a b : Int) : List D := (List.range (b - a).toNat).map fun i => D.int (a + (i : Nat))
theorem Rs.rg {G : Gx} {B : Hp} {as : List Addr} (a b : Int) : Rs G B as (rgV a b) (rgD a b) := by
  have : ∀ l : List Nat, Rs G B as (l.map fun i => V.int (a + (i : Nat))) (l.map fun i => D.int (a + (i : Nat))) := fun l => by
    induction l with
    | nil => exact .nil
    | cons n l ih => exact .cons (.int _) ih
  exact this _
open Classical in
noncomputable def rgN (r : Int × Int) : Ev NR := if RgOk r.1 r.2 then Ev.ret (.n .lst (rgD r.1 r.2)) else Ev.no
theorem rgN_ok {r : Int × Int} (h : RgOk r.1 r.2) : rgN r = Ev.ret (.n .lst (rgD r.1 r.2)) := if_pos h
theorem rgN_no {r : Int × Int} (h : ¬ RgOk r.1 r.2) : rgN r = Ev.no := if_neg h
noncomputable def lrN (f : Lo → Ev (Int × Int)) : Lo → Ev NR := fun S => (f S).bnd rgN
theorem dn_listRg {g : Lo → Ev (Int × Int)} (hc : X.calm = true) (hg : Gl X "list") (hm : X.mg "list" = none) (he : DR X W e g) (na : starEach [e] X.env = (false, eval e X.env) :: starEach [] X.env := by rfl) : DN X W (.Call (.Name "list" p) [e] [] pos) (lrN g) := by
  obtain ⟨t, pa, s⟩ := he
  refine ⟨_, pe_listRg hc hg hm pa na, fun Fr B as σ H S M Q rs rp h => ?_⟩
  refine s Fr B as σ H S M _ rs rp (h.bnd.imp fun r M1 B1 as1 s1 p1 h1 H1 rp1 => ?_)
  by_cases c : RgOk r.1 r.2
  · rw [rgN_ok c] at h1; exact ⟨c, fun z hz => h1.ret _ H1 z rp1 (Rs.rg _ _) hz⟩
  · rw [rgN_no c] at h1; exact h1.elim
/-- in, not in a sequence of flat things -/
def inE (neg : Bool) (x y : D) : Ev D := (sq y).bnd fun l => match toV x, toVs l with
  | some v, some vs => Ev.ret (.bl (if neg then !inV v vs else inV v vs))
  | _, _ => Ev.no
theorem o_in {neg : Bool} : Op2 X W (rIn X.K neg) (inE neg) := by
  intro Fr B as σ H M v w x y Q rp r1 r2 h
  obtain ⟨l, p, vs, rfl, hs, rs, h⟩ := Post.sq (d := y) h rp r2
  cases q1 : toV x with
  | none => rw [q1] at h; exact h.elim
  | some u =>
    cases q2 : toVs l with
    | none => rw [q1, q2] at h; exact h.elim
    | some us =>
      rw [q1, q2] at h
      obtain ⟨e1, f1⟩ := r1.toV q1
      obtain ⟨e2, f2⟩ := rs.toVs q2
      subst e1; subst e2
      exact ⟨p, vs, rfl, hs, f1, f2, (Post.ret (a := D.bl (if neg then !inV v vs else inV v vs)) h) _ H rp (.bl _)⟩
theorem dt_notIn (ha : DE X W a fa) (hb : DE X W b fb) (hm : behindInMarks .NotIn b = false := by rfl) : DT X W (.Compare a [.NotIn] [b] pos) (eB (e2 (inE true) fa fb)) := dt_cmp op_notIn_seq o_in ha hb hm
end
end DL

set_option Elab.async false
set_option linter.all false
set_option maxRecDepth 100000
set_option maxHeartbeats 4000000
/-! DL4: targets, statements, loops, comprehensions, freezing. -/
namespace DL
open PySem L2
variable [Tb]
section
variable {X : Cx} {W : WX} {e a b c : Expr} {pos : Pos}
/-! ### targets -/
def kG (X : Cx) (Fr : Hp) (σ : St) (ps : List Nat) (Q : St → Hp → Prop) : Lo → Store → Hp → List Addr → Prop := fun S M B as => ∀ σ' H, Rep (gx X) Fr B as H M → RS (gx X) B as σ' S → (∀ j, j ∉ ps → σ'[j]? = σ[j]?) → σ'.length = σ.length → Q σ' H
def DG (X : Cx) (W : WX) (tg : Expr) (ps : List Nat) (g : D → Lo → Ev Lo) : Prop := ∃ t, PG X tg t ∧ ∀ Fr B as σ H S M v d Q, RS (gx X) B as σ S → Rep (gx X) Fr B as H M → R (gx X) B as v d →
  Post B as (g d S M) (kG X Fr σ ps Q) (fun _ _ _ _ _ => False) → t v σ H Q
def DGs (X : Cx) (W : WX) (tgs : List Expr) (ps : List Nat) (g : List D → Lo → Ev Lo) : Prop := ∃ t, PGs X tgs t ∧ ∀ Fr B as σ H S M vs l Q, RS (gx X) B as σ S → Rep (gx X) Fr B as H M → Rs (gx X) B as vs l →
  Post B as (g l S M) (kG X Fr σ ps Q) (fun _ _ _ _ _ => False) → t vs σ H Q
def gNm (i : Nat) : D → Lo → Ev Lo := fun d S => Ev.ret (S.set i (some d))
def gNl : List D → Lo → Ev Lo := fun l S => match l with
  | [] => Ev.ret S
  | _ => Ev.no
def gCn (g : D → Lo → Ev Lo) (gs : List D → Lo → Ev Lo) : List D → Lo → Ev Lo := fun l S => match l with
  | d :: r => (g d S).bnd fun S' => gs r S'
  | [] => Ev.no
def gTp (n : Nat) (gs : List D → Lo → Ev Lo) : D → Lo → Ev Lo := fun d S => (vw d).bnd fun p => match p.1 with
  | .tup => if p.2.length = n then gs p.2 S else Ev.no
  | _ => Ev.no
theorem dg_name {i : Nat} {x : Str} (hN : X.N.Nodup) (hi : X.N[i]? = some x) (hx : Loc X.env.scope x) (hf : X.fn x = true ∨ X.env.scope.names.lookup x = some .local := by first | exact .inl rfl | exact .inr rfl | assumption) : DG X W (.Name x pos) [i] (gNm i) := by
  refine ⟨_, pg_name hN hi hx hf, fun Fr B as σ H S M v d Q rs rp r h => ?_⟩
  exact h.ret _ H rp (rs.set r i) (fun j hj => by
    simp at hj
    rw [List.getElem?_set_ne (Ne.symm hj)]) (by simp)
theorem dgs_nil : DGs X W [] [] gNl := ⟨_, pgs_nil, fun Fr B as σ H S M vs l Q rs rp r h => by
  cases r with
  | nil => exact ⟨rfl, h.ret _ H rp rs (fun _ _ => rfl) rfl⟩
  | cons _ _ => exact h.elim⟩
theorem dgs_cons {es : List Expr} {ps qs : List Nat} {g : D → Lo → Ev Lo} {gs : List D → Lo → Ev Lo} (h1 : DG X W e ps g) (h2 : DGs X W es qs gs) (hs : (assignEach (e :: es) X.env).map (·.2) = assign e X.env :: (assignEach es X.env).map (·.2) := by rfl) : DGs X W (e :: es) (ps ++ qs) (gCn g gs) := by
  obtain ⟨t, p, s⟩ := h1
  obtain ⟨t', p', s'⟩ := h2
  refine ⟨_, pgs_cons p p' hs, fun Fr B as σ H S M vs l Q rs rp r h => ?_⟩
  cases r with
  | nil => exact h.elim
  | cons r rr =>
    refine ⟨_, _, rfl, s Fr B as σ H S M _ _ _ rs rp r ((Post.bnd h).imp fun S1 M1 B1 as1 s1 p1 h1 σ1 H1 rp1 rs1 k1 l1 => ?_)⟩
    refine s' Fr B1 as1 σ1 H1 S1 M1 _ _ Q rs1 rp1 (rr.mono s1 p1) (h1.imp fun S2 M2 B2 as2 s2 p2 h2 σ2 H2 rp2 rs2 k2 l2 => ?_)
    refine h2 σ2 H2 rp2 rs2 (fun j hj => ?_) (l2.trans l1)
    simp at hj
    rw [k2 j hj.2, k1 j hj.1]
theorem dg_tup {es : List Expr} {k : Nat} {ps : List Nat} {gs : List D → Lo → Ev Lo} {n : Nat} (hc : X.calm = true) (h : DGs X W es ps gs) (hn : (assignEach es X.env).length = n := by rfl) (hst : (assignEach es X.env).findIdx? (·.1) = none := by rfl) : DG X W (.Tuple es k pos) ps (gTp n gs) := by
  obtain ⟨t, p, s⟩ := h
  refine ⟨_, pg_tup hc p hn hst, fun Fr B as σ H S M v d Q rs rp r h => ?_⟩
  obtain ⟨t, l, q, vs, rfl, fc, rs2, h, _⟩ := Post.vw (d := d) h rp r
  cases t <;> first | exact h.elim | skip
  dsimp only at h
  by_cases c : l.length = n
  · rw [if_pos c] at h
    exact ⟨q, vs, rfl, fc, rs2.length.trans c, s Fr B as σ H S M vs l Q rs rp rs2 h⟩
  · rw [if_neg c] at h; exact h.elim
/-! ### statements -/
/-- an expression's exceptions become flow -/
def Ev.fl (m : Ev D) (S : Lo) (k : D → Ev Fl) : Ev Fl := fun M => match m M with
  | .ok d M' => k d M'
  | .exc c d M' => .ok (.xc c d S) M'
  | .stuck => .stuck
def Ev.flB (m : Ev Bool) (S : Lo) (k : Bool → Ev Fl) : Ev Fl := fun M => match m M with
  | .ok d M' => k d M'
  | .exc c d M' => .ok (.xc c d S) M'
  | .stuck => .stuck
theorem Post.fl {Fr B : Hp} {as : List Addr} {σ : St} {m : Ev D} {S : Lo} {k : D → Ev Fl} {M : Store} {Dn : Ends} (rs : RS (gx X) B as σ S) (h : Post B as ((m.fl S k) M) (kF X Fr W Dn) (fun _ _ _ _ _ => False)) :
    Post B as (m M) (fun d M' B' as' => Post B' as' (k d M') (kF X Fr W Dn) (fun _ _ _ _ _ => False)) (kX X Fr W σ) := by
  unfold Ev.fl at h
  cases e : m M with
  | ok a M' => rw [e] at h; exact fun B2 as2 e2 p2 => Post.mono (o := k a M') h e2 p2
  | exc c d M' => rw [e] at h; exact fun B2 as2 e2 p2 cls dx H rp xr => h B2 as2 e2 p2 σ cls dx H rp (rs.mono e2 p2) xr
  | stuck => rw [e] at h; exact h
theorem Post.flB {Fr B : Hp} {as : List Addr} {σ : St} {m : Ev Bool} {S : Lo} {k : Bool → Ev Fl} {M : Store} {Dn : Ends} (rs : RS (gx X) B as σ S) (h : Post B as ((Ev.flB m S k) M) (kF X Fr W Dn) (fun _ _ _ _ _ => False)) :
    Post B as (m M) (fun d M' B' as' => Post B' as' (k d M') (kF X Fr W Dn) (fun _ _ _ _ _ => False)) (kX X Fr W σ) := by
  unfold Ev.flB at h
  cases e : m M with
  | ok a M' => rw [e] at h; exact fun B2 as2 e2 p2 => Post.mono (o := k a M') h e2 p2
  | exc c d M' => rw [e] at h; exact fun B2 as2 e2 p2 cls dx H rp xr => h B2 as2 e2 p2 σ cls dx H rp (rs.mono e2 p2) xr
  | stuck => rw [e] at h; exact h
def sNo : Lo → Ev Fl := fun _ => Ev.no
def sNext : Lo → Ev Fl := fun S => Ev.ret (.nx S)
def sSeq (f g : Lo → Ev Fl) : Lo → Ev Fl := fun S => (f S).bnd fun fl => match fl with
  | .nx S' => g S'
  | o => Ev.ret o
def sAsg (f : Lo → Ev D) (g : D → Lo → Ev Lo) : Lo → Ev Fl := fun S => (f S).fl S fun d => (g d S).bnd fun S' => Ev.ret (.nx S')
def sExp (f : Lo → Ev D) : Lo → Ev Fl := fun S => (f S).fl S fun _ => Ev.ret (.nx S)
def sRet (f : Lo → Ev D) : Lo → Ev Fl := fun S => (f S).fl S fun d => Ev.ret (.rt d)
def sRetN : Lo → Ev Fl := fun _ => Ev.ret (.rt .non)
def sIf (c : Lo → Ev Bool) (f g : Lo → Ev Fl) : Lo → Ev Fl := fun S => Ev.flB (c S) S fun b => if b = true then f S else g S
variable {st : Stmt} {rest : List Stmt}
theorem ds_never : DS X W st sNo := ⟨_, ps_never, fun _ _ _ _ _ _ _ _ _ _ h => h⟩
theorem dss_nil : DSs X W [] sNext := ⟨_, pss_nil, fun _ _ _ _ H S M D rs rp h => h.ret _ H rp rs⟩
theorem dss_cons {f g : Lo → Ev Fl} (h1 : DS X W st f) (h2 : DSs X W rest g) : DSs X W (st :: rest) (sSeq f g) := by
  obtain ⟨t, p, s⟩ := h1
  obtain ⟨t', p', s'⟩ := h2
  refine ⟨_, pss_cons p p', fun Fr B as σ H S M D rs rp h => ?_⟩
  refine s Fr B as σ H S M _ rs rp (h.bnd.imp fun fl M1 B1 as1 s1 p1 h1 => ?_)
  cases fl with
  | nx S' => exact fun σ' H' rp' rs' => s' Fr B1 as1 σ' H' S' M1 D rs' rp' h1
  | rt d => exact Post.ret (a := Fl.rt d) (k := kF X Fr W D) (x := fun _ _ _ _ _ => False) h1
  | bk S' => exact Post.ret (a := Fl.bk S') (k := kF X Fr W D) (x := fun _ _ _ _ _ => False) h1
  | ct S' => exact Post.ret (a := Fl.ct S') (k := kF X Fr W D) (x := fun _ _ _ _ _ => False) h1
  | xc c d S' => exact Post.ret (a := Fl.xc c d S') (k := kF X Fr W D) (x := fun _ _ _ _ _ => False) h1
theorem dss_one {f : Lo → Ev Fl} (h1 : DS X W st f) : DSs X W [st] f := by
  obtain ⟨t, p, s⟩ := h1
  exact ⟨_, pss_one p, s⟩
theorem ds_asg {tg : Expr} {ps : List Nat} {f : Lo → Ev D} {g : D → Lo → Ev Lo} (he : DE X W e f) (hg : DG X W tg ps g) (hs : swapsWithSole [tg] e pos.line X.env = pure false := by rfl) (hw : swappedStores [tg] e X.env = pure none := by rfl)
    (h1 : (assignEach [tg] X.env).map (·.2) = [assign tg X.env] := by rfl) : DS X W (.Assign [tg] e pos) (sAsg f g) := by
  obtain ⟨t, p, s⟩ := he
  obtain ⟨t', p', s'⟩ := hg
  refine ⟨_, ps_asg p p' hs hw h1, fun Fr B as σ H S M D rs rp h => ?_⟩
  refine s Fr B as σ H S M _ rs rp ((Post.fl rs h).imp fun d M1 B1 as1 s1 p1 h1 v H1 rp1 r1 => ?_)
  exact s' Fr B1 as1 σ H1 S M1 v d _ (rs.mono s1 p1) rp1 r1 (h1.bnd.imp fun S' M2 B2 as2 s2 p2 h2 σ' H' rp' rs' _ _ => h2.ret σ' H' rp' rs')
theorem ds_set {i : Nat} {x : Str} {f : Lo → Ev D} {pos' : Pos} (hN : X.N.Nodup) (hi : X.N[i]? = some x) (hx : Loc X.env.scope x) (he : DE X W e f) (hs : swapsWith e (some (.Name x pos')) pos.line X.env = pure false := by rfl) (hf : X.fn x = true ∨ X.env.scope.names.lookup x = some .local := by first | exact .inl rfl | exact .inr rfl | assumption) :
    DS X W (.Assign [.Name x pos'] e pos) (sAsg f (gNm i)) := by
  obtain ⟨t, p, s⟩ := he
  refine ⟨_, ps_set hN hi hx p hs hf, fun Fr B as σ H S M D rs rp h => ?_⟩
  refine s Fr B as σ H S M _ rs rp ((Post.fl rs h).imp fun d M1 B1 as1 s1 p1 h1 v H1 rp1 r1 => ?_)
  exact (Post.ret (a := Fl.nx (S.set i (some d))) h1) _ H1 rp1 ((rs.mono s1 p1).set r1 i)
theorem ds_expr {f : Lo → Ev D} (he : DE X W e f) (hs : swapsWith e none pos.line X.env = pure false := by rfl) : DS X W (.Expr e pos) (sExp f) := by
  obtain ⟨t, p, s⟩ := he
  refine ⟨_, ps_expr p hs, fun Fr B as σ H S M D rs rp h => ?_⟩
  exact s Fr B as σ H S M _ rs rp ((Post.fl rs h).imp fun d M1 B1 as1 s1 p1 h1 v H1 rp1 r1 => h1.ret σ H1 rp1 (rs.mono s1 p1))
theorem ds_ret {f : Lo → Ev D} (he : DE X W e f) : DS X W (.Return (some e) pos) (sRet f) := by
  obtain ⟨t, p, s⟩ := he
  refine ⟨_, ps_ret p, fun Fr B as σ H S M D rs rp h => ?_⟩
  exact s Fr B as σ H S M _ rs rp ((Post.fl rs h).imp fun d M1 B1 as1 s1 p1 h1 v H1 rp1 r1 => h1.ret v H1 rp1 r1)
theorem ds_if {a b : List Stmt} {f : Lo → Ev Bool} {g h : Lo → Ev Fl} (hc : DT X W c f) (ha : DSs X W a g) (hb : DSs X W b h) : DS X W (.If c a b pos) (sIf f g h) := by
  obtain ⟨t, p, s⟩ := hc
  obtain ⟨t', p', s'⟩ := ha
  obtain ⟨t'', p'', s''⟩ := hb
  refine ⟨_, ps_if p p' p'', fun Fr B as σ H S M D rs rp h => ?_⟩
  refine s Fr B as σ H S M _ rs rp ((Post.flB rs h).imp fun x M1 B1 as1 s1 p1 h1 H1 rp1 => ?_)
  cases x with
  | true => rw [if_pos rfl] at h1 ⊢; exact s' Fr B1 as1 σ H1 S M1 _ (rs.mono s1 p1) rp1 h1
  | false => rw [if_neg Bool.false_ne_true] at h1 ⊢; exact s'' Fr B1 as1 σ H1 S M1 _ (rs.mono s1 p1) rp1 h1
/-! ### while -/
/-! ### iteration -/
abbrev Gd := Option (Nat × (Tg × List D))
def grd (g : Gd) (M : Store) : Prop := match g with
  | none => True
  | some (n, c) => M[n]? = some c
open Classical in
noncomputable def chk {α : Type} (g : Gd) (k : Ev α) : Ev α := fun M => if grd g M then k M else .stuck
theorem chk_ok {α : Type} {g : Gd} {M : Store} (h : grd g M) (k : Ev α) : chk g k M = k M := by unfold chk; rw [if_pos h]
theorem Post.chk {α : Type} {B : Hp} {as : List Addr} {g : Gd} {m : Ev α} {M : Store} {k : α → Store → Hp → List Addr → Prop} {x : Str → D → Store → Hp → List Addr → Prop} (h : Post B as (DL.chk g m M) k x) : grd g M ∧ Post B as (m M) k x := by
  unfold DL.chk at h
  by_cases c : grd g M
  · rw [if_pos c] at h; exact ⟨c, h⟩
  · rw [if_neg c] at h; exact h.elim
structure IterOk (X : Cx) (B : Hp) (as : List Addr) (J : It) (items : List D) (g : Gd) : Prop where
  stop : ∀ Fr B' as' H' M', Same B B' → as <+: as' → Rep (gx X) Fr B' as' H' M' → grd g M' → J.stop items.length H'
  go : ∀ i d, items[i]? = some d → ∀ Fr B' as' H' M', Same B B' → as <+: as' → Rep (gx X) Fr B' as' H' M' → grd g M' →
    J.go i H' ∧ ∀ x H'', J.yld i H' x H'' → ∃ B'', Same B' B'' ∧ Rep (gx X) Fr B'' as' H'' M' ∧ R (gx X) B'' as' x d
theorem IterOk.mono {B B' : Hp} {as as' : List Addr} {J : It} {items : List D} {g : Gd} (h : IterOk X B as J items g) (e : Same B B') (p : as <+: as') : IterOk X B' as' J items g :=
  ⟨fun Fr B2 as2 H2 M2 e2 p2 => h.stop Fr B2 as2 H2 M2 (e.trans e2) (p.trans p2), fun i d q Fr B2 as2 H2 M2 e2 p2 => h.go i d q Fr B2 as2 H2 M2 (e.trans e2) (p.trans p2)⟩
def DI (X : Cx) (W : WX) (tg iter : Expr) (f : Lo → Ev (List D × Gd)) : Prop := ∃ wi, PI X tg iter wi ∧ ∀ Fr B as σ H S M (R' : It → Hp → Prop), RS (gx X) B as σ S → Rep (gx X) Fr B as H M →
  Post B as (f S M) (fun r M' B' as' => ∀ J H', Rep (gx X) Fr B' as' H' M' → IterOk X B' as' J r.1 r.2 → R' J H') (kX X Fr W σ) → wi σ H R'
noncomputable def forL (tg : D → Lo → Ev Lo) (body : Lo → Ev Fl) (g : Gd) : List D → Lo → Ev Fl
  | [], S => chk g (Ev.ret (.nx S))
  | d :: ds, S => chk g ((tg d S).bnd fun S1 => (body S1).bnd fun fl => match fl with
      | .nx S' => forL tg body g ds S'
      | .ct S' => forL tg body g ds S'
      | .bk S' => Ev.ret (.nx S')
      | o => Ev.ret o)
def Ev.flG {α : Type} (m : Ev α) (S : Lo) (k : α → Ev Fl) : Ev Fl := fun M => match m M with
  | .ok d M' => k d M'
  | .exc c d M' => .ok (.xc c d S) M'
  | .stuck => .stuck
theorem Post.flG {α : Type} {Fr B : Hp} {as : List Addr} {σ : St} {m : Ev α} {S : Lo} {k : α → Ev Fl} {M : Store} {Dn : Ends} (rs : RS (gx X) B as σ S) (h : Post B as ((Ev.flG m S k) M) (kF X Fr W Dn) (fun _ _ _ _ _ => False)) :
    Post B as (m M) (fun d M' B' as' => Post B' as' (k d M') (kF X Fr W Dn) (fun _ _ _ _ _ => False)) (kX X Fr W σ) := by
  unfold Ev.flG at h
  cases e : m M with
  | ok a M' => rw [e] at h; exact fun B2 as2 e2 p2 => Post.mono (o := k a M') h e2 p2
  | exc c d M' => rw [e] at h; exact fun B2 as2 e2 p2 cls dx H rp xr => h B2 as2 e2 p2 σ cls dx H rp (rs.mono e2 p2) xr
  | stuck => rw [e] at h; exact h
noncomputable def sFor (fi : Lo → Ev (List D × Gd)) (tg : D → Lo → Ev Lo) (body : Lo → Ev Fl) : Lo → Ev Fl := fun S => Ev.flG (fi S) S fun r => forL tg body r.2 r.1 S
theorem ds_for {tg iter : Expr} {body : List Stmt} {ps : List Nat} {fi : Lo → Ev (List D × Gd)} {ft : D → Lo → Ev Lo} {fb : Lo → Ev Fl} (hp : PassesOwn (model X.prog X.w) X.A X.env X.xe) (hc : X.calm = true) (hi : DI X W tg iter fi) (hg : DG X W tg ps ft) (hb : DSs X W body fb)
    (hs : ∀ x, foldedSetIterable iter X.env x = pure x := by intro _; rfl) : DS X W (.For tg iter body [] pos) (sFor fi ft fb) := by
  obtain ⟨wi, pi, si⟩ := hi
  obtain ⟨tt, pt, st⟩ := hg
  obtain ⟨tb, pb, sb⟩ := hb
  refine ⟨_, ps_for hp hc pi pt pb hs, fun Fr B as σ H S M D rs rp h => ?_⟩
  refine si Fr B as σ H S M _ rs rp ((Post.flG rs h).imp fun r M1 B1 as1 s1 p1 h1 J H1 rp1 io => ?_)
  obtain ⟨items, g⟩ := r
  refine ⟨fun i m σ H => m = items.length - i ∧ i ≤ items.length ∧ ∃ B' as' S' M', Same B1 B' ∧ as1 <+: as' ∧ Rep (gx X) Fr B' as' H M' ∧ RS (gx X) B' as' σ S' ∧ Post B' as' (forL ft fb g (items.drop i) S' M') (kF X Fr W D) (fun _ _ _ _ _ => False),
    ⟨items.length, by simp, Nat.zero_le _, B1, as1, S, M1, Same.refl _, List.prefix_refl _, rp1, rs.mono s1 p1, h1⟩, ?_⟩
  rintro i m σ H ⟨rfl, hi, B2, as2, S2, M2, s2, p2, rp2, rs2, h2⟩
  by_cases hlt : i < items.length
  · have hd : items.drop i = items[i] :: items.drop (i + 1) := (List.drop_eq_getElem_cons hlt)
    rw [hd] at h2
    unfold forL at h2
    obtain ⟨hg, h2⟩ := h2.chk
    obtain ⟨hgo, hy⟩ := io.go i items[i] (List.getElem?_eq_getElem hlt) Fr B2 as2 H M2 s2 p2 rp2 hg
    refine .inr ⟨hgo, fun σ' H' => ∃ B' as' S' M', Same B1 B' ∧ as1 <+: as' ∧ Rep (gx X) Fr B' as' H' M' ∧ RS (gx X) B' as' σ' S' ∧ Post B' as' (forL ft fb g (items.drop (i + 1)) S' M') (kF X Fr W D) (fun _ _ _ _ _ => False),
      fun σ' H' q => ⟨items.length - (i + 1), by omega, rfl, hlt, q⟩, fun x H' y => ?_⟩
    obtain ⟨B3, s3, rp3, r3⟩ := hy x H' y
    have h3 := h2.mono s3 (List.prefix_refl _)
    refine st Fr B3 as2 σ H' S2 M2 x _ _ (rs2.mono s3 (List.prefix_refl _)) rp3 r3 (h3.bnd.imp fun S4 M4 B4 as4 s4 p4 h4 σ4 H4 rp4 rs4 _ _ => ?_)
    refine sb Fr B4 as4 σ4 H4 S4 M4 _ rs4 rp4 (h4.bnd.imp fun fl M5 B5 as5 s5 p5 h5 => ?_)
    cases fl with
    | nx S' => exact fun σ' H' rp' rs' => ⟨B5, as5, S', M5, s2.trans (s3.trans (s4.trans s5)), p2.trans (p4.trans p5), rp', rs', h5⟩
    | ct S' => exact fun σ' H' rp' rs' => ⟨B5, as5, S', M5, s2.trans (s3.trans (s4.trans s5)), p2.trans (p4.trans p5), rp', rs', h5⟩
    | bk S' => exact fun σ' H' rp' rs' => h5.ret σ' H' rp' rs'
    | rt d => exact Post.ret (a := Fl.rt d) (k := kF X Fr W D) (x := fun _ _ _ _ _ => False) h5
    | xc c d S' => exact Post.ret (a := Fl.xc c d S') (k := kF X Fr W D) (x := fun _ _ _ _ _ => False) h5
  · have e : i = items.length := by omega
    subst e
    rw [List.drop_length] at h2
    unfold forL at h2
    obtain ⟨hg, h2⟩ := h2.chk
    exact .inl ⟨io.stop Fr B2 as2 H M2 s2 p2 rp2 hg, h2.ret σ H rp2 rs2⟩
/-- what is walked: a list or a tuple -/
def iSq (K : PySem.W.Frag) (tl : TE) : TI := fun σ H R => tl σ H fun x H1 => (∃ a, x = .ref a ∧ (∃ xs, SqL K H1 a xs) ∧ R (Itl K a) H1) ∨ (∃ a, x = .ref a ∧ (∃ xs, SqT K H1 a xs) ∧ R (Itt K a) H1)
theorem pi_sq {tg l : Expr} {tl : TE} (hl : PE X l tl) : PI X tg l (iSq X.K tl) := by
  refine ⟨fun pins s σ H R I h => ?_⟩
  refine thn (hl.run pins s σ H _ I h) fun v s1 ⟨x, H1, I1, r1, q1⟩ => ?_
  rcases q1 with ⟨a, e, ⟨xs, hq⟩, q⟩ | ⟨a, e, ⟨xs, hq⟩, q⟩
  · subst e
    cases r1
    obtain ⟨its, rv, p, hz⟩ := I1.list hq
    refine wpAny_pyIter_list p.isList ?_
    refine ⟨s1.heap.objs.size, [s1.heap.objs.size], _, _, H1, rfl, I1.kept (t' := s1.toks) fun b o e => Heap.get?_push_of_some _ e, turn_list a _, ⟨_, Heap.get?_push_size _ rfl, rfl, rfl⟩, fun b hb => ?_, q⟩
    have e : b = s1.heap.objs.size := by simpa using hb
    subst e
    exact I1.fpOk (Nat.le_refl _) (I1.hok.fresh (Nat.le_refl _))
  · subst e
    cases r1
    obtain ⟨its, rv, p, hz⟩ := I1.tuple hq
    refine wpAny_pyIter_tuple (show s1.heap.IsTuple a its.toArray from p) ?_
    refine ⟨s1.heap.objs.size, [s1.heap.objs.size], _, _, H1, rfl, I1.kept (t' := s1.toks) fun b o e => Heap.get?_push_of_some _ e, turn_tuple a _, ⟨_, Heap.get?_push_size _ rfl, rfl, rfl⟩, fun b hb => ?_, q⟩
    have e : b = s1.heap.objs.size := by simpa using hb
    subst e
    exact I1.fpOk (Nat.le_refl _) (I1.hok.fresh (Nat.le_refl _))
/-- the items of a sequence, and what must stand while it is walked -/
def itSq (d : D) : Ev (List D × Gd) := (vw d).bnd fun p => if FC.isSeq p.1 = true then (match d with
  | .ref n => Ev.ret (p.2, some (n, p))
  | _ => Ev.ret (p.2, none)) else Ev.no
end
end DL

set_option Elab.async false
set_option linter.all false
set_option maxRecDepth 100000
set_option maxHeartbeats 4000000
/-! DL5: what is walked, comprehensions, freezing, cells written, calls. -/
namespace DL
open PySem L2
variable [Tb]
section
variable {X : Cx} {W : WX} {e a b c : Expr} {pos : Pos}
/-- the sequence as it stands at a later turn -/
theorem seq_later {Fr B B' : Hp} {as as' : List Addr} {H H' : Hp} {M M' : Store} {d : D} {t : Tg} {l : List D} {p : Addr} {vs : List V} (ht : FC.isSeq t = true)
    (r : R (gx X) B as (.ref p) d) (fc : FC (gx X) H p t vs) (rs : Rs (gx X) B as vs l) (rp : Rep (gx X) Fr B as H M)
    (cell : ∀ n, d = .ref n → as[n]? = some p ∧ M[n]? = some (t, l) ∧ MC (gx X) H p t vs) (fro : (∀ n, d ≠ .ref n) → FC (gx X) B p t vs)
    {Fr' : Hp} (e : Same B B') (pr : as <+: as') (rp' : Rep (gx X) Fr' B' as' H' M') (g : ∀ n, d = .ref n → M'[n]? = some (t, l)) :
    ∃ ws, FC (gx X) H' p t ws ∧ Rs (gx X) B' as' ws l := by
  cases d with
  | ref n =>
    obtain ⟨ha, hm, mc⟩ := cell n rfl
    obtain ⟨ws, mc', rs'⟩ := rp'.cell n p (t, l) (pre_get pr ha) (g n rfl)
    exact ⟨ws, mc'.fc, rs'⟩
  | _ => exact ⟨vs, (fro (fun n => by intro h; cases h)).sub (e.trans rp'.sub), rs.mono e pr⟩
theorem Post.vw2 {α : Type} {Fr B : Hp} {as : List Addr} {d : D} {f : Tg × List D → Ev α} {M : Store} {H : Hp} {v : V} {k : α → Store → Hp → List Addr → Prop} {x : Str → D → Store → Hp → List Addr → Prop} (h : Post B as (((DL.vw d).bnd f) M) k x)
    (rp : Rep (gx X) Fr B as H M) (r : R (gx X) B as v d) : ∃ t l p vs, v = .ref p ∧ FC (gx X) H p t vs ∧ Rs (gx X) B as vs l ∧ Post B as (f (t, l) M) k x ∧
      (∀ n, d = .ref n → as[n]? = some p ∧ M[n]? = some (t, l) ∧ MC (gx X) H p t vs) ∧ ((∀ n, d ≠ .ref n) → FC (gx X) B p t vs) := by
  cases r with
  | nd fc rs => exact ⟨_, _, _, _, rfl, fc.sub rp.sub, rs, h, (fun n e => by cases e), fun _ => fc⟩
  | ref ha =>
    obtain ⟨t, l, p, vs, e, fc, rs, h, c⟩ := h.vw rp (.ref ha)
    exact ⟨t, l, p, vs, e, fc, rs, h, c, fun q => absurd rfl (q _)⟩
  | _ => exact h.elim
theorem iter_sq {Fr B : Hp} {as : List Addr} {H : Hp} {M : Store} {d : D} {t : Tg} {l : List D} {p : Addr} {vs : List V} {gd : Gd} (ht : FC.isSeq t = true)
    (r : R (gx X) B as (.ref p) d) (fc : FC (gx X) H p t vs) (rs : Rs (gx X) B as vs l) (rp : Rep (gx X) Fr B as H M)
    (cell : ∀ n, d = .ref n → as[n]? = some p ∧ M[n]? = some (t, l) ∧ MC (gx X) H p t vs) (fro : (∀ n, d ≠ .ref n) → FC (gx X) B p t vs) (hg : ∀ n, d = .ref n → gd = some (n, (t, l))) :
    (t = .tup → IterOk X B as (Itt X.K p) l gd) ∧ (t ≠ .tup → IterOk X B as (Itl X.K p) l gd) := by
  have later : ∀ {Fr' B' : Hp} {as' : List Addr} {H' : Hp} {M' : Store}, Same B B' → as <+: as' → Rep (gx X) Fr' B' as' H' M' → grd gd M' → ∃ ws, FC (gx X) H' p t ws ∧ Rs (gx X) B' as' ws l := fun e pr rp' g =>
    seq_later ht r fc rs rp cell fro e pr rp' fun n hn => by
      have := hg n hn
      subst this
      exact g
  refine ⟨fun z => ?_, fun z => ?_⟩
  · subst z
    refine ⟨fun Fr' B' as' H' M' e pr rp' g => ?_, fun i d' hd Fr' B' as' H' M' e pr rp' g => ?_⟩
    · obtain ⟨ws, fc', rs'⟩ := later e pr rp' g
      exact ⟨ws, fc', by rw [rs'.length]; exact Nat.le_refl _⟩
    · obtain ⟨ws, fc', rs'⟩ := later e pr rp' g
      obtain ⟨u, hu, ru⟩ := rs'.get hd
      refine ⟨⟨ws, u, fc', hu⟩, fun x H'' y => ?_⟩
      obtain ⟨e1, y⟩ := y
      subst e1
      have := y ws fc'
      rw [hu] at this; cases this
      exact ⟨B', Same.refl _, rp', ru⟩
  · have toL : ∀ {H' : Hp} {ws : List V}, FC (gx X) H' p t ws → SqL X.K H' p ws := fun {H' ws} f => by
      cases t with
      | lst => exact SqL.of f
      | slst => exact f
      | tup => exact absurd rfl z
      | dct ks => cases ht
      | fdct ks => cases ht
      | obj c ns => cases ht
      | fn k => cases ht
      | iset => cases ht
    refine ⟨fun Fr' B' as' H' M' e pr rp' g => ?_, fun i d' hd Fr' B' as' H' M' e pr rp' g => ?_⟩
    · obtain ⟨ws, fc', rs'⟩ := later e pr rp' g
      exact ⟨ws, toL fc', by rw [rs'.length]; exact Nat.le_refl _⟩
    · obtain ⟨ws, fc', rs'⟩ := later e pr rp' g
      obtain ⟨u, hu, ru⟩ := rs'.get hd
      refine ⟨⟨ws, u, toL fc', hu⟩, fun x H'' y => ?_⟩
      obtain ⟨e1, y⟩ := y
      subst e1
      have := y ws (toL fc')
      rw [hu] at this; cases this
      exact ⟨B', Same.refl _, rp', ru⟩
def iSeq (f : Lo → Ev D) : Lo → Ev (List D × Gd) := fun S => (f S).bnd itSq
theorem di_sq {tg : Expr} {f : Lo → Ev D} (h : DE X W e f) : DI X W tg e (iSeq f) := by
  obtain ⟨t, p, s⟩ := h
  refine ⟨_, pi_sq p, fun Fr B as σ H S M R' rs rp h => ?_⟩
  refine s Fr B as σ H S M _ rs rp (h.bnd.imp fun d M1 B1 as1 s1 p1 h1 v H1 rp1 r1 => ?_)
  obtain ⟨t, l, q, vs, rfl, fc, rs2, h1, c1, c2⟩ := Post.vw2 (d := d) h1 rp1 r1
  dsimp only at h1
  by_cases ht : FC.isSeq t = true
  · rw [if_pos ht] at h1
    have go : ∀ gd : Gd, Post B1 as1 (Ev.ret (l, gd) M1) (fun r M' B' as' => ∀ J H', Rep (gx X) Fr B' as' H' M' → IterOk X B' as' J r.1 r.2 → R' J H') (kX X Fr W σ) → (∀ n, d = .ref n → gd = some (n, (t, l))) →
        (∃ a, V.ref q = .ref a ∧ (∃ xs, SqL X.K H1 a xs) ∧ R' (Itl X.K a) H1) ∨ (∃ a, V.ref q = .ref a ∧ (∃ xs, SqT X.K H1 a xs) ∧ R' (Itt X.K a) H1) := fun gd h1 hg => by
      obtain ⟨i1, i2⟩ := iter_sq (gd := gd) ht r1 fc rs2 rp1 c1 c2 hg
      have k := h1.ret
      cases t with
      | lst => exact .inl ⟨q, rfl, ⟨vs, SqL.of fc⟩, k _ H1 rp1 (i2 (by intro z; cases z))⟩
      | slst => exact .inl ⟨q, rfl, ⟨vs, fc⟩, k _ H1 rp1 (i2 (by intro z; cases z))⟩
      | tup => exact .inr ⟨q, rfl, ⟨vs, fc⟩, k _ H1 rp1 (i1 rfl)⟩
      | dct ks => cases ht
      | fdct ks => cases ht
      | obj c ns => cases ht
      | fn k => cases ht
      | iset => cases ht
    cases d with
    | ref n => exact go _ h1 fun m hm => by cases hm; rfl
    | _ => exact go _ h1 fun m hm => by cases hm
  · rw [if_neg ht] at h1; exact h1.elim
/-- ranges -/
def RgI (i j : Int) : Prop := -(2 ^ 62) ≤ i ∧ i < 2 ^ 62 ∧ -(2 ^ 62) ≤ j ∧ j < 2 ^ 62
theorem iter_rg {B : Hp} {as : List Addr} (lo hi : Int) : IterOk X B as (Itr lo (hi - lo).toNat) (rgD lo hi) none := by
  refine ⟨fun Fr' B' as' H' M' e pr rp' g => ?_, fun i d hd Fr' B' as' H' M' e pr rp' g => ?_⟩
  · show (hi - lo).toNat ≤ (rgD lo hi).length
    unfold rgD; simp
  · unfold rgD at hd
    rw [List.getElem?_map] at hd
    cases q : (List.range (hi - lo).toNat)[i]? with
    | none => rw [q] at hd; cases hd
    | some j =>
      rw [q] at hd; cases hd
      obtain ⟨h1, h2⟩ := List.getElem?_eq_some_iff.mp q
      rw [List.getElem_range] at h2
      subst h2
      refine ⟨(show i < (hi - lo).toNat by simpa using h1), fun x H'' y => ?_⟩
      obtain ⟨e1, e2⟩ := y
      subst e1; subst e2
      exact ⟨B', Same.refl _, rp', .int _⟩
open Classical in
noncomputable def rngE (i j : Int) : Ev (List D × Gd) := if RgI i j then Ev.ret (rgD i j, none) else Ev.no
theorem rngE_ok {i j : Int} (h : RgI i j) : rngE i j = Ev.ret (rgD i j, none) := if_pos h
theorem rngE_no {i j : Int} (h : ¬ RgI i j) : rngE i j = Ev.no := if_neg h
noncomputable def r1K : D → Ev (List D × Gd)
  | .int n => rngE 0 n
  | _ => Ev.no
noncomputable def r2K (x y : D) : Ev (List D × Gd) := match x, y with
  | .int m, .int n => rngE m n
  | _, _ => Ev.no
noncomputable def iR1 (f : Lo → Ev (List D)) : Lo → Ev (List D × Gd) := fun S => (f S).bnd (op1 r1K)
noncomputable def iR2 (f : Lo → Ev (List D)) : Lo → Ev (List D × Gd) := fun S => (f S).bnd (op2 r2K)
theorem di_range1 {tg : Expr} {p : Pos} {f : Lo → Ev (List D)} (hg : Gl X "range") (hm : X.mg "range" = none) (ha : DA X W [a] f) (hs : starEach [a] X.env = [(false, eval a X.env)] := by rfl) : DI X W tg (.Call (.Name "range" p) [a] [] pos) (iR1 f) := by
  obtain ⟨t, pa, s⟩ := ha
  refine ⟨_, pi_range1 hg hm pa hs, fun Fr B as σ H S M R' rs rp h => ?_⟩
  refine s Fr B as σ H S M _ rs rp (h.bnd.imp fun l M1 B1 as1 s1 p1 h1 vs H1 rp1 r1 => ?_)
  cases r1 with
  | nil => exact h1.elim
  | cons r t =>
    cases t with
    | cons _ _ => exact h1.elim
    | nil =>
      cases r <;> first | exact h1.elim | skip
      rename_i n
      have h1 : Post B1 as1 (rngE 0 n M1) (fun r M' B' as' => ∀ J H', Rep (gx X) Fr B' as' H' M' → IterOk X B' as' J r.1 r.2 → R' J H') (kX X Fr W σ) := h1
      by_cases c : RgI 0 n
      · rw [rngE_ok c] at h1
        have := iter_rg (X := X) (B := B1) (as := as1) 0 n
        rw [Int.sub_zero] at this
        exact ⟨n, rfl, c.2.2.1, c.2.2.2, h1.ret _ H1 rp1 this⟩
      · rw [rngE_no c] at h1; exact h1.elim
theorem di_range2 {tg : Expr} {p : Pos} {f : Lo → Ev (List D)} (hg : Gl X "range") (hm : X.mg "range" = none) (ha : DA X W [a, b] f) (hs : starEach [a, b] X.env = [(false, eval a X.env), (false, eval b X.env)] := by rfl) (hs2 : starEach [b] X.env = [(false, eval b X.env)] := by rfl) : DI X W tg (.Call (.Name "range" p) [a, b] [] pos) (iR2 f) := by
  obtain ⟨t, pa, s⟩ := ha
  refine ⟨_, pi_range2 hg hm pa hs hs2, fun Fr B as σ H S M R' rs rp h => ?_⟩
  refine s Fr B as σ H S M _ rs rp (h.bnd.imp fun l M1 B1 as1 s1 p1 h1 vs H1 rp1 r1 => ?_)
  cases r1 with
  | nil => exact h1.elim
  | cons r t =>
    cases t with
    | nil => exact h1.elim
    | cons r' t =>
      cases t with
      | cons _ _ => exact h1.elim
      | nil =>
        cases r <;> first | (cases r' <;> exact h1.elim) | skip
        cases r' <;> first | exact h1.elim | skip
        rename_i m n
        have h1 : Post B1 as1 (rngE m n M1) (fun r M' B' as' => ∀ J H', Rep (gx X) Fr B' as' H' M' → IterOk X B' as' J r.1 r.2 → R' J H') (kX X Fr W σ) := h1
        by_cases c : RgI m n
        · rw [rngE_ok c] at h1
          exact ⟨m, n, rfl, c, h1.ret _ H1 rp1 (iter_rg m n)⟩
        · rw [rngE_no c] at h1; exact h1.elim
/-- enumerate(list) -/
def enD : Nat → List D → List D
  | _, [] => []
  | k, d :: l => .tup [.int (k : Nat), d] :: enD (k + 1) l
theorem enD_length : ∀ (l : List D) (k : Nat), (enD k l).length = l.length
  | [], _ => rfl
  | _ :: l, k => congrArg (· + 1) (enD_length l (k + 1))
theorem enD_get : ∀ (l : List D) (k i : Nat) (x : D), (enD k l)[i]? = some x → ∃ d, l[i]? = some d ∧ x = .tup [.int ((k + i : Nat) : Int), d]
  | [], _, _, _, h => by simp [enD] at h
  | d :: l, k, 0, x, h => by simp [enD] at h; exact ⟨d, rfl, by simpa using h.symm⟩
  | d :: l, k, i + 1, x, h => by
    simp only [enD, List.getElem?_cons_succ] at h
    obtain ⟨d', h1, h2⟩ := enD_get l (k + 1) i x h
    refine ⟨d', by simpa using h1, ?_⟩
    rw [h2, show k + 1 + i = k + (i + 1) by omega]
def iEn (f : Lo → Ev (List D)) : Lo → Ev (List D × Gd) := fun S => (f S).bnd (op1 fun d => (vw d).bnd fun p => match p.1 with
  | .lst => (match d with
    | .ref n => Ev.ret (enD 0 p.2, some (n, p))
    | _ => Ev.ret (enD 0 p.2, none))
  | _ => Ev.no)
theorem di_enum {p tpos : Pos} {elts : List Expr} {kk : Nat} {f : Lo → Ev (List D)} (hg : Gl X "enumerate") (hm : X.mg "enumerate" = none) (ha : DA X W [e] f) (hs : starEach [e] X.env = [(false, eval e X.env)] := by rfl) :
    DI X W (.Tuple elts kk tpos) (.Call (.Name "enumerate" p) [e] [] pos) (iEn f) := by
  obtain ⟨t, pa, s⟩ := ha
  refine ⟨_, pi_enum hg hm pa hs, fun Fr B as σ H S M R' rs rp h => ?_⟩
  refine s Fr B as σ H S M _ rs rp (h.bnd.imp fun l M1 B1 as1 s1 p1 h1 vs H1 rp1 r1 => ?_)
  cases r1 with
  | nil => exact h1.elim
  | cons r t =>
    cases t with
    | cons _ _ => exact h1.elim
    | nil =>
      rename_i d
      obtain ⟨t, l, q, vs, rfl, fc, rs2, h1, c1, c2⟩ := Post.vw2 (d := d) h1 rp1 r
      cases t <;> first | exact h1.elim | skip
      have go : ∀ gd : Gd, Post B1 as1 (Ev.ret (enD 0 l, gd) M1) (fun r M' B' as' => ∀ J H', Rep (gx X) Fr B' as' H' M' → IterOk X B' as' J r.1 r.2 → R' J H') (kX X Fr W σ) → (∀ n, d = .ref n → gd = some (n, (.lst, l))) →
          ∃ a xs, [V.ref q] = [.ref a] ∧ SqL X.K H1 a xs ∧ R' (Ite X.K a) H1 := fun gd h1 hg => by
        refine ⟨q, vs, rfl, SqL.of fc, h1.ret _ H1 rp1 ?_⟩
        have later : ∀ {Fr' B' : Hp} {as' : List Addr} {H' : Hp} {M' : Store}, Same B1 B' → as1 <+: as' → Rep (gx X) Fr' B' as' H' M' → grd gd M' → ∃ ws, FC (gx X) H' q .lst ws ∧ Rs (gx X) B' as' ws l := fun e pr rp' g =>
          seq_later rfl r fc rs2 rp1 c1 c2 e pr rp' fun n hn => by
            have := hg n hn
            subst this
            exact g
        refine ⟨fun Fr' B' as' H' M' e pr rp' g => ?_, fun i d' hd Fr' B' as' H' M' e pr rp' g => ?_⟩
        · obtain ⟨ws, fc', rs'⟩ := later e pr rp' g
          exact ⟨ws, SqL.of fc', by rw [rs'.length, enD_length]; exact Nat.le_refl _⟩
        · obtain ⟨ws, fc', rs'⟩ := later e pr rp' g
          obtain ⟨d0, hd0, rfl⟩ := enD_get l 0 i d' hd
          obtain ⟨u, hu, ru⟩ := rs'.get hd0
          refine ⟨⟨ws, u, SqL.of fc', hu⟩, fun x H'' y => ?_⟩
          obtain ⟨T, z, rfl, hT, rfl, y⟩ := y
          have := y ws (SqL.of fc')
          rw [hu] at this; cases this
          have nb := (rp'.fresh hT).1
          refine ⟨_, same_upd nb, rp'.froze hT, .nd (t := .tup) (SqT.of upd_same) (.cons ?_ (.cons (ru.mono (same_upd nb) (List.prefix_refl _)) .nil))⟩
          rw [Nat.zero_add]
          exact .int _
      cases d with
      | ref n => exact go _ h1 fun m hm => by cases hm; rfl
      | _ => exact go _ h1 fun m hm => by cases hm
/-! ### comprehensions -/
def wipeD (S : Lo) : List Nat → Lo
  | [] => S
  | v :: vs => (wipeD S vs).set v none
theorem wipe_get (σ : St) : ∀ (vs : List Nat) (j : Nat), (wipe σ vs)[j]? = if j ∈ vs then (if j < σ.length then some none else none) else σ[j]?
  | [], j => by simp [wipe]
  | v :: vs, j => by
    unfold wipe
    by_cases h : v = j
    · subst h
      rw [if_pos (by simp)]
      by_cases hl : v < σ.length
      · rw [List.getElem?_set_self (by rw [wipe_length]; exact hl), if_pos hl]
      · rw [List.getElem?_eq_none (by rw [List.length_set, wipe_length]; omega), if_neg hl]
    · rw [List.getElem?_set_ne h, wipe_get σ vs j]
      have : (j ∈ v :: vs) ↔ j ∈ vs := by simp [Ne.symm h]
      simp only [this]
theorem wipe_agree {σ σ' : St} {vs : List Nat} (hl : σ'.length = σ.length) (h : ∀ j, j ∉ vs → σ'[j]? = (wipe σ vs)[j]?) : wipe σ' vs = wipe σ vs := by
  apply List.ext_getElem?
  intro j
  rw [wipe_get, wipe_get]
  by_cases hj : j ∈ vs
  · rw [if_pos hj, if_pos hj, hl]
  · rw [if_neg hj, if_neg hj]
    have := h j hj
    rw [wipe_get, if_neg hj] at this
    exact this
theorem RS.wipe {G : Gx} {B : Hp} {as : List Addr} {σ : St} {S : Lo} (h : RS G B as σ S) : ∀ vs : List Nat, RS G B as (L2.wipe σ vs) (wipeD S vs)
  | [] => h
  | v :: vs => by
    have ih := RS.wipe h vs
    unfold L2.wipe wipeD
    refine ⟨by simp [ih.len], fun j d q => ?_⟩
    by_cases hv : v = j
    · subst hv
      by_cases hl : v < (wipeD S vs).length
      · rw [List.getElem?_set_self hl] at q; cases q
      · rw [List.getElem?_eq_none (by simpa using hl)] at q; cases q
    · rw [List.getElem?_set_ne hv] at q ⊢
      exact ih.at_ j d q
/-- tests of a clause -/
def DTs (X : Cx) (W : WX) (es : List Expr) (f : Lo → Ev Bool) : Prop := ∃ t, PTs X es t ∧ ∀ Fr B as σ H S M Q, RS (gx X) B as σ S → Rep (gx X) Fr B as H M → Post B as (f S M) (kB X Fr Q) (kX X Fr W σ) → t σ H Q
def tYesD : Lo → Ev Bool := fun _ => Ev.ret true
theorem dts_nil : DTs X W [] tYesD := ⟨_, pts_nil, fun _ _ _ _ H _ _ _ _ rp h => h.ret H rp⟩
theorem dts_one {f : Lo → Ev Bool} (h : DT X W e f) : DTs X W [e] f := by
  obtain ⟨t, p, s⟩ := h
  exact ⟨_, pts_one p, s⟩
def Ev.nox {α : Type} (m : Ev α) : Ev α := fun M => match m M with
  | .ok a M' => .ok a M'
  | _ => .stuck
theorem nox_ok {α : Type} {m : Ev α} {M M' : Store} {a : α} (h : m M = .ok a M') : Ev.nox m M = .ok a M' := by unfold Ev.nox; rw [h]
theorem Post.nox {α : Type} {B : Hp} {as : List Addr} {m : Ev α} {M : Store} {k : α → Store → Hp → List Addr → Prop} {x x' : Str → D → Store → Hp → List Addr → Prop} (h : Post B as (Ev.nox m M) k x) : Post B as (m M) k x' := by
  unfold Ev.nox at h
  cases e : m M with
  | ok a M' => rw [e] at h; exact h
  | exc c d M' => rw [e] at h; exact h.elim
  | stuck => rw [e] at h; exact h.elim
noncomputable def compL (tg : D → Lo → Ev Lo) (tt : Lo → Ev Bool) (te : Lo → Ev D) (g : Gd) (S : Lo) : List D → Ev (List D)
  | [] => chk g (Ev.ret [])
  | d :: ds => chk g ((Ev.nox (tg d S)).bnd fun S1 => (Ev.nox (tt S1)).bnd fun b => if b = true then (Ev.nox (te S1)).bnd fun y => (compL tg tt te g S ds).bnd fun ys => Ev.ret (y :: ys) else compL tg tt te g S ds)
noncomputable def nLc (fi : Lo → Ev (List D × Gd)) (tg : D → Lo → Ev Lo) (tt : Lo → Ev Bool) (te : Lo → Ev D) (vs : List Nat) : Lo → Ev NR := fun S => (fi S).bnd fun r => if r.1.length ≤ sizeLine then (compL tg tt te r.2 (wipeD S vs) r.1).bnd fun ys => Ev.ret (.n .lst ys) else Ev.no
abbrev W0 : WX := fun _ _ _ _ => False
/-- the canonical readings -/
def tE (X : Cx) (W : WX) (f : Lo → Ev D) : TE := fun σ H Q => ∃ Fr B as S M, RS (gx X) B as σ S ∧ Rep (gx X) Fr B as H M ∧ Post B as (f S M) (kD X Fr Q) (kX X Fr W σ)
def tT (X : Cx) (W : WX) (f : Lo → Ev Bool) : TT := fun σ H Q => ∃ Fr B as S M, RS (gx X) B as σ S ∧ Rep (gx X) Fr B as H M ∧ Post B as (f S M) (kB X Fr Q) (kX X Fr W σ)
def tG (X : Cx) (ps : List Nat) (g : D → Lo → Ev Lo) : TG := fun v σ H Q => ∃ Fr B as S M d, RS (gx X) B as σ S ∧ Rep (gx X) Fr B as H M ∧ R (gx X) B as v d ∧ Post B as (g d S M) (kG X Fr σ ps Q) (fun _ _ _ _ _ => False)
theorem DE.pe {f : Lo → Ev D} (h : DE X W e f) : PE X e (tE X W f) := by
  obtain ⟨t, p, s⟩ := h
  exact ⟨fun pins s' σ H Q I hw => let ⟨Fr, B, as, S, M, a, b, c⟩ := hw; p.run pins s' σ H Q I (s Fr B as σ H S M Q a b c)⟩
theorem DTs.pts {es : List Expr} {f : Lo → Ev Bool} (h : DTs X W es f) : PTs X es (tT X W f) := by
  obtain ⟨t, p, s⟩ := h
  exact ⟨fun pins s' σ H Q I hw => let ⟨Fr, B, as, S, M, a, b, c⟩ := hw; p.run pins s' σ H Q I (s Fr B as σ H S M Q a b c)⟩
theorem DG.pg {tg : Expr} {ps : List Nat} {g : D → Lo → Ev Lo} (h : DG X W tg ps g) : PG X tg (tG X ps g) := by
  obtain ⟨t, p, s⟩ := h
  exact ⟨fun pins s' σ H v u Q I r hw => let ⟨Fr, B, as, S, M, d, a, b, c, q⟩ := hw; p.run pins s' σ H v u Q I r (s Fr B as σ H S M v d Q a b c q)⟩
theorem drop_cons {α : Type} {l : List α} {i : Nat} (h : i < l.length) : l.drop i = l[i] :: l.drop (i + 1) := List.drop_eq_getElem_cons h
/-- the heap without the place p -/
def hole (H : Hp) (p : Addr) : Hp := fun b => if b = p then none else H b
theorem hole_at {H : Hp} {p : Addr} : hole H p p = none := by unfold hole; rw [if_pos rfl]
theorem hole_ne {H : Hp} {p b : Addr} (h : b ≠ p) : hole H p b = H b := by unfold hole; rw [if_neg h]
theorem upd_hole {H : Hp} {p : Addr} {o : HO} (h : H p = some o) : upd (hole H p) p o = H := by
  funext b
  by_cases hb : b = p
  · subst hb; rw [upd_same, h]
  · rw [upd_ne hb, hole_ne hb]
theorem hole_upd {H : Hp} {p : Addr} {o : HO} : hole (upd H p o) p = hole H p := by
  funext b
  by_cases hb : b = p
  · subst hb; rw [hole_at, hole_at]
  · rw [hole_ne hb, hole_ne hb, upd_ne hb]
theorem Rep.hole {G : Gx} {Fr B : Hp} {as : List Addr} {H : Hp} {M : Store} {p : Addr} (rp : Rep G Fr B as H M) (hB : B p = none) (hF : Fr p = none) (ha : p ∉ as) (hp : Pln H p) : Rep G Fr B as (hole H p) M := by
  refine ⟨fun b u q => ?_, fun b u q => ?_, rp.fout, rp.dis, rp.nd, rp.out, rp.len, fun n x c hx hc => ?_, rp.nB, rp.nF, tabs_off rp.tb hp fun _ hb => hole_ne hb⟩
  · rw [hole_ne (ne_of_none q hB)]; exact rp.sub b u q
  · rw [hole_ne (ne_of_none q hF)]; exact rp.frm b u q
  · obtain ⟨vs, mc, rs⟩ := rp.cell n x c hx hc
    have hxp : x ≠ p := fun z => ha (by rw [← z]; exact List.mem_of_getElem? hx)
    exact ⟨vs, mc.keep (fun o ho => by rw [hole_ne hxp]; exact ho) (fun _ _ l => l.off hxp hp fun _ hb => hole_ne hb), rs⟩
/-- in the frame Fr with o at p more -/
theorem Rep.inFrame {G : Gx} {Fr B : Hp} {as : List Addr} {H : Hp} {M : Store} {p : Addr} {o : HO} (rp : Rep G Fr B as H M) (hp : H p = some o) (hF : Fr p = none) (hB : B p = none) (ha : p ∉ as) (ho : ∀ ps, o ≠ .tbl ps := by simp) : Rep G (upd Fr p o) B as H M := by
  refine ⟨rp.sub, fun b u q => ?_, fun a h => ?_, fun b u q => ?_, rp.nd, rp.out, rp.len, rp.cell, rp.nB, rp.nF.upd ho, rp.tb⟩
  · by_cases hb : b = p
    · subst hb; rw [upd_same] at q; rw [← q]; exact hp
    · rw [upd_ne hb] at q; exact rp.frm b u q
  · rw [upd_ne fun z => ha (by rw [← z]; exact h)]; exact rp.fout a h
  · by_cases hb : b = p
    · subst hb; exact hB
    · rw [upd_ne hb] at q; exact rp.dis b u q
theorem Rep.outFrame {G : Gx} {Fr B : Hp} {as : List Addr} {H : Hp} {M : Store} {p : Addr} {o : HO} (rp : Rep G (upd Fr p o) B as H M) (hF : Fr p = none) : Rep G Fr B as H M := by
  refine ⟨rp.sub, fun b u q => rp.frm b u (by rw [upd_ne (ne_of_none q hF)]; exact q), fun a h => ?_, fun b u q => rp.dis b u (by rw [upd_ne (ne_of_none q hF)]; exact q), rp.nd, rp.out, rp.len, rp.cell, rp.nB, fun b ps q => rp.nF b ps (by rw [upd_ne (ne_of_none q hF)]; exact q), rp.tb⟩
  have := rp.fout a h
  by_cases hb : a = p
  · subst hb; exact hF
  · rw [upd_ne hb] at this; exact this
theorem Post.unfl {Fr B : Hp} {as : List Addr} {σ : St} {m : Ev NR} {op : NR → Ev D} {M : Store} {k : D → Store → Hp → List Addr → Prop} (h : Post B as ((m.bnd op) M) k (kX X Fr W σ)) :
    Post B as (m M) (fun r M' B' as' => Post B' as' (op r M') k (kX X Fr W σ)) (kX X Fr W σ) := h.bnd
theorem lc_sound {tg : Expr} {own : List (Str × Nat)} {ps : List Nat} {fi : Lo → Ev (List D × Gd)} {ft : D → Lo → Ev Lo} {fc : Lo → Ev Bool} {fe : Lo → Ev D} {wi : TI}
    (si : ∀ Fr B as σ H S M (R' : It → Hp → Prop), RS (gx X) B as σ S → Rep (gx X) Fr B as H M →
      Post B as (fi S M) (fun r M' B' as' => ∀ J H', Rep (gx X) Fr B' as' H' M' → IterOk X B' as' J r.1 r.2 → R' J H') (kX X Fr W σ) → wi σ H R') (hps : ∀ i ∈ ps, i ∈ own.map (·.2)) :
    ∀ Fr B as σ H S M Q, RS (gx X) B as σ S → Rep (gx X) Fr B as H M → Post B as (nLc fi ft fc fe (own.map (·.2)) S M) (kN X Fr Q) (kX X Fr W σ) → tLc wi (tG X ps ft) (tT X W0 fc) (tE X W0 fe) (own.map (·.2)) σ H Q := fun Fr B as σ H S M Q rs rp h => by
  refine si Fr B as σ H S M _ rs rp (h.bnd.imp fun r M1 B1 as1 s1 p1 h1 J H1 rp1 io p hp => ?_)
  obtain ⟨items, g⟩ := r
  dsimp only at h1 io
  by_cases hz : items.length ≤ sizeLine
  case neg => rw [if_neg hz] at h1; exact h1.elim
  rw [if_pos hz] at h1
  have hole0 : hole (upd H1 p (.lst [])) p = H1 := by
    funext b
    by_cases hb : b = p
    · subst hb; rw [hole_at, hp]
    · rw [hole_ne hb, upd_ne hb]
  refine ⟨fun i m H => m = items.length - i ∧ i ≤ items.length ∧ ∃ B' as' M' acc accV, Same B1 B' ∧ as1 <+: as' ∧ H p = some (.lst accV) ∧ Rep (gx X) Fr B' as' (hole H p) M' ∧ Rs (gx X) B' as' accV acc ∧ acc.length ≤ i ∧
      Post B' as' (((compL ft fc fe g (wipeD S (own.map (·.2))) (items.drop i)).bnd fun ys => Ev.ret (NR.n .lst (acc ++ ys))) M') (kN X Fr Q) (kX X Fr W σ),
    ⟨items.length, by simp, Nat.zero_le _, B1, as1, M1, [], [], Same.refl _, List.prefix_refl _, upd_same, by rw [hole0]; exact rp1, .nil, Nat.le_refl _, h1⟩, ?_⟩
  rintro i m H ⟨rfl, hi, B2, as2, M2, acc, accV, s2, p2, hH, rp2, rsA, hla, h2⟩
  have hF : Fr p = none := rp2.frm.free hole_at
  obtain ⟨hB, hA⟩ := rp2.fresh (p := p) hole_at
  have full : Rep (gx X) (upd Fr p (.lst accV)) B2 as2 H M2 := by
    have q := (rp2.laid (o := .lst accV) hole_at)
    rw [upd_hole hH] at q
    exact q.inFrame hH hF hB hA
  by_cases hlt : i < items.length
  · rw [drop_cons hlt] at h2
    unfold compL at h2
    obtain ⟨hg2, h2⟩ := h2.bnd.chk
    obtain ⟨hgo, hy⟩ := io.go i items[i] (List.getElem?_eq_getElem hlt) _ B2 as2 H M2 s2 p2 full hg2
    refine .inr ⟨hgo, fun H' => ∃ B' as' M' acc accV, Same B1 B' ∧ as1 <+: as' ∧ H' p = some (.lst accV) ∧ Rep (gx X) Fr B' as' (hole H' p) M' ∧ Rs (gx X) B' as' accV acc ∧ acc.length ≤ i + 1 ∧
      Post B' as' (((compL ft fc fe g (wipeD S (own.map (·.2))) (items.drop (i + 1))).bnd fun ys => Ev.ret (NR.n .lst (acc ++ ys))) M') (kN X Fr Q) (kX X Fr W σ), fun H' q => ⟨items.length - (i + 1), by omega, rfl, hlt, q⟩, fun x H' y => ?_⟩
    obtain ⟨B3, s3, rp3, r3⟩ := hy x H' y
    have h3 := h2.mono s3 (List.prefix_refl _)
    have rsW := ((rs.mono s1 p1).mono s2 p2).mono s3 (List.prefix_refl _) |>.wipe (own.map (·.2))
    refine ⟨_, B3, as2, _, M2, items[i], rsW, rp3, r3, (h3.bnd.nox (x' := fun _ _ _ _ _ => False)).imp fun S4 M4 B4 as4 s4 p4 h4 σ4 H4 rp4 rs4 ag l4 => ⟨wipe_agree (l4.trans (wipe_length _ _)) fun j hj => ag j fun z => hj (hps j z), ?_⟩⟩
    refine ⟨_, B4, as4, S4, M4, rs4, rp4, (h4.bnd.nox (x' := _)).imp fun bo M5 B5 as5 s5 p5 h5 H5 rp5 => ?_⟩
    have kp : ∀ {B' : Hp} {as' : List Addr} {H' : Hp} {M' : Store}, Rep (gx X) (upd Fr p (.lst accV)) B' as' H' M' → H' p = some (.lst accV) := fun q => q.frm p _ upd_same
    have hol : ∀ {B' : Hp} {as' : List Addr} {H' : Hp} {M' : Store}, Rep (gx X) (upd Fr p (.lst accV)) B' as' H' M' → Rep (gx X) Fr B' as' (hole H' p) M' := fun {B' as' H' M'} q => by
      refine (q.outFrame hF).hole (q.dis p _ upd_same) hF (fun hz => ?_) (.of (q.frm p _ upd_same) (by simp) (by simp))
      have := q.fout p hz
      rw [upd_same] at this; cases this
    cases bo with
    | false =>
      dsimp only
      rw [if_neg Bool.false_ne_true] at h5 ⊢
      exact ⟨B5, as5, M5, acc, accV, s2.trans (s3.trans (s4.trans s5)), p2.trans (p4.trans p5), kp rp5, hol rp5, rsA.mono (s3.trans (s4.trans s5)) (p4.trans p5), by omega, h5.unbnd⟩
    | true =>
      dsimp only
      rw [if_pos rfl] at h5 ⊢
      refine ⟨_, B5, as5, S4, M5, rs4.mono s5 p5, rp5, (h5.bnd.nox (x' := _)).imp fun yd M6 B6 as6 s6 p6 h6 yv H6 rp6 r6 => ?_⟩
      refine ⟨accV, kp rp6, by rw [rsA.length]; omega, B6, as6, M6, acc ++ [yd], accV ++ [yv], s2.trans (s3.trans (s4.trans (s5.trans s6))), p2.trans (p4.trans (p5.trans p6)), upd_same, by rw [hole_upd]; exact hol rp6, (rsA.mono (s3.trans (s4.trans (s5.trans s6))) (p4.trans (p5.trans p6))).app (.one r6), by simp; omega, ?_⟩
      have e : (fun ys => Ev.ret (NR.n .lst (acc ++ [yd] ++ ys))) = fun ys => (Ev.ret (yd :: ys)).bnd fun ys => Ev.ret (NR.n .lst (acc ++ ys)) := by
        funext ys
        rw [ret_bnd, List.append_assoc]
        rfl
      rw [e, ← bnd_bnd]
      exact h6.unbnd
  · have e : i = items.length := by omega
    subst e
    rw [List.drop_length] at h2
    unfold compL at h2
    obtain ⟨hg2, h2⟩ := h2.bnd.chk
    have h3 := h2.ret
    rw [List.append_nil] at h3
    refine .inl ⟨io.stop _ B2 as2 H M2 s2 p2 full hg2, ?_⟩
    have := h3.ret accV (hole H p) p rp2 rsA hole_at
    have e2 : upd (hole H p) p (hoT .lst accV) = H := upd_hole hH
    rw [e2] at this
    exact this
theorem dn_lc {elt tg iter : Expr} {ifs : List Expr} {scope : Scope} {own : List (Str × Nat)} {ps : List Nat} {fi : Lo → Ev (List D × Gd)} {ft : D → Lo → Ev Lo} {fc : Lo → Ev Bool} {fe : Lo → Ev D} (hc : X.calm = true) (hN : X.N.Nodup) (hi : DI X W tg iter fi) (ok : BlkOk X.N X.env.scope scope own)
    (hg : ∀ (s : Shared) (H : Hp) (C : Addr) (cl : List (Str × Addr)) (fp : List Addr), DG (X.blk s H scope (compEnvC scope cl C X.env) fp) W0 tg ps ft)
    (ht : ∀ (s : Shared) (H : Hp) (C : Addr) (cl : List (Str × Addr)) (fp : List Addr), DTs (X.blk s H scope (compEnvC scope cl C X.env) fp) W0 ifs fc)
    (he : ∀ (s : Shared) (H : Hp) (C : Addr) (cl : List (Str × Addr)) (fp : List Addr), DE (X.blk s H scope (compEnvC scope cl C X.env) fp) W0 elt fe)
    (hps : ∀ i ∈ ps, i ∈ own.map (·.2)) (hs : ∀ x, foldedSetIterable iter X.env x = pure x := by intro _; rfl) :
    DN X W (.ListComp elt [⟨tg, iter, ifs, 0⟩] scope pos) (nLc fi ft fc fe (own.map (·.2))) := by
  obtain ⟨wi, pi, si⟩ := hi
  exact ⟨_, pe_lc hc hN pi ok (g := tG X ps ft) (tt := tT X W0 fc) (te := tE X W0 fe) (fun s H C cl fp => (hg s H C cl fp).pg) (fun s H C cl fp => (ht s H C cl fp).pts) (fun s H C cl fp => (he s H C cl fp).pe) hs, lc_sound (tg := tg) si hps⟩
/-- y = [..] on one line, y a plain local: fz says whether the new list is frozen or a cell -/
theorem ds_setLc {ii : Nat} {y : Str} {py spos : Pos} {elt tg iter : Expr} {ifs : List Expr} {scope : Scope} {own : List (Str × Nat)} {ps : List Nat} {fi : Lo → Ev (List D × Gd)} {ft : D → Lo → Ev Lo} {fc : Lo → Ev Bool} {fe : Lo → Ev D} {op : NR → Ev D} (hop : ∀ {Fr B : Hp} {as : List Addr} {σ : St} {r : NR} {M : Store} {Q : VK}, Post B as (op r M) (kD X Fr Q) (kX X Fr W σ) → kN X Fr Q r M B as) (hc : X.calm = true) (hN : X.N.Nodup) (hy : X.N[ii]? = some y) (hyl : X.env.scope.names.lookup y = some .local)
    (hsw : swapsWith (.ListComp elt [⟨tg, iter, ifs, 0⟩] scope pos) (some (.Name y py)) spos.line X.env = pure true) (hi : DI X W tg iter fi) (ok : BlkOk X.N X.env.scope scope own)
    (hg : ∀ (s : Shared) (H : Hp) (C : Addr) (cl : List (Str × Addr)) (fp : List Addr), DG (X.blk s H scope (compEnvC scope cl C X.env) fp) W0 tg ps ft)
    (ht : ∀ (s : Shared) (H : Hp) (C : Addr) (cl : List (Str × Addr)) (fp : List Addr), DTs (X.blk s H scope (compEnvC scope cl C X.env) fp) W0 ifs fc)
    (he : ∀ (s : Shared) (H : Hp) (C : Addr) (cl : List (Str × Addr)) (fp : List Addr), DE (X.blk s H scope (compEnvC scope cl C X.env) fp) W0 elt fe)
    (hps : ∀ i ∈ ps, i ∈ own.map (·.2)) (hs : ∀ x, foldedSetIterable iter X.env x = pure x := by intro _; rfl) :
    DS X W (.Assign [.Name y py] (.ListComp elt [⟨tg, iter, ifs, 0⟩] scope pos) spos) (sAsg (fun S => (nLc fi ft fc fe (own.map (·.2)) S).bnd op) (gNm ii)) := by
  obtain ⟨wi, pi, si⟩ := hi
  refine ⟨_, ps_setLc hc hN hy hyl hsw pi ok (g := tG X ps ft) (tt := tT X W0 fc) (te := tE X W0 fe) (fun s H C cl fp => (hg s H C cl fp).pg) (fun s H C cl fp => (ht s H C cl fp).pts) (fun s H C cl fp => (he s H C cl fp).pe) hs, fun Fr B as σ H S M D rs rp h => ?_⟩
  refine lc_sound (tg := tg) si hps Fr B as σ H S M _ rs rp (((Post.fl rs h).unfl).imp fun r M1 B1 as1 s1 p1 h1 => hop (h1.imp fun d M2 B2 as2 s2 p2 h2 v H2 rp2 r2 => ?_))
  exact (Post.ret (a := Fl.nx (S.set ii (some d))) h2) _ H2 rp2 (((rs.mono s1 p1).mono s2 p2).set r2 ii)
end
end DL

set_option Elab.async false
set_option linter.all false
set_option maxRecDepth 100000
set_option maxHeartbeats 4000000
/-! DL6: freezing, cells written, defs and calls, objects. -/
namespace DL
open PySem L2
variable [Tb]
/-! ### freezing -/
mutual
def rlt (n : Nat) : D → Bool
  | .ref m => decide (m < n)
  | .nd _ l => rlts n l
  | _ => true
def rlts (n : Nat) : List D → Bool
  | [] => true
  | d :: l => rlt n d && rlts n l
end
mutual
theorem R.rlt {G : Gx} {B : Hp} {as : List Addr} : ∀ {v : V} {d : D}, R G B as v d → rlt as.length d = true
  | _, _, .non => by simp [DL.rlt]
  | _, _, .bl _ => by simp [DL.rlt]
  | _, _, .int _ => by simp [DL.rlt]
  | _, _, .str _ => by simp [DL.rlt]
  | _, _, .ty _ => by simp [DL.rlt]
  | _, _, .gl _ => by simp [DL.rlt]
  | _, _, .ref h => by
    have := (List.getElem?_eq_some_iff.mp h).1
    simp [DL.rlt, this]
  | _, _, .nd _ r => by
    have := Rs.rlts r
    simp [DL.rlt, this]
theorem Rs.rlts {G : Gx} {B : Hp} {as : List Addr} : ∀ {vs : List V} {l : List D}, Rs G B as vs l → rlts as.length l = true
  | _, _, .nil => by simp [DL.rlts]
  | _, _, .cons h r => by
    have h1 := R.rlt h
    have h2 := Rs.rlts r
    simp [DL.rlts, h1, h2]
end
mutual
theorem R.cut {G : Gx} {B : Hp} {as : List Addr} {n : Nat} : ∀ {v : V} {d : D}, R G B as v d → rlt n d = true → R G B (as.take n) v d
  | _, _, .non, _ => .non
  | _, _, .bl _, _ => .bl _
  | _, _, .int _, _ => .int _
  | _, _, .str _, _ => .str _
  | _, _, .ty _, _ => .ty _
  | _, _, .gl h, _ => .gl h
  | _, _, .ref h, q => by
    have : _ < n := of_decide_eq_true (by simpa [DL.rlt] using q)
    exact .ref (by rw [List.getElem?_take_of_lt this]; exact h)
  | _, _, .nd h r, q => .nd h (Rs.cut r (by simpa [DL.rlt] using q))
theorem Rs.cut {G : Gx} {B : Hp} {as : List Addr} {n : Nat} : ∀ {vs : List V} {l : List D}, Rs G B as vs l → rlts n l = true → Rs G B (as.take n) vs l
  | _, _, .nil, _ => .nil
  | _, _, .cons h r, q => by
    rename_i d l
    have q' : rlt n d = true ∧ rlts n l = true := by simpa [DL.rlts] using q
    exact .cons (R.cut h q'.1) (Rs.cut r q'.2)
end
mutual
def fz (M : Store) (n : Nat) (k : Nat) (d : D) : Option D := match d with
  | .ref m => if m < n then some (.ref m) else match k with
    | 0 => none
    | k + 1 => match M[m]? with
      | some (t, l) => (fzs M n k l).map (.nd t)
      | none => none
  | .nd t l => (fzs M n k l).map (.nd t)
  | .non => some .non
  | .bl b => some (.bl b)
  | .int i => some (.int i)
  | .str x => some (.str x)
  | .ty x => some (.ty x)
  | .gl x => some (.gl x)
  termination_by (k, sizeOf d)
def fzs (M : Store) (n : Nat) (k : Nat) (l : List D) : Option (List D) := match l with
  | [] => some []
  | d :: l => match fz M n k d, fzs M n k l with
    | some a, some b => some (a :: b)
    | _, _ => none
  termination_by (k, sizeOf l)
end
mutual
theorem fz_id (M : Store) (n k : Nat) : ∀ d : D, rlt n d = true → fz M n k d = some d
  | .ref m, h => by
    have : m < n := of_decide_eq_true (by simpa [rlt] using h)
    unfold fz; rw [if_pos this]
  | .nd t l, h => by
    unfold fz
    rw [fzs_id M n k l (by simpa [rlt] using h)]; rfl
  | .non, _ | .bl _, _ | .int _, _ | .str _, _ | .ty _, _ | .gl _, _ => by unfold fz; rfl
theorem fzs_id (M : Store) (n k : Nat) : ∀ l : List D, rlts n l = true → fzs M n k l = some l
  | [], _ => by unfold fzs; rfl
  | d :: l, h => by
    have q' : rlt n d = true ∧ rlts n l = true := by simpa [rlts] using h
    unfold fzs
    rw [fz_id M n k d q'.1, fzs_id M n k l q'.2]
end
open Classical in
noncomputable def bz (as : List Addr) (n : Nat) (B H : Hp) : Hp := fun a => if a ∈ as.drop n then H a else B a
theorem bz_same {G : Gx} {Fr B : Hp} {as : List Addr} {H : Hp} {M : Store} {n : Nat} (rp : Rep G Fr B as H M) : Same B (bz as n B H) := fun b o e => by
  unfold bz
  rw [if_neg fun z => by have := rp.out b (List.mem_of_mem_drop z); rw [e] at this; cases this]
  exact e
mutual
theorem fz_ok {G : Gx} {Fr B : Hp} {as : List Addr} {H : Hp} {M : Store} {n : Nat} (rp : Rep G Fr B as H M) (k : Nat) (d : D) (v : V) (d' : D) (r : R G B as v d) (h : fz M n k d = some d') : R G (bz as n B H) (as.take n) v d' := by
  cases r with
  | non => unfold fz at h; cases h; exact .non
  | bl b => unfold fz at h; cases h; exact .bl b
  | int b => unfold fz at h; cases h; exact .int b
  | str b => unfold fz at h; cases h; exact .str b
  | ty b => unfold fz at h; cases h; exact .ty b
  | gl b => unfold fz at h; cases h; exact .gl b
  | ref ha =>
    rename_i m a
    unfold fz at h
    by_cases hm : m < n
    · rw [if_pos hm] at h; cases h
      exact .ref (by rw [List.getElem?_take_of_lt hm]; exact ha)
    · rw [if_neg hm] at h
      cases k with
      | zero => cases h
      | succ k =>
        dsimp only at h
        cases q : M[m]? with
        | none => rw [q] at h; cases h
        | some c =>
          obtain ⟨t, l⟩ := c
          rw [q] at h
          dsimp only at h
          cases q2 : fzs M n k l with
          | none => rw [q2] at h; cases h
          | some l' =>
            rw [q2] at h; cases h
            obtain ⟨vs, mc, rs⟩ := rp.cell m a (t, l) ha q
            have ih := fzs_ok rp k l vs l' rs q2
            have hin : a ∈ as.drop n := by
              rw [List.mem_iff_getElem?]
              exact ⟨m - n, by rw [List.getElem?_drop, show n + (m - n) = m by omega]; exact ha⟩
            exact .nd (FC.here (H' := bz as n B H) (fun o ho => by unfold bz; rw [if_pos hin]; exact ho) mc.fc) ih
  | nd fc rs =>
    rename_i t p vs l
    unfold fz at h
    cases q2 : fzs M n k l with
    | none => rw [q2] at h; cases h
    | some l' =>
      rw [q2] at h; cases h
      exact .nd (fc.mono (bz_same rp)) (fzs_ok rp k l vs l' rs q2)
  termination_by (k, sizeOf d)
theorem fzs_ok {G : Gx} {Fr B : Hp} {as : List Addr} {H : Hp} {M : Store} {n : Nat} (rp : Rep G Fr B as H M) (k : Nat) (l : List D) (vs : List V) (l' : List D) (r : Rs G B as vs l) (h : fzs M n k l = some l') : Rs G (bz as n B H) (as.take n) vs l' := by
  cases r with
  | nil => unfold fzs at h; cases h; exact .nil
  | cons r rr =>
    rename_i v vs d l
    unfold fzs at h
    cases q1 : fz M n k d with
    | none => rw [q1] at h; cases h
    | some a =>
      cases q2 : fzs M n k l with
      | none => rw [q1, q2] at h; cases h
      | some b =>
        rw [q1, q2] at h; cases h
        exact .cons (fz_ok rp k d v a r q1) (fzs_ok rp k l vs b rr q2)
  termination_by (k, sizeOf l)
end
/-- the cells below n of M' are those of M, or hold no younger cell -/
def Kept (M M' : Store) : Prop := M.length ≤ M'.length ∧ ∀ i c, i < M.length → M'[i]? = some c → M[i]? = some c ∨ rlts M.length c.2 = true
open Classical in
noncomputable def fzE (m : Ev D) : Ev D := fun M => match m M with
  | .ok d M' => if Kept M M' then (match fz M' M.length 9 d with
    | some d' => .ok d' (M'.take M.length)
    | none => .stuck) else .stuck
  | .exc c d M' => .exc c d M'
  | .stuck => .stuck
section
variable {X : Cx} {W : WX} {e a b c : Expr} {pos : Pos}
theorem Rep.pln {G : Gx} {Fr B : Hp} {as : List Addr} {H : Hp} {M : Store} {a : Addr} (rp : Rep G Fr B as H M) (ha : a ∈ as) : Pln H a := by
  obtain ⟨n, hn, e⟩ := List.getElem_of_mem ha
  have hM : n < M.length := by rw [← rp.len]; exact hn
  obtain ⟨_, mc, _⟩ := rp.cell n a M[n] (by rw [List.getElem?_eq_getElem hn, e]) (List.getElem?_eq_getElem hM)
  exact mc.pln
theorem Rep.thaw {G : Gx} {Fr B B1 : Hp} {as as1 : List Addr} {H H1 : Hp} {M M1 : Store} (rp : Rep G Fr B as H M) (rp1 : Rep G Fr B1 as1 H1 M1) (p : as <+: as1) (k : Kept M M1) : Rep G Fr (bz as1 M.length B1 H1) as H1 (M1.take M.length) ∧ as1.take M.length = as := by
  have et : as1.take M.length = as := by
    obtain ⟨t, rfl⟩ := p
    rw [← rp.len, List.take_left]
  have nin : ∀ a ∈ as, a ∉ as1.drop M.length := fun a ha hd => by
    have nd := rp1.nd
    rw [← List.take_append_drop M.length as1, et, List.nodup_append] at nd
    exact nd.2.2 a ha a hd rfl
  refine ⟨⟨fun b o h => ?_, rp1.frm, fun a ha => rp1.fout a (p.subset ha), fun b o h => ?_, rp.nd, fun a ha => ?_, ?_, fun n a c ha hc => ?_, ⟨fun b ps h => ?_, fun b o f v h => ?_⟩, rp1.nF, rp1.tb⟩, et⟩
  · unfold bz at h
    split at h
    · exact h
    · exact rp1.sub b o h
  · unfold bz
    rw [if_neg fun z => by have := rp1.fout b (List.mem_of_mem_drop z); rw [h] at this; cases this]
    exact rp1.dis b o h
  · unfold bz
    rw [if_neg (nin a ha)]
    exact rp1.out a (p.subset ha)
  · rw [List.length_take, rp.len]; have := k.1; omega
  · have hn : n < M.length := by
      have := (List.getElem?_eq_some_iff.mp hc).1
      rw [List.length_take] at this; omega
    rw [List.getElem?_take_of_lt hn] at hc
    obtain ⟨vs, mc, rs⟩ := rp1.cell n a c (pre_get p ha) hc
    have hl : rlts M.length c.2 = true := by
      rcases k.2 n c hn hc with q | q
      · obtain ⟨vs', _, rs'⟩ := rp.cell n a c ha q
        have := rs'.rlts
        rw [rp.len] at this; exact this
      · exact q
    refine ⟨vs, mc, ?_⟩
    have := rs.cut hl
    rw [et] at this
    exact this.mono (bz_same rp1) (List.prefix_refl _)
  · unfold bz at h
    split at h
    · rename_i z
      exact (rp1.pln (List.mem_of_mem_drop z)).1 ps h
    · exact rp1.nB.1 b ps h
  · unfold bz at h
    split at h
    · rename_i z
      exact (rp1.pln (List.mem_of_mem_drop z)).2.2 o f v h
    · exact rp1.nB.2 b o f v h
noncomputable def eFz (f : Lo → Ev D) : Lo → Ev D := fun S => fzE (f S)
theorem DE.fz {f : Lo → Ev D} (h : DE X W e f) : DE X W e (eFz f) := by
  obtain ⟨t, p, s⟩ := h
  refine ⟨t, p, fun Fr B as σ H S M Q rs rp h => s Fr B as σ H S M Q rs rp ?_⟩
  unfold eFz fzE at h
  cases q : f S M with
  | stuck => rw [q] at h; exact h
  | exc c d M' => rw [q] at h; exact h
  | ok d M' =>
    rw [q] at h
    dsimp only at h
    by_cases k : Kept M M'
    · rw [if_pos k] at h
      cases q2 : DL.fz M' M.length 9 d with
      | none => rw [q2] at h; exact h.elim
      | some d' =>
        rw [q2] at h
        intro B1 as1 s1 p1 v H1 rp1 r1
        obtain ⟨rp2, et⟩ := rp.thaw rp1 p1 k
        have r2 := fz_ok rp1 9 d v d' r1 q2
        rw [et] at r2
        exact h _ as (s1.trans (bz_same rp1)) (List.prefix_refl _) v H1 rp2 r2
    · rw [if_neg k] at h; exact h.elim
theorem Kept.refl (M : Store) : Kept M M := ⟨Nat.le_refl _, fun _ _ _ h => .inl h⟩
theorem Kept.app (M N : Store) : Kept M (M ++ N) := ⟨by simp, fun i c hi h => .inl (by rw [List.getElem?_append_left hi] at h; exact h)⟩
/-! ### methods of a list cell -/
def isCellL : D → Ev Unit
  | .ref n => fun M => match M[n]? with
    | some (.lst, _) => .ok () M
    | _ => .stuck
  | _ => Ev.no
def cellM (op : List D → List D → Option (D × List D)) (x : D) (args : List D) : Ev D := match x with
  | .ref n => fun M => match M[n]? with
    | some (.lst, l) => match op l args with
      | some (d, l') => .ok d (M.set n (.lst, l'))
      | none => .stuck
    | _ => .stuck
  | _ => Ev.no
def eBm (op : D → List D → Ev D) (fo : Lo → Ev D) (fa : Lo → Ev (List D)) : Lo → Ev D := fun S => (fo S).bnd fun x => (isCellL x).bnd fun _ => (fa S).bnd fun l => op x l
theorem Post.isCellL {α : Type} {Fr B : Hp} {as : List Addr} {d : D} {f : Unit → Ev α} {M : Store} {H : Hp} {v : V} {k : α → Store → Hp → List Addr → Prop} {x : Str → D → Store → Hp → List Addr → Prop} (h : Post B as (((DL.isCellL d).bnd f) M) k x)
    (rp : Rep (gx X) Fr B as H M) (r : R (gx X) B as v d) : tyV X.K "list" v H ∧ Post B as (f () M) k x := by
  cases r with
  | ref ha =>
    rename_i n a
    unfold Ev.bnd DL.isCellL at h
    cases q : M[n]? with
    | none => simp only [q] at h; exact h.elim
    | some c =>
      obtain ⟨t, l⟩ := c
      simp only [q] at h
      obtain ⟨vs, mc, rs⟩ := rp.cell n a _ ha q
      cases t <;> first | exact h.elim | skip
      exact ⟨.inl ⟨rfl, vs, SqL.of mc⟩, h⟩
  | _ => exact h.elim
/-- a method by its rule: what it asks of the cell's values -/
def MethOk (X : Cx) (r : V → List V → Hp → VK → Prop) (op : List D → List D → Option (D × List D)) : Prop := ∀ G B as H p vs l args argV d l' Q, Rs G B as vs l → Rs G B as argV args → op l args = some (d, l') → H p = some (.lst vs) →
  (∀ v vs', R G B as v d → Rs G B as vs' l' → Q v (upd H p (.lst vs'))) → r (.ref p) argV H Q
theorem cellM_ok {Fr B : Hp} {as : List Addr} {σ : St} {H : Hp} {M : Store} {v : V} {x : D} {argV : List V} {args : List D} {Q : VK} {r : V → List V → Hp → VK → Prop} {op : List D → List D → Option (D × List D)} (mo : MethOk X r op) (rp : Rep (gx X) Fr B as H M) (rx : R (gx X) B as v x) (ra : Rs (gx X) B as argV args)
    (h : Post B as (cellM op x args M) (kD X Fr Q) (kX X Fr W σ)) : r v argV H Q := by
  cases rx with
  | ref ha =>
    rename_i n a
    unfold cellM at h
    dsimp only at h
    cases q : M[n]? with
    | none => simp only [q] at h; exact h.elim
    | some c =>
      obtain ⟨t, l⟩ := c
      simp only [q] at h
      obtain ⟨vs, mc, rs⟩ := rp.cell n a _ ha q
      cases t <;> first | exact h.elim | skip
      dsimp only at h
      cases q2 : op l args with
      | none => rw [q2] at h; exact h.elim
      | some y =>
        obtain ⟨d, l'⟩ := y
        rw [q2] at h
        refine mo (gx X) B as H a vs l args argV d l' Q rs ra q2 mc fun v vs' rv rvs => ?_
        exact h.ok v _ (rp.write (t := .lst) ha upd_same rvs) rv
  | _ => exact h.elim
theorem de_bm {o : Expr} {es : List Expr} {name : Str} {apos cpos : Pos} {id : String} {r : V → List V → Hp → VK → Prop} {op : List D → List D → Option (D × List D)} {fo : Lo → Ev D} {fa : Lo → Ev (List D)} (slot : Slot "list" name id) (hty : typeOf (.builtin id) = pure (.type "method_descriptor")) (hm : MtR X id r) (mo : MethOk X r op) (ho : DE X W o fo) (ha : DA X W (e :: es) fa)
    (hbase : attributeBase o name X.env (eval o X.env) = eval o X.env := by rfl)
    (hfew : ((backTo cpos (starEach (e :: es) X.env)).all (fun x => !x.1) && (backToKw cpos (keywordEach [] X.env)).all (fun x => x.1.isSome)
      && decide ((e :: es).length + ([] : List Keyword).length + (if ([] : List Keyword).isEmpty then 0 else 1) < 30)) = true := by rfl)
    (hline : (apos.endLine == cpos.line) = true := by rfl) (hs : starEach (e :: es) X.env = (false, eval e X.env) :: starEach es X.env := by rfl) (hplain : (backTo cpos (starEach es X.env)).any (·.1) = false := by rfl) :
    DE X W (.Call (.Attribute o name apos) (e :: es) [] cpos) (eBm (cellM op) fo fa) := by
  obtain ⟨t, p, s⟩ := ho
  obtain ⟨t', p', s'⟩ := ha
  refine ⟨_, pe_bm PySem.F.plainAttrs_list slot hty hm p p' hbase hfew hline hs hplain, fun Fr B as σ H S M Q rs rp h => ?_⟩
  refine s Fr B as σ H S M _ rs rp (h.bnd.imp fun x M1 B1 as1 s1 p1 h1 v H1 rp1 r1 => ?_)
  obtain ⟨ty, h1⟩ := h1.isCellL rp1 r1
  refine ⟨ty, s' Fr B1 as1 σ H1 S M1 _ (rs.mono s1 p1) rp1 (h1.bnd.imp fun l M2 B2 as2 s2 p2 h2 vs H2 rp2 r2 => ?_)⟩
  exact cellM_ok mo rp2 (r1.mono s2 p2) r2 h2
def opAppend (l args : List D) : Option (D × List D) := match args with
  | [y] => if l.length < sizeLine then some (.non, l ++ [y]) else none
  | _ => none
theorem m_append : MethOk X rAppend opAppend := by
  intro G B as H p vs l args argV d l' Q rs ra ho hp k
  unfold opAppend at ho
  cases ra with
  | nil => cases ho
  | cons r t =>
    cases t with
    | cons _ _ => cases ho
    | nil =>
      dsimp only at ho
      by_cases c : l.length < sizeLine
      · rw [if_pos c] at ho; cases ho
        exact ⟨p, vs, _, rfl, rfl, hp, by rw [rs.length]; exact c, k _ _ .non (rs.app (.one r))⟩
      · rw [if_neg c] at ho; cases ho
/-- xs[i] = v -/
def setE (x i v : D) : Ev Unit := match x, i with
  | .ref n, .int k => fun M => match M[n]? with
    | some (.lst, l) => match ixN l.length k with
      | some j => .ok () (M.set n (.lst, l.set j v))
      | none => .stuck
    | _ => .stuck
  | _, _ => Ev.no
def gSet (fo fi : Lo → Ev D) : D → Lo → Ev Lo := fun d S => (Ev.nox (fo S)).bnd fun x => (Ev.nox (fi S)).bnd fun i => (setE x i d).bnd fun _ => Ev.ret S
theorem dg_sub {o i : Expr} {fo fi : Lo → Ev D} (ho : DE X W o fo) (hi : DE X W i fi)
    (ha : ∀ v, assign (.Subscript o i pos) X.env v = (do
      let ov ← holding [v] (eval o X.env)
      let iv ← holding [v, ov] (eval i X.env)
      standAt pos
      holding [v, ov, iv] (setItem ov iv v)
      release [v, ov, iv] []) := by intro _; rfl) : DG X W (.Subscript o i pos) [] (gSet fo fi) := by
  obtain ⟨t, p, s⟩ := ho
  obtain ⟨t', p', s'⟩ := hi
  refine ⟨_, pg_sub p p' set_list ha, fun Fr B as σ H S M v d Q rs rp r h => ?_⟩
  refine s Fr B as σ H S M _ rs rp ((h.bnd.nox (x' := _)).imp fun x M1 B1 as1 s1 p1 h1 ov H1 rp1 r1 => ?_)
  refine s' Fr B1 as1 σ H1 S M1 _ (rs.mono s1 p1) rp1 ((h1.bnd.nox (x' := _)).imp fun y M2 B2 as2 s2 p2 h2 iv H2 rp2 r2 => ?_)
  have rx := r1.mono s2 p2
  have rd := r.mono s1 p1 |>.mono s2 p2
  have rs2 := (rs.mono s1 p1).mono s2 p2
  cases rx <;> first | (cases r2 <;> exact h2.elim) | skip
  rename_i n a ha
  cases r2 <;> first | exact h2.elim | skip
  rename_i k
  have h2 := h2.bnd
  unfold setE at h2
  dsimp only at h2
  cases q : M2[n]? with
  | none => simp only [q] at h2; exact h2.elim
  | some c =>
    obtain ⟨t, l⟩ := c
    simp only [q] at h2
    obtain ⟨vs, mc, rsc⟩ := rp2.cell n a _ ha q
    cases t <;> first | exact h2.elim | skip
    dsimp only at h2
    cases q2 : ixN l.length k with
    | none => rw [q2] at h2; exact h2.elim
    | some j =>
      rw [q2] at h2
      refine ⟨a, vs, k, j, rfl, rfl, mc, by rw [rsc.length]; exact q2, ?_⟩
      exact (Post.ok h2).ret σ _ (rp2.write (t := .lst) ha upd_same (rsc.set rd j)) rs2 (fun _ _ => rfl) rfl
/-! ### defs -/
def spD (G : Gx) (n : Nat) (F : List D → Ev D) : Sp := fun vs H Q E => ∃ Fr B as M l, Rep G Fr B as H M ∧ Rs G B as vs l ∧ l.length = n ∧
  Post B as (F l M) (fun d M' B' as' => ∀ v H', Rep G Fr B' as' H' M' → R G B' as' v d → Q v H') (fun c d M' B' as' => ∀ cls dx H', Rep G Fr B' as' H' M' → XR G B' as' H' c d cls dx → E cls dx H')
def startD (N : Nat) (l : List D) : Lo := l.map some ++ List.replicate (N - l.length) none
def runF (N : Nat) (g : Lo → Ev Fl) : List D → Ev D := fun l => (Ev.nox (g (startD N l))).bnd fun fl => match fl with
  | .nx _ => Ev.ret .non
  | .rt d => Ev.ret d
  | .xc c d _ => fun M => .exc c d M
  | _ => Ev.no
abbrev WF (E : XK) : WX := fun c d _ H => E c d H
theorem RS.start {G : Gx} {B : Hp} {as : List Addr} {N : List Str} {vs : List V} {l : List D} (r : Rs G B as vs l) : RS G B as (L2.start N vs) (startD N.length l) := by
  refine ⟨by unfold L2.start startD; simp [r.length], fun i d h => ?_⟩
  unfold startD at h
  unfold L2.start
  by_cases hi : i < l.length
  · rw [List.getElem?_append_left (by simpa using hi), List.getElem?_map] at h
    cases q : l[i]? with
    | none => rw [q] at h; cases h
    | some e =>
      rw [q] at h; cases h
      obtain ⟨v, hv, rv⟩ := r.get q
      exact ⟨v, by rw [List.getElem?_append_left (by simpa [r.length] using hi), List.getElem?_map, hv]; rfl, rv⟩
  · rw [List.getElem?_append_right (by simpa using hi)] at h
    obtain ⟨h1, h2⟩ := List.getElem?_eq_some_iff.mp h
    rw [List.getElem_replicate] at h2
    cases h2
theorem fn_d {P : Program} {w : World} {K : PySem.W.Frag} {mg : Str → Option Value} {base : Heap} {x qual : Str} {params : Arguments} {body : List Stmt} {scope : Scope} {dvs : List V} {kws : List (Str × V)} {f : Addr} {fd : FuncData} {N ps : List Str} {k : Nat} {g : Lo → Ev Fl}
    (F : FunD K x qual params body scope dvs kws f fd) (S : FnScope N ps scope)
    (hb : ∀ (cdv : Value) (A : Around) (outer : List Env) (s : Shared) (H : Hp) (E : XK), Room k (A.deeper (PyProof.Rows.envOfC qual scope s.heap.objs.size f cdv)) → Takes (cxOf (L2.CX P w) P w K mg base N qual scope f cdv A outer s H E) (WF E) →
      DSs (cxOf (L2.CX P w) P w K mg base N qual scope f cdv A outer s H E) (WF E) body g) : FnOk P w K mg base (L2.CX P w) (k + 1) f fd ps (spD ⟨K, mg⟩ ps.length (runF N.length g)) := by
  refine F.ok S (fun vs H Q E h => ?_) (fun cdv A outer s H vs Q E hr h => ?_)
  · obtain ⟨Fr, B, as, M, l, rp, rs, hl, _⟩ := h
    rw [rs.length, hl]
  · obtain ⟨Fr, B, as, M, l, rp, rs, hl, h⟩ := h
    obtain ⟨t, p, sd⟩ := hb cdv A outer s H E hr (takes_of rfl rfl rfl rfl)
    refine ⟨t, p, sd Fr B as _ H (startD N.length l) M _ (RS.start rs) rp ((h.bnd.nox (x' := fun _ _ _ _ _ => False)).imp fun fl M1 B1 as1 s1 p1 h1 => ?_)⟩
    cases fl with
    | nx S' => exact fun σ' H' rp' rs' => h1.ret .non H' rp' .non
    | rt d => exact fun v H' rp' rv => h1.ret v H' rp' rv
    | bk S' => exact h1.elim
    | ct S' => exact h1.elim
    | xc c d S' => exact fun σ' cls dx H' rp' rs' xr => h1 B1 as1 (Same.refl _) (List.prefix_refl _) cls dx H' rp' xr
end
end DL

set_option Elab.async false
set_option linter.all false
set_option maxRecDepth 100000
set_option maxHeartbeats 4000000
/-! DL7: calls of own defs, own classes and their instances. -/
namespace DL
open PySem L2
variable [Tb]
section
variable {X : Cx} {W : WX} {e o a b c : Expr} {pos p apos : Pos} {x m f : Str}
abbrev CXX (X : Cx) : CXT := L2.CX X.prog X.w
def callD (n : Nat) (F : List D → Ev D) : List D → Ev D := fun l => if l.length = n then F l else Ev.no
theorem spD_of {Fr B : Hp} {as : List Addr} {σ : St} {H : Hp} {M : Store} {vs : List V} {l : List D} {Q : VK} {n : Nat} {F : List D → Ev D} (rp : Rep (gx X) Fr B as H M) (rs : Rs (gx X) B as vs l) (h : Post B as (callD n F l M) (kD X Fr Q) (kX X Fr W σ)) :
    spD (gx X) n F vs H Q (fun c d H => W c d σ H) := by
  unfold callD at h
  by_cases hl : l.length = n
  · rw [if_pos hl] at h
    exact ⟨Fr, B, as, M, l, rp, rs, hl, h⟩
  · rw [if_neg hl] at h; exact h.elim
theorem de_call {k n : Nat} {fa : Addr} {fd : FuncData} {ps : List Str} {F : List D → Ev D} {es : List Expr} {g : Lo → Ev (List D)} (FO : FnOk X.prog X.w X.K X.mg X.base (CXX X) k fa fd ps (spD (gx X) n F)) (hr : Room k X.A) (hg : Gl X x) (hm : X.mg x = some (.ref fa)) (hk : PySem.W.keepIn X.K (.ref fa) = true) (hb : Binds X.K fd ps [])
    (tk : Takes X W) (ha : DA X W (e :: es) g) (hdb : (x == ("__debug__" : Str)) = false := by decide) (he : starEach (e :: es) X.env = (false, eval e X.env) :: starEach es X.env := by rfl) (hpl : (backTo pos (starEach es X.env)).any (·.1) = false := by rfl) :
    DE X W (.Call (.Name x p) (e :: es) [] pos) (eCall (callD n F) g) := by
  obtain ⟨t, pa, s⟩ := ha
  refine ⟨_, pe_callS (E := WE W) FO hr hg hm hk hb (fun σ => passAt tk σ) pa hdb he hpl, fun Fr B as σ H S M Q rs rp h => ?_⟩
  exact s Fr B as σ H S M _ rs rp (h.bnd.imp fun l M1 B1 as1 s1 p1 h1 vs H1 rp1 r1 => spD_of rp1 r1 h1)
/-- keywords -/
def DK (X : Cx) (W : WX) (kws : List Keyword) (f : Lo → Ev (List D)) : Prop := ∃ t, PK X kws t ∧ ∀ Fr B as σ H S M Q, RS (gx X) B as σ S → Rep (gx X) Fr B as H M → Post B as (f S M) (kA X Fr Q) (kX X Fr W σ) → t σ H Q
theorem dk_nil : DK X W [] eA0 := ⟨_, pk_nil, fun _ _ _ _ _ _ _ _ _ rp h => h.ret [] _ rp .nil⟩
theorem dk_cons {kws : List Keyword} {nm : Option Str} {kpos : Pos} {f : Lo → Ev D} {g : Lo → Ev (List D)} (ha : DE X W e f) (hr : DK X W kws g) : DK X W (⟨nm, e, kpos⟩ :: kws) (eAc f g) := by
  obtain ⟨t, p, s⟩ := ha
  obtain ⟨t', p', s'⟩ := hr
  refine ⟨_, pk_cons p p', fun Fr B as σ H S M Q rs rp h => ?_⟩
  refine s Fr B as σ H S M _ rs rp (h.bnd.imp fun x M1 B1 as1 s1 p1 h1 v H1 rp1 r1 => ?_)
  refine s' Fr B1 as1 σ H1 S M1 _ (rs.mono s1 p1) rp1 (h1.bnd.imp fun l M2 B2 as2 s2 p2 h2 vs H2 rp2 r2 => ?_)
  exact h2.ret _ H2 rp2 (.cons (r1.mono s2 p2) r2)
/-! ### instances -/
theorem Rs.lookup {G : Gx} {B : Hp} {as : List Addr} {f : Str} {d : D} : ∀ {ns : List Str} {vs : List V} {l : List D}, Rs G B as vs l → (ns.zip l).lookup f = some d → ∃ v, (ns.zip vs).lookup f = some v ∧ R G B as v d
  | [], _, _, _, h => by simp at h
  | _ :: _, _, _, .nil, h => by simp at h
  | n :: ns, _, _, .cons r t, h => by
    rw [List.zip_cons_cons, List.lookup_cons] at h ⊢
    cases q : f == n with
    | true => rw [q] at h; cases h; exact ⟨_, rfl, r⟩
    | false => rw [q] at h; exact Rs.lookup t h
theorem zip_none {α : Type} {f : Str} : ∀ {ns : List Str} {vs : List α}, f ∉ ns → (ns.zip vs).lookup f = none
  | [], _, _ => by simp
  | _ :: _, [], _ => by simp
  | n :: ns, v :: vs, h => by
    rw [List.zip_cons_cons, List.lookup_cons]
    have h1 : ¬ f = n := fun z => h (by simp [z])
    have h2 : f ∉ ns := fun z => h (by simp [z])
    rw [beq_eq_false_iff_ne.mpr h1]
    exact zip_none h2
/-- what is known of a class of the text -/
structure ClsD (X : Cx) (cn : Str) (C : Addr) : Prop where
  mg : X.mg cn = some (.ref C)
  cl : Cls X.K C
def fldE (cn f : Str) (x : D) : Ev D := (vw x).bnd fun p => match p.1 with
  | .obj c ns => if c = cn then (match (ns.zip p.2).lookup f with
    | some d => Ev.ret d
    | none => Ev.no) else Ev.no
  | _ => Ev.no
theorem de_fld {cn : Str} {C : Addr} {fo : Lo → Ev D} (c : ClsD X cn C) (na : NoAttr X.K C f) (he : DE X W o fo) (hb : attributeBase o f X.env (eval o X.env) = eval o X.env := by rfl) : DE X W (.Attribute o f pos) (e1 (fldE cn f) fo) := by
  obtain ⟨t, p, s⟩ := he
  refine ⟨_, pe_fld p hb, fun Fr B as σ H S M Q rs rp h => ?_⟩
  refine s Fr B as σ H S M _ rs rp (h.bnd.imp fun x M1 B1 as1 s1 p1 h1 v H1 rp1 r1 => ?_)
  obtain ⟨t, l, q, vs, rfl, fc, rs2, h9, _⟩ := Post.vw (d := x) h1 rp1 r1
  cases t <;> first | exact h9.elim | skip
  rename_i c' ns _
  dsimp only at h9
  by_cases hc : c' = cn
  · rw [if_pos hc] at h9
    subst hc
    obtain ⟨C', dx, mg, hH, hlen⟩ := fc
    cases q2 : (ns.zip l).lookup f with
    | none => rw [q2] at h9; exact h9.elim
    | some d =>
      rw [q2] at h9
      obtain ⟨u, hu, ru⟩ := rs2.lookup q2
      have : C' = C := by
        have e1 := mg.symm.trans c.mg
        cases e1; rfl
      subst this
      exact ⟨q, C', dx, _, u, rfl, hH, c.cl, na, hu, h9.ret u H1 rp1 ru⟩
  · rw [if_neg hc] at h9; exact h9.elim
/-- o.f = e -/
def putD (f : Str) (d : D) : List Str → List D → List Str × List D
  | n :: ns, y :: l => if n = f then (n :: ns, d :: l) else (n :: (putD f d ns l).1, y :: (putD f d ns l).2)
  | _, _ => ([f], [d])
def putW (f : Str) (v : V) : List Str → List V → List V
  | n :: ns, y :: l => if n = f then v :: l else y :: putW f v ns l
  | _, _ => [v]
theorem putF_zip (f : Str) (v : V) (d : D) : ∀ (ns : List Str) (vs : List V) (l : List D), ns.length = vs.length → vs.length = l.length → putF f v (ns.zip vs) = (putD f d ns l).1.zip (putW f v ns vs) ∧ (putD f d ns l).1.length = (putW f v ns vs).length
  | [], [], [], _, _ => ⟨rfl, rfl⟩
  | n :: ns, y :: vs, z :: l, h1, h2 => by
    have ih := putF_zip f v d ns vs l (by simpa using h1) (by simpa using h2)
    rw [List.zip_cons_cons]
    unfold putF putD putW
    by_cases h : n = f
    · rw [if_pos h, if_pos h, if_pos h]
      exact ⟨rfl, by simpa using h1⟩
    · rw [if_neg h, if_neg h, if_neg h, ih.1]
      exact ⟨rfl, by simp [ih.2]⟩
theorem Rs.put {G : Gx} {B : Hp} {as : List Addr} {f : Str} {v : V} {d : D} (r : R G B as v d) : ∀ {ns : List Str} {vs : List V} {l : List D}, Rs G B as vs l → ns.length = vs.length → Rs G B as (putW f v ns vs) (putD f d ns l).2
  | [], _, _, .nil, _ => .cons r .nil
  | n :: ns, _, _, .cons q t, h => by
    unfold putW putD
    by_cases hn : n = f
    · rw [if_pos hn, if_pos hn]; exact .cons r t
    · rw [if_neg hn, if_neg hn]; exact .cons q (Rs.put r t (by simpa using h))
def stE (cn f : Str) (d x : D) : Ev Unit := match x with
  | .ref n => fun M => match M[n]? with
    | some (.obj c ns, l) => if c = cn ∧ ns.length < 1000 then .ok () (M.set n (.obj c (putD f d ns l).1, (putD f d ns l).2)) else .stuck
    | _ => .stuck
  | _ => Ev.no
def sFldD (cn f : Str) (fo fv : Lo → Ev D) : Lo → Ev Fl := fun S => (fv S).fl S fun d => (fo S).fl S fun x => (stE cn f d x).bnd fun _ => Ev.ret (.nx S)
theorem ds_fld {cn : Str} {C : Addr} {fo fv : Lo → Ev D} {pos' : Pos} (c : ClsD X cn C) (na : NoAttr X.K C f) (ho : DE X W o fo) (hv : DE X W e fv) (hs : swapsWith e (some (.Attribute o f pos')) pos.line X.env = pure false := by rfl) : DS X W (.Assign [.Attribute o f pos'] e pos) (sFldD cn f fo fv) := by
  obtain ⟨t, p, s⟩ := ho
  obtain ⟨t', p', s'⟩ := hv
  refine ⟨_, ps_fld p p' hs, fun Fr B as σ H S M D rs rp h => ?_⟩
  refine s' Fr B as σ H S M _ rs rp ((Post.fl rs h).imp fun d M1 B1 as1 s1 p1 h1 y H1 rp1 r1 => ?_)
  refine s Fr B1 as1 σ H1 S M1 _ (rs.mono s1 p1) rp1 ((Post.fl (rs.mono s1 p1) h1).imp fun x M2 B2 as2 s2 p2 h2 v H2 rp2 r2 => ?_)
  have rd := r1.mono s2 p2
  have rs2 := (rs.mono s1 p1).mono s2 p2
  cases r2 <;> first | exact h2.elim | skip
  rename_i n a ha
  have h3 := h2.bnd
  clear h2
  unfold stE at h3
  dsimp only at h3
  cases q : M2[n]? with
  | none => simp only [q] at h3; exact h3.elim
  | some cc =>
    obtain ⟨t, l⟩ := cc
    simp only [q] at h3
    obtain ⟨vs, mc, rsc⟩ := rp2.cell n a _ ha q
    cases t <;> first | exact h3.elim | skip
    rename_i c' ns
    dsimp only at h3
    by_cases hc : c' = cn ∧ ns.length < 1000
    · rw [if_pos hc] at h3
      obtain ⟨hc, hn⟩ := hc
      subst hc
      obtain ⟨C', dx, mg, hH, hlen⟩ := mc
      have : C' = C := by
        have e1 := mg.symm.trans c.mg
        cases e1; rfl
      subst this
      have hlen : ns.length = vs.length := hlen
      obtain ⟨z1, z2⟩ := putF_zip f y d ns vs l hlen rsc.length
      refine ⟨a, C', dx, _, rfl, hH, c.cl, na, by rw [List.length_zip]; omega, ?_⟩
      refine (Post.ok h3).ret σ _ (rp2.write (t := .obj c' (putD f d ns l).1) (vs := putW f y ns vs) ha ?_ (rsc.put rd hlen)) rs2
      exact ⟨C', dx, mg, by rw [upd_same, z1], z2⟩
    · rw [if_neg hc] at h3; exact h3.elim
/-- o.m(..) -/
def isObj (cn m : Str) (x : D) : Ev Unit := (vw x).bnd fun p => match p.1 with
  | .obj c ns => if c = cn ∧ m ∉ ns then Ev.ret () else Ev.no
  | _ => Ev.no
theorem Post.isObj {α : Type} {Fr B : Hp} {as : List Addr} {d : D} {cn m : Str} {C : Addr} {f : Unit → Ev α} {M : Store} {H : Hp} {v : V} {k : α → Store → Hp → List Addr → Prop} {x : Str → D → Store → Hp → List Addr → Prop} (h : Post B as (((DL.isObj cn m d).bnd f) M) k x)
    (c : ClsD X cn C) (rp : Rep (gx X) Fr B as H M) (r : R (gx X) B as v d) : ∃ a dx fs, v = .ref a ∧ H a = some (.ins C dx fs) ∧ fs.lookup m = none ∧ Post B as (f () M) k x := by
  unfold DL.isObj at h
  rw [bnd_bnd] at h
  obtain ⟨t, l, q, vs, rfl, fc, rs2, h9, _⟩ := Post.vw (d := d) h rp r
  cases t <;> first | exact h9.elim | skip
  rename_i c' ns _
  dsimp only at h9
  by_cases hc : c' = cn ∧ m ∉ ns
  · rw [if_pos hc] at h9
    obtain ⟨hc, hn⟩ := hc
    subst hc
    obtain ⟨C', dx, mg, hH, hlen⟩ := fc
    have : C' = C := by
      have e1 := mg.symm.trans c.mg
      cases e1; rfl
    subst this
    exact ⟨q, dx, _, rfl, hH, zip_none hn, h9⟩
  · rw [if_neg hc] at h9; exact h9.elim
def eMeth (cn m : Str) (n : Nat) (F : List D → Ev D) (dd : List D) (fo : Lo → Ev D) (fa : Lo → Ev (List D)) : Lo → Ev D := fun S => (fo S).bnd fun x => (isObj cn m x).bnd fun _ => (fa S).bnd fun l => callD n F (x :: (l ++ dd))
theorem de_meth0 {E : XK} {cn : Str} {C : Addr} {k n : Nat} {fa : Addr} {fd : FuncData} {ps : List Str} {F : List D → Ev D} {pl : Sem Bool} {dvs : List V} {ds : List Value} {dd : List D} {fo : Lo → Ev D} (c : ClsD X cn C) (hm : Meth X.K C m fa) (FO : FnOk X.prog X.w X.K X.mg X.base (CXX X) k fa fd ps (spD (gx X) n F)) (hr : Room k X.A) (hb : Binds X.K fd ps ds) (hd : Vals dvs ds) (hdd : ∀ B as, Rs (gx X) B as dvs dd) (hx : Passes (CXX X) X E)
    (ho : DE X (WF E) o fo)
    (ht : eval (.Call (.Attribute o m apos) [] [] pos) X.env = (do
      let ov ← eval o X.env
      standAt apos.atName
      let (f, first) ← holding [ov] (getMethod ov m pl)
      callWith pos f first (backTo pos (starEach [] X.env)) (backToKw pos (keywordEach [] X.env))) := by rfl) :
    DE X (WF E) (.Call (.Attribute o m apos) [] [] pos) (eMeth cn m n F dd fo eA0) := by
  obtain ⟨t, p, s⟩ := ho
  refine ⟨_, pe_meth0 (pl := pl) p c.cl hm FO hr hb hd hx ht, fun Fr B as σ H S M Q rs rp h => ?_⟩
  refine s Fr B as σ H S M _ rs rp (h.bnd.imp fun x M1 B1 as1 s1 p1 h1 v H1 rp1 r1 => ?_)
  obtain ⟨a, dx, fs, rfl, hH, hl, h1⟩ := h1.isObj c rp1 r1
  refine ⟨a, dx, fs, rfl, hH, hl, ?_⟩
  exact spD_of (W := WF E) (σ := σ) rp1 (.cons r1 (hdd B1 as1)) h1
/-- C(..) -/
def makeD (cn : Str) (F : List D → Ev D) (gD : D → List D) : Ev D := fun M => match F (gD (.ref M.length)) (M ++ [(.obj cn [], [])]) with
  | .ok .non M' => .ok (.ref M.length) M'
  | .exc c d M' => .exc c d M'
  | _ => .stuck
theorem make_of {cn : Str} {C : Addr} {n : Nat} {F : List D → Ev D} {Fr B : Hp} {as : List Addr} {σ : St} {H : Hp} {M : Store} {Q : VK} {E : XK} {gV : V → List V} {gD : D → List D} (c : ClsD X cn C) (rp : Rep (gx X) Fr B as H M) (hl : ∀ d, (gD d).length = n)
    (hD : ∀ B' as' v d, Same B B' → as <+: as' → R (gx X) B' as' v d → Rs (gx X) B' as' (gV v) (gD d)) (h : Post B as (makeD cn F gD M) (kD X Fr Q) (kX X Fr (WF E) σ)) :
    ∀ x dx, H x = none → H dx = none → dx ≠ x → spD (gx X) n F (gV (.ref x)) (upd (upd H dx (.own x)) x (.ins C dx [])) (fun v H2 => v = .non ∧ Q (.ref x) H2) E := by
  intro x dx hx hdx hne
  have hx' : (upd H dx (.own x)) x = none := by rw [upd_ne (Ne.symm hne)]; exact hx
  have rp1 := (rp.laid (o := .own x) hdx).push (t := .obj cn []) (vs := []) (l := []) (o := .ins C dx []) hx' ⟨C, dx, c.mg, upd_same, rfl⟩ .nil
  have hr : (as ++ [x])[M.length]? = some x := by rw [← rp.len]; simp
  refine ⟨Fr, B, as ++ [x], M ++ [(.obj cn [], [])], gD (.ref M.length), rp1, hD B (as ++ [x]) _ _ (Same.refl _) pre_push (.ref hr), hl _, ?_⟩
  unfold makeD at h
  cases q : F (gD (.ref M.length)) (M ++ [(.obj cn [], [])]) with
  | stuck => rw [q] at h; exact h
  | exc c d M' => rw [q] at h; exact fun B1 as1 e1 p1 cls d1 H1 rp1 xr => h B1 as1 e1 (pre_push.trans p1) cls d1 H1 rp1 xr
  | ok d M' =>
    rw [q] at h
    cases d <;> first | exact h.elim | skip
    intro B1 as1 e1 p1 v H1 rp1 rv
    cases rv
    exact ⟨rfl, h B1 as1 e1 (pre_push.trans p1) _ H1 rp1 (.ref (pre_get p1 hr))⟩
def eMake (cn : Str) (n i j : Nat) (gD : D → List D → List D → List D) (F : List D → Ev D) (f g : Lo → Ev (List D)) : Lo → Ev D := fun S => (f S).bnd fun l => (g S).bnd fun z => if l.length = i ∧ z.length = j then makeD cn F (fun d => gD d l z) else Ev.no
theorem de_makeN {E : XK} {cn : Str} {C : Addr} {k n i j : Nat} {fI : Addr} {fd : FuncData} {ps ks : List Str} {F : List D → Ev D} {es : List Expr} {kws : List Keyword} {gv : List Value → List Value → List Value} {gV : List V → List V → List V} {gD : D → List D → List D → List D} {g gk : Lo → Ev (List D)} (c : ClsD X cn C) (Mk' : Mk X.K C fI) (FO : FnOk X.prog X.w X.K X.mg X.base (CXX X) k fI fd ps (spD (gx X) n F)) (hr : Room (k + 1) X.A) (hg : Gl X cn) (hb : KBn X.K fd ps (i + 1) ks gv gV)
    (hn : ∀ d l z, l.length = i → z.length = ks.length → (gD d l z).length = n) (hD : ∀ B as v d vs zs l z, R (gx X) B as v d → Rs (gx X) B as vs l → Rs (gx X) B as zs z → Rs (gx X) B as (gV (v :: vs) zs) (gD d l z)) (hx : Passes (CXX X) X E) (ha : DA X (WF E) (e :: es) g) (hkw : DK X (WF E) kws gk)
    (hall : (backToKw pos (keywordEach kws X.env)).all (·.1.isSome) = true := by rfl) (hks : (backToKw pos (keywordEach kws X.env)).filterMap (·.1) = ks := by rfl)
    (hdb : (cn == ("__debug__" : Str)) = false := by decide) (he : starEach (e :: es) X.env = (false, eval e X.env) :: starEach es X.env := by rfl)
    (hpl : ((backTo pos (starEach (e :: es) X.env)).any (·.1) || (backToKw pos (keywordEach kws X.env)).any (·.1.isNone)) = false := by rfl) (hj : ks.length = j := by rfl) :
    DE X (WF E) (.Call (.Name cn p) (e :: es) kws pos) (eMake cn n i j gD F g gk) := by
  subst hj
  obtain ⟨t, pa, s⟩ := ha
  obtain ⟨t', pk, s'⟩ := hkw
  refine ⟨_, pe_makeN Mk' FO hr hg c.mg hb hx pa pk hall hks hdb he hpl, fun Fr B as σ H S M Q rs rp h => ?_⟩
  refine s Fr B as σ H S M _ rs rp (h.bnd.imp fun l M1 B1 as1 s1 p1 h1 vs H1 rp1 r1 => ?_)
  refine s' Fr B1 as1 σ H1 S M1 _ (rs.mono s1 p1) rp1 (h1.bnd.imp fun z M2 B2 as2 s2 p2 h2 zs H2 rp2 r2 => ?_)
  by_cases hl : l.length = i ∧ z.length = ks.length
  · rw [if_pos hl] at h2
    refine ⟨by rw [r1.length, hl.1], by rw [r2.length, hl.2], ?_⟩
    exact make_of (gV := fun v => gV (v :: vs) zs) (gD := fun d => gD d l z) c rp2 (fun d => hn d l z hl.1 hl.2) (fun B3 as3 v d e3 p3 r3 => hD B3 as3 v d vs zs l z r3 (r1.mono s2 p2 |>.mono e3 p3) (r2.mono e3 p3)) h2
  · rw [if_neg hl] at h2; exact h2.elim
end
end DL

set_option Elab.async false
set_option linter.all false
set_option maxRecDepth 100000
set_option maxHeartbeats 4000000
/-! DL8: dicts, isinstance, truth, short words. -/
namespace DL
open PySem L2
variable [Tb]
/-! ### pairs -/
def pk {α : Type} (kd : List (Key × α)) (k : Key) (d : α) : List (Key × α) :=
  if (kd.any fun p => decide (p.1 = k)) = true then kd.map (fun p => if p.1 = k then (p.1, d) else p) else kd ++ [(k, d)]
def vd {α : Type} (kd : List (Key × α)) (k : Key) : Option α := (kd.find? fun p => decide (p.1 = k)).map (·.2)
inductive RK (G : Gx) (B : Hp) (as : List Addr) : List (Key × V) → List (Key × D) → Prop
  | nil : RK G B as [] []
  | cons {k : Key} {v : V} {d : D} {kv : List (Key × V)} {kd : List (Key × D)} : R G B as v d → RK G B as kv kd → RK G B as ((k, v) :: kv) ((k, d) :: kd)
section
variable {G : Gx} {B B' : Hp} {as as' : List Addr}
theorem RK.mono (e : Same B B') (p : as <+: as') : ∀ {kv : List (Key × V)} {kd : List (Key × D)}, RK G B as kv kd → RK G B' as' kv kd
  | _, _, .nil => .nil
  | _, _, .cons r t => .cons (r.mono e p) (RK.mono e p t)
theorem RK.keys : ∀ {kv : List (Key × V)} {kd : List (Key × D)}, RK G B as kv kd → kv.map (·.1) = kd.map (·.1)
  | _, _, .nil => rfl
  | _, _, .cons _ t => by simp [RK.keys t]
theorem RK.len : ∀ {kv : List (Key × V)} {kd : List (Key × D)}, RK G B as kv kd → kv.length = kd.length
  | _, _, .nil => rfl
  | _, _, .cons _ t => by simp [RK.len t]
theorem zip_self {α β : Type} : ∀ kv : List (α × β), (kv.map (·.1)).zip (kv.map (·.2)) = kv
  | [] => rfl
  | (a, b) :: r => by simp [zip_self r]
theorem RK.dct {kv : List (Key × V)} {kd : List (Key × D)} (r : RK G B as kv kd) : (kd.map (·.1)).zip (kv.map (·.2)) = kv ∧ (kd.map (·.1)).length = (kv.map (·.2)).length := by
  rw [← r.keys]
  exact ⟨zip_self kv, by simp⟩
theorem RK.any {k : Key} : ∀ {kv : List (Key × V)} {kd : List (Key × D)}, RK G B as kv kd → (kv.any fun p => decide (p.1 = k)) = (kd.any fun p => decide (p.1 = k))
  | _, _, .nil => rfl
  | _, _, .cons _ t => by simp only [List.any_cons, RK.any t]
theorem RK.app : ∀ {kv kv' : List (Key × V)} {kd kd' : List (Key × D)}, RK G B as kv kd → RK G B as kv' kd' → RK G B as (kv ++ kv') (kd ++ kd')
  | _, _, _, _, .nil, q => q
  | _, _, _, _, .cons r t, q => .cons r (RK.app t q)
theorem RK.map {k : Key} {v : V} {d : D} (r : R G B as v d) : ∀ {kv : List (Key × V)} {kd : List (Key × D)}, RK G B as kv kd → RK G B as (kv.map fun p => if p.1 = k then (p.1, v) else p) (kd.map fun p => if p.1 = k then (p.1, d) else p)
  | _, _, .nil => .nil
  | _, _, .cons (k := k') q t => by
    simp only [List.map_cons]
    by_cases h : k' = k
    · simp only [if_pos h]; exact .cons r (RK.map r t)
    · simp only [if_neg h]; exact .cons q (RK.map r t)
theorem RK.put {k : Key} {v : V} {d : D} {kv : List (Key × V)} {kd : List (Key × D)} (h : RK G B as kv kd) (r : R G B as v d) : RK G B as (putK kv k v) (pk kd k d) := by
  unfold putK pk
  rw [h.any]
  by_cases c : (kd.any fun p => decide (p.1 = k)) = true
  · rw [if_pos c, if_pos c]; exact h.map r
  · rw [if_neg c, if_neg c]; exact h.app (.cons r .nil)
theorem RK.val {k : Key} {d : D} : ∀ {kv : List (Key × V)} {kd : List (Key × D)}, RK G B as kv kd → vd kd k = some d → ∃ v, valV kv k = some v ∧ R G B as v d
  | _, _, .nil, h => by simp [vd] at h
  | _, _, .cons (k := k') q t, h => by
    by_cases c : k' = k
    · subst c
      simp [vd] at h
      subst h
      exact ⟨_, valV_pos rfl, q⟩
    · rw [valV_neg c]
      exact RK.val t (by simpa [vd, c] using h)
theorem RK.has {k : Key} : ∀ {kv : List (Key × V)} {kd : List (Key × D)}, RK G B as kv kd → (valV kv k).isSome = (vd kd k).isSome
  | _, _, .nil => rfl
  | _, _, .cons (k := k') q t => by
    by_cases c : k' = k
    · subst c; rw [valV_pos rfl]; simp [vd]
    · rw [valV_neg c, RK.has t]; simp [vd, c]
end
section
variable {X : Cx} {W : WX} {e o a b c i : Expr} {pos p apos cpos : Pos} {x m f : Str}
/-! ### d[k], k in d -/
/-! ### d[k] = v -/
/-! ### {} and {k: v, ..} -/
theorem kX_frame {Fr : Hp} {σ : St} {z : Addr} {o : HO} (hF : Fr z = none) {c : Str} {d : D} {M : Store} {B : Hp} {as : List Addr} (h : kX X Fr W σ c d M B as) : kX X (upd Fr z o) W σ c d M B as := fun cls dx H rp xr => h cls dx H (rp.outFrame hF) xr
theorem Post.frame {α : Type} {Fr B : Hp} {as : List Addr} {σ : St} {z : Addr} {o : HO} {m : Out α} {k : α → Store → Hp → List Addr → Prop} (hF : Fr z = none) (h : Post B as m k (kX X Fr W σ)) : Post B as m k (kX X (upd Fr z o) W σ) := by
  cases m with
  | ok a M => exact h
  | exc c d M => exact fun B2 as2 e2 p2 => kX_frame hF (h B2 as2 e2 p2)
  | stuck => exact h
end
end DL

set_option Elab.async false
set_option linter.all false
set_option maxRecDepth 100000
set_option maxHeartbeats 4000000
/-! DL8T: sorted of a tuple. -/
namespace DL
open PySem PySem.Spec PyProof.Rows L2
variable [Tb]
section
variable {X : Cx}
end
end DL

set_option Elab.async false
set_option linter.all false
set_option maxRecDepth 100000
set_option maxHeartbeats 4000000
/-! DL9: dict comprehensions, update, sorted, truth, isinstance, parallel stores, short words, the end. -/
namespace DL
open PySem L2
variable [Tb]
section
variable {X : Cx} {W : WX} {e o a b c i : Expr} {pos p apos cpos : Pos} {x m f : Str}
/-! ### {k: v for ..} -/
/-! ### d.update(d2) -/
/-! ### sorted -/
abbrev srt (ns : List Int) : List Int := ns.mergeSort (fun a b => decide (a ≤ b))
/-! ### truth -/
def truE (x : D) : Ev Bool := match x with
  | .non => Ev.ret false
  | .bl b => Ev.ret b
  | .int i => Ev.ret (i != 0)
  | .str y => if y.length ≤ sizeLine then Ev.ret ((y.length : Int) != 0) else Ev.no
  | _ => (vw x).bnd fun p => match p.1 with
    | .lst => Ev.ret (!p.2.isEmpty)
    | .slst => Ev.ret (!p.2.isEmpty)
    | .tup => Ev.ret (!p.2.isEmpty)
    | .dct ks => if ks.length = p.2.length then Ev.ret (!p.2.isEmpty) else Ev.no
    | _ => Ev.no
def eTru (f : Lo → Ev D) : Lo → Ev Bool := fun S => (f S).bnd truE
theorem Rs.empty {G : Gx} {B : Hp} {as : List Addr} {vs : List V} {l : List D} (r : Rs G B as vs l) : vs.isEmpty = l.isEmpty := by cases r <;> rfl
theorem dt_truth {g : Lo → Ev D} (h : DE X W e g) (he : ∀ whole, isTrue e X.env whole = (do let v ← whole; standAt e.pos; holding [v] (truthy v)) := by intro _; rfl) : DT X W e (eTru g) := by
  obtain ⟨t, p, s⟩ := h
  refine ⟨_, pt_truth p he, fun Fr B as σ H S M Q rs rp h => ?_⟩
  refine s Fr B as σ H S M _ rs rp (h.bnd.imp fun x M1 B1 as1 s1 p1 h1 v H1 rp1 r1 => ?_)
  have gen : Post B1 as1 (((vw x).bnd fun p => match p.1 with
    | .lst => Ev.ret (!p.2.isEmpty)
    | .slst => Ev.ret (!p.2.isEmpty)
    | .tup => Ev.ret (!p.2.isEmpty)
    | .dct ks => if ks.length = p.2.length then Ev.ret (!p.2.isEmpty) else Ev.no
    | _ => Ev.no) M1) (kB X Fr Q) (kX X Fr W σ) → ∃ k, TruV X.K v H1 k ∧ Q k H1 := fun h1 => by
    obtain ⟨t, l, q, vs, rfl, fc, rs2, h9, _⟩ := Post.vw (d := x) h1 rp1 r1
    cases t <;> first | exact h9.elim | skip
    · exact ⟨_, .inl ⟨vs, SqL.of fc, by rw [rs2.empty]⟩, h9.ret H1 rp1⟩
    · exact ⟨_, .inl ⟨vs, fc, by rw [rs2.empty]⟩, h9.ret H1 rp1⟩
    · exact ⟨_, .inr (.inl ⟨vs, fc, by rw [rs2.empty]⟩), h9.ret H1 rp1⟩
    · rename_i ks _
      dsimp only at h9
      by_cases hc : ks.length = l.length
      · rw [if_pos hc] at h9
        refine ⟨_, .inr (.inr ⟨_, fc.1, ?_⟩), h9.ret H1 rp1⟩
        have h2 := fc.2
        cases rs2 with
        | nil => cases ks <;> first | rfl | (simp at h2)
        | cons _ _ => cases ks <;> first | rfl | (simp at h2)
      · rw [if_neg hc] at h9; exact h9.elim
  cases r1 with
  | non => exact ⟨false, rfl, h1.ret H1 rp1⟩
  | bl b => exact ⟨b, rfl, h1.ret H1 rp1⟩
  | int i => exact ⟨_, rfl, h1.ret H1 rp1⟩
  | str y =>
    have h1 : Post B1 as1 ((if y.length ≤ sizeLine then Ev.ret ((y.length : Int) != 0) else Ev.no) M1) (kB X Fr Q) (kX X Fr W σ) := h1
    by_cases hc : y.length ≤ sizeLine
    · rw [if_pos hc] at h1; exact ⟨_, ⟨hc, rfl⟩, h1.ret H1 rp1⟩
    · rw [if_neg hc] at h1; exact h1.elim
  | ty n => exact h1.elim
  | gl h => exact h1.elim
  | ref h => exact gen h1
  | nd a b => exact gen h1
/-! ### isinstance of data, built-in classes -/
def tyS : Tg → Option String
  | .lst => some "list"
  | .slst => some "list"
  | .tup => some "tuple"
  | .dct _ => some "dict"
  | .fdct _ => some "dict"
  | _ => none
def tyN (x : D) : Ev String := match x with
  | .non => Ev.ret "NoneType"
  | .bl _ => Ev.ret "bool"
  | .int _ => Ev.ret "int"
  | .str _ => Ev.ret "str"
  | _ => (vw x).bnd fun p => optE (tyS p.1)
def isiB (t T : String) : Option Bool := kitB t T
def isiE (x y : D) : Ev D := (tyN x).bnd fun t => match y with
  | .ty T => (optE (isiB t T)).bnd fun b => Ev.ret (.bl b)
  | _ => Ev.no
def tysOf : List D → Option (List String)
  | [] => some []
  | .ty n :: l => (tysOf l).map (n :: ·)
  | _ => none
def isiA (t : String) : List String → Option Bool
  | [] => some false
  | T :: Ts => match isiB t T with
    | some true => some true
    | some false => isiA t Ts
    | none => none
def isiTE (x y : D) : Ev D := (tyN x).bnd fun t => (vw y).bnd fun p => match p.1, tysOf p.2 with
  | .tup, some Ts => (optE (isiA t Ts)).bnd fun b => Ev.ret (.bl b)
  | _, _ => Ev.no
theorem Post.tyN {α : Type} {Fr B : Hp} {as : List Addr} {d : D} {g : String → Ev α} {M : Store} {H : Hp} {v : V} {k : α → Store → Hp → List Addr → Prop} {x : Str → D → Store → Hp → List Addr → Prop} (h : Post B as (((DL.tyN d).bnd g) M) k x)
    (rp : Rep (gx X) Fr B as H M) (r : R (gx X) B as v d) : ∃ t, TyX X.K H v (.type t) ∧ Post B as (g t M) k x := by
  have gen : Post B as ((((DL.vw d).bnd fun p => optE (tyS p.1)).bnd g) M) k x → ∃ t, TyX X.K H v (.type t) ∧ Post B as (g t M) k x := fun h => by
    rw [bnd_bnd] at h
    obtain ⟨t, l, q, vs, rfl, fc, rs2, h9, _⟩ := Post.vw (d := d) h rp r
    cases t with
    | lst => exact ⟨"list", .base (.lst fc), h9⟩
    | slst =>
      refine ⟨"list", ?_, h9⟩
      rcases fc with (fc | ⟨o, fc⟩) | ⟨o, its, n, e, c, _⟩
      · exact .base (.lst fc)
      · exact .base (.frz fc)
      · exact .kList e c
    | tup =>
      refine ⟨"tuple", ?_, h9⟩
      rcases fc with (fc | ⟨o, fc⟩) | ⟨o, its, n, e, c, _⟩
      · exact .base (.tup fc)
      · exact .fTuple fc
      · exact .kTuple e c
    | dct ks => exact ⟨"dict", .base (.dK fc.1), h9⟩
    | fdct ks => obtain ⟨o, q⟩ := fc.1; exact ⟨"dict", .fDict q, h9⟩
    | obj c ns => exact h9.elim
    | fn k => exact h9.elim
    | iset => exact h9.elim
  cases r with
  | non => exact ⟨_, .base .non, h⟩
  | bl b => exact ⟨_, .base (.bl b), h⟩
  | int i => exact ⟨_, .base (.int i), h⟩
  | str y => exact ⟨_, .base (.str y), h⟩
  | ty n => exact h.elim
  | gl _ => exact h.elim
  | ref _ => exact gen h
  | nd _ _ => exact gen h
theorem tysOf_ok {G : Gx} {B : Hp} {as : List Addr} : ∀ {l : List D} {vs : List V} {Ts : List String}, Rs G B as vs l → tysOf l = some Ts → vs = Ts.map V.ty
  | [], _, _, .nil, h => by cases h; rfl
  | .ty n :: l, _, _, .cons r t, h => by
    unfold tysOf at h
    cases q : tysOf l with
    | none => rw [q] at h; cases h
    | some ms => rw [q] at h; cases h; cases r; rw [tysOf_ok t q]; rfl
  | .non :: _, _, _, _, h | .bl _ :: _, _, _, _, h | .int _ :: _, _, _, _, h | .str _ :: _, _, _, _, h | .gl _ :: _, _, _, _, h | .ref _ :: _, _, _, _, h | .nd _ _ :: _, _, _, _, h => by cases h
theorem isiA_ok {K : PySem.W.Frag} {t : String} : ∀ {Ts : List String} {b : Bool}, isiA t Ts = some b → PySem.W.kitAny K (.type t) (Ts.map Value.type) = some b
  | [], _, h => by cases h; rfl
  | T :: Ts, b, h => by
    unfold isiA at h
    cases q : isiB t T with
    | none => rw [q] at h; cases h
    | some c =>
      rw [q] at h
      cases c with
      | true => cases h; exact kitAny_cons (kit_ty q) (fun z => by cases z) (fun _ => rfl)
      | false => exact kitAny_cons (kit_ty q) (fun _ => isiA_ok h) (fun z => by cases z)
/-- isinstance(x, T), T a tuple of classes, however it stands -/
def rIsiS (K : PySem.W.Frag) : List V → Hp → VK → Prop := fun xs H Q => ∃ (x : V) (tp : Addr) (Ts : List String) (t : Value) (b : Bool), xs = [x, .ref tp] ∧ SqT K H tp (Ts.map V.ty) ∧ TyX K H x t ∧ PySem.W.kitAny K t (Ts.map Value.type) = some b ∧ Q (.bl b) H
theorem vals_ty : ∀ {Ts : List String} {us : List Value}, Vals (Ts.map V.ty) us → us = Ts.map Value.type
  | [], _, .nil => rfl
  | T :: Ts, _, .cons r t => by
    rw [vals_ty t, List.map_cons]
    have : _ = Value.type T := r
    rw [this]
theorem call_isiS : CallR X (.builtin "isinstance") (rIsiS X.K) := by
  intro pins s σ H xs us Q I r h
  obtain ⟨x, tp, Ts, t, b, rfl, hT, ty, e, q⟩ := h
  obtain ⟨u1, u2, rfl, r1, r2⟩ := vals2 r
  cases (show u2 = Value.ref tp from r2)
  obtain ⟨P, Z, p, hx⟩ := kit_of I r1 ty
  obtain ⟨its, rv, ⟨o, h1, h2, n, h3⟩, _⟩ := I.tuple hT
  have e3 := vals_ty rv
  subst e3
  obtain ⟨oc, od, dt, sl⟩ := o
  simp only at h2 h3
  subst h2 h3
  exact PySem.W.kia_tup Z I.kIn p h1 e hx fun tk => ⟨.bl b, H, I.tok tk, rfl, q⟩
variable {fa : Lo → Ev (List D)}
theorem de_isi (hg : Gl X "isinstance") (hm : X.mg "isinstance" = none) (ha : DA X W [a, b] fa) (he : starEach [a, b] X.env = (false, eval a X.env) :: starEach [b] X.env := by rfl) (hpl : (backTo pos (starEach [b] X.env)).any (·.1) = false := by rfl) : DE X W (.Call (.Name "isinstance" p) [a, b] [] pos) (eCall (op2 isiE) fa) :=
  de_callB call_isi (oN2 fun Fr B as σ H M v w d e Q rp r1 r2 h => by
    obtain ⟨t, ty, h9⟩ := Post.tyN (d := d) h rp r1
    clear h
    cases r2 <;> first | exact h9.elim | skip
    rename_i T
    dsimp only at h9
    cases q : isiB t T with
    | none => rw [q] at h9; exact h9.elim
    | some b => rw [q] at h9; exact ⟨v, _, _, _, b, rfl, .ty T, ty, kit_ty q, (Post.ret (a := D.bl b) h9) _ H rp (.bl b)⟩) hg hm (by decide +kernel) ha (by decide) (by decide) he hpl
theorem de_isiT (hg : Gl X "isinstance") (hm : X.mg "isinstance" = none) (ha : DA X W [a, b] fa) (he : starEach [a, b] X.env = (false, eval a X.env) :: starEach [b] X.env := by rfl) (hpl : (backTo pos (starEach [b] X.env)).any (·.1) = false := by rfl) : DE X W (.Call (.Name "isinstance" p) [a, b] [] pos) (eCall (op2 isiTE) fa) :=
  de_callB call_isiS (oN2 fun Fr B as σ H M v w d e Q rp r1 r2 h => by
    obtain ⟨t, ty, h⟩ := Post.tyN (d := d) h rp r1
    obtain ⟨tt, l, p, vs, rfl, fc, rs, h, _⟩ := Post.vw (d := e) h rp r2
    cases tt <;> first | exact h.elim | skip
    dsimp only at h
    cases q : tysOf l with
    | none => rw [q] at h; exact h.elim
    | some Ts =>
      rw [q] at h
      dsimp only at h
      cases q2 : isiA t Ts with
      | none => rw [q2] at h; exact h.elim
      | some b =>
        rw [q2] at h
        have := tysOf_ok rs q
        subst this
        exact ⟨v, p, Ts, _, b, rfl, fc, ty, isiA_ok q2, (Post.ret (a := D.bl b) h) _ H rp (.bl b)⟩) hg hm (by decide +kernel) ha (by decide) (by decide) he hpl
/-! ### a, b = x, y (two local names); y = [..] -/
end
end DL

set_option Elab.async false
set_option linter.all false
set_option maxRecDepth 100000
set_option maxHeartbeats 4000000
/-! DLA: short words for printed derivations, the law's own def, the end. -/
namespace DL
open PySem L2
variable [Tb]
section
variable {X : Cx} {W : WX} {e o a b c i : Expr} {pos p apos cpos : Pos} {x m f : Str}
theorem dv (i : Nat) (hN : X.N[i]? = some x := by rfl) (hv : Vis X.env.scope x := by first | exact Or.inl rfl | exact Or.inr (Or.inl rfl) | exact Or.inr (Or.inr rfl)) (hd : (x == ("__debug__" : Str)) = false := by decide) (hcd : (x == ("__classdict__" : Str)) = false := by decide) : DE X W (.Name x pos) (eVar i) := de_var hN hv hd hcd
theorem gn (i : Nat) (hN : X.N.Nodup) (hi : X.N[i]? = some x := by rfl) (hx : Loc X.env.scope x := by first | exact Or.inl rfl | exact Or.inr rfl) (hf : X.fn x = true ∨ X.env.scope.names.lookup x = some .local := by first | exact .inl rfl | exact .inr rfl) : DG X W (.Name x pos) [i] (gNm i) := dg_name hN hi hx hf
theorem st (i : Nat) {g : Lo → Ev D} {pos' : Pos} (hN : X.N.Nodup) (he : DE X W e g) (hi : X.N[i]? = some x := by rfl) (hx : Loc X.env.scope x := by first | exact Or.inl rfl | exact Or.inr rfl) (hs : swapsWith e (some (.Name x pos')) pos.line X.env = pure false := by rfl) (hf : X.fn x = true ∨ X.env.scope.names.lookup x = some .local := by first | exact .inl rfl | exact .inr rfl) :
    DS X W (.Assign [.Name x pos'] e pos) (sAsg g (gNm i)) := ds_set hN hi hx he hs hf
theorem rs_mem {l : List Nat} {ps : List Nat} (h : (ps.all fun i => decide (i ∈ l)) = true) : ∀ i ∈ ps, i ∈ l := fun i hi => of_decide_eq_true (List.all_eq_true.mp h i hi)
theorem de_append {fo : Lo → Ev D} {fa : Lo → Ev (List D)} (ho : DE X W o fo) (ha : DA X W [e] fa) (hbase : attributeBase o "append" X.env (eval o X.env) = eval o X.env := by rfl)
    (hfew : ((backTo cpos (starEach [e] X.env)).all (fun x => !x.1) && (backToKw cpos (keywordEach [] X.env)).all (fun x => x.1.isSome)
      && decide ([e].length + ([] : List Keyword).length + (if ([] : List Keyword).isEmpty then 0 else 1) < 30)) = true := by rfl)
    (hline : (apos.endLine == cpos.line) = true := by rfl) (hs : starEach [e] X.env = (false, eval e X.env) :: starEach [] X.env := by rfl) (hplain : (backTo cpos (starEach [] X.env)).any (·.1) = false := by rfl) :
    DE X W (.Call (.Attribute o "append" apos) [e] [] cpos) (eBm (cellM opAppend) fo fa) := de_bm PySem.F.slot_list_append PySem.F.type_list_append mt_append m_append ho ha hbase hfew hline hs hplain
theorem hp_of {P : Program} {w : World} {K : PySem.W.Frag} {mg : Str → Option Value} {base : Heap} {CX : CXT} {N : List Str} {qual : Str} {scope : Scope} {f : Addr} {cd : Value} {A : Around} {outer : List Env} {s : Shared} {H : Hp} {E : XK} :
    PassesOwn (model P w) (cxOf CX P w K mg base N qual scope f cd A outer s H E).A (cxOf CX P w K mg base N qual scope f cd A outer s H E).env (cxOf CX P w K mg base N qual scope f cd A outer s H E).xe := passes_of (X := cxOf CX P w K mg base N qual scope f cd A outer s H E) rfl
/-! ### the law's own def: nothing is let out -/
def spL (G : Gx) (n : Nat) (F : List D → Ev D) : Sp := fun vs H Q _ => ∃ Fr B as M l, Rep G Fr B as H M ∧ Rs G B as vs l ∧ l.length = n ∧
  Post B as (F l M) (fun d M' B' as' => ∀ v H', Rep G Fr B' as' H' M' → R G B' as' v d → Q v H') (fun _ _ _ _ _ => False)
/-- all but the tables -/
def noTb (H : Hp) : Hp := fun b => match H b with
  | some (.tbl _) => none
  | o => o
theorem noTb_at {H : Hp} {b : Addr} {o : HO} (h : H b = some o) (ho : ∀ ps, o ≠ .tbl ps) : noTb H b = some o := by
  unfold noTb
  rw [h]
  cases o <;> first | rfl | exact (ho _ rfl).elim
theorem noTb_sub {H : Hp} : Same (noTb H) H := fun b o e => by
  unfold noTb at e
  split at e
  · cases e
  · exact e
theorem noTb_no {H : Hp} : NoT (noTb H) := fun b ps e => by
  have h := noTb_sub b _ e
  unfold noTb at e
  rw [h] at e
  cases e
/-- the script -/
abbrev scr (ns : List Int) : D := .nd .slst (ns.map D.int)
theorem spL_script {K : PySem.W.Frag} {mg : Str → Option Value} {F : List D → Ev D} {H : Hp} {a : Addr} {ns : List Int} {M' : Store} (hS : SqL K H a (ns.map V.int)) (h : F [scr ns] [] = .ok (.bl true) M') (hT : LamX.Tabs (Tb.T K) H := by intro p hp; cases hp) : spL ⟨K, mg⟩ 1 F [.ref a] H (fun v _ => v = .bl true) (fun _ _ _ => False) := by
  obtain ⟨B, hB, hS', hn⟩ : ∃ B : Hp, Same B H ∧ SqL K B a (ns.map V.int) ∧ NoB B := by
    have one : ∀ o : HO, H a = some o → (∀ ps, o ≠ .tbl ps) → (∀ ob f, o ≠ .frz ob (.ext f)) → Same (L2.upd (fun _ => none) a o) H ∧ NoB (L2.upd (fun _ => none) a o) := fun o e h1 h2 => by
      have at_ : ∀ b u, L2.upd (fun _ => none) a o b = some u → b = a ∧ u = o := fun b u q => by
        by_cases hb : b = a
        · subst hb; rw [upd_same] at q; exact ⟨rfl, (Option.some.inj q).symm⟩
        · rw [upd_ne hb] at q; cases q
      exact ⟨fun b u q => by obtain ⟨rfl, rfl⟩ := at_ b u q; exact e, fun b ps q => h1 ps (at_ b _ q).2.symm, fun b ob f v q => (h2 ob f (at_ b _ q).2.symm).elim⟩
    rcases hS with (q | ⟨o, q⟩) | q
    · obtain ⟨z1, z2⟩ := one _ q (by simp) (by simp)
      exact ⟨_, z1, .inl (.inl upd_same), z2⟩
    · obtain ⟨z1, z2⟩ := one _ q (by simp) (by simp)
      exact ⟨_, z1, .inl (.inr ⟨o, upd_same⟩), z2⟩
    · exact ⟨fun _ => none, fun b u q => (nomatch q), .inr q, fun b ps q => (nomatch q), fun b ob f v q => nomatch q⟩
  refine ⟨fun _ => none, B, [], [], [scr ns], ⟨hB, (fun b o e => by cases e), (fun a ha => by cases ha), (fun a o e => by cases e), List.nodup_nil, (fun a ha => by cases ha), rfl, (fun n a c h1 _ => by simp at h1), hn, (fun b ps e => by cases e), hT⟩, .cons (.nd (t := .slst) hS' (Rs.ofInts ns)) .nil, rfl, ?_⟩
  rw [h]
  intro B' as' _ _ v H' _ r
  cases r
  rfl
end
end DL

set_option Elab.async false
set_option linter.all false
set_option maxRecDepth 100000
set_option maxHeartbeats 4000000
/-! DLB: zip, a list read backwards, insert, break and continue. -/
namespace DL
open PySem L2
variable [Tb]
section
variable {X : Cx} {W : WX} {e o a b c i : Expr} {pos p apos cpos : Pos} {x m f : Str}
/-! ### zip of two frozen lists -/
/-! ### break, continue -/
/-! ### insert -/
theorem Rs.ins {G : Gx} {B : Hp} {as : List Addr} {vs : List V} {l : List D} {v : V} {d : D} (n : Nat) (r : Rs G B as vs l) (h : R G B as v d) : Rs G B as (vs.take n ++ [v] ++ vs.drop n) (l.take n ++ [d] ++ l.drop n) :=
  ((r.take n).app (Rs.one h)).app (r.drop n)
/-! ### xs[::-1] -/
theorem Rs.rev {G : Gx} {B : Hp} {as : List Addr} : ∀ {vs : List V} {l : List D}, Rs G B as vs l → Rs G B as vs.reverse l.reverse
  | _, _, .nil => .nil
  | _, _, .cons h r => by rw [List.reverse_cons, List.reverse_cons]; exact (Rs.rev r).app (Rs.one h)
end
end DL

set_option Elab.async false
set_option linter.all false
set_option maxRecDepth 100000
set_option maxHeartbeats 4000000
/-! DLC: len of an own object. -/
namespace DL
open PySem PySem.Spec PyProof.Rows L2
variable [Tb]
section
variable {X : Cx} {CX : CXT} {k : Nat} {f C : Addr} {fd : FuncData} {ps : List Str} {sp : Sp} {E : XK}
theorem call_lenOwn (c : Cls X.K C) (hm : Meth X.K C "__len__" f) (F : FnOk X.prog X.w X.K X.mg X.base CX k f fd ps sp) (hr : Room (k + 1) X.A) (hb : Binds X.K fd ps []) (hx : Passes CX X E) :
    CallR X (.builtin "len") (fun xs H Q => ∃ a dx fs, xs = [.ref a] ∧ H a = some (.ins C dx fs) ∧ sp [.ref a] H (fun v H2 => ∃ n : Nat, v = .int n ∧ (n : Int) < 2 ^ 63 ∧ Q (.int n) H2) E) := by
  intro pins s σ H xs us Q I r h
  obtain ⟨a, dx, fs, rfl, ea, hs⟩ := h
  obtain ⟨u, rfl, ru⟩ := vals1 r
  obtain rfl : u = Value.ref a := ru
  obtain ⟨mA, O, ro, _, _, _⟩ := ins_get I.hok ea
  have hl : [Value.ref a].length = ps.length := F.len _ _ _ _ hs
  refine Calls.call_function_entry kind_len plain_len entry_len (args_len1 _) ?_
  unfold Builtin.«len»
  refine wpAny_bind (m := oneArg "len" _) (wpAny_pure ?_)
  refine wpAny_bind (m := callSpecial? (.ref a) (PySem.Str.ofString "__len__")) ?_
  unfold callSpecial? specialOf
  have O2 : PySem.W.Looks (model X.prog X.w) s.heap (typeOf (.ref a)) (.ref C) := NwA.type_at O.obj rfl
  refine wpAny_bind (wpAny_bind (O2.here ((PySem.W.looks_findIn I.kIn hm.at_).here ?_)))
  refine wpAny_holding ?_
  refine wpAny_bind ((PySem.W.bind_fn I.kIn _ (by have := hm.fn; unfold PySem.W.isFn at this; exact eq_of_beq this)).here ?_)
  refine wpAny_bind (wpAny_call (codeAny_mono (F.run X.A.in1 X.stack s H ⟨[.ref a], []⟩ [.ref a] [.ref a] _ E hr.in1 I.env0.in1 (by have := hb s [.ref a] I.kIn (by simpa using hl); simpa using this) (.cons rfl .nil) hs) fun r s' hq => ?_))
  cases r with
  | error e => exact hx pins σ H s e s' I hq
  | ok fl =>
    cases fl with
    | next => exact False.elim hq
    | brk => exact False.elim hq
    | cont => exact False.elim hq
    | ret u =>
      obtain ⟨v, H2, I2, rv, n, rfl, hn, q⟩ := I.after hq
      obtain ⟨t, rfl⟩ := rv
      refine wpAny_pure ?_
      refine wpAny_bind (wpAny_holding (wpAny_pure ?_))
      refine wpAny_bind (wpAny_letGo ?_)
      show wpAny _ _ (if ((n : Nat) : Int) < 0 then _ else _) _ _ _
      rw [if_neg (by omega)]
      show wpAny _ _ (if ((n : Nat) : Int) ≥ 2 ^ 63 then _ else _) _ _ _
      rw [if_neg (by omega)]
      exact wpAny_bind (wpAny_mkInt (wpAny_pure ⟨_, rfl, .int n, H2, I2.tok _, ⟨_, rfl⟩, q⟩))
def LenI (n : Int) : Prop := 0 ≤ n ∧ n < 2 ^ 63
open Classical in
noncomputable def lenB (n : Int) : Bool := decide (LenI n)
theorem lenB_iff {n : Int} : lenB n = true ↔ 0 ≤ n ∧ n < 2 ^ 63 := by unfold lenB; exact @decide_eq_true_iff (LenI n) (Classical.propDecidable _)
noncomputable def lenK : D → Ev D
  | .int n => if lenB n = true then Ev.ret (.int n) else Ev.no
  | _ => Ev.no
noncomputable def lenO (cn : Str) (F : List D → Ev D) (x : D) : Ev D := (DL.isObj cn "__len__" x).bnd fun _ => (callD 1 F [x]).bnd lenK
theorem de_lenO {e : Expr} {p pos : Pos} {cn : Str} {F : List D → Ev D} {fa : Lo → Ev (List D)} {ps : List Str} (c : ClsD X cn C) (hm : Meth X.K C "__len__" f) (FO : FnOk X.prog X.w X.K X.mg X.base (CXX X) k f fd ps (spD (gx X) 1 F)) (hr : Room (k + 1) X.A) (hb : Binds X.K fd ps []) (hx : Passes (CXX X) X E)
    (hg : Gl X "len") (hmm : X.mg "len" = none) (ha : DA X (WF E) [e] fa) (he : starEach [e] X.env = (false, eval e X.env) :: starEach [] X.env := by rfl) : DE X (WF E) (.Call (.Name "len" p) [e] [] pos) (eCall (op1 (lenO cn F)) fa) :=
  de_callB (call_lenOwn c.cl hm FO hr hb hx) (oN1 fun Fr B as σ H M v d Q rp r h => by
    obtain ⟨a, dx, fs, rfl, hH, _, h⟩ := h.isObj c rp r
    refine ⟨a, dx, fs, rfl, hH, ?_⟩
    refine spD_of (W := WF E) (σ := σ) rp (.cons r .nil) (h.bnd.imp fun x M1 B1 as1 s1 p1 h1 v H1 rp1 r1 => ?_)
    cases x <;> first | exact h1.elim | skip
    rename_i n
    cases r1
    unfold lenK at h1
    dsimp only at h1
    by_cases hb : lenB n = true
    · rw [if_pos hb] at h1
      have hc := lenB_iff.mp hb
      obtain ⟨j, rfl⟩ := Int.eq_ofNat_of_zero_le hc.1
      exact ⟨j, rfl, hc.2, h1.ret _ H1 rp1 (.int _)⟩
    · rw [if_neg hb] at h1; exact h1.elim) hg hmm (by decide +kernel) ha (by decide) (by decide) he
end
end DL

set_option Elab.async false
set_option linter.all false
set_option maxRecDepth 100000
set_option maxHeartbeats 4000000
/-! DLD: int, objects made by positional arguments, defaults, own facts of the top. -/
namespace DL
open PySem L2
variable [Tb]
section
variable {X : Cx} {W : WX} {e o a b c i : Expr} {pos p apos cpos : Pos} {x m f : Str}
/-! ### int(x) -/
def intE : D → Ev D
  | .int i => Ev.ret (.int i)
  | .bl k => Ev.ret (.int (if k then 1 else 0))
  | _ => Ev.no
theorem de_intOf {fa : Lo → Ev (List D)} (hg : Gl X "int") (hm : X.mg "int" = none) (ha : DA X W [e] fa) (he : starEach [e] X.env = (false, eval e X.env) :: starEach [] X.env := by rfl) : DE X W (.Call (.Name "int" p) [e] [] pos) (eCall (op1 intE) fa) :=
  de_callTy call_int1 (oN1 fun Fr B as σ H M v d Q rp r h => by
    cases r <;> first | exact h.elim | skip
    · exact .inr ⟨_, rfl, (Post.ret (a := D.int _) h) _ H rp (.int _)⟩
    · exact .inl ⟨_, rfl, (Post.ret (a := D.int _) h) _ H rp (.int _)⟩) hg hm (by decide +kernel) ha (by decide) (by decide) he
/-! ### a call whose defaults fill up -/
/-! ### C(..), positional -/
end
end DL
/-! ### own facts of the top -/
namespace He
open PySem L2
structure SaysQ (fa : List Fa) (fn : List DefD) (ex : PySem.W.Frag → Bool) (K : PySem.W.Frag) : Prop where
  d : SaysD fa fn K
  ex : ex K = true
end He

set_option Elab.async false
set_option linter.all false
set_option maxRecDepth 100000
set_option maxHeartbeats 4000000
/-! DLE: len(set(xs)). -/
namespace DL
open PySem PySem.Spec PyProof.Rows L2
variable [Tb]
section
variable {X : Cx} {W : WX} {e o a b c i : Expr} {pos p p2 q apos cpos : Pos} {x m f : Str}
/-- the different numbers, in the order of their first places -/
def dd (ns : List Int) : List Int := PyProof.Rows.firstMet (fun i => ns.getD i 0) ns.length
def LsOk (n : Nat) : Prop := n ≤ 4000
instance (n : Nat) : Decidable (LsOk n) := by unfold LsOk; infer_instance
theorem intsAre_vals : ∀ {ns : List Int} {us : List Value}, Vals (ns.map V.int) us → PyProof.Rows.IntsAre us ns
  | [], _, .nil => .nil
  | n :: ns, _, .cons r t => by
    obtain ⟨k, rfl⟩ := r
    exact .cons n k (intsAre_vals t)
end
end DL

set_option Elab.async false
set_option linter.all false
set_option maxRecDepth 100000
set_option maxHeartbeats 4000000
/-! DLF: a dict is locked; walks over the items of a locked dict. -/
namespace DL
open PySem L2
variable [Tb]
section
variable {X : Cx} {W : WX} {e o a b c i : Expr} {pos p p2 q apos cpos : Pos} {x m f : Str}
def kD' : Key → D
  | .inl i => .int i
  | .inr x => .str x
theorem R.key {G : Gx} {B : Hp} {as : List Addr} (k : Key) : R G B as (kV k) (kD' k) := by
  cases k with
  | inl i => exact .int i
  | inr x => exact .str x
end
end DL

set_option Elab.async false
set_option linter.all false
set_option maxRecDepth 100000
set_option maxHeartbeats 4000000
/-! DLZ: zip of three lists. -/
namespace DL
open PySem PySem.Spec PyProof.Rows L2
variable [Tb]
section
variable {X : Cx} {W : WX} {e o a b c i : Expr} {pos p apos cpos : Pos} {x m f : Str}
end
end DL

set_option Elab.async false
set_option linter.all false
set_option maxRecDepth 100000
set_option maxHeartbeats 4000000
/-! DLG: never, keywords of own defs, augmented stores, tuple(x), or of values, lists unpacked. -/
namespace L2
open PySem
section
variable {K : PySem.W.Frag} {x qual : Str} {params : Arguments} {body : List Stmt} {scope : Scope} {dvs : List V} {kws : List (Str × V)} {f : Addr} {fd : FuncData} {ps : List Str}
end
end L2
namespace DL
open PySem PySem.Spec PyProof.Rows L2
variable [Tb]
section
variable {X : Cx} {W : WX} {e o a b c i : Expr} {pos p apos cpos : Pos} {x m f : Str}
/-! ### x op= e -/
/-! ### tuple(x) -/
/-! ### x or y, any values -/
/-! ### a, b = list -/
end
end DL

set_option Elab.async false
set_option linter.all false
set_option maxRecDepth 100000
set_option maxHeartbeats 4000000
/-! DLH: (a, b)[::k] and xs[::k], k = 1 or -1. -/
namespace DL
open PySem PySem.Spec PyProof.Rows L2 HT
variable [Tb]
section
variable {prog : Program} {w : World} {A : Around} {E : Value → Shared → Prop} {s : Shared}
end
section
variable {X : Cx} {W : WX} {e o a b c i : Expr} {pos p p3 apos cpos : Pos} {x m f : Str}
end
end DL

set_option Elab.async false
set_option linter.all false
set_option maxRecDepth 100000
set_option maxHeartbeats 4000000
/-! DLI: in, items of any depth; whole numbers added. -/
namespace DL
open PySem PySem.Spec PyProof.Rows L2
variable [Tb]
section
variable {X : Cx} {W : WX} {e o a b c i : Expr} {pos p apos cpos : Pos} {x m f : Str} {fa fb : Lo → Ev D}
end
end DL

set_option Elab.async false
set_option linter.all false
set_option maxRecDepth 100000
set_option maxHeartbeats 4000000
/-! DLJ: repr. A repr asks that no repr of a list is under way around it (guards): defs whose promise holds there. -/
namespace DL
open PySem PySem.Spec PyProof.Rows L2
variable [Tb]
/-- a def's promise where no guard stands -/
structure FnOkG (P : Program) (w : World) (K : PySem.W.Frag) (mg : Str → Option Value) (base : Heap) (CX : CXT) (k : Nat) (f : Addr) (fd : FuncData) (ps : List Str) (sp : Sp) : Prop where
  len : ∀ vs H Q E, sp vs H Q E → vs.length = ps.length
  run : ∀ (A : Around) (outer : List Env) (s : Shared) (H : Hp) (args : Args) (us : List Value) (vs : List V) (Q : VK) (E : XK), Room k A → A.guards = some [] → Env0 P w K mg base A outer s H → BindsTo s fd args (ps.zip us) → Vals vs us → sp vs H Q E →
    codeAny (model P w) A (.call (.ref f) args) (CR CX outer P w H s Q E) s
theorem FnOkG.of {P : Program} {w : World} {K : PySem.W.Frag} {mg : Str → Option Value} {base : Heap} {CX : CXT} {k : Nat} {f : Addr} {fd : FuncData} {ps : List Str} {sp : Sp} (F : FnOk P w K mg base CX k f fd ps sp) : FnOkG P w K mg base CX k f fd ps sp :=
  ⟨F.len, fun A outer s H args us vs Q E hr _ => F.run A outer s H args us vs Q E hr⟩
/-- by its body -/
theorem okG {P : Program} {w : World} {K : PySem.W.Frag} {mg : Str → Option Value} {base : Heap} {CX : CXT} {x qual : Str} {params : Arguments} {body : List Stmt} {scope : Scope} {dvs : List V} {kws : List (Str × V)} {f : Addr} {fd : FuncData} {N ps : List Str} {k : Nat} {sp : Sp}
    (F : FunD K x qual params body scope dvs kws f fd) (S : FnScope N ps scope) (len : ∀ vs H Q E, sp vs H Q E → vs.length = ps.length)
    (hbody : ∀ (cdv : Value) (A : Around) (outer : List Env) (s : Shared) (H : Hp) (vs : List V) (Q : VK) (E : XK), Room k (A.deeper (envOfC qual scope s.heap.objs.size f cdv)) → A.guards = some [] → sp vs H Q E →
      ∃ t, PSs (cxOf CX P w K mg base N qual scope f cdv A outer s H E) body t ∧ t { nx := fun _ H' => Q .non H', rt := Q } (start N vs) H) : FnOkG P w K mg base CX (k + 1) f fd ps sp := by
  obtain ⟨oc, od, dV, kV, doc, pm, an, cdv, ct, osl, rfl, lk, hcd, _, _⟩ := F.ex
  refine ⟨len, fun A outer s H args us vs Q E hr hgu e0 hb r hsp => ?_⟩
  have KX : K.In s.heap := e0.mod.kin.keeps fun b o e => (e0.bs b o e).1
  obtain ⟨t, ht, hq⟩ := hbody cdv A outer s H vs Q E (hr.deeper _) hgu hsp
  refine codeAny_call_function hr.depth (KX _ _ lk) rfl S.co S.gen rfl (PySem.W.codeRec_of KX hcd) (hb _ _ _ _ (wpAny_newFunctionEnv_cells S.kind (fun y hy => ?_) fun env he s1 x => ?_))
  · rcases S.par y.1 (List.of_mem_zip hy).1 with q | q
    · exact .inl q
    · exact .inr ⟨q, PySem.W.cellsFrom_some _ _ _ (.inl q)⟩
  subst he
  refine ⟨Heap.NoLimit.keeps (e0.mod.nolimit.keeps fun b o e => (e0.bs b o e).1) x.toInCall.keep, codeAny_func (wpAny_mono (ht.run [] s1 (start N vs) H _ (inv_start S hr.hd e0 (len _ _ _ _ hsp) r x) hq) (fun fl s' hs => ?_) fun e s' hs => hs)⟩
  cases fl with
  | ret u => exact let ⟨v, _, H', J, rv, q⟩ := hs; ⟨v, H', J.os, J.bare, J.base, J.hok, rv, q⟩
  | next => exact let ⟨_, H', J, q⟩ := hs; ⟨.non, H', J.os, J.bare, J.base, J.hok, rfl, q⟩
  | brk => exact let ⟨_, _, _, q⟩ := hs; q.elim
  | cont => exact let ⟨_, _, _, q⟩ := hs; q.elim
theorem fn_dG {P : Program} {w : World} {K : PySem.W.Frag} {mg : Str → Option Value} {base : Heap} {x qual : Str} {params : Arguments} {body : List Stmt} {scope : Scope} {dvs : List V} {kws : List (Str × V)} {f : Addr} {fd : FuncData} {N ps : List Str} {k : Nat} {g : Lo → Ev Fl}
    (F : FunD K x qual params body scope dvs kws f fd) (S : FnScope N ps scope)
    (hb : ∀ (cdv : Value) (A : Around) (outer : List Env) (s : Shared) (H : Hp) (E : XK), Room k (A.deeper (PyProof.Rows.envOfC qual scope s.heap.objs.size f cdv)) → (cxOf (L2.CX P w) P w K mg base N qual scope f cdv A outer s H E).A.guards = some [] → Takes (cxOf (L2.CX P w) P w K mg base N qual scope f cdv A outer s H E) (WF E) →
      DSs (cxOf (L2.CX P w) P w K mg base N qual scope f cdv A outer s H E) (WF E) body g) : FnOkG P w K mg base (L2.CX P w) (k + 1) f fd ps (spD ⟨K, mg⟩ ps.length (runF N.length g)) := by
  refine okG F S (fun vs H Q E h => ?_) (fun cdv A outer s H vs Q E hr hgu h => ?_)
  · obtain ⟨Fr, B, as, M, l, rp, rs, hl, _⟩ := h
    rw [rs.length, hl]
  · obtain ⟨Fr, B, as, M, l, rp, rs, hl, h⟩ := h
    obtain ⟨t, p, sd⟩ := hb cdv A outer s H E hr hgu (takes_of rfl rfl rfl rfl)
    refine ⟨t, p, sd Fr B as _ H (startD N.length l) M _ (RS.start rs) rp ((h.bnd.nox (x' := fun _ _ _ _ _ => False)).imp fun fl M1 B1 as1 s1 p1 h1 => ?_)⟩
    cases fl with
    | nx S' => exact fun σ' H' rp' rs' => h1.ret .non H' rp' .non
    | rt d => exact fun v H' rp' rv => h1.ret v H' rp' rv
    | bk S' => exact h1.elim
    | ct S' => exact h1.elim
    | xc c d S' => exact fun σ' cls dx H' rp' rs' xr => h1 B1 as1 (Same.refl _) (List.prefix_refl _) cls dx H' rp' xr
theorem fn_lG {P : Program} {w : World} {K : PySem.W.Frag} {mg : Str → Option Value} {base : Heap} {x qual : Str} {params : Arguments} {body : List Stmt} {scope : Scope} {dvs : List V} {kws : List (Str × V)} {f : Addr} {fd : FuncData} {N ps : List Str} {k : Nat} {g : Lo → Ev Fl}
    (F : FunD K x qual params body scope dvs kws f fd) (S : FnScope N ps scope)
    (hb : ∀ (cdv : Value) (A : Around) (outer : List Env) (s : Shared) (H : Hp) (E : XK), Room k (A.deeper (PyProof.Rows.envOfC qual scope s.heap.objs.size f cdv)) → (cxOf CX0 P w K mg base N qual scope f cdv A outer s H E).A.guards = some [] →
      DSs (cxOf CX0 P w K mg base N qual scope f cdv A outer s H E) (WF E0) body g) : FnOkG P w K mg base CX0 (k + 1) f fd ps (spL ⟨K, mg⟩ ps.length (runF N.length g)) := by
  refine okG F S (fun vs H Q E h => ?_) (fun cdv A outer s H vs Q E hr hgu h => ?_)
  · obtain ⟨Fr, B, as, M, l, rp, rs, hl, _⟩ := h
    rw [rs.length, hl]
  · obtain ⟨Fr, B, as, M, l, rp, rs, hl, h⟩ := h
    obtain ⟨t, p, sd⟩ := hb cdv A outer s H E hr hgu
    refine ⟨t, p, sd Fr B as _ H (startD N.length l) M _ (RS.start rs) rp ((h.bnd.nox (x' := fun _ _ _ _ _ => False)).imp fun fl M1 B1 as1 s1 p1 h1 => ?_)⟩
    cases fl with
    | nx S' => exact fun σ' H' rp' rs' => h1.ret .non H' rp' .non
    | rt d => exact fun v H' rp' rv => h1.ret v H' rp' rv
    | bk S' => exact h1.elim
    | ct S' => exact h1.elim
    | xc c d S' => exact (h1 B1 as1 (Same.refl _) (List.prefix_refl _)).elim
section
variable {X : Cx} {W : WX} {e o a b c : Expr} {pos p apos : Pos} {x m f : Str}
/-- f(..) where no guard stands -/
theorem pe_callG {CX : CXT} {E : L2.St → XK} {k : Nat} {f : Addr} {fd : FuncData} {ps : List Str} {sp : Sp} {es : List Expr} {t : TA} (F : FnOkG X.prog X.w X.K X.mg X.base CX k f fd ps sp) (hr : Room k X.A) (hgu : X.A.guards = some []) (hg : Gl X x) (hm : X.mg x = some (.ref f)) (hk : PySem.W.keepIn X.K (.ref f) = true) (hb : Binds X.K fd ps []) (hx : ∀ σ, PassesAt CX X σ (E σ))
    (ha : PA X (e :: es) t) (hdb : (x == ("__debug__" : Str)) = false) (he : starEach (e :: es) X.env = (false, eval e X.env) :: starEach es X.env) (hpl : (backTo pos (starEach es X.env)).any (·.1) = false) :
    PE X (.Call (.Name x p) (e :: es) [] pos) (tCallS sp E t) := by
  refine ⟨fun pins s σ H Q I h => wpAny_Call_Name_kw (ld_glob I hg hm (PySem.W.callWith_K (h₀ := X.base) I.ok.mod.kin hk (thn (ha.run pos pins s σ H _ I h) fun us s1 ⟨vs, H1, I1, r, q⟩ => ⟨I1.kIn, ?_⟩) he hpl) hdb)⟩
  have hl : us.length = ps.length := by rw [← r.length]; exact F.len _ _ _ _ q
  have b := hb s1 us I1.kIn (by rw [List.append_nil]; exact hl)
  rw [List.append_nil] at b
  refine wpAny_call (codeAny_mono (F.run X.A X.stack s1 H1 ⟨us, []⟩ us vs Q (E σ) hr hgu I1.env0 b r q) fun r s' hq => ?_)
  match r, hq with
  | .error e, hq => exact hx σ pins H1 s1 e s' I1 hq
  | .ok (.ret u), hq => exact I1.after hq
  | .ok .next, hq => exact False.elim hq
  | .ok .brk, hq => exact False.elim hq
  | .ok .cont, hq => exact False.elim hq
theorem de_callG {k n : Nat} {fa : Addr} {fd : FuncData} {ps : List Str} {F : List D → Ev D} {es : List Expr} {g : Lo → Ev (List D)} (FO : FnOkG X.prog X.w X.K X.mg X.base (CXX X) k fa fd ps (spD (gx X) n F)) (hr : Room k X.A) (hgu : X.A.guards = some []) (hg : Gl X x) (hm : X.mg x = some (.ref fa)) (hk : PySem.W.keepIn X.K (.ref fa) = true) (hb : Binds X.K fd ps [])
    (tk : Takes X W) (ha : DA X W (e :: es) g) (hdb : (x == ("__debug__" : Str)) = false := by decide) (he : starEach (e :: es) X.env = (false, eval e X.env) :: starEach es X.env := by rfl) (hpl : (backTo pos (starEach es X.env)).any (·.1) = false := by rfl) :
    DE X W (.Call (.Name x p) (e :: es) [] pos) (eCall (callD n F) g) := by
  obtain ⟨t, pa, s⟩ := ha
  refine ⟨_, pe_callG (E := WE W) FO hr hgu hg hm hk hb (fun σ => passAt tk σ) pa hdb he hpl, fun Fr B as σ H S M Q rs rp h => ?_⟩
  exact s Fr B as σ H S M _ rs rp (h.bnd.imp fun l M1 B1 as1 s1 p1 h1 vs H1 rp1 r1 => spD_of rp1 r1 h1)
/-! ### repr -/
def RpOk (d : PyData) : Prop := d.showable = true ∧ d.hasDict = false ∧ d.shown.length ≤ sizeLine
instance (d : PyData) : Decidable (RpOk d) := by unfold RpOk; infer_instance
def rRepr (K : PySem.W.Frag) : List V → Hp → VK → Prop := fun xs H Q => ∃ v d, xs = [v] ∧ Dp K H v d ∧ d.depth ≤ 14 ∧ RpOk d ∧ Q (.str d.shown) H
theorem call_repr (hgu : X.A.guards = some []) (hu : X.A.units + 64 < cLine) : CallR X (.builtin "repr") (rRepr X.K) := by
  intro pins s σ H xs us Q I r h
  obtain ⟨v, d, rfl, hd, hp, ⟨h1, h2, h3⟩, q⟩ := h
  obtain ⟨u, rfl, ru⟩ := vals1 r
  obtain ⟨as, rd⟩ := Dp.reads I d v u hd ru
  by_cases hdis : isDisplay d = true
  · obtain ⟨a, rfl⟩ := isRef_of_reads rd hdis
    exact repr_of_reads' rd h1 (PyData.noDict_hsm h2) hgu (by omega) (fun _ _ e => e) (fun h' t tk hk => ⟨.str d.shown, H, I.kept hk, ⟨t, rfl⟩, q⟩) h3
  · cases rd with
    | none => exact PySem.P.repr_of_none ⟨.str _, H, I.tok _, ⟨_, rfl⟩, q⟩
    | bool b => exact PySem.P.repr_of_bool ⟨.str _, H, I.tok _, ⟨_, rfl⟩, by cases b <;> exact q⟩
    | int i t => exact PySem.P.repr_of_int (by simpa [PyData.showable] using h1) ⟨.str _, H, I.tok _, ⟨_, rfl⟩, q⟩
    | str y t => exact PySem.P.repr_of_str ⟨.str _, H, I.tok _, ⟨_, rfl⟩, q⟩ h3
    | list _ _ _ _ => exact (hdis rfl).elim
    | tuple _ _ _ _ => exact (hdis rfl).elim
    | dict _ _ _ _ _ => cases h2
def reprE (x : D) : Ev D := fun M => match py M 14 x with
  | some d => if RpOk d then .ok (.str d.shown) M else .stuck
  | none => .stuck
theorem de_repr {f : Lo → Ev (List D)} (hgu : X.A.guards = some []) (hu : X.A.units + 64 < cLine) (hg : Gl X "repr") (hm : X.mg "repr" = none) (ha : DA X W [e] f) (he : starEach [e] X.env = (false, eval e X.env) :: starEach [] X.env := by rfl) :
    DE X W (.Call (.Name "repr" p) [e] [] pos) (eCall (op1 reprE) f) :=
  de_callB (call_repr hgu hu) (oN1 fun Fr B as σ H M v d Q rp r h => by
    unfold reprE at h
    cases q : py M 14 d with
    | none => simp only [q] at h; exact h.elim
    | some a =>
      simp only [q] at h
      by_cases c : RpOk a
      · rw [if_pos c] at h
        obtain ⟨h1, h2, h3⟩ := py_ok rp 14 d v a r q
        exact ⟨v, a, rfl, h1, h3, c, h.ok _ H rp (.str _)⟩
      · rw [if_neg c] at h; exact h.elim) hg hm (by decide +kernel) ha (by decide) (by decide) he
end
end DL

set_option Elab.async false
set_option linter.all false
set_option maxRecDepth 100000
set_option maxHeartbeats 4000000
/-! DLK: the end of a law whose promise asks that no guard stands. -/
namespace DL
open PySem PySem.Spec PyProof.Rows L2
variable [Tb]
/-- the heap as a law meets it: the script stands, unless it is written -/
def scH (K : PySem.W.Frag) (a : Addr) (vs : List Value) (ns : List Int) : Hp := fun b => if b = a ∧ K.lookup a = none then some (.frz { cls := .type "list", data := .seq vs.toArray } (.lst (ns.map V.int))) else none
theorem walk_ofG {l : PySem.W.OpenLaw} {n k : Nat} {q : Program} {loose : List Str} {XP : (Str → Option Value) → Heap → Prop} {YP : World → Heap → Prop} {d : DefRec} {CX : CXT} {x : Str}
    (hn : l.most = some n) (hn2 : n ≤ sizeLine) (hdf : d.params.defaults = []) (hr : Room k callerA)
    (F : ∀ (w : World) (mg : Str → Option Value) (fa : Addr) (h : Heap), YP w h → h.Ns mainGlobals mg → mg d.name = some (.ref fa) →
      ∃ (K : PySem.W.Frag) (fd : FuncData) (sp : Sp), K.In h ∧ (∀ (s : Shared) (u : Value), BindsTo s fd ⟨[u], []⟩ [(x, u)]) ∧
        (∀ (H : Hp) (a : Addr) (ns : List Int), ns.length ≤ n → Only H → SqL K H a (ns.map V.int) → sp [.ref a] H (fun v _ => v = .bl true) fun _ _ _ => False) ∧
        ∀ base : Heap, K.In base → base.Ns mainGlobals mg → FnOkG l.prog w K mg base CX k fa fd [x] sp)
    (hCX : ∀ (H : Hp) (s : Shared) (e : Value) (s' : Shared), CX [] H s (fun _ _ _ => False) e s' → False) :
    PySem.W.WalkO q loose XP YP l.row.toRowW d [] (fun f vs => PySem.call f vs) := by
  refine Att.attach_call hn hdf fun w s₀ s₁ mg mb fa o pm cd doc a vs ns G Y ho hd hcd hmg hobj hints hlen hg => ?_
  obtain ⟨K, fd, sp, KX, hb, hsp, hF⟩ := F w mg fa _ Y G.T.g hmg
  have rv := vals_ints hints
  have hls : ns.length ≤ sizeLine := Nat.le_trans hlen hn2
  have hA : ∀ b u, scH K a vs ns b = some u → b = a ∧ K.lookup a = none ∧ u = .frz { cls := .type "list", data := .seq vs.toArray } (.lst (ns.map V.int)) := fun b u e => by
    unfold scH at e
    split at e
    · rename_i c; cases e; exact ⟨c.1, c.2, rfl⟩
    · cases e
  have hN : ∀ {b : Addr} {o : Obj}, s₁.heap.get? b = some o → (b = a → K.lookup a ≠ none) → (hidT s₁.heap (scH K a vs ns)).get? b = some o := fun {b o} e h => hidT_get e (by
    cases q : scH K a vs ns b with
    | none => rfl
    | some u => exact (h (hA b u q).1 (hA b u q).2.1).elim)
  have noD : ∀ {b : Addr} {o : Obj} {es : Array DictEntry} {ep : Nat}, s₁.heap.get? b = some o → o.data = .dict es ep → b ≠ a := fun {b o es ep} e d z => by
    subst z; rw [hobj] at e; cases e; cases d
  have nsK : ∀ {b : Addr} {m : Str → Option Value}, s₁.heap.Ns b m → (hidT s₁.heap (scH K a vs ns)).Ns b m := fun {b m} ⟨o, es, ep, e, d, r⟩ => ⟨o, es, ep, hN e (fun z => (noD e d z).elim), d, r⟩
  have hKb : K.In (hidT s₁.heap (scH K a vs ns)) := fun b o e => hN (KX b o e) (fun z => by subst z; rw [e]; simp)
  have hM : Mod K mg (hidT s₁.heap (scH K a vs ns)) := ⟨hKb, nsK G.T.g, ⟨mb, nsK G.T.b, G.T.builtins⟩, let ⟨mc, h1, h2⟩ := G.T.nolimit; ⟨mc, nsK h1, h2⟩⟩
  have hok : HOk l.prog w (scH K a vs ns) s₁.heap := fun b u z => by
    obtain ⟨rfl, _, rfl⟩ := hA b u z
    exact ⟨hobj, by rw [List.length_map]; exact hls, vs, _, rv, hobj⟩
  have e0 : Env0 l.prog w K mg (hidT s₁.heap (scH K a vs ns)) callerA [] s₁ (scH K a vs ns) := ⟨rfl, hM, fun b o e => of_hidT e, Nat.le_of_eq (hidT_size _ _), trivial, fun b hb => absurd (show b ∈ ([] : List Addr) from hb) (by simp), hok, .of_eq hg⟩
  have hO : Only (scH K a vs ns) := fun b => by
    cases q : scH K a vs ns b with
    | none => exact .inl rfl
    | some u => exact .inr ⟨_, _, by rw [(hA b u q).2.2]⟩
  have hS : SqL K (scH K a vs ns) a (ns.map V.int) := by
    cases hk : K.lookup a with
    | none => exact .inl (.inr ⟨{ cls := .type "list", data := .seq vs.toArray }, if_pos ⟨rfl, hk⟩⟩)
    | some o =>
      have e := KX a o hk
      rw [hobj] at e
      cases e
      exact .inr ⟨_, vs.toArray, _, hk, rfl, rfl, rfl, by rw [List.size_toArray, hints.length]; exact hls, by simpa using rv⟩
  refine codeAny_mono ((hF _ hKb (nsK G.T.g)).run callerA [] s₁ _ ⟨[.ref a], []⟩ [.ref a] [.ref a] _ _ hr rfl e0 (hb s₁ (.ref a)) (.cons rfl .nil) (hsp _ a ns hlen hO hS)) fun r s' h => ?_
  match r, h with
  | .error e, h => exact (hCX _ s₁ e s' h).elim
  | .ok .next, h => exact False.elim h
  | .ok .brk, h => exact False.elim h
  | .ok .cont, h => exact False.elim h
  | .ok (.ret u), h =>
    obtain ⟨v, H', os, bare, un, hok', r', q⟩ := h
    have q' : v = .bl true := q
    subst q'
    obtain rfl : u = Value.bool true := r'
    refine ⟨rfl, OldK.of_keep fun b o e => ?_, os, bare⟩
    cases q : scH K a vs ns b with
    | none => exact un.keep b o e q (by intro z; exact absurd (show b ∈ ([] : List Addr) from z) (by simp)) (by simp)
    | some u =>
      have hu := (hA b u q).2.2
      rw [hu] at q
      obtain ⟨e1, _⟩ := hok b _ q
      obtain ⟨e2, _⟩ := hok' b _ (un.frzs b _ _ q)
      rw [e] at e1; cases e1
      exact e2
end DL

set_option Elab.async false
set_option linter.all false
set_option maxRecDepth 100000
set_option maxHeartbeats 4000000
/-! DLL: x is True, x is not True. -/
namespace DL
open PySem PySem.Spec L2
variable [Tb]
section
variable {X : Cx} {W : WX} {a b : Expr} {pos : Pos} {fa fb : Lo → Ev D}
end
end DL

set_option Elab.async false
set_option linter.all false
set_option maxRecDepth 100000
set_option maxHeartbeats 4000000
/-! DLM: a dict is filled by two statements, then locked and frozen: a value from there on. -/
namespace DL
open PySem PySem.Spec L2
variable [Tb]
section
variable {X : Cx} {W : WX} {st st1 st2 : Stmt} {rest : List Stmt}
theorem RS.thaw {G : Gx} {Fr B1 : Hp} {as as1 : List Addr} {H1 : Hp} {M1 : Store} {n : Nat} {σ : St} {S : Lo} (rp1 : Rep G Fr B1 as1 H1 M1) (rs : RS G B1 as1 σ S) (et : as1.take n = as) : RS G (bz as1 n B1 H1) as σ (S.map fun o => o.bind fun d => fz M1 n 9 d) := by
  refine ⟨by rw [List.length_map]; exact rs.len, fun i d h => ?_⟩
  rw [List.getElem?_map] at h
  cases q : S[i]? with
  | none => rw [q] at h; cases h
  | some o =>
    rw [q] at h
    cases o with
    | none => cases h
    | some e =>
      have h : fz M1 n 9 e = some d := by simpa using h
      obtain ⟨v, hv, r⟩ := rs.at_ i e q
      have r2 := fz_ok rp1 9 e v d r h
      rw [et] at r2
      exact ⟨v, hv, r2⟩
/-! ### for k in d, d a locked dict -/
/-! ### an expression read in one of two ways -/
end
end DL

set_option Elab.async false
set_option linter.all false
set_option maxRecDepth 100000
set_option maxHeartbeats 4000000
/-! DLN: dict(pairs), d.get(k, x). -/
namespace DL
open PySem PySem.Spec PyProof.Rows L2
variable [Tb]
section
variable {X : Cx} {W : WX} {e o a b c : Expr} {pos p apos cpos : Pos} {x m f : Str}
/-! ### d.get(k, x) -/
/-! ### a new dict, locked at once -/
end
end DL

set_option Elab.async false
set_option linter.all false
set_option maxRecDepth 100000
set_option maxHeartbeats 4000000
/-! DLO: raise C(x), C an exception class of the program with the field value. -/
namespace DL
open PySem PySem.Spec PyProof.Rows L2
variable [Tb]
/-! ### what the written part says of the class -/
def oexB (K : PySem.W.Frag) (C : Addr) : Bool := match K.lookup C with
  | some ⟨.type "type", _, .cls cd, sl⟩ => (match cd.mro, sl.toList with
    | .ref C' :: bm, [_, _, _, _, some (.builtin n), _] => decide (C' = C) && (decide (n = "ValueError.__new__") && (decide (cd.hasDel = false) && (cd.hasDict && PySem.HandSPX.refsVE bm)))
    | _, _ => false)
  | _ => false
def bAll : List Bool → Bool
  | [] => true
  | b :: l => b && bAll l
theorem bAll_get : ∀ {l : List Bool} {i : Nat} {b : Bool}, bAll l = true → l[i]? = some b → b = true
  | [], i, b, _, h => by simp at h
  | x :: l, 0, b, h, e => by simp at e; subst e; exact (Bool.and_eq_true_iff.mp h).1
  | x :: l, i + 1, b, h, e => bAll_get (Bool.and_eq_true_iff.mp h).2 (by simpa using e)
/-- of the class named c: made as an exception, its __init__ a def, no attribute 'value' of its own -/
def xcB (K : PySem.W.Frag) (c : Str) : Bool := bAll [oexB K (He.ga K c), decide (PySem.W.findIn K (.ref (He.ga K c)) "__setattr__" = some (some (.builtin "object.__setattr__"))), decide (PySem.W.subIn K (.ref (He.ga K c)) (.type "BaseException") = some true),
  decide (PySem.W.typeIn K (.ref (He.ga K c)) = some (.type "type")), PySem.W.keepIn K (.ref (He.ga K c)), decide (PySem.W.findIn K (.ref (He.ga K c)) "value" = some none),
  decide (PySem.W.findIn K (.ref (He.ga K c)) "__init__" = some (some (.ref (He.ma K (He.ga K c) "__init__")))), decide (PySem.W.typeIn K (.ref (He.ma K (He.ga K c) "__init__")) = some (.type "function"))]
structure XcC (K : PySem.W.Frag) (C fI : Addr) : Prop where
  ox : OexC K C
  vno : PySem.W.findIn K (.ref C) "value" = some none
  iC : PySem.W.findIn K (.ref C) "__init__" = some (some (.ref fI))
  tI : PySem.W.typeIn K (.ref fI) = some (.type "function")
theorem oexB_ok {K : PySem.W.Frag} {C : Addr} (h : oexB K C = true) : ∃ nm q N bs bm sn sub ab col dd k0 k1 k2 k3 k5, K.lookup C = some (excClassObj nm q C N bs bm true sn sub ab col dd k0 k1 k2 k3 k5 "ValueError.__new__") ∧ PySem.HandSPX.refsVE bm = true := by
  unfold oexB at h
  cases q : K.lookup C with
  | none => rw [q] at h; cases h
  | some o =>
    rw [q] at h
    obtain ⟨oc, od, dt, sl⟩ := o
    split at h
    · rename_i x1 x2 x3 x4 e
      cases e
      obtain ⟨nm, bs, mro, ns, qn, hd, sn, sb, ab, col, del⟩ := x3
      dsimp only at h
      split at h
      · rename_i C' bm a0 a1 a2 a3 n a5 e1 e2
        obtain ⟨h1, h⟩ := Bool.and_eq_true_iff.mp h
        obtain ⟨h2, h⟩ := Bool.and_eq_true_iff.mp h
        obtain ⟨h3, h⟩ := Bool.and_eq_true_iff.mp h
        obtain ⟨h4, h5⟩ := Bool.and_eq_true_iff.mp h
        have h1 := of_decide_eq_true h1
        have h2 := of_decide_eq_true h2
        have h3 := of_decide_eq_true h3
        try dsimp only at h3 h4
        subst h1 h2 h3 h4
        obtain ⟨l⟩ := sl
        have e2' := e2
        dsimp only at e2'
        subst e2'
        exact ⟨_, _, _, _, _, _, _, _, _, _, _, _, _, _, _, rfl, h5⟩
      · cases h
    · cases h
theorem xcB_ok {K : PySem.W.Frag} {c : Str} (h : xcB K c = true) : XcC K (He.ga K c) (He.ma K (He.ga K c) "__init__") := by
  have g := fun (i : Nat) (b : Bool) e => bAll_get (i := i) (b := b) h e
  exact ⟨⟨oexB_ok (g 0 _ rfl), of_decide_eq_true (g 1 _ rfl), of_decide_eq_true (g 2 _ rfl), of_decide_eq_true (g 3 _ rfl), g 4 _ rfl⟩, of_decide_eq_true (g 5 _ rfl), of_decide_eq_true (g 6 _ rfl), of_decide_eq_true (g 7 _ rfl)⟩
/-- of the class named b: its __init__ is that of ValueError -/
def xbB (K : PySem.W.Frag) (b : Str) : Bool := bAll [decide (PySem.W.specialIn K (.ref (He.ga K b)) "__getattribute__" = some (some (.builtin "type.__getattribute__"))), PySem.W.readsIn K (He.ga K b) (.type "type"),
  (match PySem.W.findCls K (.ref (He.ga K b)) (.type "type") "__init__" with
    | some (.val (.builtin n)) => decide (n = "ValueError.__init__")
    | _ => false)]
structure XcB (K : PySem.W.Frag) (Cb : Addr) : Prop where
  ga : PySem.W.specialIn K (.ref Cb) "__getattribute__" = some (some (.builtin "type.__getattribute__"))
  rd : PySem.W.readsIn K Cb (.type "type") = true
  fc : PySem.W.findCls K (.ref Cb) (.type "type") "__init__" = some (.val (.builtin "ValueError.__init__"))
theorem xbB_ok {K : PySem.W.Frag} {b : Str} (h : xbB K b = true) : XcB K (He.ga K b) := by
  have g := fun (i : Nat) (b : Bool) e => bAll_get (i := i) (b := b) h e
  refine ⟨of_decide_eq_true (g 0 _ rfl), g 1 _ rfl, ?_⟩
  have h2 := g 2 _ rfl
  split at h2
  · rename_i n e
    rw [e, of_decide_eq_true h2]
  · cases h2
section
variable {X : Cx} {W : WX} {o e : Expr} {es : List Expr} {ta : TA} {b c : Str} {p p1 p2 pos pos' : Pos}
/-- Base.__init__(self, ..), Base an own class over ValueError without __init__ -/
theorem pe_xinit {Cb : Addr} {pl : Sem Bool} (T : XcB X.K Cb) (hg : Gl X b) (hm : X.mg b = some (.ref Cb)) (ha : PA X (e :: es) ta)
    (hc : eval (.Call (.Attribute (.Name b p1) "__init__" p2) (e :: es) [] pos) X.env = (do
      let ov ← eval (.Name b p1) X.env; standAt p2.atName
      let (f, first) ← holding [ov] (getMethod ov "__init__" pl); callWith pos f first (backTo pos (starEach (e :: es) X.env)) (backToKw pos (keywordEach [] X.env))) := by rfl)
    (hdb : (b == ("__debug__" : Str)) = false := by decide) (he : starEach (e :: es) X.env = (false, eval e X.env) :: starEach es X.env := by rfl) (hpl : (backTo pos (starEach es X.env)).any (·.1) = false := by rfl) :
    PE X (.Call (.Attribute (.Name b p1) "__init__" p2) (e :: es) [] pos) (tVeI X.K ta) := by
  refine ⟨fun pins s σ H Q I h => PySem.W.methodCall_KW (ld_glob I hg hm ?_ hdb) hc⟩
  refine PySem.W.method_cls I.kIn T.ga (PySem.W.cls_value I.kIn T.rd T.fc (by decide +kernel) ?_)
  show wpAny _ _ (callWith pos (Value.builtin "ValueError.__init__") [] (backTo pos (starEach (e :: es) X.env)) []) _ _ _
  refine PyProof.Rows.callWith_method1 (thn (ha.run pos pins _ σ H _ (I.tok _) h) fun us s1 hz => ?_) he hpl
  obtain ⟨vs, H1, I1, r1, a, C, ws, ev, hl, To, ea, q⟩ := hz
  subst ev
  cases r1 with
  | @cons _ u0 _ ur ra rest =>
    obtain rfl : u0 = Value.ref a := ra
    refine oinit_ok To I1 ea ?_ fun s' J => ⟨.non, H1, J, rfl, q⟩
    rw [← Paired.length rest, sizeLine_eq]
    omega
end
/-- what such an __init__ does -/
def spXI (K : PySem.W.Frag) : Sp := fun vs H Q _ => ∃ (a C : Addr) (v : V), vs = [.ref a, v] ∧ OexC K C ∧ PySem.W.findIn K (.ref C) "value" = some none ∧ H a = some (exo a C none) ∧ ∀ dx, H dx = none → dx ≠ a → Q .non (upd (upd H dx (exd dx [("value", v)])) a (exo a C (some dx)))
theorem xi_len {K : PySem.W.Frag} {vs : List V} {H : Hp} {Q : VK} {E : XK} (h : spXI K vs H Q E) : vs.length = ["self", "value"].length := by
  obtain ⟨_, _, _, rfl, _⟩ := h
  rfl
theorem xi_end {K : PySem.W.Frag} {vs : List V} {H : Hp} {Q : VK} {E : XK} (h : spXI K vs H Q E) :
    tSeq (tDrop (tVeI K (tCons (tVar 0) (tCons (tVar 1) tNil)))) (tOst K "value" (tVar 0) (tVar 1)) { nx := fun _ H' => Q .non H', rt := Q } (L2.start ["self", "value"] vs) H := by
  obtain ⟨a, C, v, rfl, To, hno, ea, q⟩ := h
  refine ⟨.ref a, rfl, v, rfl, a, C, [v], rfl, by simp, To, ea, ?_⟩
  exact ⟨v, rfl, .ref a, rfl, a, C, rfl, To, hno, .inl ⟨ea, fun dx hn ne => q dx hn ne⟩⟩
section
variable {X : Cx} {W : WX} {e : Expr} {c : Str} {p pos pos' : Pos}
def sRaise (c : Str) (f : Lo → Ev D) : Lo → Ev Fl := fun S => (f S).fl S fun d => Ev.ret (.xc c d S)
theorem ds_raise {C fI : Addr} {k : Nat} {fd : FuncData} {f : Lo → Ev D} (hc : X.calm = true) (tk : Takes X W) (T : XcC X.K C fI) (FO : FnOk X.prog X.w X.K X.mg X.base (CXX X) k fI fd ["self", "value"] (spXI X.K)) (hr : Room (k + 1) X.A) (hb : Binds X.K fd ["self", "value"] [])
    (hg : Gl X c) (hm : X.mg c = some (.ref C)) (ha : DE X W e f) (hdb : (c == ("__debug__" : Str)) = false := by decide) (he : starEach [e] X.env = (false, eval e X.env) :: starEach [] X.env := by rfl) :
    DS X W (.Raise (some (.Call (.Name c p) [e] [] pos)) none pos') (sRaise c f) := by
  obtain ⟨t, pe, s⟩ := ha
  refine ⟨_, ps_raise hc tk (pmk_oex T.ox T.iC T.tI FO hr hb .nil passL hg hm (pa_cons pe pa_nil he) hdb he), fun Fr B as σ H S M D rs rp h => ?_⟩
  refine s Fr B as σ H S M _ rs rp ((Post.fl rs h).imp fun d M1 B1 as1 s1 p1 h1 v H1 rp1 r1 => ?_)
  refine ⟨by simp, fun a ha => ⟨a, C, v, rfl, T.ox, T.vno, upd_same, fun dx hn ne => ?_⟩⟩
  have n1 : H1 dx = none := by rw [upd_ne ne] at hn; exact hn
  refine ⟨rfl, dx, _, upd_same, by rw [upd_ne ne, upd_same], n1, ?_⟩
  have eu : upd (del (upd (upd (upd H1 a (exo a C none)) dx (exd dx [("value", v)])) a (exo a C (some dx))) a) dx (.xd [("value", v)]) = upd H1 dx (.xd [("value", v)]) := by
    funext q
    by_cases h1 : q = dx
    · subst h1; rw [upd_same, upd_same]
    · rw [upd_ne h1, upd_ne h1]
      by_cases h2 : q = a
      · subst h2; rw [del_same, ha]
      · rw [del_ne h2, upd_ne h2, upd_ne h1, upd_ne h2]
  rw [eu]
  exact (Post.ret (a := Fl.xc c d S) h1) σ (.ref C) (some dx) _ (rp1.laid n1) (rs.mono s1 p1) ⟨C, dx, v, rfl, hm, rfl, upd_same, r1, (rp1.fresh n1).1, (rp1.fresh n1).2⟩
end
end DL

set_option Elab.async false
set_option linter.all false
set_option maxRecDepth 100000
set_option maxHeartbeats 4000000
/-! DLP: try with several clauses 'except C as e'. -/
namespace DL
open PySem PySem.Spec PyProof.Rows L2
variable [Tb]
/-! ### the rule over the model -/
def offD (oi : Option Nat) (D : Ends) : Ends := match oi with
  | none => D
  | some i => { nx := fun τ G => D.nx (τ.set i none) G, rt := D.rt, bk := fun τ G => D.bk (τ.set i none) G, ct := fun τ G => D.ct (τ.set i none) G }
def onS (oi : Option Nat) (a : Addr) (σ : L2.St) : L2.St := match oi with
  | none => σ
  | some i => σ.set i (some (.ref a))
abbrev HdT := Value × Option Nat × (Addr → Value → Option Addr → TS)
/-- what the clauses wish of an exception of the body -/
def wA (K : PySem.W.Frag) (Wo : WX) (D : Ends) : List HdT → WX
  | [] => Wo
  | (c, oi, ts) :: r => fun cls dx σ H => ∃ b, PySem.W.exmOne K cls c = some b ∧ (b = true → ∀ a, H a = none → ts a cls dx (offD oi D) (onS oi a σ) H) ∧ (b = false → wA K Wo D r cls dx σ H)
inductive HdsA (X : Cx) : List ExceptHandler → List HdT → Prop
  | nil : HdsA X [] []
  | as_ {x n : Str} {c : Value} {i : Nat} {ts : Addr → Value → Option Addr → TS} {s0 : Stmt} {su : List Stmt} {np ps : Pos} {hds : List ExceptHandler} {l : List HdT} (hc : Names X x c) (hi : X.N[i]? = some n) (hln : X.env.kindOf n = some .local)
      (hsu : ∀ (a : Addr) (oe : Obj) (cls : Value) (dx : Option Addr) (pn : List (Addr × Obj)), Zc cls dx oe → (∃ vs, oe.data = .fields vs) → PSs (X.suite a ((a, oe) :: pn)) (s0 :: su) (ts a cls dx)) (r : HdsA X hds l) :
      HdsA X (.ExceptHandler (some (.Name x np)) (some n) (s0 :: su) ps :: hds) ((c, some i, ts) :: l)
  | bare {x : Str} {c : Value} {ts : Addr → Value → Option Addr → TS} {s0 : Stmt} {su : List Stmt} {np ps : Pos} {hds : List ExceptHandler} {l : List HdT} (hc : Names X x c)
      (hsu : ∀ (a : Addr) (oe : Obj) (cls : Value) (dx : Option Addr) (pn : List (Addr × Obj)), Zc cls dx oe → (∃ vs, oe.data = .fields vs) → PSs (X.suite a ((a, oe) :: pn)) (s0 :: su) (ts a cls dx)) (r : HdsA X hds l) :
      HdsA X (.ExceptHandler (some (.Name x np)) none (s0 :: su) ps :: hds) ((c, none, ts) :: l)
section
variable {X : Cx} {body : List Stmt} {h0 : ExceptHandler} {hds : List ExceptHandler} {l : List HdT} {pos : Pos} {tb : WX → TS} {Wo : WX}
theorem ps_tryA (hst : X.stack = X.env :: X.outer) (hfm : X.env.frame = some X.env.locals) (hN : X.N.Nodup) (tk : Takes X Wo)
    (hb : ∀ (W : WX) (pn : List (Addr × Obj)) (xe : Value → Shared → Prop), Takes (X.tr pn xe) W → PassesOwn (model X.prog X.w) X.A X.env xe → PSs (X.tr pn xe) body (tb W)) (hh : HdsA X (h0 :: hds) l) :
    PS X (.Try body (h0 :: hds) [] [] pos) (fun D σ H => tb (wA X.K Wo D l) D σ H) := by
  refine ⟨fun pins s σ H D I h => ?_⟩
  have okX := I.ok
  have frm : X.A.frames = some (X.env :: X.outer) := by rw [okX.frames, hst]
  refine wpAny_Try_except ?_
  let xe1 : Value → Shared → Prop := fun e z1 => wpAny (model X.prog X.w) X.A (noteFrame e X.env) (fun _ z2 => wpAny (model X.prog X.w) X.A (setFlight e none) (fun _ z3 => wpAny (model X.prog X.w) X.A (handleBy e X.env (h0 :: hds)) (SP X pins D) X.xe z3) X.xe z2) X.xe z1
  refine wpAny_mono ((hb (wA X.K Wo D l) (X.pn ++ pins) xe1 (fun u sx xx => ?_) PassesOwn.looking).run [] s σ H D (I.toTry _) h) (fun fl sx hsp => ?_) (fun _ _ z => z)
  · obtain ⟨ax, Bg, s0, pins0, τ, G, cls, dx, rfl, J0, nb, up, sky, na, eos, agr, ww⟩ := xx
    have J : Inv X pins τ G s0 := J0.ofTry okX
    rw [hst] at sky
    show wpAny (model X.prog X.w) X.A (noteFrame (.ref ax) X.env) _ _ _
    refine Sky.land Zc.steady frm hfm sky fun g3 fly up3 => ?_
    have J3 : Inv X pins τ G { sx with heap := g3 } := J.landed nb fly.1 (up.trans up3) eos agr
    obtain ⟨o3, v3, q3, z3, d3⟩ := fly.there
    have off : ax ∉ frs (X.env :: X.outer) := fun hm => by
      obtain ⟨_, o', e', hnf⟩ := fly.2.2.1.mem hm
      rw [q3] at e'
      cases e'
      exact hnf _ d3
    have nL : ax ≠ X.env.locals := fun z => off (List.mem_filterMap.mpr ⟨X.env, by simp, by rw [hfm, z]⟩)
    have nF : ax ∉ X.fs := fun hm => by
      obtain ⟨e, he, q⟩ := List.mem_filterMap.mp hm
      exact off (List.mem_filterMap.mpr ⟨e, by simp [he], q⟩)
    have S3 := J3.suite q3 d3 na nL nF
    have LT : PySem.W.Looks (model X.prog X.w) g3 (typeOf (.ref ax)) cls := fun A Q E s k q => wpAny_typeOf_ref (k _ _ q3) (by rw [z3.1]; exact q)
    have test : ∀ {x : Str} {c : Value} {np : Pos} {Q : Value → Shared → Prop} {E : Value → Shared → Prop}, Names X x c → Q c { sx with heap := g3 } →
        wpAny (model X.prog X.w) (X.A.mark (some (.ref ax))) (eval (.Name x np) X.env) Q E { sx with heap := g3 } := fun {x c np Q E} hc q => by
      obtain ⟨hg, hdb, hm | ⟨hm, hv, hnn⟩⟩ := hc
      · exact ld_glob (X := X.suite ax ((ax, o3) :: (X.pn ++ pins))) S3 hg hm q hdb
      · exact ld_blt (X := X.suite ax ((ax, o3) :: (X.pn ++ pins))) S3 hg hm hv q hnn hdb
    have go : ∀ {ks : List ExceptHandler} {l2 : List HdT}, HdsA X ks l2 → wA X.K Wo D l2 cls dx τ G → wpAny (model X.prog X.w) X.A (handleBy (.ref ax) X.env ks) (SP X pins D) X.xe { sx with heap := g3 } := by
      intro ks l2 hk
      induction hk with
      | nil =>
        intro w0
        refine wpAny_handleBy_nil ?_
        obtain ⟨k1, k2, k3, oe, vs, T, oT, ts', he, hz, hd, h1, hr⟩ := id fly
        unfold PySem.passOn
        refine wpAny_bind (wpAny_field he hd h1 ?_)
        rw [if_neg (by simp)]
        have fin : wpAny (model X.prog X.w) X.A (setFlight (.ref ax) X.env.frame) (fun _ y => wpAny (model X.prog X.w) X.A (throw (.ref ax) : Sem Flow) (SP X pins D) X.xe y) X.xe { sx with heap := g3 } := by
          rw [hfm]
          refine HandSPX.setFlight_upZ fly fun g4 held up4 => wpAny_throw (tk _ _ ⟨ax, Bg, s0, pins, τ, G, cls, dx, rfl, J, nb, (up.trans up3).trans up4, ?_, na, eos, agr, w0⟩)
          rw [hst]
          exact .inr (.inr held)
        first
          | exact wpAny_bind (wpAny_pure (wpAny_bind fin))
          | exact wpAny_bind fin
      | @as_ x n c i ts b0 su np ps hds2 l3 hc hi hln hsu r ih =>
        intro w0
        obtain ⟨b, hb1, hyes, hno⟩ := w0
        refine wpAny_handleBy_cons (codeAny_handlers_test ?_) (by intro q; cases q)
        refine test hc ((PySem.W.exm_one (M := model X.prog X.w) J3.kIn LT hb1).here ?_)
        cases b with
        | false => exact ih (hno rfl)
        | true =>
          refine codeAny_handlers_suite_as (HandSPX.lands_againZ fly fun g4 fly4 up4 => ?_)
          have J4 : Inv X pins τ G { sx with heap := g4 } := J.landed nb fly4.1 ((up.trans up3).trans up4) eos agr
          obtain ⟨o4, v4, q4, z4, d4⟩ := fly4.there
          have S4 := J4.suite q4 d4 na nL nF
          refine store_ok (X := X.suite ax ((ax, o4) :: (X.pn ++ pins))) (v := .ref ax) S4 hN hi (.inl hln) rfl (fun s5 S5 => ?_) (.inr hln)
          refine wpAny_mono ((hsu ax o4 cls dx (X.pn ++ pins) z4 ⟨_, d4⟩).run [] s5 _ G _ S5 (hyes rfl ax na)) (fun f s6 h6 => ?_) (fun _ _ z => z.elim)
          have fin : ∀ {τ6 : L2.St} {G6 : Hp} {Q : Shared → Prop}, Inv (X.suite ax ((ax, o4) :: (X.pn ++ pins))) [] τ6 G6 s6 → (∀ s7, Inv X pins (τ6.set i none) G6 s7 → Q s7) →
              wpAny (model X.prog X.w) X.A (do bindName X.env n .none; unbindBehindTheSuite X.env n ps) (fun _ s7 => Q s7) X.xe s6 := fun {_ _ _} S6 hq => gone_ok (S6.unsuite okX) hN hi hln hq
          cases f with
          | next => exact let ⟨_, _, S6, q6⟩ := h6; fin S6 fun s7 J7 => ⟨_, _, J7, q6⟩
          | brk => exact let ⟨_, _, S6, q6⟩ := h6; fin S6 fun s7 J7 => ⟨_, _, J7, q6⟩
          | cont => exact let ⟨_, _, S6, q6⟩ := h6; fin S6 fun s7 J7 => ⟨_, _, J7, q6⟩
          | ret u => exact let ⟨_, _, _, S6, r6, q6⟩ := h6; fin S6 fun s7 J7 => ⟨_, _, _, J7, r6, q6⟩
      | @bare x c ts b0 su np ps hds2 l3 hc hsu r ih =>
        intro w0
        obtain ⟨b, hb1, hyes, hno⟩ := w0
        refine wpAny_handleBy_cons (codeAny_handlers_test ?_) (by intro q; cases q)
        refine test hc ((PySem.W.exm_one (M := model X.prog X.w) J3.kIn LT hb1).here ?_)
        cases b with
        | false => exact ih (hno rfl)
        | true =>
          refine codeAny_handlers_suite (HandSPX.lands_againZ fly fun g4 fly4 up4 => ?_)
          have J4 : Inv X pins τ G { sx with heap := g4 } := J.landed nb fly4.1 ((up.trans up3).trans up4) eos agr
          obtain ⟨o4, v4, q4, z4, d4⟩ := fly4.there
          have S4 := J4.suite q4 d4 na nL nF
          refine wpAny_mono ((hsu ax o4 cls dx (X.pn ++ pins) z4 ⟨_, d4⟩).run [] _ _ G _ S4 (hyes rfl ax na)) (fun f s6 h6 => ?_) (fun _ _ z => z.elim)
          cases f with
          | next => exact let ⟨_, _, S6, q6⟩ := h6; ⟨_, _, S6.unsuite okX, q6⟩
          | brk => exact let ⟨_, _, S6, q6⟩ := h6; ⟨_, _, S6.unsuite okX, q6⟩
          | cont => exact let ⟨_, _, S6, q6⟩ := h6; ⟨_, _, S6.unsuite okX, q6⟩
          | ret u => exact let ⟨_, _, _, S6, r6, q6⟩ := h6; ⟨_, _, _, S6.unsuite okX, r6, q6⟩
    exact go hh ww
  · cases fl with
    | next => exact let ⟨τ, G, J, q⟩ := hsp; wpAny_execs_nil ⟨τ, G, J.ofTry okX, q⟩
    | brk => exact let ⟨τ, G, J, q⟩ := hsp; ⟨τ, G, J.ofTry okX, q⟩
    | cont => exact let ⟨τ, G, J, q⟩ := hsp; ⟨τ, G, J.ofTry okX, q⟩
    | ret u => exact let ⟨v, τ, G, J, r, q⟩ := hsp; ⟨v, τ, G, J.ofTry okX, r, q⟩
end
end DL

set_option Elab.async false
set_option linter.all false
set_option maxRecDepth 100000
set_option maxHeartbeats 4000000
/-! DLQ: try over data. -/
namespace DL
open PySem PySem.Spec PyProof.Rows L2
variable [Tb]
def tSs (X : Cx) (W : WX) (f : Lo → Ev Fl) : TS := fun D σ H => ∃ Fr B as S M, RS (gx X) B as σ S ∧ Rep (gx X) Fr B as H M ∧ Post B as (f S M) (kF X Fr W D) (fun _ _ _ _ _ => False)
theorem DSs.pss {X : Cx} {W : WX} {st : List Stmt} {f : Lo → Ev Fl} (h : DSs X W st f) : PSs X st (tSs X W f) := by
  obtain ⟨t, p, s⟩ := h
  exact ⟨fun pins s' σ H D I hw => let ⟨Fr, B, as, S, M, a, b, c⟩ := hw; p.run pins s' σ H D I (s Fr B as σ H S M D a b c)⟩
/-! ### except suites -/
/-- where a suite stands: its exception's field value is d, its class one of L -/
def XIn (G : Gx) (L : List Addr) (a : Addr) (cls : Value) (dx : Option Addr) (oi : Option Nat) (Fr B : Hp) (as : List Addr) (σ : L2.St) (d : D) : Prop :=
  ∃ C dd v, cls = .ref C ∧ C ∈ L ∧ dx = some dd ∧ Fr dd = some (.xd [("value", v)]) ∧ R G B as v d ∧ ∀ i, oi = some i → σ[i]? = some (some (.ref a))
theorem XIn.mono {G : Gx} {L : List Addr} {a : Addr} {cls : Value} {dx : Option Addr} {oi : Option Nat} {Fr B B' : Hp} {as as' : List Addr} {σ : L2.St} {d : D} (h : XIn G L a cls dx oi Fr B as σ d) (e : Same B B') (p : as <+: as') : XIn G L a cls dx oi Fr B' as' σ d := by
  obtain ⟨C, dd, v, h1, h2, h3, h4, h5, h6⟩ := h
  exact ⟨C, dd, v, h1, h2, h3, h4, h5.mono e p, h6⟩
section
variable (X : Cx) (L : List Addr) (a : Addr) (cls : Value) (dx : Option Addr) (oi : Option Nat)
/-- an expression of a suite: f by the field value -/
def XE' (e : Expr) (f : D → Lo → Ev D) : Prop := ∃ t, PE X e t ∧ ∀ Fr B as σ H S M Q d, XIn (gx X) L a cls dx oi Fr B as σ d → RS (gx X) B as σ S → Rep (gx X) Fr B as H M → Post B as (f d S M) (kD X Fr Q) (kX X Fr W0 σ) → t σ H Q
def XA' (es : List Expr) (f : D → Lo → Ev (List D)) : Prop := ∃ t, PA X es t ∧ ∀ Fr B as σ H S M Q d, XIn (gx X) L a cls dx oi Fr B as σ d → RS (gx X) B as σ S → Rep (gx X) Fr B as H M → Post B as (f d S M) (kA X Fr Q) (kX X Fr W0 σ) → t σ H Q
def XSs (st : List Stmt) (f : D → Lo → Ev Fl) : Prop := ∃ t, PSs X st t ∧ ∀ Fr B as σ H S M D d, XIn (gx X) L a cls dx oi Fr B as σ d → RS (gx X) B as σ S → Rep (gx X) Fr B as H M → Post B as (f d S M) (kF X Fr W0 D) (fun _ _ _ _ _ => False) → t D σ H
end
def tX (X : Cx) (L : List Addr) (oi : Option Nat) (f : D → Lo → Ev Fl) (a : Addr) (cls : Value) (dx : Option Addr) : TS := fun D σ H => ∃ Fr B as S M d, XIn (gx X) L a cls dx oi Fr B as σ d ∧ RS (gx X) B as σ S ∧ Rep (gx X) Fr B as H M ∧ Post B as (f d S M) (kF X Fr W0 D) (fun _ _ _ _ _ => False)
theorem XSs.pss {X : Cx} {L : List Addr} {a : Addr} {cls : Value} {dx : Option Addr} {oi : Option Nat} {st : List Stmt} {f : D → Lo → Ev Fl} (h : XSs X L a cls dx oi st f) : PSs X st (tX X L oi f a cls dx) := by
  obtain ⟨t, p, s⟩ := h
  exact ⟨fun pins s' σ H D I hw => let ⟨Fr, B, as, S, M, d, x, a, b, c⟩ := hw; p.run pins s' σ H D I (s Fr B as σ H S M D d x a b c)⟩
/-! ### the clauses -/
abbrev HdF := Option Nat × (D → Lo → Ev Fl)
inductive DHs (X : Cx) (L : List Addr) : List ExceptHandler → List HdF → List Value → Prop
  | nil : DHs X L [] [] []
  | as_ {x n : Str} {c : Value} {i : Nat} {f : D → Lo → Ev Fl} {s0 : Stmt} {su : List Stmt} {np ps : Pos} {hds : List ExceptHandler} {l : List HdF} {cs : List Value} (hc : Names X x c) (hi : X.N[i]? = some n) (hln : X.env.kindOf n = some .local)
      (hsu : ∀ (a : Addr) (oe : Obj) (cls : Value) (dx : Option Addr) (pn : List (Addr × Obj)), Zc cls dx oe → (∃ vs, oe.data = .fields vs) → XSs (X.suite a ((a, oe) :: pn)) L a cls dx (some i) (s0 :: su) f) (r : DHs X L hds l cs) :
      DHs X L (.ExceptHandler (some (.Name x np)) (some n) (s0 :: su) ps :: hds) ((some i, f) :: l) (c :: cs)
  | bare {x : Str} {c : Value} {f : D → Lo → Ev Fl} {s0 : Stmt} {su : List Stmt} {np ps : Pos} {hds : List ExceptHandler} {l : List HdF} {cs : List Value} (hc : Names X x c)
      (hsu : ∀ (a : Addr) (oe : Obj) (cls : Value) (dx : Option Addr) (pn : List (Addr × Obj)), Zc cls dx oe → (∃ vs, oe.data = .fields vs) → XSs (X.suite a ((a, oe) :: pn)) L a cls dx none (s0 :: su) f) (r : DHs X L hds l cs) :
      DHs X L (.ExceptHandler (some (.Name x np)) none (s0 :: su) ps :: hds) ((none, f) :: l) (c :: cs)
def hdT (X : Cx) (L : List Addr) : List HdF → List Value → List HdT
  | (oi, f) :: l, c :: cs => (c, oi, tX X L oi f) :: hdT X L l cs
  | _, _ => []
theorem DHs.hds {X : Cx} {L : List Addr} : ∀ {hs : List ExceptHandler} {l : List HdF} {cs : List Value}, DHs X L hs l cs → HdsA X hs (hdT X L l cs)
  | _, _, _, .nil => .nil
  | _, _, _, .as_ hc hi hln hsu r => .as_ hc hi hln (fun a oe cls dx pn z v => (hsu a oe cls dx pn z v).pss) r.hds
  | _, _, _, .bare hc hsu r => .bare hc (fun a oe cls dx pn z v => (hsu a oe cls dx pn z v).pss) r.hds
/-- which clause takes an exception of the class cls -/
def Pth (K : PySem.W.Frag) (cls : Value) : List Value → Option Nat → Prop
  | [], none => True
  | [], some _ => False
  | c :: _, some 0 => PySem.W.exmOne K cls c = some true
  | c :: r, some (j + 1) => PySem.W.exmOne K cls c = some false ∧ Pth K cls r (some j)
  | c :: r, none => PySem.W.exmOne K cls c = some false ∧ Pth K cls r none
/-- the table: of the class named c, which clause takes it -/
def TOk (K : PySem.W.Frag) (mg : Str → Option Value) (L : List Addr) (cs : List Value) (T : List (Str × Option Nat)) : Prop := ∀ p ∈ T, ∃ C, mg p.1 = some (.ref C) ∧ C ∈ L ∧ Pth K (.ref C) cs p.2
def offL (oi : Option Nat) (S : Lo) : Lo := match oi with
  | none => S
  | some i => S.set i none
def offE (oi : Option Nat) : Fl → Ev Fl
  | .nx S => Ev.ret (.nx (offL oi S))
  | .rt d => Ev.ret (.rt d)
  | .bk S => Ev.ret (.bk (offL oi S))
  | .ct S => Ev.ret (.ct (offL oi S))
  | .xc _ _ _ => Ev.no
def fits (oi : Option Nat) (S : Lo) : Bool := match oi with
  | none => true
  | some i => decide (i < S.length)
def caught (T : List (Str × Option Nat)) (fs : List HdF) (c : Str) (d : D) (S : Lo) : Ev Fl := match T.lookup c with
  | some (some j) => (match fs[j]? with
    | some (oi, f) => if fits oi S = true then (f d (offL oi S)).bnd (offE oi) else Ev.no
    | none => Ev.no)
  | some none => Ev.ret (.xc c d S)
  | none => Ev.no
theorem RS.off {G : Gx} {B : Hp} {as : List Addr} {σ : L2.St} {S : Lo} (h : RS G B as σ S) (i : Nat) (o : Option V) : RS G B as (σ.set i o) (S.set i none) := by
  refine ⟨by simp [h.len], fun j d q => ?_⟩
  by_cases hj : i = j
  · subst hj
    by_cases hi : i < S.length
    · rw [List.getElem?_set_self hi] at q; cases q
    · rw [List.getElem?_eq_none (by simpa using hi)] at q; cases q
  · rw [List.getElem?_set_ne hj] at q
    obtain ⟨v, a, r⟩ := h.at_ j d q
    exact ⟨v, by rw [List.getElem?_set_ne hj]; exact a, r⟩
theorem Rep.inFrameX {G : Gx} {Fr B : Hp} {as : List Addr} {H : Hp} {M : Store} {p : Addr} {o : HO} (rp : Rep G Fr B as H M) (h : H p = some o) (nb : B p = none) (na : p ∉ as) (ho : ∀ ps, o ≠ .tbl ps := by simp) : Rep G (upd Fr p o) B as H M := by
  refine ⟨rp.sub, fun b u q => ?_, fun a ha => ?_, fun b u q => ?_, rp.nd, rp.out, rp.len, rp.cell, rp.nB, rp.nF.upd ho, rp.tb⟩
  · by_cases hb : b = p
    · subst hb; rw [upd_same] at q; rw [h, ← q]
    · rw [upd_ne hb] at q; exact rp.frm b u q
  · rw [upd_ne (fun z => na (by rw [← z]; exact ha))]
    exact rp.fout a ha
  · by_cases hb : b = p
    · subst hb; exact nb
    · rw [upd_ne hb] at q; exact rp.dis b u q
theorem Rep.exFrame {G : Gx} {Fr B B' : Hp} {as as' : List Addr} {H H' : Hp} {M M' : Store} {p : Addr} {o : HO} (rp : Rep G Fr B as H M) (h : H p = some o) (rp' : Rep G (upd Fr p o) B' as' H' M') : Rep G Fr B' as' H' M' := by
  cases q : Fr p with
  | none => exact rp'.outFrame q
  | some u =>
    have e : upd Fr p o = Fr := by
      funext b
      by_cases hb : b = p
      · subst hb
        rw [upd_same, q]
        have := rp.frm b u q
        rw [h] at this
        exact this
      · rw [upd_ne hb]
    rw [e] at rp'
    exact rp'
section
variable {X : Cx} {W : WX}
theorem DHs.len {L : List Addr} : ∀ {hs : List ExceptHandler} {l : List HdF} {cs : List Value}, DHs X L hs l cs → l.length = cs.length
  | _, _, _, .nil => rfl
  | _, _, _, .as_ _ _ _ _ r => congrArg (· + 1) r.len
  | _, _, _, .bare _ _ r => congrArg (· + 1) r.len
theorem lookup_mem {T : List (Str × Option Nat)} {c : Str} {o : Option Nat} (h : T.lookup c = some o) : (c, o) ∈ T := by
  induction T with
  | nil => cases h
  | cons p T ih =>
    obtain ⟨k, v⟩ := p
    rw [List.lookup_cons] at h
    split at h
    · rename_i e
      cases h
      rw [beq_iff_eq] at e
      rw [e]; simp
    · exact List.mem_cons_of_mem _ (ih h)
end
end DL

set_option Elab.async false
set_option linter.all false
set_option maxRecDepth 100000
set_option maxHeartbeats 4000000
/-! DLR: the expressions of except suites. -/
namespace DL
open PySem PySem.Spec PyProof.Rows L2
variable [Tb]
section
variable {X : Cx} {L : List Addr} {a : Addr} {cls : Value} {dx : Option Addr} {oi : Option Nat} {e e1 e2 : Expr} {es : List Expr} {pos p : Pos} {x : Str}
theorem xe_of {f : Lo → Ev D} (h : DE X W0 e f) : XE' X L a cls dx oi e (fun _ => f) := by
  obtain ⟨t, p, s⟩ := h
  exact ⟨t, p, fun Fr B as σ H S M Q d _ rs rp h => s Fr B as σ H S M Q rs rp h⟩
theorem xa_nil : XA' X L a cls dx oi [] (fun _ => eA0) := ⟨_, pa_nil, fun _ _ _ _ _ _ _ _ _ _ _ rp h => h.ret [] _ rp .nil⟩
theorem xa_cons {f : D → Lo → Ev D} {g : D → Lo → Ev (List D)} (ha : XE' X L a cls dx oi e f) (hr : XA' X L a cls dx oi es g) (hs : starEach (e :: es) X.env = (false, eval e X.env) :: starEach es X.env := by rfl) : XA' X L a cls dx oi (e :: es) (fun d => eAc (f d) (g d)) := by
  obtain ⟨t, p, s⟩ := ha
  obtain ⟨t', p', s'⟩ := hr
  refine ⟨_, pa_cons p p' hs, fun Fr B as σ H S M Q d xi rs rp h => ?_⟩
  refine s Fr B as σ H S M _ d xi rs rp (h.bnd.imp fun x M1 B1 as1 s1 p1 h1 v H1 rp1 r1 => ?_)
  refine s' Fr B1 as1 σ H1 S M1 _ d (xi.mono s1 p1) (rs.mono s1 p1) rp1 (h1.bnd.imp fun l M2 B2 as2 s2 p2 h2 vs H2 rp2 r2 => ?_)
  exact h2.ret _ H2 rp2 (.cons (r1.mono s2 p2) r2)
theorem xe_callB {id : String} {r : List V → Hp → VK → Prop} {f : D → Lo → Ev (List D)} {op : List D → Ev D} (hc : CallR X (.builtin id) r) (ho : OpN X W0 r op) (hg : Gl X x) (hm : X.mg x = none) (hv : bootBuiltins x = some (.builtin id)) (ha : XA' X L a cls dx oi (e :: es) f)
    (hn : x ≠ "__name__" := by decide) (hdb : (x == ("__debug__" : Str)) = false := by decide) (he : starEach (e :: es) X.env = (false, eval e X.env) :: starEach es X.env := by rfl) (hpl : (backTo pos (starEach es X.env)).any (·.1) = false := by rfl) :
    XE' X L a cls dx oi (.Call (.Name x p) (e :: es) [] pos) (fun d => eCall op (f d)) := by
  obtain ⟨t, pa, s⟩ := ha
  refine ⟨_, pe_callB hc hg hm hv pa hn hdb he hpl, fun Fr B as σ H S M Q d xi rs rp h => ?_⟩
  exact s Fr B as σ H S M _ d xi rs rp (h.bnd.imp fun l M1 B1 as1 s1 p1 h1 vs H1 rp1 r1 => ho Fr B1 as1 σ H1 M1 vs l Q rp1 r1 h1)
theorem xe_eq {f g : D → Lo → Ev D} (hu : X.A.units + 64 < cLine) (ha : XE' X L a cls dx oi e1 f) (hb : XE' X L a cls dx oi e2 g) : XE' X L a cls dx oi (.Compare e1 [.Eq] [e2] pos) (fun d => DL.e2 (eqE false) (f d) (g d)) := by
  obtain ⟨ta, pa, sa⟩ := ha
  obtain ⟨tb, pb, sb⟩ := hb
  refine ⟨_, pe_cmpR (op_eqD hu) pa pb (nomark _), fun Fr B as σ H S M Q d xi rs rp h => ?_⟩
  refine sa Fr B as σ H S M _ d xi rs rp (h.bnd.imp fun x M1 B1 as1 s1 p1 h1 v H1 rp1 r1 => ?_)
  refine sb Fr B1 as1 σ H1 S M1 _ d (xi.mono s1 p1) (rs.mono s1 p1) rp1 (h1.bnd.imp fun y M2 B2 as2 s2 p2 h2 w H2 rp2 r2 => ?_)
  exact o_eq (X := X) (W := W0) Fr B2 as2 σ H2 M2 v w x y Q rp2 (r1.mono s2 p2) r2 h2
theorem xe_and2 {f g : D → Lo → Ev D} (ha : XE' X L a cls dx oi e1 f) (hb : XE' X L a cls dx oi e2 g) : XE' X L a cls dx oi (.BoolOp .And [e1, e2] pos) (fun d => eAndV (f d) (g d)) := by
  obtain ⟨t, p, s⟩ := ha
  obtain ⟨t', p', s'⟩ := hb
  refine ⟨_, pe_and p (pe_one p'), fun Fr B as σ H S M Q d xi rs rp h => ?_⟩
  refine s Fr B as σ H S M _ d xi rs rp (h.bnd.imp fun x M1 B1 as1 s1 p1 h1 v H1 rp1 r1 => ?_)
  cases x <;> first | exact h1.elim | skip
  rename_i c
  cases r1
  refine ⟨c, rfl, ?_⟩
  cases c with
  | true => rw [if_pos rfl]; exact s' Fr B1 as1 σ H1 S M1 _ d (xi.mono s1 p1) (rs.mono s1 p1) rp1 h1
  | false => rw [if_neg Bool.false_ne_true]; exact (Post.ret (a := D.bl false) h1) _ H1 rp1 (.bl false)
/-! ### statements -/
end
/-! ### e.value -/
section
variable {X : Cx} {L : List Addr} {a : Addr} {oe : Obj} {cls : Value} {dx : Option Addr} {pn : List (Addr × Obj)} {pos p : Pos} {x : Str}
def xvB (K : PySem.W.Frag) (c : Str) : Bool := xfB K (He.ga K c) && decide (PySem.W.findIn K (.ref (He.ga K c)) "value" = some none)
/-- of every class of L the field can be read -/
def XvL (K : PySem.W.Frag) (L : List Addr) : Prop := ∀ C ∈ L, XfC K C ∧ PySem.W.findIn K (.ref C) "value" = some none
theorem xvL_of {K : PySem.W.Frag} {T : List Str} (h : (T.all fun c => xvB K c) = true) : XvL K (T.map (He.ga K)) := fun C hC => by
  obtain ⟨c, hc, rfl⟩ := List.mem_map.mp hC
  obtain ⟨h1, h2⟩ := Bool.and_eq_true_iff.mp (List.all_eq_true.mp h c hc)
  exact ⟨xfB_ok h1, of_decide_eq_true h2⟩
theorem xe_val {i : Nat} (T : XvL X.K L) (hz : Zc cls dx oe) (hf : ∃ vs, oe.data = .fields vs) (hi : X.N[i]? = some x := by rfl) (hv : Vis X.env.scope x := by first | exact Or.inl rfl | exact Or.inr (Or.inl rfl) | exact Or.inr (Or.inr rfl))
    (hd : (x == ("__debug__" : Str)) = false := by decide) (hcd : (x == ("__classdict__" : Str)) = false := by decide) (hlt : i < X.N.length := by decide) (hb : attributeBase (.Name x p) "value" X.env (eval (.Name x p) X.env) = eval (.Name x p) X.env := by rfl) :
    XE' (X.suite a ((a, oe) :: pn)) L a cls dx (some i) (.Attribute (.Name x p) "value" pos) (fun d _ => Ev.ret d) := by
  by_cases q : ∃ C, cls = .ref C ∧ C ∈ L
  · obtain ⟨C, rfl, hC⟩ := q
    refine ⟨_, pe_xf (T C hC).1 (T C hC).2 hz hf (pe_var (X := X.suite a ((a, oe) :: pn)) (i := i) hi hv hd hcd) hb, fun Fr B as σ H S M Q d xi rs rp h => ?_⟩
    obtain ⟨C', dd, v, h1, h2, h3, h4, h5, h6⟩ := xi
    refine ⟨.ref a, h6 i rfl, rfl, rfl, dd, _, v, h3, rp.frm dd _ h4, rfl, ?_⟩
    exact h.ret v H rp h5
  · refine ⟨fun _ _ _ => False, ⟨fun _ _ _ _ _ _ z => z.elim⟩, fun Fr B as σ H S M Q d xi rs rp h => ?_⟩
    obtain ⟨C', dd, v, h1, h2, _⟩ := xi
    exact q ⟨C', h1, h2⟩
end
theorem tok_nil {K : PySem.W.Frag} {mg : Str → Option Value} {L : List Addr} {cs : List Value} : TOk K mg L cs [] := fun p hp => by cases hp
theorem tok_cons {K : PySem.W.Frag} {mg : Str → Option Value} {L : List Addr} {cs : List Value} {T : List (Str × Option Nat)} {c : Str} {C : Addr} {oj : Option Nat} (hm : mg c = some (.ref C)) (hL : C ∈ L) (hP : Pth K (.ref C) cs oj) (r : TOk K mg L cs T) : TOk K mg L cs ((c, oj) :: T) := fun p hp => by
  rcases List.mem_cons.mp hp with rfl | h
  · exact ⟨C, hm, hL, hP⟩
  · exact r p h
end DL

set_option Elab.async false
set_option linter.all false
set_option maxRecDepth 100000
set_option maxHeartbeats 4000000
/-! DLS: list(zip(a, b)) of two lists. -/
namespace DL
open PySem PySem.Spec PyProof.Rows L2
variable [Tb]
/-- the zip at turn i, while the list at S keeps what came out -/
structure Zd (z TI TO i1 i2 l1 l2 S : Addr) (xs ys : Array Value) (i : Nat) (h : Heap) : Prop where
  ti : IsPair h TI (.ref i1) (.ref i2)
  t1 : h.IsListIter i1 l1 i
  t2 : h.IsListIter i2 l2 i
  a1 : h.IsList l1 xs
  a2 : h.IsList l2 ys
  zz : (IsZip h z TI TO .none ∧ ∃ a b, IsPair h TO a b) ∨ ∃ T f oT, IsZipHeld h z TI TO T f ∧ h.get? T = some oT ∧ T ≠ z ∧ T ≠ i1 ∧ T ≠ i2 ∧ T ≠ S
structure Zo (z TI TO i1 i2 l1 l2 S : Addr) : Prop where
  oz : z ≠ S
  oI : TI ≠ S
  oO : TO ≠ S
  o1 : i1 ≠ S
  o2 : i2 ≠ S
  q1 : l1 ≠ S
  q2 : l2 ≠ S
structure Zg (xs ys : Array Value) (lo : Addr) (h : Heap) (as : List Addr) : Prop where
  up : as.Pairwise (· < ·)
  ab : ∀ a ∈ as, lo < a
  pr : ∀ (j : Nat) (a : Addr), as[j]? = some a → ∃ u v, xs[j]? = some u ∧ ys[j]? = some v ∧ IsPair h a u v
section
variable {prog : Program} {w : World} {A : Around} {E : Value → Shared → Prop} {s : Shared}
variable {z TI TO i1 i2 l1 l2 S : Addr} {xs ys : Array Value} {i : Nat}
end
section
variable {prog : Program} {w : World} {A : Around} {s : Shared} {R : Result → Shared → Prop}
variable {z TI TO i1 i2 l1 l2 S : Addr} {xs ys : Array Value}
end
section
variable {prog : Program} {w : World} {A : Around} {E : Value → Shared → Prop} {s : Shared}
variable {z TI TO i1 i2 l1 l2 : Addr} {xs ys : Array Value}
end
/-! ### over the model's abstract heap -/
section
variable {X : Cx} {e e2 : Expr} {p p2 pos pos2 : Pos}
/-! ### over data -/
end
end DL

set_option Elab.async false
set_option linter.all false
set_option maxRecDepth 100000
set_option maxHeartbeats 4000000
/-! DLT: repr of data with dicts. -/
namespace DL
open PySem PySem.Spec PyProof.Rows L2
variable [Tb]
/-- what stands at the table of modules is known and no list -/
def smB (K : PySem.W.Frag) : Bool := match K.lookup sysModules with
  | some o => decide (o.cls ≠ .type "list")
  | none => false
def keyPd : Key → PyData
  | .inl i => .int i
  | .inr x => .str x
mutual
inductive Dq (K : PySem.W.Frag) (H : Hp) : V → PyData → Prop
  | non : Dq K H .non .none
  | bl (b : Bool) : Dq K H (.bl b) (.bool b)
  | int (i : Int) : Dq K H (.int i) (.int i)
  | str (x : Str) : Dq K H (.str x) (.str x)
  | lst {a : Addr} {xs : List V} {ds : List PyData} : SqL K H a xs → DqAll K H xs ds → Dq K H (.ref a) (.list ds)
  | tup {a : Addr} {xs : List V} {ds : List PyData} : SqT K H a xs → DqAll K H xs ds → Dq K H (.ref a) (.tuple ds)
  | dct {a : Addr} {ks : List Key} {xs : List V} {ds : List PyData} : Rd H a (.dK (ks.zip xs)) → ks.length = xs.length → DqAll K H xs ds → Dq K H (.ref a) (.dict ((ks.map keyPd).zip ds))
inductive DqAll (K : PySem.W.Frag) (H : Hp) : List V → List PyData → Prop
  | nil : DqAll K H [] []
  | cons {v : V} {vs : List V} {d : PyData} {ds : List PyData} : Dq K H v d → DqAll K H vs ds → DqAll K H (v :: vs) (d :: ds)
end
theorem DqAll.len {K : PySem.W.Frag} {H : Hp} : ∀ {vs : List V} {ds : List PyData}, DqAll K H vs ds → vs.length = ds.length
  | _, _, .nil => rfl
  | _, _, .cons _ r => congrArg (· + 1) r.len
theorem pairs_keys {P : Program} {w : World} {h : Heap} : ∀ {es : List DictEntry} {vs : List (Key × Value)}, Pairs (mixKind P w) es vs → ReadsAll h (es.map (·.key)) (vs.map fun q => keyPd q.1) [] ∧ es.map (·.val) = vs.map (·.2)
  | _, _, .nil => ⟨.nil, rfl⟩
  | e :: es, kv :: kvs, .cons h1 h2 r => by
    obtain ⟨r1, r2⟩ := pairs_keys (h := h) r
    have hk : Reads h e.key (keyPd kv.1) [] := by
      have h1' : keyIs kv.1 e.key = true := h1
      rcases keyIs_shape h1' with ⟨i, t, q1, q2⟩ | ⟨x, t, q1, q2⟩ <;> rw [q1, q2]
      · exact .int i t
      · exact .str x t
    refine ⟨?_, by rw [List.map_cons, List.map_cons, h2, r2]⟩
    exact ReadsAll.cons (as := []) (bs := []) hk r1
theorem kv_zip : ∀ {ks : List Key} {xs : List V} {vs : List (Key × Value)}, ks.length = xs.length → KV (ks.zip xs) vs → vs.map (·.1) = ks ∧ Vals xs (vs.map (·.2))
  | [], [], _, _, h => by cases h; exact ⟨rfl, .nil⟩
  | k :: ks, x :: xs, _, hl, h => by
    cases h with
    | cons a r =>
      obtain ⟨e1, e2⟩ := kv_zip (by simpa using hl) r
      exact ⟨by rw [List.map_cons, e1, ← a.1], .cons a.2 e2⟩
  | [], _ :: _, _, hl, _ => by simp at hl
  | _ :: _, [], _, hl, _ => by simp at hl
section
variable {X : Cx} {pins : List (Addr × Obj)} {σ : L2.St} {H : Hp} {s : Shared}
theorem sm_ne (I : Inv X pins σ H s) (hb : smB X.K = true) {a : Addr} {o : Obj} (ho : s.heap.get? a = some o) (hc : o.cls = .type "list") : sysModules ≠ a := fun e => by
  subst e
  unfold smB at hb
  cases q : X.K.lookup sysModules with
  | none => rw [q] at hb; cases hb
  | some o' =>
    rw [q] at hb
    have := I.kIn _ _ q
    rw [ho] at this
    cases this
    exact of_decide_eq_true hb hc
mutual
theorem Dq.reads (I : Inv X pins σ H s) (hb : smB X.K = true) : ∀ {v : V} {d : PyData} {u : Value}, Dq X.K H v d → RelV v u → ∃ as, Reads s.heap u d as ∧ sysModules ∉ as
  | _, _, _, .non, r => by cases r; exact ⟨_, Reads.none, by simp⟩
  | _, _, _, .bl b, r => by cases r; exact ⟨_, Reads.bool b, by simp⟩
  | _, _, _, .int i, r => by obtain ⟨t, rfl⟩ := r; exact ⟨_, Reads.int i t, by simp⟩
  | _, _, _, .str x, r => by obtain ⟨t, rfl⟩ := r; exact ⟨_, Reads.str x t, by simp⟩
  | _, _, _, .lst hs ha, r => by
    cases r
    obtain ⟨its, rv, ⟨o, n, ho, hc, _, hd⟩, _⟩ := I.list hs
    obtain ⟨as, hr, hn⟩ := DqAll.reads I hb ha rv
    refine ⟨_, Reads.list ho hc hd hr, ?_⟩
    simp only [List.mem_cons, not_or]
    exact ⟨sm_ne I hb ho hc, hn⟩
  | _, _, _, .tup hs ha, r => by
    cases r
    obtain ⟨its, rv, ⟨o, ho, hc, n, hd⟩, _⟩ := I.tuple hs
    obtain ⟨as, hr, hn⟩ := DqAll.reads I hb ha rv
    exact ⟨_, Reads.tuple ho hc hd hr, hn⟩
  | _, _, _, .dct (ks := ks) (xs := xs) (ds := ds) hs hl ha, r => by
    cases r
    obtain ⟨_, hne, vs, kv, o, es, ep, ho, hx, hd, _, pr, _⟩ := dk_rd I.hok hs
    obtain ⟨e1, e2⟩ := kv_zip hl kv
    obtain ⟨r1, r2⟩ := pairs_keys (h := s.heap) pr
    obtain ⟨as, hr, hn⟩ := DqAll.reads I hb ha e2
    have hz : (ks.map keyPd).length = ds.length := by rw [List.length_map, hl, ha.len]
    refine ⟨_, Reads.dict ho hx.1 hd (as := []) (bs := as) ?_ ?_, ?_⟩
    · rw [List.map_fst_zip (by omega), ← e1, List.map_map]; exact r1
    · rw [List.map_snd_zip (by omega), r2]; exact hr
    · simp only [List.append_nil, List.cons_append, List.nil_append, List.mem_cons, not_or]
      exact ⟨fun e => by rw [← e] at hne; simp at hne, hn⟩
theorem DqAll.reads (I : Inv X pins σ H s) (hb : smB X.K = true) : ∀ {vs : List V} {ds : List PyData} {us : List Value}, DqAll X.K H vs ds → Vals vs us → ∃ as, ReadsAll s.heap us ds as ∧ sysModules ∉ as
  | _, _, _, .nil, r => by cases r; exact ⟨_, ReadsAll.nil, by simp⟩
  | _, _, _, .cons h1 h2, r => by
    cases r with
    | cons r1 r2 =>
      obtain ⟨as, q1, n1⟩ := Dq.reads I hb h1 r1
      obtain ⟨bs, q2, n2⟩ := DqAll.reads I hb h2 r2
      refine ⟨_, ReadsAll.cons q1 q2, ?_⟩
      simp only [List.mem_append, not_or]
      exact ⟨n1, n2⟩
end
end
mutual
def pyR (M : Store) : Nat → D → Option PyData
  | 0, _ => none
  | k + 1, d => match d with
    | .non => some .none
    | .bl b => some (.bool b)
    | .int i => some (.int i)
    | .str x => some (.str x)
    | .nd .lst l => (pyRs M k l).map .list
    | .nd .slst l => (pyRs M k l).map .list
    | .nd .tup l => (pyRs M k l).map .tuple
    | .nd (.dct ks) l => if ks.length = l.length then (pyRs M k l).map fun ds => .dict ((ks.map keyPd).zip ds) else none
    | .nd (.fdct ks) l => if ks.length = l.length then (pyRs M k l).map fun ds => .dict ((ks.map keyPd).zip ds) else none
    | .ref n => match M[n]? with
      | some (.lst, l) => (pyRs M k l).map .list
      | _ => none
    | _ => none
  termination_by k _ => (k, 0)
def pyRs (M : Store) : Nat → List D → Option (List PyData)
  | _, [] => some []
  | k, d :: l => match pyR M k d, pyRs M k l with
    | some a, some as => some (a :: as)
    | _, _ => none
  termination_by k l => (k, l.length + 1)
end
mutual
theorem pyR_ok {G : Gx} {Fr B H : Hp} {as : List Addr} {M : Store} (rp : Rep G Fr B as H M) : ∀ (k : Nat) (d : D) (v : V) (a : PyData), R G B as v d → pyR M k d = some a → Dq G.K H v a
  | 0, d, v, a, r, h => by unfold pyR at h; cases h
  | k + 1, d, v, a, r, h => by
    have one : ∀ (p : Addr) (vs : List V) (l : List D) (a : PyData), SqL G.K H p vs → Rs G B as vs l → (pyRs M k l).map PyData.list = some a → Dq G.K H (.ref p) a := fun p vs l a sl rs h => by
      cases q : pyRs M k l with
      | none => rw [q] at h; cases h
      | some ds => rw [q] at h; cases h; exact .lst sl (pyRs_ok rp k l vs ds rs q)
    cases r with
    | non => unfold pyR at h; cases h; exact .non
    | bl b => unfold pyR at h; cases h; exact .bl b
    | int i => unfold pyR at h; cases h; exact .int i
    | str x => unfold pyR at h; cases h; exact .str x
    | ty n => unfold pyR at h; cases h
    | gl x => unfold pyR at h; cases h
    | ref ha =>
      rename_i n p
      unfold pyR at h; dsimp only at h
      cases q : M[n]? with
      | none => rw [q] at h; cases h
      | some c =>
        obtain ⟨t, l⟩ := c
        rw [q] at h
        obtain ⟨vs, mc, rs⟩ := rp.cell n p (t, l) ha q
        cases t <;> first | (cases h; done) | skip
        exact one p vs l a (SqL.of mc) rs h
    | nd fc rs =>
      rename_i t p vs l
      unfold pyR at h
      have dc : ∀ ks : List Key, Rd H p (.dK (ks.zip vs)) → ks.length = vs.length → (if ks.length = l.length then (pyRs M k l).map fun ds => PyData.dict ((ks.map keyPd).zip ds) else none) = some a → Dq G.K H (.ref p) a := fun ks rd hl h => by
        by_cases c : ks.length = l.length
        · rw [if_pos c] at h
          cases q : pyRs M k l with
          | none => rw [q] at h; cases h
          | some ds => rw [q] at h; cases h; exact .dct rd hl (pyRs_ok rp k l vs ds rs q)
        · rw [if_neg c] at h; cases h
      cases t with
      | lst => exact one p vs l a (SqL.of (rp.sub _ _ fc)) rs h
      | slst => exact one p vs l a (rp.sub.seq fc) rs h
      | tup =>
        dsimp only at h
        cases q : pyRs M k l with
        | none => rw [q] at h; cases h
        | some ds => rw [q] at h; cases h; exact .tup (sqT_mono rp.sub fc) (pyRs_ok rp k l vs ds rs q)
      | dct ks => exact dc ks (.inl (rp.sub _ _ fc.1)) fc.2 h
      | fdct ks => exact dc ks (.inr (let ⟨o, q⟩ := fc.1; ⟨o, rp.sub _ _ q⟩)) fc.2 h
      | obj c ns => cases h
      | fn k => cases h
      | iset => cases h
  termination_by k _ => (k, 0)
theorem pyRs_ok {G : Gx} {Fr B H : Hp} {as : List Addr} {M : Store} (rp : Rep G Fr B as H M) : ∀ (k : Nat) (l : List D) (vs : List V) (ds : List PyData), Rs G B as vs l → pyRs M k l = some ds → DqAll G.K H vs ds
  | k, [], vs, ds, rs, h => by unfold pyRs at h; cases h; cases rs; exact .nil
  | k, d :: l, vs, ds, rs, h => by
    cases rs with
    | cons r t =>
      unfold pyRs at h
      cases q1 : pyR M k d with
      | none => simp only [q1] at h; cases h
      | some a =>
        cases q2 : pyRs M k l with
        | none => simp only [q1, q2] at h; cases h
        | some as' =>
          simp only [q1, q2] at h
          cases h
          exact .cons (pyR_ok rp k d _ a r q1) (pyRs_ok rp k l _ as' t q2)
  termination_by k l => (k, l.length + 1)
end
/-- what can be shown -/
structure RpF (d : PyData) : Prop where
  sh : d.showable = true
  de : d.depth ≤ 14
  le : d.shown.length ≤ sizeLine
noncomputable instance (d : PyData) : Decidable (RpF d) := Classical.propDecidable _
def rReprF (K : PySem.W.Frag) : List V → Hp → VK → Prop := fun xs H Q => ∃ v d, xs = [v] ∧ Dq K H v d ∧ RpF d ∧ Q (.str d.shown) H
section
variable {X : Cx} {W : WX} {e : Expr} {pos p : Pos}
theorem call_reprF (hgu : X.A.guards = some []) (hu : X.A.units + 64 < cLine) (hb : smB X.K = true) : CallR X (.builtin "repr") (rReprF X.K) := by
  intro pins s σ H xs us Q I r h
  obtain ⟨v, d, rfl, hd, ⟨h1, hp, h3⟩, q⟩ := h
  obtain ⟨u, rfl, ru⟩ := vals1 r
  obtain ⟨as, rd, hn⟩ := Dq.reads I hb hd ru
  have go : ∀ a, Reads s.heap (.ref a) d as → u = .ref a → wpAny (model X.prog X.w) X.A (call (.builtin "repr") [u]) (L2.EP X pins σ Q) X.xe s := fun a rd e => by
    subst e
    exact repr_of_reads' rd h1 (fun _ => hn) hgu (by omega) (fun _ _ e => e) (fun h' t tk hk => ⟨.str d.shown, H, I.kept hk, ⟨t, rfl⟩, q⟩) h3
  cases rd with
  | none => exact PySem.P.repr_of_none ⟨.str _, H, I.tok _, ⟨_, rfl⟩, q⟩
  | bool b => exact PySem.P.repr_of_bool ⟨.str _, H, I.tok _, ⟨_, rfl⟩, by cases b <;> exact q⟩
  | int i t => exact PySem.P.repr_of_int (by simpa [PyData.showable] using h1) ⟨.str _, H, I.tok _, ⟨_, rfl⟩, q⟩
  | str y t => exact PySem.P.repr_of_str ⟨.str _, H, I.tok _, ⟨_, rfl⟩, q⟩ h3
  | list a1 a2 a3 a4 => exact go _ (.list a1 a2 a3 a4) rfl
  | tuple a1 a2 a3 a4 => exact go _ (.tuple a1 a2 a3 a4) rfl
  | dict a1 a2 a3 a4 a5 => exact go _ (.dict a1 a2 a3 a4 a5) rfl
noncomputable def reprF (x : D) : Ev D := fun M => match pyR M 14 x with
  | some d => if RpF d then .ok (.str d.shown) M else .stuck
  | none => .stuck
theorem de_reprF {f : Lo → Ev (List D)} (hgu : X.A.guards = some []) (hu : X.A.units + 64 < cLine) (hb : smB X.K = true) (hg : Gl X "repr") (hm : X.mg "repr" = none) (ha : DA X W [e] f) (he : starEach [e] X.env = (false, eval e X.env) :: starEach [] X.env := by rfl) :
    DE X W (.Call (.Name "repr" p) [e] [] pos) (eCall (op1 reprF) f) :=
  de_callB (call_reprF hgu hu hb) (oN1 fun Fr B as σ H M v d Q rp r h => by
    unfold reprF at h
    cases q : pyR M 14 d with
    | none => simp only [q] at h; exact h.elim
    | some a =>
      simp only [q] at h
      by_cases c : RpF a
      · rw [if_pos c] at h
        exact ⟨v, a, rfl, pyR_ok rp 14 d v a r q, c, h.ok _ H rp (.str _)⟩
      · rw [if_neg c] at h; exact h.elim) hg hm (by decide +kernel) ha (by decide) (by decide) he
end
end DL

set_option Elab.async false
set_option linter.all false
set_option maxRecDepth 100000
set_option maxHeartbeats 4000000
/-! DLV: a lambda without parameters handed to a def that calls it inside try. -/
namespace DL
open PySem PySem.Spec PyProof.Rows L2 LamX
variable [Tb]
def kXE (X : Cx) (Fr : Hp) (E : XK) : Str → D → Store → Hp → List Addr → Prop := fun c d M B as => ∀ cls dx H, Rep (gx X) Fr B as H M → XR (gx X) B as H c d cls dx → E cls dx H
/-- what the def makes of the lambda's outcome -/
def TTd (X : Cx) (le : Out D → Out D) (tl : XK → Hp → VK → Prop) (H : Hp) (Q : VK) : Prop :=
  ∃ Fr B as M o, Rep (gx X) Fr B as H M ∧ (∀ E' Q', Post B as o (kD X Fr Q') (kXE X Fr E') → tl E' H Q') ∧ Post B as (le o) (kD X Fr Q) (fun _ _ _ _ _ => False)
section
variable {X : Cx}
end
/-! ### x(lambda: body) -/
theorem Rep.extN {G : Gx} {Fr B : Hp} {as : List Addr} {H H1 : Hp} {M : Store} (rp : Rep G Fr B as H M) (e : ExtN H H1) (t : LamX.Tabs (Tb.T G.K) H1) : Rep G Fr B as H1 M :=
  ⟨fun b o h => e b o (rp.sub b o h) fun ps z => rp.nB.1 b ps (by rw [h, z]), fun b o h => e b o (rp.frm b o h) fun ps z => rp.nF b ps (by rw [h, z]), rp.fout, rp.dis, rp.nd, rp.out, rp.len, fun n a c ha hc => by
    obtain ⟨vs, m, r⟩ := rp.cell n a c ha hc
    have pl := m.pln
    exact ⟨vs, m.keep (fun o h => e a o h fun ps z => pl.1 ps (by rw [h, z])) (fun _ _ l => l.to (fun o z _ => e _ _ z (by simp)) (fun c q z => e _ _ z (by simp [LamX.CodeO])) fun d o v z _ => e _ _ z (by simp)), r⟩, rp.nB, rp.nF, t⟩
section
variable {X : Cx} {W : WX}
end
/-! ### the def that calls what it gets -/
/-- x calls what it gets inside try and makes le of the outcome -/
structure Door (X : Cx) (x : Str) (g : Addr) (q : Str) (le : Out D → Out D) : Prop where
  ex : ∃ (a : Str) (pg : Arguments) (bg : List Stmt) (sg : Scope) (dV kV doc pm cdv ct oc : Value) (an od : Option Addr) (osl : Array (Option Value)) (Ng : List Str),
    X.K.lookup g = some ⟨oc, od, .func (PySem.W.fnOf x x pg bg sg dV kV doc pm an cdv ct), osl⟩ ∧ PySem.W.codeIn X.K cdv x = true ∧ L2.Binds X.K (PySem.W.fnOf x x pg bg sg dV kV doc pm an cdv ct) [a] [] ∧ FnScope Ng [a] sg ∧ Ng[0]? = some a ∧ Vis sg a ∧
      GivesTo X Ng x sg g cdv bg a q (TTd X le) ∧ (a == ("__debug__" : Str)) = false ∧ (a == ("__classdict__" : Str)) = false
section
variable {X : Cx} {W : WX}
theorem o_reprF : OpN X W (rReprF X.K) (op1 reprF) := oN1 fun Fr B as σ H M v d Q rp r h => by
  unfold reprF at h
  cases q : pyR M 14 d with
  | none => simp only [q] at h; exact h.elim
  | some a =>
    simp only [q] at h
    by_cases c : RpF a
    · rw [if_pos c] at h
      exact ⟨v, a, rfl, pyR_ok rp 14 d v a r q, c, h.ok _ H rp (.str _)⟩
    · rw [if_neg c] at h; exact h.elim
theorem xe_reprF {L : List Addr} {a : Addr} {cls : Value} {dx : Option Addr} {oi : Option Nat} {e : Expr} {pos p : Pos} {f : D → Lo → Ev (List D)} (hgu : X.A.guards = some []) (hu : X.A.units + 64 < cLine) (hb : smB X.K = true) (hg : Gl X "repr") (hm : X.mg "repr" = none) (ha : XA' X L a cls dx oi [e] f) (he : starEach [e] X.env = (false, eval e X.env) :: starEach [] X.env := by rfl) :
    XE' X L a cls dx oi (.Call (.Name "repr" p) [e] [] pos) (fun d => eCall (op1 reprF) (f d)) :=
  xe_callB (call_reprF hgu hu hb) o_reprF hg hm (by decide +kernel) ha (by decide) (by decide) he
end
/-! ### own defs called with nothing -/
section
variable {X : Cx} {W : WX} {x : Str} {pos p : Pos} {k n : Nat} {fa : Addr} {fd : FuncData} {ps : List Str} {F : List D → Ev D}
end
end DL

set_option Elab.async false
set_option linter.all false
set_option maxRecDepth 100000
set_option maxHeartbeats 4000000
/-! DLX: a text times a number. -/
namespace DL
open PySem L2
variable [Tb]
/-! ### tuple(range(..)) -/
/-! ### str(int) -/
end DL

set_option Elab.async false
set_option linter.all false
set_option maxRecDepth 100000
set_option maxHeartbeats 4000000
/-! DLY: list.index of a list of numbers. -/
namespace DL
open PySem L2
variable [Tb]
end DL

set_option Elab.async false
set_option linter.all false
set_option maxRecDepth 100000
set_option maxHeartbeats 4000000
/-! DLU: a != b of objects whose class has an own __eq__; isinstance of an own class. -/
namespace DL
open PySem L2
variable [Tb]
section
variable {prog : Program} {w : World} {A : Around} {E : Value → Shared → Prop} {s : Shared} {K : PySem.W.Frag} {x C f L : Addr} {h₀ : Heap} {m : Str → Option Value} {ox : Obj} {od : Option Obj} {b tb : Value}
theorem bound_ne {M : Model} {as : List Value} {Q : Option Value → Shared → Prop} (XK : K.In s.heap) (I : PySem.W.InstAt s.heap x ox C od) (hne : PySem.W.findIn K (.ref C) "__ne__" = some (some (.builtin "object.__ne__")))
    (h : wpAny M A (call (.builtin "object.__ne__") (.ref x :: as)) (fun v => Q (some v)) E s) : wpAny M A (callSpecialIfBound? (.ref x) "__ne__" as) Q E s := by
  have last : wpAny M A (call (.builtin "object.__ne__") ([.ref x] ++ as) >>= fun v => pure (some v)) Q E s := wpAny_bind (wpAny_mono h (fun v s' q => wpAny_pure q) fun _ _ q => q)
  simp only [callSpecialIfBound?, bindSpecialIfBound?]; refine wpAny_holding (wpAny_bind (wpAny_bind (wpAny_bind (I.type.here ((PySem.W.looks_findIn XK hne).here (wpAny_bind (wpAny_askSetting (wpAny_ite ?_))))))))
  split
  · exact wpAny_bind (wpAny_of_eq (F.cmp_object.ne.bind _) (wpAny_pure (by exact last)))
  · exact wpAny_tryCatch (wpAny_bind (wpAny_of_eq (F.cmp_object.ne.bind _) (wpAny_pure (by exact last))))
theorem body_ne {Q : Fin → Shared → Prop} (hu : A.units < cLine) (XK : K.In s.heap) (I : PySem.W.InstAt s.heap x ox C od) (hs : PySem.W.findIn K (.ref C) "__eq__" = some (some (.ref f))) (hf : PySem.W.isFn K (.ref f) = true)
    (h : wpAny (model prog w) A (call (.ref f) [.ref x, b]) (fun v s' => ∃ t, v = .bool t ∧ Q (.done (.ret (.bool (!t)))) s') E s) : wpAny (model prog w) A (Builtin.«object.__ne__» ⟨[.ref x, b], []⟩) Q E s := by
  unfold Builtin.«object.__ne__»
  repeat (first
    | with_reducible refine wpAny_cRoomFor hu ?_
    | with_reducible refine PySem.W.ifBound_K XK I hs hf (wpAny_mono h (fun v s' q => ?_) fun _ _ z => z)
    | wp_step)
  obtain ⟨t, rfl, hq⟩ := q
  show wpAny (model prog w) A (truthy (.bool t) >>= fun z => ret (.bool (!z))) Q E s'
  exact wpAny_bind (wpAny_truthy_bool (wpAny_pure hq))
theorem call_ne {Q : Value → Shared → Prop} (hu : A.in1.units < cLine) (XK : K.In s.heap) (I : PySem.W.InstAt s.heap x ox C od) (hm : PySem.W.mroIn K C (.type "object") = some true) (hs : PySem.W.findIn K (.ref C) "__eq__" = some (some (.ref f))) (hf : PySem.W.isFn K (.ref f) = true)
    (h : wpAny (model prog w) A.in1 (call (.ref f) [.ref x, b]) (fun v s' => ∃ t, v = .bool t ∧ Q (.bool (!t)) s') E s) : wpAny (model prog w) A (call (.builtin "object.__ne__") [.ref x, b]) Q E s := by
  refine wpAny_call (codeAny_call_builtin F.cmp_object.ne.plain F.cmpEntry_ne (PySem.W.check_slot F.cmpKind_ne F.cmpSplit_ne (I.type.andThen (PySem.W.looks_mroIn XK hm)) (F.cmpArgs_ne _ _) ?_))
  exact body_ne hu XK I hs hf h
theorem rich_ne {Q : Value → Shared → Prop} (hu : A.in1.units < cLine) (FR : PyProof.Rows.Fr h₀ L s.heap m) (X₀ : K.In h₀) (I : PySem.W.InstAt s.heap x ox C od) (hb : PySem.W.Looks (model prog w) s.heap (typeOf b) tb) (hn : PySem.W.notFirst K C tb = true)
    (hne : PySem.W.findIn K (.ref C) "__ne__" = some (some (.builtin "object.__ne__"))) (hm : PySem.W.mroIn K C (.type "object") = some true) (hs : PySem.W.findIn K (.ref C) "__eq__" = some (some (.ref f))) (hf : PySem.W.isFn K (.ref f) = true)
    (h : wpAny (model prog w) A.in1 (call (.ref f) [.ref x, b]) (fun v s' => ∃ t, v = .bool t ∧ Q (.bool (!t)) s') E s) : wpAny (model prog w) A (richCompare .NotEq (.ref x) b) Q E s := by
  have XK := X₀.keeps FR.keep
  have hu0 : A.units < cLine := Nat.lt_of_le_of_lt (by show A.units ≤ A.units + 1; omega) hu
  have first_ : wpAny (model prog w) A (tryCompare (.ref x) (cmpInfo .NotEq).2.1 b) (fun r s' => ∃ t, r = some (.bool t) ∧ Q (.bool t) s') E s := by
    show wpAny (model prog w) A (tryCompare (.ref x) "__ne__" b) _ E s
    unfold tryCompare
    exact wpAny_bind (bound_ne XK I hne (call_ne hu XK I hm hs hf (wpAny_mono h (fun v s' q => by
      obtain ⟨t, e, q⟩ := q
      exact ⟨t, e, wpAny_pure ⟨!t, rfl, q⟩⟩) fun _ _ z => z)))
  unfold richCompare
  simp only [oneThing_ref]; refine wpAny_holding (wpAny_bind (wpAny_cRoomFor hu0 (wpAny_bind (I.type.here (wpAny_bind (hb.here ?_))))))
  split
  · rename_i q
    have sub : PySem.W.subIn K tb (.ref C) = some false := by
      rcases Bool.or_eq_true_iff.mp hn with z | z
      · rw [beq_iff_eq.mp z] at q; simp at q
      · exact beq_iff_eq.mp z
    refine wpAny_bind ((PySem.W.looks_subIn XK sub).here ?_); simp only [Bool.false_eq_true, if_false]; refine wpAny_bind (wpAny_mono first_ (fun r s' z => ?_) fun _ _ z => z)
    obtain ⟨t, rfl, hq⟩ := z; exact wpAny_pure hq
  · refine wpAny_bind (wpAny_pure ?_); simp only [Bool.false_eq_true, if_false]; refine wpAny_bind (wpAny_mono first_ (fun r s' z => ?_) fun _ _ z => z)
    obtain ⟨t, rfl, hq⟩ := z; exact wpAny_pure hq
end
section
variable {X : Cx}
/-- what a != b asks -/
def rNeO (X : Cx) (C : Addr) (F : List D → Ev D) (E : XK) : R2 := fun x y H Q => ∃ a b dx dy fs gs, x = .ref a ∧ y = .ref b ∧ H a = some (.ins C dx fs) ∧ H b = some (.ins C dy gs) ∧ spD (gx X) 2 F [.ref a, .ref b] H (fun v H' => ∃ t, v = .bl t ∧ Q (.bl (!t)) H') E
theorem op_neO {C f : Addr} {k : Nat} {fd : FuncData} {ps : List Str} {F : List D → Ev D} {E : XK} (FO : FnOk X.prog X.w X.K X.mg X.base (CXX X) k f fd ps (spD (gx X) 2 F)) (hr : Room (k + 1) X.A) (hb : Binds X.K fd ps []) (hx : Passes (CXX X) X E)
    (hne : PySem.W.findIn X.K (.ref C) "__ne__" = some (some (.builtin "object.__ne__"))) (hm : PySem.W.mroIn X.K C (.type "object") = some true) (me : Meth X.K C "__eq__" f) : OpR X (compareOp .NotEq) (rNeO X C F E) := by
  intro pins s σ H x y v u Q I rx ry h
  obtain ⟨a, b, dx, dy, fs, gs, rfl, rfl, ha, hb', sp⟩ := h
  cases rx
  cases ry
  obtain ⟨mA, J, _⟩ := ins_get I.hok ha
  obtain ⟨mB, J', _⟩ := ins_get I.hok hb'
  obtain ⟨od, J, _⟩ := J.look
  obtain ⟨od', J', _⟩ := J'.look
  obtain ⟨mf, hF⟩ := I.fr
  have hr1 : Room k X.A.in1 := hr.in1
  show wpAny (model X.prog X.w) X.A (richCompare .NotEq (.ref a) (.ref b)) (EP X pins σ Q) X.xe s
  refine rich_ne (tb := .ref C) hr1.units0 hF I.ok.mod.kin J J'.type (by simp [PySem.W.notFirst]) hne hm me.at_ me.fn ?_
  have ev0 : Env0 X.prog X.w X.K X.mg X.base X.A.in1 X.stack s H := by
    have e := I.env0
    exact ⟨e.frames, e.mod, e.bs, e.bsz, e.funs, e.frf, e.hok, e.bare⟩
  have hl := FO.len _ _ _ _ sp
  have rr : Vals [V.ref a, V.ref b] [Value.ref a, Value.ref b] := .cons rfl (.cons rfl .nil)
  have bd := hb s [.ref a, .ref b] I.kIn (by simpa using hl)
  refine wpAny_call (codeAny_mono (FO.run X.A.in1 X.stack s H ⟨[.ref a, .ref b], []⟩ [.ref a, .ref b] [.ref a, .ref b] _ E hr1 ev0 (by simpa using bd) rr sp) fun r s' hq => ?_)
  cases r with
  | error e => exact hx pins σ H s e s' I hq
  | ok fl =>
    cases fl with
    | ret w0 =>
      obtain ⟨z, H', I', rz, t, ez, qz⟩ := I.after hq
      subst ez
      cases rz
      exact ⟨t, rfl, .bl (!t), H', I', rfl, qz⟩
    | next => exact False.elim hq
    | brk => exact False.elim hq
    | cont => exact False.elim hq
/-- x != y by the own __eq__ F -/
def neO (cn : Str) (F : List D → Ev D) (x y : D) : Ev D := (isObj cn "__eq__" x).bnd fun _ => (isObj cn "__eq__" y).bnd fun _ => (callD 2 F [x, y]).bnd fun r => match r with
  | .bl t => Ev.ret (.bl (!t))
  | _ => Ev.no
theorem o_neO {cn : Str} {C : Addr} {F : List D → Ev D} {E : XK} (c : ClsD X cn C) : Op2 X (WF E) (rNeO X C F E) (neO cn F) := by
  intro Fr B as σ H M v w x y Q rp r1 r2 h
  unfold neO at h
  obtain ⟨a, dx, fs, rfl, hH, _, h⟩ := Post.isObj h c rp r1
  obtain ⟨b, dy, gs, rfl, hH2, _, h⟩ := Post.isObj h c rp r2
  refine ⟨a, b, dx, dy, fs, gs, rfl, rfl, hH, hH2, ?_⟩
  have h2 : Post B as (callD 2 F [x, y] M) (kD X Fr (fun v H' => ∃ t, v = .bl t ∧ Q (.bl (!t)) H')) (kX X Fr (WF E) σ) := h.bnd.imp fun r M1 B1 as1 s1 p1 h1 v H1 rp1 rr => by
    cases rr <;> first | exact h1.elim | skip
    rename_i t
    exact ⟨t, rfl, h1.ret _ H1 rp1 (.bl _)⟩
  exact spD_of (W := WF E) (σ := σ) rp (.cons r1 (.cons r2 .nil)) h2
theorem dt_neO {cn : Str} {C f : Addr} {k : Nat} {fd : FuncData} {ps : List Str} {F : List D → Ev D} {E : XK} {a b : Expr} {pos : Pos} {fa fb : Lo → Ev D} (c : ClsD X cn C) (FO : FnOk X.prog X.w X.K X.mg X.base (CXX X) k f fd ps (spD (gx X) 2 F)) (hr : Room (k + 1) X.A) (hb : Binds X.K fd ps []) (hx : Passes (CXX X) X E)
    (hne : PySem.W.findIn X.K (.ref C) "__ne__" = some (some (.builtin "object.__ne__"))) (hm : PySem.W.mroIn X.K C (.type "object") = some true) (me : Meth X.K C "__eq__" f) (ha : DE X (WF E) a fa) (hb2 : DE X (WF E) b fb) :
    DT X (WF E) (.Compare a [.NotEq] [b] pos) (eB (e2 (neO cn F) fa fb)) := dt_cmp (op_neO FO hr hb hx hne hm me) (o_neO c) ha hb2 (nomark _)
/-- what isinstance asks of an own class -/
def isoB (K : PySem.W.Frag) (C : Addr) : Bool := decide (PySem.W.findIn K (.ref C) "__class__" = some (some (.builtin "object.__class__"))) && (decide (PySem.W.specialIn K (.builtin "object.__class__") "__get__" = some (some (.builtin "getset_descriptor.__get__"))) &&
  (decide (PySem.W.takesIn K (.builtin "object.__class__") = some true) && (decide (PySem.W.mroIn K C (.type "object") = some true) && decide (PySem.W.findIn K (.ref C) "__ne__" = some (some (.builtin "object.__ne__"))))))
structure IsoC (K : PySem.W.Frag) (C : Addr) : Prop where
  ha : PySem.W.findIn K (.ref C) "__class__" = some (some (.builtin "object.__class__"))
  hn : PySem.W.specialIn K (.builtin "object.__class__") "__get__" = some (some (.builtin "getset_descriptor.__get__"))
  ht : PySem.W.takesIn K (.builtin "object.__class__") = some true
  hm : PySem.W.mroIn K C (.type "object") = some true
  hne : PySem.W.findIn K (.ref C) "__ne__" = some (some (.builtin "object.__ne__"))
theorem isoB_ok {K : PySem.W.Frag} {C : Addr} (h : isoB K C = true) : IsoC K C := by
  unfold isoB at h
  simp only [Bool.and_eq_true, decide_eq_true_eq] at h
  exact ⟨h.1, h.2.1, h.2.2.1, h.2.2.2.1, h.2.2.2.2⟩
def eIsO (cn : Str) (fe : Lo → Ev D) : Lo → Ev D := fun S => (fe S).bnd fun x => (isObj cn "__eq__" x).bnd fun _ => Ev.ret (.bl true)
theorem de_isO {W : WX} {cn : Str} {C : Addr} {e : Expr} {p q pos : Pos} {fe : Lo → Ev D} (c : ClsD X cn C) (i : IsoC X.K C) (hg : Gl X "isinstance") (hm : X.mg "isinstance" = none) (hgc : Gl X cn) (ha : DE X W e fe) (hd : (cn == ("__debug__" : Str)) = false := by decide)
    (he : starEach [e, .Name cn q] X.env = (false, eval e X.env) :: starEach [.Name cn q] X.env := by rfl) (he2 : starEach [.Name cn q] X.env = (false, eval (.Name cn q) X.env) :: starEach [] X.env := by rfl) (hpl : (backTo pos (starEach [.Name cn q] X.env)).any (·.1) = false := by rfl) :
    DE X W (.Call (.Name "isinstance" p) [e, .Name cn q] [] pos) (eIsO cn fe) := by
  obtain ⟨te, pe, se⟩ := ha
  have pc : PE X (.Name cn q) (tC (.ref C)) := pe_glob hgc c.mg rfl hd
  refine ⟨_, pe_callB call_isi hg hm (by decide +kernel) (pa_cons pe (pa_cons pc pa_nil he2) he) (by decide) (by decide) he hpl, fun Fr B as σ H S M Q rs rp h => ?_⟩
  refine se Fr B as σ H S M _ rs rp (h.bnd.imp fun x M1 B1 as1 s1 p1 h1 v H1 rp1 r1 => ?_)
  obtain ⟨a, dx, fs, rfl, hH, _, h1⟩ := Post.isObj h1 c rp1 r1
  refine ⟨.ref a, .ref C, .ref C, .ref C, true, rfl, .own C, .base (.ins hH c.cl i.ha i.hn i.ht i.hm), ?_, h1.ret _ H1 rp1 (.bl true)⟩
  unfold PySem.W.kitOne
  rw [if_pos (by simp)]
end
theorem fz_bl {M : Store} {n k : Nat} {d : D} {b : Bool} (h : DL.fz M n k d = some (.bl b)) : d = .bl b := by
  cases d with
  | bl c => unfold DL.fz at h; cases h; rfl
  | ref m =>
    unfold DL.fz at h
    split at h
    · cases h
    · cases k with
      | zero => cases h
      | succ k =>
        dsimp only at h
        split at h
        · rename_i t l _
          cases q : fzs M n k l with
          | none => rw [q] at h; cases h
          | some l' => rw [q] at h; cases h
        · cases h
  | nd t l =>
    unfold DL.fz at h
    cases q : fzs M n k l with
    | none => rw [q] at h; cases h
    | some l' => rw [q] at h; cases h
  | _ => unfold DL.fz at h; cases h
theorem DT.fz {X : Cx} {W : WX} {e : Expr} {f : Lo → Ev D} (h : DT X W e (eB f)) : DT X W e (eB (eFz f)) := by
  obtain ⟨t, p, s⟩ := h
  refine ⟨t, p, fun Fr B as σ H S M Q rs rp h => s Fr B as σ H S M Q rs rp ?_⟩
  unfold eB Ev.bnd eFz fzE at h
  unfold eB Ev.bnd
  cases q : f S M with
  | stuck => rw [q] at h; exact h
  | exc c d M' => rw [q] at h; exact h
  | ok d M' =>
    rw [q] at h
    dsimp only at h
    by_cases k : Kept M M'
    · rw [if_pos k] at h
      cases q2 : DL.fz M' M.length 9 d with
      | none => rw [q2] at h; exact h.elim
      | some d' =>
        rw [q2] at h
        cases d' with
        | bl b =>
          have := fz_bl q2
          subst this
          intro B1 as1 s1 p1 H1 rp1
          obtain ⟨rp2, et⟩ := rp.thaw rp1 p1 k
          exact h _ as (s1.trans (bz_same rp1)) (List.prefix_refl _) H1 rp2
        | _ => exact h.elim
    · rw [if_neg k] at h; exact h.elim
end DL

set_option Elab.async false
set_option linter.all false
set_option maxRecDepth 100000
set_option maxHeartbeats 4000000
/-! EA1: repr of lists that hold own objects. -/
namespace DL
open PySem L2 PyProof.Rows
variable [Tb]
/-- the lists that are being shown -/
def GL (as : List Addr) (g : List Code) : Prop := ∀ id v rest kw, Code.builtin id ⟨v :: rest, kw⟩ ∈ g → ∃ a ∈ as, v = .ref a
theorem GL.nil : GL [] [] := fun _ _ _ _ h => nomatch h
theorem GL.clear {as : List Addr} {g : List Code} {b : Addr} (h : GL as g) (n : b ∉ as) : Clear g b := fun id v rest kw m e => by
  obtain ⟨a, ha, rfl⟩ := h id v rest kw m
  cases e
  exact n ha
theorem GL.cons {as : List Addr} {g : List Code} {a : Addr} {id : String} {rest : List Value} {kw : List (Str × Value)} (h : GL as g) : GL (a :: as) (.builtin id ⟨.ref a :: rest, kw⟩ :: g) := fun id' v' rest' kw' m => by
  rcases List.mem_cons.mp m with e | m
  · cases e
    exact ⟨a, by simp, rfl⟩
  · obtain ⟨b, hb, e⟩ := h _ _ _ _ m
    exact ⟨b, by simp [hb], e⟩
/-- where something is shown: the frames are the context's, the lists in as are being shown -/
structure At (X : Cx) (as : List Addr) (k : Nat) (A : Around) : Prop where
  fr : A.frames = some X.stack
  gl : ∃ g, A.guards = some g ∧ GL as g
  rm : Room k A
/-- a thing's text, whoever shows lists around it -/
def Item (X : Cx) (H : Hp) (as : List Addr) (k : Nat) (v : V) (t : Str) : Prop :=
  ∀ (pins : List (Addr × Obj)) (σ : L2.St) (s : Shared) (A : Around) (E : Value → Shared → Prop) (base : Nat) (u : Value), Inv X pins σ H s → At X as k A → RelV v u → base + t.length ≤ sizeLine →
    wpAny (model X.prog X.w) A (pyReprUnder base u) (fun t' s' => t' = t ∧ Inv X pins σ H s') E s
/-- a thing that holds an own object -/
inductive NRd (K : PySem.W.Frag) (H : Hp) : V → Prop
  | own {x C dx : Addr} {fs : List (Str × V)} : H x = some (.ins C dx fs) → NRd K H (.ref x)
  | lst {a : Addr} {vs : List V} {v : V} : SqL K H a vs → v ∈ vs → NRd K H v → NRd K H (.ref a)
theorem readsAll_mem {h : Heap} : ∀ {us : List Value} {ds : List PyData} {bs : List Addr}, ReadsAll h us ds bs → ∀ u ∈ us, ∃ d cs, Reads h u d cs
  | _, _, _, .nil, u, hu => by cases hu
  | _, _, _, .cons r rs, u, hu => by
    rcases List.mem_cons.mp hu with e | hu
    · subst e; exact ⟨_, _, r⟩
    · exact readsAll_mem rs u hu
theorem vals_mem : ∀ {vs : List V} {us : List Value}, Vals vs us → ∀ v ∈ vs, ∃ u ∈ us, RelV v u
  | _, _, .nil, v, hv => by cases hv
  | _, _, .cons r rs, v, hv => by
    rcases List.mem_cons.mp hv with e | hv
    · subst e; exact ⟨_, by simp, r⟩
    · obtain ⟨u, hu, ru⟩ := vals_mem rs v hv
      exact ⟨u, by simp [hu], ru⟩
theorem NRd.no {X : Cx} {pins : List (Addr × Obj)} {σ : L2.St} {H : Hp} {s : Shared} (I : Inv X pins σ H s) {v : V} (n : NRd X.K H v) : ∀ u, RelV v u → ∀ d bs, ¬ Reads s.heap u d bs := by
  induction n with
  | own hx =>
    intro u r d bs rd
    cases r
    obtain ⟨mA, J, _⟩ := ins_get I.hok hx
    obtain ⟨od, J, _⟩ := J.look
    have e1 := J.at_
    have e2 := J.cls
    cases rd with
    | list h1 h2 h3 h4 => rw [e1] at h1; cases h1; rw [e2] at h2; cases h2
    | tuple h1 h2 h3 h4 => rw [e1] at h1; cases h1; rw [e2] at h2; cases h2
    | dict h1 h2 h3 h4 h5 => rw [e1] at h1; cases h1; rw [e2] at h2; cases h2
  | lst hl hm n ih =>
    intro u r d bs rd
    cases r
    obtain ⟨its, rv, ⟨oa, na, ha, hc, _, hda⟩, _⟩ := I.list hl
    obtain ⟨u, hu, ru⟩ := vals_mem rv _ hm
    cases rd with
    | list h1 h2 h3 h4 =>
      rw [ha] at h1; cases h1
      rw [hda] at h3
      cases h3
      obtain ⟨d, cs, q⟩ := readsAll_mem h4 u (by simpa using hu)
      exact ih u ru d cs q
    | tuple h1 h2 h3 h4 => rw [ha] at h1; cases h1; rw [hc] at h2; injection h2 with e; exact absurd e (by decide)
    | dict h1 h2 h3 h4 h5 => rw [ha] at h1; cases h1; rw [hc] at h2; injection h2 with e; exact absurd e (by decide)
/-- none of the lists can be read as data -/
def NoRd (K : PySem.W.Frag) (H : Hp) (as : List Addr) : Prop := ∀ a ∈ as, NRd K H (.ref a)
section
variable {X : Cx} {H : Hp} {as : List Addr} {k : Nat} {v : V} {t : Str} {a : Addr}
theorem item_data {d : PyData} (n : NoRd X.K H as) (hd : Dp X.K H v d) (hp : d.depth ≤ 14) (h : RpOk d) : Item X H as k v d.shown := fun pins σ s A E base u I at_ r hb => by
  obtain ⟨bs, rd⟩ := Dp.reads I d v u hd r
  obtain ⟨cs, hc, hk⟩ := ReprK.of_reads (prog := X.prog) (w := X.w) rd h.1 (PyData.noDict_hsm h.2.1) h.2.2
  obtain ⟨g, hg, gl⟩ := at_.gl
  refine hk base hb A g E s _ hg (fun b hb => gl.clear fun hm => ?_) (by have := at_.rm.units; omega) (fun _ _ e => e) (fun h' tk hk' => ⟨rfl, I.kept hk'⟩)
  obtain ⟨d', as', r', _⟩ := hc b hb
  exact (n b hm).no I _ rfl d' as' r'
/-- where the parts of a list's text are put -/
structure PFree (X : Cx) (pins : List (Addr × Obj)) (H : Hp) (P : Addr) : Prop where
  hn : H P = none
  hL : P ≠ X.env.locals
  h1 : X.s_0.heap.objs.size ≤ P
  h2 : ∀ x c, X.env.cells.lookup x = some c → c ≠ P
  h3 : ∀ p ∈ X.pn ++ pins, p.1 ≠ P
  hf : P ∉ X.fs
def partsO (acc : Array Value) (c : Nat) : Obj := { cls := .type "list", dict := none, data := .seq acc c, slots := #[] }
theorem _root_.L2.Inv.unpin {X : Cx} {pins : List (Addr × Obj)} {σ : L2.St} {H : Hp} {s : Shared} {p : Addr × Obj} (I : Inv X (p :: pins) σ H s) : Inv X pins σ H s :=
  I.pins_of fun q hq => I.pin q (List.mem_append_right _ (List.mem_cons_of_mem _ hq))
theorem _root_.L2.Inv.repin {X : Cx} {pins : List (Addr × Obj)} {σ : L2.St} {H : Hp} {s : Shared} {P : Addr} {o : Obj} (I : Inv X pins σ H s) (F : PFree X pins H P) (h : s.heap.get? P = some o) (hc : ∀ v, o.data ≠ .cell v) : Inv X ((P, o) :: pins) σ H s :=
  I.pins_of fun q hq => by
    rcases List.mem_cons.mp hq with e | hq
    · subst e; exact ⟨h, F.hn, F.hL, F.hf, hc⟩
    · exact I.pin q (List.mem_append_right _ hq)
theorem at_under {A : Around} {rest : List Value} {kw : List (Str × Value)} (h : At X as (k + 1) A) : At X (a :: as) k (A.under (.builtin "list.__repr__.loop" ⟨.ref a :: rest, kw⟩)) := by
  obtain ⟨g, hg, gl⟩ := h.gl
  refine ⟨?_, ⟨_, guards_under_guard (isGuard_list_loop _) hg, gl.cons⟩, ⟨?_, ?_, ?_⟩⟩
  · have := h.fr
    simp [Around.under, Code.envs, Code.isFrame, pushEnvs, this]
  · have := h.rm.hd
    simp [Around.under, this]
  · have := h.rm.dp
    have e : (A.under (.builtin "list.__repr__.loop" ⟨.ref a :: rest, kw⟩)).depth = A.depth + 1 := by
      first | rfl | simp [Around.under, Code.weight, Code.isCreation, Code.isGuard, Code.isCaller, Code.frames, Code.isFrame, guardIds]
    rw [e]
    omega
  · rw [units_under_list_loop]
    have := h.rm.un
    omega
theorem callBy_K {M : Model} {A : Around} {E : Value → Shared → Prop} {s : Shared} {K : PySem.W.Frag} {x C f : Addr} {ox : Obj} {od : Option Obj} {name : Str} {last : Value → List Value → Sem Value} {Q : Option Value → Shared → Prop} (XK : K.In s.heap) (I : PySem.W.InstAt s.heap x ox C od) (hs : PySem.W.findIn K (.ref C) name = some (some (.ref f))) (hf : PySem.W.isFn K (.ref f) = true)
    (h : wpAny M A (last (.ref f) [.ref x]) (fun v => Q (some v)) E s) : wpAny M A (callSpecialIfBoundBy? last (.ref x) name) Q E s := by
  simp only [callSpecialIfBoundBy?, bindSpecialIfBound?]
  refine wpAny_holding (wpAny_bind (wpAny_bind (wpAny_bind (I.type.here ((PySem.W.looks_findIn XK hs).here ?_)))))
  refine wpAny_bind (wpAny_askSetting (wpAny_ite ?_))
  have fin : wpAny M A (last (.ref f) [.ref x] >>= fun v => pure (some v)) Q E s := wpAny_bind (wpAny_mono h (fun v s' h' => wpAny_pure h') fun _ _ h' => h')
  split
  · exact wpAny_bind ((PySem.W.bind_fn XK _ (beq_iff_eq.mp hf)).here (wpAny_pure (by exact fin)))
  · exact wpAny_tryCatch (wpAny_bind ((PySem.W.bind_fn XK _ (beq_iff_eq.mp hf)).here (wpAny_pure (by exact fin))))
/-- what an own __repr__ promises of one object -/
def Own (X : Cx) (H : Hp) (as : List Addr) (k : Nat) (f x : Addr) (t : Str) : Prop :=
  ∀ (pins : List (Addr × Obj)) (σ : L2.St) (s : Shared) (A : Around) (E : Value → Shared → Prop), Inv X pins σ H s → At X as k A →
    wpAny (model X.prog X.w) A (call (.ref f) [.ref x]) (fun v s' => ∃ u, v = .str t u ∧ Inv X pins σ H s') E s
theorem item_own {f x C dx : Addr} {fs : List (Str × V)} (hx : H x = some (.ins C dx fs)) (me : Meth X.K C "__repr__" f) (o : Own X H as k f x t) : Item X H as k (.ref x) t := fun pins σ s A E base u I at_ r hb => by
  cases r
  obtain ⟨mA, J, _⟩ := ins_get I.hok hx
  obtain ⟨od, J, _⟩ := J.look
  refine wpAny_pyReprUnder_ref (by omega) ?_
  unfold pyReprObjUnder pyReprObjBy
  refine wpAny_bind (wpAny_cRoomFor at_.rm.units0 ?_)
  unfold specialOf
  refine wpAny_bind (wpAny_bind (J.type.here ((PySem.W.looks_findIn I.kIn me.at_).here ?_)))
  simp only [Option.isNone_some, Bool.false_eq_true, if_false]
  refine wpAny_bind (callBy_K I.kIn J me.at_ me.fn ?_)
  show wpAny _ _ (call (.ref f) [.ref x]) _ _ _
  refine wpAny_mono (o pins σ s A E I at_) (fun v s' hv => ?_) fun _ _ z => z
  obtain ⟨u, rfl, I'⟩ := hv
  exact wpAny_bind (wpAny_isInstance (T := "str") (b := true) rfl isSubtype_str_str (wpAny_pure ⟨_, _, rfl, rfl, I'⟩))
/-- the loop -/
theorem loop_ok {R : Result → Shared → Prop} {pins : List (Addr × Obj)} {σ : L2.St} {A : Around} {P : Addr} {vs : List V} {ts : List Str} {base : Nat} (hl : SqL X.K H a vs) (hT : ∀ (i : Nat) (v : V), vs[i]? = some v → ∃ t, ts[i]? = some t ∧ Item X H (a :: as) k v t) (hlen : ts.length = vs.length) (at_ : At X as (k + 1) A) (PF : PFree X pins H P)
    (hsz : base + (listText ts).length ≤ sizeLine) (hR : ∀ s' u, Inv X pins σ H s' → R (.ok (.ret (.str (listText ts) u))) s') :
    ∀ (j i : Nat) (s : Shared) (acc : Array Value) (c : Nat) (done : List (Str × Tok)), vs.length - i = j → i ≤ vs.length → Inv X ((P, partsO acc c) :: pins) σ H s → acc.toList = strValues done → done.map (·.1) = ts.take i →
      codeAny (model X.prog X.w) A (.builtin "list.__repr__.loop" ⟨[.ref a, rawInt i, .ref P, rawInt ((base + piled (ts.take i) : Nat) : Int)], []⟩) R s := by
  have hL := textFrom_len ts 0 "["
  have hX : (listText ts).length = (textFrom 0 "[" ts).length + 1 := by
    show (textFrom 0 "[" ts ++ "]").length = _
    rw [strLen_append]; rfl
  have hsz1 : vs.length ≤ sizeLine := by
    have h1 := hL.1
    rw [if_neg (Nat.lt_irrefl 0)] at h1
    omega
  have hsz2 : ∀ t ∈ ts, t.length ≤ sizeLine := fun t ht => by
    have h2 := hL.2.1 t ht
    omega
  have hsz3 : (listText ts).length ≤ sizeLine := by omega
  have hp3 := piled_le_listText ts
  intro j
  induction j with
  | zero =>
    intro i s acc c done hk hi I hacc hdone
    have hin : i = vs.length := by omega
    obtain ⟨its, r, ⟨oa, na, ha, hc, _, hda⟩, _⟩ := I.list hl
    have hP := (I.pin _ (List.mem_append_right _ (List.mem_cons_self ..))).1
    have hlenr := r.length
    refine codeAny_builtin F.entry_list_repr_loop ?_
    show wpAny _ _ (Builtin.«list.__repr__.loop» ⟨[.ref a, .int i 0, .ref P, .int ((base + piled (ts.take i) : Nat) : Int) 0], []⟩) _ _ s
    rw [repr_loop_tree]
    refine wpAny_bind (wpAny_listItems ha hda ?_)
    have hnone : its.toArray[(i : Int).toNat]? = none := by simp; omega
    simp only [hnone]
    unfold reprEnd
    refine wpAny_bind (wpAny_listItems hP rfl ?_)
    rw [hacc, repr_fold]
    refine wpAny_bind (wpAny_pure ?_)
    have hall : done.map (·.1) = ts := by rw [hdone, hin, ← hlen, List.take_length]
    rw [hall]
    refine wpAny_bind (wpAny_mkStr (wpAny_pure ?_) hsz3)
    exact hR _ _ (I.unpin.tok _)
  | succ j ih =>
    intro i s acc c done hk hi I hacc hdone
    have hlt : i < vs.length := by omega
    obtain ⟨t, ht, hrep⟩ := hT i vs[i] (by simp [hlt])
    have hp1 := piled_take_succ ht
    have hp2 := piled_take_le ts (i + 1)
    obtain ⟨its, r, ⟨oa, na, ha, hc, _, hda⟩, _⟩ := I.list hl
    have hlenr := r.length
    obtain ⟨u, hu, ru⟩ := r.get (i := i) (x := vs[i]) (by simp [hlt])
    refine codeAny_builtin F.entry_list_repr_loop ?_
    show wpAny _ _ (Builtin.«list.__repr__.loop» ⟨[.ref a, .int i 0, .ref P, .int ((base + piled (ts.take i) : Nat) : Int) 0], []⟩) _ _ s
    rw [repr_loop_tree]
    refine wpAny_bind (wpAny_listItems ha hda ?_)
    have hsome : its.toArray[(i : Int).toNat]? = some u := by simpa using hu
    simp only [hsome]
    rw [Int.toNat_natCast]
    refine wpAny_bind (wpAny_holding (wpAny_mono (hrep ((P, partsO acc c) :: pins) σ s _ _ (base + piled (ts.take i) + 1) u I (at_under at_) ru (by omega)) (fun t' s' ht' => ?_) fun _ _ z => z))
    obtain ⟨rfl, I'⟩ := ht'
    refine wpAny_bind (wpAny_mkStr ?_ (hsz2 t' (List.mem_of_getElem? ht)))
    refine wpAny_bind ?_
    show wpAny _ _ (updateSeq P _) _ _ _
    have hP := (I'.pin _ (List.mem_append_right _ (List.mem_cons_self ..))).1
    have hasz : acc.size ≤ sizeLine := by
      have e1 : acc.toList.length = acc.size := by simp
      have e2 : (strValues done).length = done.length := by simp [strValues]
      have e3 : done.length = (ts.take i).length := by rw [← hdone, List.length_map]
      have e4 : (ts.take i).length ≤ i := by rw [List.length_take]; omega
      rw [hacc] at e1; omega
    refine wpAny_updateSeq (o := partsO acc c) hP rfl (wpAny_pure ⟨F.quiet_list_repr_loop _, ?_⟩) hasz
    have e1 : ((i : Int) + 1) = ((i + 1 : Nat) : Int) := by omega
    have e2 : base + piled (ts.take i) + (t'.length + 2) = base + piled (ts.take (i + 1)) := by omega
    rw [e1, e2]
    have I2 := I'.unpin
    have I3 := (I2.turned (t' := s'.toks + 1) (h' := s'.heap.update P (Obj.mapSeq (·.push (.str t' s'.toks)))) (it := P) (fun b o hb e => (Heap.get?_update_other _ _ (fun h : P = b => hb h.symm)).trans e) PF.hn PF.hL (.inr PF.h1) PF.h2 PF.h3).repin PF (o := partsO (acc.push (.str t' s'.toks)) _) (Heap.get?_update_self _ hP rfl) (fun v z => by cases z)
    exact ih (i + 1) _ (acc.push (.str t' s'.toks)) _ (done ++ [(t', s'.toks)]) (by omega) hlt I3 (by simp [hacc, strValues]) (by simp [List.take_add_one, ht, hdone])
end
end DL

set_option Elab.async false
set_option linter.all false
set_option maxRecDepth 100000
set_option maxHeartbeats 4000000
/-! EA2: a list that holds own objects, shown. -/
namespace DL
open PySem L2 PyProof.Rows
variable [Tb]
section
variable {X : Cx} {H : Hp} {as : List Addr} {k : Nat} {v : V} {t : Str} {a : Addr} {A : Around} {pins : List (Addr × Obj)} {σ : L2.St} {s : Shared} {vs : List V} {ts : List Str}
theorem At.in1 (h : At X as (k + 1) A) : At X as k A.in1 := ⟨h.fr, h.gl, h.rm.in1⟩
theorem At.mono {j : Nat} (h : At X as k A) (hj : j ≤ k) : At X as j A := ⟨h.fr, h.gl, h.rm.mono hj⟩
theorem pfree_new (I : Inv X pins σ H s) : PFree X pins H s.heap.objs.size := by
  refine ⟨I.hok.fresh (Nat.le_refl _), fun e => ?_, I.sz, fun x c e z => ?_, fun p hp z => ?_, I.nofs (Nat.le_refl _)⟩
  · exact Nat.ne_of_gt I.lt e
  · obtain ⟨w, o, ho, _⟩ := I.cell x c e
    exact Nat.ne_of_lt (Heap.lt_size ho) z
  · exact Nat.ne_of_lt (Heap.lt_size (I.pin p hp).1) z
theorem list_at {R : Result → Shared → Prop} {base : Nat} (hl : SqL X.K H a vs) (hv : vs ≠ []) (hT : ∀ (i : Nat) (v : V), vs[i]? = some v → ∃ t, ts[i]? = some t ∧ Item X H (a :: as) k v t) (hlen : ts.length = vs.length) (at_ : At X as (k + 1) A) (hna : a ∉ as)
    (hsz : base + (listText ts).length ≤ sizeLine) (hR : ∀ s' u, Inv X pins σ H s' → R (.ok (.ret (.str (listText ts) u))) s') (I : Inv X pins σ H s) :
    wpAny (model X.prog X.w) A.in1 (Builtin.listReprAt base ⟨[.ref a], []⟩) (fun fin s' => match fin with | .done f => R (.ok f) s' | .again c' => c'.quiet = true ∧ codeAny (model X.prog X.w) A c' R s') (fun e s' => R (.error e) s') s := by
  obtain ⟨its, r, ⟨oa, na, ha, hc, _, hda⟩, _⟩ := I.list hl
  obtain ⟨g, hg, gl⟩ := at_.gl
  cases r with
  | nil => exact (hv rfl).elim
  | cons r0 rs =>
    refine wpAny_list_repr_head (A := A.in1) hg (fun v rest kw hm => listSameRef_of_ne ((gl.clear hna) _ _ _ _ hm)) ha hda ?_
    refine wpAny_bind (m := newList []) (wpAny_newObj_type ?_)
    refine wpAny_pure ⟨F.quiet_list_repr_loop _, ?_⟩
    have PF := pfree_new I
    have I1 := (I.kept (t' := s.toks) (h' := s.heap.push (partsO #[] 0)) (fun b u e => Heap.get?_push_of_some _ e)).repin PF (o := partsO #[] 0) (Heap.get?_push_size _ rfl) (fun v z => by cases z)
    exact loop_ok hl hT hlen at_ PF hsz hR _ 0 _ #[] _ [] rfl (Nat.zero_le _) I1 rfl (by simp)
theorem item_list (hl : SqL X.K H a vs) (hv : vs ≠ []) (hT : ∀ (i : Nat) (v : V), vs[i]? = some v → ∃ t, ts[i]? = some t ∧ Item X H (a :: as) k v t) (hlen : ts.length = vs.length) (hna : a ∉ as) : Item X H as (k + 1) (.ref a) (listText ts) := fun pins σ s A E base u I at_ r hb => by
  cases r
  obtain ⟨its, r, ⟨oa, na, ha, hc, _, hda⟩, _⟩ := I.list hl
  refine wpAny_pyReprUnder_ref (by omega) ?_
  refine wpAny_pyReprObjUnder_twin (twin := "list.__repr__.under") ⟨oa, ha, hc⟩ F.slot_list_repr.toG rfl at_.rm.units0 ?_
  refine call_twin_plain F.plain_list_repr_under F.entry_list_repr_under F.check_list_repr_under ⟨oa, ha, hc⟩ F.slot_list_repr.toG (F.args_list_repr_1 _) ?_
  exact list_at (R := callEnd _ E) hl hv hT hlen at_ hna hb (fun s' u I' => ⟨⟨_, _, rfl⟩, _, _, rfl, rfl, I'⟩) I
/-- repr of such a list -/
theorem repr_list {E : Value → Shared → Prop} {Q : Value → Shared → Prop} (hl : SqL X.K H a vs) (hv : vs ≠ []) (hT : ∀ (i : Nat) (v : V), vs[i]? = some v → ∃ t, ts[i]? = some t ∧ Item X H (a :: as) k v t) (hlen : ts.length = vs.length) (hna : a ∉ as) (at_ : At X as (k + 2) A)
    (hz : (listText ts).length ≤ sizeLine) (I : Inv X pins σ H s) (hQ : ∀ s' u, Inv X pins σ H s' → Q (.str (listText ts) u) s') : wpAny (model X.prog X.w) A (call (.builtin "repr") [.ref a]) Q E s := by
  obtain ⟨its, r, ⟨oa, na, ha, hc, _, hda⟩, _⟩ := I.list hl
  have hT1 : s.TypeIs (.ref a) "list" := ⟨oa, ha, hc⟩
  refine call_repr_slot (by have := at_.rm.units; omega) hT1 F.slot_list_repr.toG ?_
  refine wpAny_call (codeAny_call_builtin F.slot_list_repr.plain F.entry_list_repr (F.slot_list_repr.check _ _ _ _ _ _ _ _ hT1 (F.args_list_repr_1 _) ?_))
  exact list_at (base := 0) (R := callEnd _ E) hl hv hT hlen at_.in1 hna (by omega) (fun s' u I' => ⟨_, _, rfl, hQ _ _ I'⟩) I
end
end DL

set_option Elab.async false
set_option linter.all false
set_option maxRecDepth 100000
set_option maxHeartbeats 4000000
/-! EA3: {list} in an f-string; the own __repr__ of a web. -/
namespace DL
open PySem L2 PyProof.Rows
variable [Tb]
section
variable {X : Cx} {H : Hp} {as : List Addr} {k : Nat} {t : Str} {pins : List (Addr × Obj)} {σ : L2.St} {s : Shared}
def tFmtL (K : PySem.W.Frag) (as : List Addr) (te : TE) : TE := fun σ H Q => te σ H fun x H1 => ∃ a l, x = .ref a ∧ Dp K H1 (.ref a) (.list l) ∧ (PyData.list l).depth ≤ 14 ∧ RpOk (.list l) ∧ NoRd K H1 as ∧ Q (.str (PyData.list l).shown) H1
theorem pe_fmtL {e : Expr} {te : TE} {pos : Pos} (hg : ∃ g, X.A.guards = some g ∧ GL as g) (hr : Room k X.A) (he : PE X e te) : PE X (.FormattedValue e (-1) none pos) (tFmtL X.K as te) := by
  refine ⟨fun pins s σ H Q I h => ?_⟩
  refine wpAny_FormattedValue_plain (thn (he.run pins s σ H _ I h) fun v s1 hv => ?_)
  obtain ⟨x, H1, I1, r1, a, l, rfl, hd, hp, hk, nr, q⟩ := hv
  cases r1
  obtain ⟨bs, rd⟩ := Dp.reads I1 _ _ _ hd (show RelV (.ref a) (.ref a) from rfl)
  obtain ⟨g, hg, gl⟩ := hg
  have hz := hk.2.2
  have hs := hk.1
  have hsm := PyData.noDict_hsm (as := bs) hk.2.1
  have rd0 := rd
  cases rd with
  | list h1 h2 h3 h4 =>
    rename_i o vs n cs
    have hz' : (listText (PyData.shownAll l)).length ≤ sizeLine := by simpa only [PyData.shown] using hz
    obtain ⟨bs, hb, hk⟩ := ReprAllK.of_readsAll (prog := X.prog) (w := X.w) h4 (by simpa [PyData.showable] using hs) (fun hx hm => hsm (by simpa [PyData.hasDict] using hx) (List.mem_cons_of_mem _ hm)) (fun t ht => Nat.le_trans (listText_mem_le ht) hz')
    have hna : a ∉ bs := not_mem_of_deeper (.list h1 h2 h3 h4) (by simp only [PyData.depth]; omega) hb
    have hu := hr.units
    simp only [PyData.depth] at hp
    refine wpAny_formatField_slot (fun _ _ => nofun) (by omega) ⟨o, h1, h2⟩ F.slot_list_format F.slot_list_str F.slot_list_repr.toG ?_
    obtain ⟨l'⟩ := vs
    cases l' with
    | nil =>
      have h4' : ReadsAll s1.heap [] l _ := h4
      cases h4'
      simp only [PyData.shown, PyData.shownAll, listText_nil] at q
      refine call_list_repr_empty (s := { s1 with toks := s1.toks + 1 }) ⟨o, h1, h2⟩ h1 h3 ⟨_, _, rfl, .str _, H1, (I1.tok _), ⟨_, rfl⟩, q⟩
    | cons x l' =>
      refine call_list_reprK (s := { s1 with toks := s1.toks + 1 }) h1 h2 h3 hna (by simpa using hk.length_eq) (fun i y e => hk.item i y (by simpa using e)) (A := X.A.in1.in1) (g := g) hg (fun b hb2 => gl.clear fun hm => ?_) (by show X.A.units + 1 + 1 + _ < _; omega) (fun _ _ e => e) (fun h' u tk hk' => ⟨_, _, rfl, .str _, H1, I1.kept hk', ⟨_, rfl⟩, by simpa only [PyData.shown] using q⟩) hz'
      rcases List.mem_cons.mp hb2 with e | hb2
      · subst e
        exact (nr _ hm).no I1 _ rfl _ _ rd0
      · obtain ⟨d', as', r', _⟩ := hb b hb2
        exact (nr _ hm).no I1 _ rfl _ _ r'
/-- a def's promise at any guards that Gd allows -/
theorem okP {Gd : Option (List Code) → Prop} {P : Program} {w : World} {K : PySem.W.Frag} {mg : Str → Option Value} {base : Heap} {CX : CXT} {x qual : Str} {params : Arguments} {body : List Stmt} {scope : Scope} {dvs : List V} {kws : List (Str × V)} {f : Addr} {fd : FuncData} {N ps : List Str} {k : Nat} {sp : Sp}
    (F : FunD K x qual params body scope dvs kws f fd) (S : FnScope N ps scope) (len : ∀ vs H Q E, sp vs H Q E → vs.length = ps.length)
    (hbody : ∀ (cdv : Value) (A : Around) (outer : List Env) (s : Shared) (H : Hp) (vs : List V) (Q : VK) (E : XK), Room k (A.deeper (envOfC qual scope s.heap.objs.size f cdv)) → Gd A.guards → sp vs H Q E →
      ∃ t, PSs (cxOf CX P w K mg base N qual scope f cdv A outer s H E) body t ∧ t { nx := fun _ H' => Q .non H', rt := Q } (start N vs) H) :
    ∀ (A : Around) (outer : List Env) (s : Shared) (H : Hp) (args : Args) (us : List Value) (vs : List V) (Q : VK) (E : XK), Room (k + 1) A → Gd A.guards → Env0 P w K mg base A outer s H → BindsTo s fd args (ps.zip us) → Vals vs us → sp vs H Q E →
      codeAny (model P w) A (.call (.ref f) args) (CR CX outer P w H s Q E) s := by
  obtain ⟨oc, od, dV, kV, doc, pm, an, cdv, ct, osl, rfl, lk, hcd, _, _⟩ := F.ex
  intro A outer s H args us vs Q E hr hgu e0 hb r hsp
  have KX : K.In s.heap := e0.mod.kin.keeps fun b o e => (e0.bs b o e).1
  obtain ⟨t, ht, hq⟩ := hbody cdv A outer s H vs Q E (hr.deeper _) hgu hsp
  refine codeAny_call_function hr.depth (KX _ _ lk) rfl S.co S.gen rfl (PySem.W.codeRec_of KX hcd) (hb _ _ _ _ (wpAny_newFunctionEnv_cells S.kind (fun y hy => ?_) fun env he s1 x => ?_))
  · rcases S.par y.1 (List.of_mem_zip hy).1 with q | q
    · exact .inl q
    · exact .inr ⟨q, PySem.W.cellsFrom_some _ _ _ (.inl q)⟩
  subst he
  refine ⟨Heap.NoLimit.keeps (e0.mod.nolimit.keeps fun b o e => (e0.bs b o e).1) x.toInCall.keep, codeAny_func (wpAny_mono (ht.run [] s1 (start N vs) H _ (inv_start S hr.hd e0 (len _ _ _ _ hsp) r x) hq) (fun fl s' hs => ?_) fun e s' hs => hs)⟩
  cases fl with
  | ret u => exact let ⟨v, _, H', J, rv, q⟩ := hs; ⟨v, H', J.os, J.bare, J.base, J.hok, rv, q⟩
  | next => exact let ⟨_, H', J, q⟩ := hs; ⟨.non, H', J.os, J.bare, J.base, J.hok, rfl, q⟩
  | brk => exact let ⟨_, _, _, q⟩ := hs; q.elim
  | cont => exact let ⟨_, _, _, q⟩ := hs; q.elim
/-- the text of a web -/
def webS (n : Int) (t : Str) (m : Int) : Str := Str.empty ++ ("Web(" : Str) ++ toString n ++ (", " : Str) ++ t ++ (", modulus=" : Str) ++ toString m ++ (")" : Str)
theorem own_web {C f a x dx : Addr} {fd : FuncData} {fs : List (Str × V)} {nm qual : Str} {params : Arguments} {scope : Scope} {n m : Int} {l : List PyData} {j1 j2 j3 j4 : Nat} {p1 p2 p3 p4 q1 q2 q3 r1 r2 r3 s1 s2 s3 pj pr : Pos}
    (F : FunD X.K nm qual params [.Return (some (.JoinedStr [.Constant (.str "Web(") j1 p1, .FormattedValue (.Attribute (.Name "self" q1) "own_size" r1) (-1) none s1, .Constant (.str ", ") j2 p2, .FormattedValue (.Attribute (.Name "self" q2) "own_edges" r2) (-1) none s2, .Constant (.str ", modulus=") j3 p3, .FormattedValue (.Attribute (.Name "self" q3) "own_modulus" r3) (-1) none s3, .Constant (.str ")") j4 p4] pj)) pr] scope [] [] f fd)
    (S : FnScope ["self"] ["self"] scope) (hv : Vis scope "self") (bd : Binds X.K fd ["self"] []) (cl : Cls X.K C) (n1 : NoAttr X.K C ("own_size" : Str)) (n2 : NoAttr X.K C ("own_edges" : Str)) (n3 : NoAttr X.K C ("own_modulus" : Str))
    (hx : H x = some (.ins C dx fs)) (l1 : fs.lookup ("own_size" : Str) = some (.int n)) (l2 : fs.lookup ("own_edges" : Str) = some (.ref a)) (l3 : fs.lookup ("own_modulus" : Str) = some (.int m)) (hd : Dp X.K H (.ref a) (.list l)) (hp : (PyData.list l).depth ≤ 14) (ok : RpOk (.list l))
    (hn : n.natAbs.log2 < 1920) (hm : m.natAbs.log2 < 1920) (hz : (webS n (PyData.list l).shown m).length ≤ sizeLine) (nr : NoRd X.K H as) : Own X H as (k + 2) f x (webS n (PyData.list l).shown m) := fun pins σ s A E I at_ => by
  have e0 : Env0 X.prog X.w X.K X.mg X.base A X.stack s H := by
    have e := I.env0
    exact ⟨at_.fr, e.mod, e.bs, e.bsz, e.funs, e.frf, e.hok, e.bare⟩
  have H1 := okP (P := X.prog) (w := X.w) (mg := X.mg) (base := X.base) (CX := fun _ _ _ _ _ _ => False) (Gd := fun o => ∃ g, o = some g ∧ GL as g) (k := k + 1) (sp := fun vs H' Q _ => vs = [.ref x] ∧ H' = H ∧ Q (.str (webS n (PyData.list l).shown m)) H) F S (fun vs H' Q E h => by rw [h.1]; rfl) (fun cdv A outer s H' vs Q E hr hgu h => by
    obtain ⟨rfl, rfl, hq⟩ := h
    have self_ : ∀ {q : Pos}, PE (cxOf (fun _ _ _ _ _ _ => False) X.prog X.w X.K X.mg X.base ["self"] qual scope f cdv A outer s H' E) (.Name "self" q) (tVar 0) := fun {q} => pe_var rfl hv
    refine ⟨_, pss_one (ps_ret (pe_joined (.cons pe_str (.cons (pe_fmt (pe_fld self_ rfl)) (.cons pe_str (.cons (pe_fmtL (as := as) (k := k + 1) hgu hr (pe_fld self_ rfl)) (.cons pe_str (.cons (pe_fmt (pe_fld self_ rfl)) (.cons pe_str .nil))))))))), ?_⟩
    unfold webS at hz hq
    simp only [strLen_append] at hz
    refine ⟨("Web(" : Str), rfl, by simp only [strLen_append]; omega, ?_⟩
    refine ⟨.ref x, rfl, x, C, dx, fs, .int n, rfl, hx, cl, n1, l1, .inr ⟨n, rfl, hn, toString n, rfl, by simp only [strLen_append]; omega, ?_⟩⟩
    refine ⟨(", " : Str), rfl, by simp only [strLen_append]; omega, ?_⟩
    refine ⟨.ref x, rfl, x, C, dx, fs, .ref a, rfl, hx, cl, n2, l2, a, l, rfl, hd, hp, ok, nr, (PyData.list l).shown, rfl, by simp only [strLen_append]; omega, ?_⟩
    refine ⟨(", modulus=" : Str), rfl, by simp only [strLen_append]; omega, ?_⟩
    refine ⟨.ref x, rfl, x, C, dx, fs, .int m, rfl, hx, cl, n3, l3, .inr ⟨m, rfl, hm, toString m, rfl, by simp only [strLen_append]; omega, ?_⟩⟩
    refine ⟨(")" : Str), rfl, by simp only [strLen_append]; omega, ?_⟩
    exact hq)
  have bb := bd s [.ref x] I.kIn rfl
  refine wpAny_call (codeAny_mono (H1 A X.stack s H ⟨[.ref x], []⟩ [.ref x] [.ref x] (fun v H' => v = .str (webS n (PyData.list l).shown m) ∧ H' = H) (fun _ _ _ => False) at_.rm at_.gl e0 (by simpa using bb) (.cons rfl .nil) ⟨rfl, rfl, rfl, rfl⟩) fun r s' hq => ?_)
  cases r with
  | error e => exact False.elim hq
  | ok fl =>
    cases fl with
    | ret w0 =>
      obtain ⟨z, H', I', rz, rfl, rfl⟩ := I.after hq
      obtain ⟨u, rfl⟩ := rz
      exact ⟨u, rfl, I'⟩
    | next => exact False.elim hq
    | brk => exact False.elim hq
    | cont => exact False.elim hq
end
end DL

set_option Elab.async false
set_option linter.all false
set_option maxRecDepth 100000
set_option maxHeartbeats 4000000
/-! EA4: repr of a list that holds webs, or lists of webs, over data trees. -/
namespace DL
open PySem L2 PyProof.Rows
variable [Tb]
/-- what of the text the class Web must have -/
structure WebR (X : Cx) (C f : Addr) : Prop where
  mg : X.mg "Web" = some (.ref C)
  cl : Cls X.K C
  me : Meth X.K C "__repr__" f
  ex : ∀ (H : Hp) (as : List Addr) (k : Nat) (x dx a : Addr) (fs : List (Str × V)) (n m : Int) (l : List PyData), H x = some (.ins C dx fs) → fs.lookup ("own_size" : Str) = some (.int n) → fs.lookup ("own_edges" : Str) = some (.ref a) → fs.lookup ("own_modulus" : Str) = some (.int m) →
    Dp X.K H (.ref a) (.list l) → (PyData.list l).depth ≤ 14 → RpOk (.list l) → n.natAbs.log2 < 1920 → m.natAbs.log2 < 1920 → (webS n (PyData.list l).shown m).length ≤ sizeLine → NoRd X.K H as → Own X H as (k + 2) f x (webS n (PyData.list l).shown m)
theorem webR_of {X : Cx} {C f : Addr} {fd : FuncData} {nm qual : Str} {params : Arguments} {scope : Scope} {j1 j2 j3 j4 : Nat} {p1 p2 p3 p4 q1 q2 q3 r1 r2 r3 s1 s2 s3 pj pr : Pos}
    (F : FunD X.K nm qual params [.Return (some (.JoinedStr [.Constant (.str "Web(") j1 p1, .FormattedValue (.Attribute (.Name "self" q1) "own_size" r1) (-1) none s1, .Constant (.str ", ") j2 p2, .FormattedValue (.Attribute (.Name "self" q2) "own_edges" r2) (-1) none s2, .Constant (.str ", modulus=") j3 p3, .FormattedValue (.Attribute (.Name "self" q3) "own_modulus" r3) (-1) none s3, .Constant (.str ")") j4 p4] pj)) pr] scope [] [] f fd)
    (S : FnScope ["self"] ["self"] scope) (hv : Vis scope "self") (bd : Binds X.K fd ["self"] []) (mg : X.mg "Web" = some (.ref C)) (cl : Cls X.K C) (me : Meth X.K C "__repr__" f) (n1 : NoAttr X.K C ("own_size" : Str)) (n2 : NoAttr X.K C ("own_edges" : Str)) (n3 : NoAttr X.K C ("own_modulus" : Str)) : WebR X C f :=
  ⟨mg, cl, me, fun H as k x dx a fs n m l hx l1 l2 l3 hd hp ok hn hm hz nr => own_web F S hv bd cl n1 n2 n3 hx l1 l2 l3 hd hp ok hn hm hz nr⟩
section
variable {X : Cx} {H : Hp} {as : List Addr} {k : Nat} {v : V} {t : Str} {C f : Addr}
def WebAt (X : Cx) (H : Hp) (C : Addr) (v : V) (t : Str) : Prop := ∃ (x dx a : Addr) (fs : List (Str × V)) (n m : Int) (l : List PyData), v = .ref x ∧ H x = some (.ins C dx fs) ∧ fs.lookup ("own_size" : Str) = some (.int n) ∧ fs.lookup ("own_edges" : Str) = some (.ref a) ∧ fs.lookup ("own_modulus" : Str) = some (.int m) ∧
  Dp X.K H (.ref a) (.list l) ∧ (PyData.list l).depth ≤ 14 ∧ RpOk (.list l) ∧ n.natAbs.log2 < 1920 ∧ m.natAbs.log2 < 1920 ∧ (webS n (PyData.list l).shown m).length ≤ sizeLine ∧ t = webS n (PyData.list l).shown m
def DatAt (X : Cx) (H : Hp) (v : V) (t : Str) : Prop := ∃ d, Dp X.K H v d ∧ d.depth ≤ 14 ∧ RpOk d ∧ t = d.shown
def A1 (X : Cx) (H : Hp) (C : Addr) (v : V) (t : Str) : Prop := WebAt X H C v t ∨ DatAt X H v t
def LsOf (X : Cx) (H : Hp) (P Q : V → Str → Prop) (v : V) (t : Str) : Prop := ∃ a vs ts, v = .ref a ∧ SqL X.K H a vs ∧ ts.length = vs.length ∧ (∀ (i : Nat) (v : V), vs[i]? = some v → ∃ t, ts[i]? = some t ∧ P v t) ∧ (∃ v ∈ vs, ∃ t, Q v t) ∧ t = listText ts
def L1 (X : Cx) (H : Hp) (C : Addr) : V → Str → Prop := LsOf X H (A1 X H C) (WebAt X H C)
def A2 (X : Cx) (H : Hp) (C : Addr) (v : V) (t : Str) : Prop := A1 X H C v t ∨ L1 X H C v t
def L2s (X : Cx) (H : Hp) (C : Addr) : V → Str → Prop := LsOf X H (A2 X H C) (L1 X H C)
theorem item_A1 (W : WebR X C f) (nr : NoRd X.K H as) (h : A1 X H C v t) : Item X H as (k + 2) v t := by
  rcases h with ⟨x, dx, a, fs, n, m, l, rfl, hx, l1, l2, l3, hd, hp, ok, hn, hm, hz, rfl⟩ | ⟨d, hd, hp, ok, rfl⟩
  · exact item_own hx W.me (W.ex H as k x dx a fs n m l hx l1 l2 l3 hd hp ok hn hm hz nr)
  · exact item_data nr hd hp ok
theorem nrd_web (h : WebAt X H C v t) : NRd X.K H v := by
  obtain ⟨x, dx, a, fs, n, m, l, rfl, hx, _⟩ := h
  exact .own hx
theorem nrd_L1 (h : L1 X H C v t) : NRd X.K H v := by
  obtain ⟨a, vs, ts, rfl, hl, _, _, ⟨w, hw, t, hq⟩, _⟩ := h
  exact .lst hl hw (nrd_web hq)
theorem ne_of_mem {α : Type} {l : List α} {x : α} (h : x ∈ l) : l ≠ [] := fun e => by rw [e] at h; cases h
theorem item_L1 (W : WebR X C f) (nr : NoRd X.K H as) (h : L1 X H C v t) (hna : ∀ a, v = .ref a → a ∉ as) : Item X H as (k + 3) v t := by
  have n0 := nrd_L1 h
  obtain ⟨a, vs, ts, rfl, hl, hlen, hi, ⟨w, hw, _⟩, rfl⟩ := h
  refine item_list hl (ne_of_mem hw) (fun i v hv => ?_) hlen (hna a rfl)
  obtain ⟨t, ht, hp⟩ := hi i v hv
  exact ⟨t, ht, item_A1 W (fun b hb => by rcases List.mem_cons.mp hb with e | hb; · subst e; exact n0
                                          · exact nr b hb) hp⟩
def rReprO (X : Cx) (C : Addr) : List V → Hp → VK → Prop := fun xs H Q => ∃ v t, xs = [v] ∧ (L1 X H C v t ∨ L2s X H C v t) ∧ t.length ≤ sizeLine ∧ Q (.str t) H
theorem call_reprO (hgu : X.A.guards = some []) (hr : Room 5 X.A) (W : WebR X C f) : CallR X (.builtin "repr") (rReprO X C) := by
  intro pins s σ H xs us Q I r h
  obtain ⟨v, t, rfl, h, hz, q⟩ := h
  obtain ⟨u, rfl, ru⟩ := vals1 r
  have at_ : At X [] 5 X.A := ⟨I.ok.frames, ⟨[], hgu, GL.nil⟩, hr⟩
  have nr0 : NoRd X.K H [] := fun a ha => by cases ha
  rcases h with h | h
  · have n0 := nrd_L1 h
    obtain ⟨a, vs, ts, rfl, hl, hlen, hi, ⟨w, hw, _⟩, rfl⟩ := h
    cases ru
    refine repr_list (as := []) (k := 3) hl (ne_of_mem hw) (fun i v hv => ?_) hlen (by simp) at_ hz I (fun s' u I' => ⟨.str _, H, I', ⟨u, rfl⟩, q⟩)
    obtain ⟨t, ht, hp⟩ := hi i v hv
    exact ⟨t, ht, item_A1 (k := 1) W (fun b hb => by
      have e : b = a := by simpa using hb
      subst e; exact n0) hp⟩
  · obtain ⟨a, vs, ts, rfl, hl, hlen, hi, ⟨w, hw, t0, hq⟩, rfl⟩ := h
    have n0 : NRd X.K H (.ref a) := .lst hl hw (nrd_L1 hq)
    have nra : NoRd X.K H [a] := fun b hb => by
      have e : b = a := by simpa using hb
      subst e; exact n0
    cases ru
    refine repr_list (as := []) (k := 3) hl (ne_of_mem hw) (fun i v hv => ?_) hlen (by simp) at_ hz I (fun s' u I' => ⟨.str _, H, I', ⟨u, rfl⟩, q⟩)
    obtain ⟨t, ht, hp⟩ := hi i v hv
    refine ⟨t, ht, ?_⟩
    rcases hp with hp | hp
    · exact item_A1 (k := 1) W nra hp
    · refine item_L1 (k := 0) W nra hp fun b e hb => ?_
      subst e
      have e : b = a := by simpa using hb
      subst e
      -- the list in a list of lists is not that list
      obtain ⟨a2, vs2, ts2, e2, hl2, hlen2, hi2, _, _⟩ := hp
      cases e2
      have ev : vs2 = vs := I.list_inj hl2 hl
      subst ev
      obtain ⟨i, hi', rfl⟩ := List.mem_iff_getElem.mp hw
      obtain ⟨t3, ht3, hp3⟩ := hi2 i _ (List.getElem?_eq_getElem hi')
      have nw := nrd_L1 hq
      obtain ⟨a4, vs4, ts4, e4, hl4, _⟩ := hq
      rcases hp3 with hp3 | ⟨d, hd, _⟩
      · obtain ⟨x, dx, a5, fs, n, m, l, e5, hx, _⟩ := hp3
        rw [e4] at e5
        cases e5
        obtain ⟨mA, J, _⟩ := ins_get I.hok hx
        obtain ⟨od, J, _⟩ := J.look
        obtain ⟨its, rv, ⟨oa, na, ha, hc, _, hda⟩, _⟩ := I.list hl4
        have e1 := J.at_
        have e2 := J.cls
        rw [ha] at e1; cases e1
        rw [hc] at e2; cases e2
      · rw [e4] at hd nw
        obtain ⟨bs, rd⟩ := Dp.reads I d _ _ hd (show RelV (.ref a4) (.ref a4) from rfl)
        exact nw.no I _ rfl _ _ rd
end
end DL

set_option Elab.async false
set_option linter.all false
set_option maxRecDepth 100000
set_option maxHeartbeats 4000000
/-! EA5: repr of a list that holds webs: the rule over data trees. -/
namespace DL
open PySem L2 PyProof.Rows
variable [Tb]
def isW : D → Bool
  | .nd (.obj c _) _ => decide (c = ("Web" : Str))
  | _ => false
def shW (M : Store) : D → Option Str
  | .nd (.obj c ns) l => if c = ("Web" : Str) then match (ns.zip l).lookup ("own_size" : Str), (ns.zip l).lookup ("own_edges" : Str), (ns.zip l).lookup ("own_modulus" : Str) with
    | some (.int n), some e, some (.int m) => match py M 14 e with
      | some (.list xs) => if RpOk (.list xs) ∧ n.natAbs.log2 < 1920 ∧ m.natAbs.log2 < 1920 ∧ (webS n (PyData.list xs).shown m).length ≤ sizeLine then some (webS n (PyData.list xs).shown m) else none
      | _ => none
    | _, _, _ => none
    else none
  | _ => none
def shD (M : Store) (d : D) : Option Str := match py M 14 d with
  | some a => if RpOk a then some a.shown else none
  | none => none
def sh1 (M : Store) (d : D) : Option Str := if isW d = true then shW M d else shD M d
def shL (g : D → Option Str) : List D → Option (List Str)
  | [] => some []
  | d :: l => match g d, shL g l with
    | some t, some ts => some (t :: ts)
    | _, _ => none
def isL : D → Bool
  | .nd .lst l => l.any isW
  | _ => false
def shs1 (M : Store) : D → Option Str
  | .nd .lst l => (shL (sh1 M) l).map listText
  | _ => none
def sh2 (M : Store) (d : D) : Option Str := if isL d = true then shs1 M d else sh1 M d
def shs2 (M : Store) : D → Option Str
  | .nd .lst l => if l.any isL = true then (shL (sh2 M) l).map listText else none
  | _ => none
def shO (M : Store) (d : D) : Option Str := if isL d = true then shs1 M d else shs2 M d
def reprO (d : D) : Ev D := fun M => match shO M d with
  | some t => if t.length ≤ sizeLine then .ok (.str t) M else .stuck
  | none => .stuck
theorem shL_len {g : D → Option Str} : ∀ {l : List D} {ts : List Str}, shL g l = some ts → ts.length = l.length
  | [], ts, h => by cases h; rfl
  | d :: l, ts, h => by
    unfold shL at h
    cases q : g d with
    | none => rw [q] at h; cases h
    | some t =>
      cases q2 : shL g l with
      | none => rw [q, q2] at h; cases h
      | some us =>
        rw [q, q2] at h
        cases h
        simp [shL_len q2]
theorem shL_get {g : D → Option Str} : ∀ {l : List D} {ts : List Str}, shL g l = some ts → ∀ (i : Nat) (d : D), l[i]? = some d → ∃ t, ts[i]? = some t ∧ g d = some t
  | [], _, _, i, d, hd => by simp at hd
  | d0 :: l, ts, h, i, d, hd => by
    unfold shL at h
    cases q : g d0 with
    | none => rw [q] at h; cases h
    | some t =>
      cases q2 : shL g l with
      | none => rw [q, q2] at h; cases h
      | some us =>
        rw [q, q2] at h
        cases h
        cases i with
        | zero => simp at hd; subst hd; exact ⟨t, rfl, q⟩
        | succ i => exact shL_get q2 i d (by simpa using hd)
theorem rs_back {G : Gx} {B : Hp} {as : List Addr} : ∀ {vs : List V} {l : List D}, Rs G B as vs l → ∀ (i : Nat) (v : V), vs[i]? = some v → ∃ d, l[i]? = some d ∧ R G B as v d
  | _, _, .nil, i, v, h => by simp at h
  | _, _, .cons r rs, 0, v, h => by simp at h; subst h; exact ⟨_, rfl, r⟩
  | _, _, .cons r rs, i + 1, v, h => rs_back rs i v (by simpa using h)
theorem rs_mem' {G : Gx} {B : Hp} {as : List Addr} : ∀ {vs : List V} {l : List D}, Rs G B as vs l → ∀ d ∈ l, ∃ v ∈ vs, R G B as v d
  | _, _, .nil, d, h => by cases h
  | _, _, .cons r rs, d, h => by
    rcases List.mem_cons.mp h with e | h
    · subst e; exact ⟨_, by simp, r⟩
    · obtain ⟨v, hv, q⟩ := rs_mem' rs d h
      exact ⟨v, by simp [hv], q⟩
section
variable {X : Cx} {Fr B H : Hp} {as : List Addr} {M : Store} {C f : Addr}
theorem shW_ok (W : WebR X C f) (rp : Rep (gx X) Fr B as H M) {v : V} {d : D} {t : Str} (r : R (gx X) B as v d) (h : shW M d = some t) : WebAt X H C v t := by
  unfold shW at h
  split at h
  · rename_i c ns l
    split at h
    · rename_i hc
      subst hc
      cases r with
      | nd fc rs =>
        obtain ⟨C', dx, mg, hB, hlen⟩ := fc
        have eC : C' = C := by
          have e1 := mg.symm.trans W.mg
          cases e1; rfl
        subst eC
        split at h
        · rename_i n e m q1 q2 q3
          split at h
          · rename_i xs hy
            split at h
            · rename_i ok
              cases h
              obtain ⟨u1, h1, r1⟩ := rs.lookup q1
              obtain ⟨u2, h2, r2⟩ := rs.lookup q2
              obtain ⟨u3, h3, r3⟩ := rs.lookup q3
              cases r1
              cases r3
              obtain ⟨d1, d2, d3⟩ := py_ok rp 14 _ _ _ r2 hy
              have isr : ∃ a, u2 = .ref a := by cases d1 <;> exact ⟨_, rfl⟩
              obtain ⟨a, rfl⟩ := isr
              exact ⟨_, dx, a, _, n, m, xs, rfl, rp.sub _ _ hB, h1, h2, h3, d1, d3, ok.1, ok.2.1, ok.2.2.1, ok.2.2.2, rfl⟩
            · cases h
          · cases h
        · cases h
    · cases h
  · cases h
theorem shD_ok (rp : Rep (gx X) Fr B as H M) {v : V} {d : D} {t : Str} (r : R (gx X) B as v d) (h : shD M d = some t) : DatAt X H v t := by
  unfold shD at h
  cases q : py M 14 d with
  | none => rw [q] at h; cases h
  | some a =>
    rw [q] at h
    dsimp only at h
    by_cases c : RpOk a
    · rw [if_pos c] at h
      cases h
      obtain ⟨h1, h2, h3⟩ := py_ok rp 14 d v a r q
      exact ⟨a, h1, h3, c, rfl⟩
    · rw [if_neg c] at h; cases h
theorem sh1_ok (W : WebR X C f) (rp : Rep (gx X) Fr B as H M) {v : V} {d : D} {t : Str} (r : R (gx X) B as v d) (h : sh1 M d = some t) : A1 X H C v t := by
  unfold sh1 at h
  split at h
  · exact .inl (shW_ok W rp r h)
  · exact .inr (shD_ok rp r h)
theorem ls_ok (rp : Rep (gx X) Fr B as H M) {P Q : V → Str → Prop} {g : D → Option Str} {b : D → Bool} {v : V} {l : List D} {t : Str} (r : R (gx X) B as v (.nd .lst l)) (h : (shL g l).map listText = some t) (hp : ∀ v d t, R (gx X) B as v d → g d = some t → P v t) (hb : l.any b = true) (hq : ∀ v d t, R (gx X) B as v d → b d = true → g d = some t → Q v t) : LsOf X H P Q v t := by
  cases e : shL g l with
  | none => rw [e] at h; cases h
  | some ts =>
    rw [e] at h
    cases h
    cases r with
    | nd fc rs =>
      rename_i a vs
      have hl : SqL X.K H a vs := SqL.of (fc.sub rp.sub)
      have e2 := shL_len e
      have e3 := rs.length
      refine ⟨a, vs, ts, rfl, hl, by omega, fun i v hv => ?_, ?_, rfl⟩
      · obtain ⟨d, hd, rd⟩ := rs_back rs i v hv
        obtain ⟨t, ht, hg⟩ := shL_get e i d hd
        exact ⟨t, ht, hp v d t rd hg⟩
      · obtain ⟨d, hd, hbd⟩ := List.any_eq_true.mp hb
        obtain ⟨v, hv, rd⟩ := rs_mem' rs d hd
        obtain ⟨i, hi, e4⟩ := List.mem_iff_getElem.mp hd
        obtain ⟨t, ht, hg⟩ := shL_get e i d (by rw [← e4]; exact List.getElem?_eq_getElem hi)
        exact ⟨v, hv, t, hq v d t rd hbd hg⟩
theorem shs1_ok (W : WebR X C f) (rp : Rep (gx X) Fr B as H M) {v : V} {d : D} {t : Str} (r : R (gx X) B as v d) (hL : isL d = true) (h : shs1 M d = some t) : L1 X H C v t := by
  unfold shs1 at h
  split at h
  · rename_i l
    exact ls_ok rp (b := isW) r h (fun v d t rd hg => sh1_ok W rp rd hg) hL (fun v d t rd hb hg => by
      unfold sh1 at hg
      rw [if_pos hb] at hg
      exact shW_ok W rp rd hg)
  · cases h
theorem sh2_ok (W : WebR X C f) (rp : Rep (gx X) Fr B as H M) {v : V} {d : D} {t : Str} (r : R (gx X) B as v d) (h : sh2 M d = some t) : A2 X H C v t := by
  unfold sh2 at h
  split at h
  · rename_i q
    exact .inr (shs1_ok W rp r q h)
  · exact .inl (sh1_ok W rp r h)
theorem shO_ok (W : WebR X C f) (rp : Rep (gx X) Fr B as H M) {v : V} {d : D} {t : Str} (r : R (gx X) B as v d) (h : shO M d = some t) : L1 X H C v t ∨ L2s X H C v t := by
  unfold shO at h
  split at h
  · rename_i q
    exact .inl (shs1_ok W rp r q h)
  · unfold shs2 at h
    split at h
    · rename_i l
      split at h
      · rename_i q
        exact .inr (ls_ok rp (b := isL) r h (fun v d t rd hg => sh2_ok W rp rd hg) q (fun v d t rd hb hg => by
          unfold sh2 at hg
          rw [if_pos hb] at hg
          exact shs1_ok W rp rd hb hg))
      · cases h
    · cases h
theorem de_reprO {Y : WX} {e : Expr} {p pos : Pos} {g : Lo → Ev (List D)} (hgu : X.A.guards = some []) (hr : Room 5 X.A) (W : WebR X C f) (hg : Gl X "repr") (hm : X.mg "repr" = none) (ha : DA X Y [e] g) (he : starEach [e] X.env = (false, eval e X.env) :: starEach [] X.env := by rfl) :
    DE X Y (.Call (.Name "repr" p) [e] [] pos) (eCall (op1 reprO) g) :=
  de_callB (call_reprO hgu hr W) (oN1 fun Fr B as σ H M v d Q rp r h => by
    unfold reprO at h
    cases q : shO M d with
    | none => simp only [q] at h; exact h.elim
    | some t =>
      simp only [q] at h
      by_cases c : t.length ≤ sizeLine
      · rw [if_pos c] at h
        exact ⟨v, t, rfl, shO_ok W rp r q, c, h.ok _ H rp (.str _)⟩
      · rw [if_neg c] at h; exact h.elim) hg hm (by decide +kernel) ha (by decide) (by decide) he
end
end DL

set_option Elab.async false
set_option linter.all false
set_option maxRecDepth 100000
set_option maxHeartbeats 4000000
/-! DR1: try whose suites ask for the class of what is caught (isinstance), or are of several statements. -/
namespace DL.Xc
open PySem PySem.Spec PyProof.Rows L2 DL
variable [Tb]
/-! ### except suites -/
/-- where a suite stands: its exception's field value is d, its class one of L -/
def XIn (G : Gx) (L : List Str) (a : Addr) (cls : Value) (dx : Option Addr) (oi : Option Nat) (Fr B : Hp) (as : List Addr) (σ : L2.St) (c : Str) (d : D) : Prop :=
  ∃ dd v, cls = .ref (He.ga G.K c) ∧ c ∈ L ∧ dx = some dd ∧ Fr dd = some (.xd [("value", v)]) ∧ R G B as v d ∧ ∀ i, oi = some i → σ[i]? = some (some (.ref a))
theorem XIn.mono {G : Gx} {L : List Str} {a : Addr} {cls : Value} {dx : Option Addr} {oi : Option Nat} {Fr B B' : Hp} {as as' : List Addr} {σ : L2.St} {c : Str} {d : D} (h : XIn G L a cls dx oi Fr B as σ c d) (e : Same B B') (p : as <+: as') : XIn G L a cls dx oi Fr B' as' σ c d := by
  obtain ⟨dd, v, h1, h2, h3, h4, h5, h6⟩ := h
  exact ⟨dd, v, h1, h2, h3, h4, h5.mono e p, h6⟩
section
variable (X : Cx) (L : List Str) (a : Addr) (cls : Value) (dx : Option Addr) (oi : Option Nat)
/-- an expression of a suite: f by the field value -/
def XE' (e : Expr) (f : Str → D → Lo → Ev D) : Prop := ∃ t, PE X e t ∧ ∀ Fr B as σ H S M Q c d, XIn (gx X) L a cls dx oi Fr B as σ c d → RS (gx X) B as σ S → Rep (gx X) Fr B as H M → Post B as (f c d S M) (kD X Fr Q) (kX X Fr W0 σ) → t σ H Q
def XA' (es : List Expr) (f : Str → D → Lo → Ev (List D)) : Prop := ∃ t, PA X es t ∧ ∀ Fr B as σ H S M Q c d, XIn (gx X) L a cls dx oi Fr B as σ c d → RS (gx X) B as σ S → Rep (gx X) Fr B as H M → Post B as (f c d S M) (kA X Fr Q) (kX X Fr W0 σ) → t σ H Q
def XSs (st : List Stmt) (f : Str → D → Lo → Ev Fl) : Prop := ∃ t, PSs X st t ∧ ∀ Fr B as σ H S M D c d, XIn (gx X) L a cls dx oi Fr B as σ c d → RS (gx X) B as σ S → Rep (gx X) Fr B as H M → Post B as (f c d S M) (kF X Fr W0 D) (fun _ _ _ _ _ => False) → t D σ H
end
def tX (X : Cx) (L : List Str) (oi : Option Nat) (f : Str → D → Lo → Ev Fl) (a : Addr) (cls : Value) (dx : Option Addr) : TS := fun D σ H => ∃ Fr B as S M c d, XIn (gx X) L a cls dx oi Fr B as σ c d ∧ RS (gx X) B as σ S ∧ Rep (gx X) Fr B as H M ∧ Post B as (f c d S M) (kF X Fr W0 D) (fun _ _ _ _ _ => False)
theorem XSs.pss {X : Cx} {L : List Str} {a : Addr} {cls : Value} {dx : Option Addr} {oi : Option Nat} {st : List Stmt} {f : Str → D → Lo → Ev Fl} (h : XSs X L a cls dx oi st f) : PSs X st (tX X L oi f a cls dx) := by
  obtain ⟨t, p, s⟩ := h
  exact ⟨fun pins s' σ H D I hw => let ⟨Fr, B, as, S, M, c, d, x, a, b, k⟩ := hw; p.run pins s' σ H D I (s Fr B as σ H S M D c d x a b k)⟩
/-! ### the clauses -/
abbrev HdF := Option Nat × (Str → D → Lo → Ev Fl)
inductive DHs (X : Cx) (L : List Str) : List ExceptHandler → List HdF → List Value → Prop
  | nil : DHs X L [] [] []
  | as_ {x n : Str} {c : Value} {i : Nat} {f : Str → D → Lo → Ev Fl} {s0 : Stmt} {su : List Stmt} {np ps : Pos} {hds : List ExceptHandler} {l : List HdF} {cs : List Value} (hc : Names X x c) (hi : X.N[i]? = some n) (hln : X.env.kindOf n = some .local)
      (hsu : ∀ (a : Addr) (oe : Obj) (cls : Value) (dx : Option Addr) (pn : List (Addr × Obj)), Zc cls dx oe → (∃ vs, oe.data = .fields vs) → XSs (X.suite a ((a, oe) :: pn)) L a cls dx (some i) (s0 :: su) f) (r : DHs X L hds l cs) :
      DHs X L (.ExceptHandler (some (.Name x np)) (some n) (s0 :: su) ps :: hds) ((some i, f) :: l) (c :: cs)
  | bare {x : Str} {c : Value} {f : Str → D → Lo → Ev Fl} {s0 : Stmt} {su : List Stmt} {np ps : Pos} {hds : List ExceptHandler} {l : List HdF} {cs : List Value} (hc : Names X x c)
      (hsu : ∀ (a : Addr) (oe : Obj) (cls : Value) (dx : Option Addr) (pn : List (Addr × Obj)), Zc cls dx oe → (∃ vs, oe.data = .fields vs) → XSs (X.suite a ((a, oe) :: pn)) L a cls dx none (s0 :: su) f) (r : DHs X L hds l cs) :
      DHs X L (.ExceptHandler (some (.Name x np)) none (s0 :: su) ps :: hds) ((none, f) :: l) (c :: cs)
def hdT (X : Cx) (L : List Str) : List HdF → List Value → List HdT
  | (oi, f) :: l, c :: cs => (c, oi, tX X L oi f) :: hdT X L l cs
  | _, _ => []
theorem DHs.hds {X : Cx} {L : List Str} : ∀ {hs : List ExceptHandler} {l : List HdF} {cs : List Value}, DHs X L hs l cs → HdsA X hs (hdT X L l cs)
  | _, _, _, .nil => .nil
  | _, _, _, .as_ hc hi hln hsu r => .as_ hc hi hln (fun a oe cls dx pn z v => (hsu a oe cls dx pn z v).pss) r.hds
  | _, _, _, .bare hc hsu r => .bare hc (fun a oe cls dx pn z v => (hsu a oe cls dx pn z v).pss) r.hds
/-- the table: of the class named c, which clause takes it -/
def TOk (K : PySem.W.Frag) (mg : Str → Option Value) (L : List Str) (cs : List Value) (T : List (Str × Option Nat)) : Prop := ∀ p ∈ T, mg p.1 = some (.ref (He.ga K p.1)) ∧ p.1 ∈ L ∧ Pth K (.ref (He.ga K p.1)) cs p.2
def caughtC (T : List (Str × Option Nat)) (fs : List HdF) (c : Str) (d : D) (S : Lo) : Ev Fl := match T.lookup c with
  | some (some j) => (match fs[j]? with
    | some (oi, f) => if fits oi S = true then (f c d (offL oi S)).bnd (offE oi) else Ev.no
    | none => Ev.no)
  | some none => Ev.ret (.xc c d S)
  | none => Ev.no
def sTryC (T : List (Str × Option Nat)) (fs : List HdF) (fb : Lo → Ev Fl) : Lo → Ev Fl := fun S => (fb S).bnd fun fl => match fl with
  | .xc c d S' => caughtC T fs c d S'
  | o => Ev.ret o
section
variable {X : Cx} {W : WX}
theorem caughtC_ok {L : List Str} {Fr B : Hp} {as : List Addr} {H : Hp} {M : Store} {σ : L2.St} {S : Lo} {c : Str} {d : D} {cls : Value} {dx : Option Addr} {D : Ends} (rp : Rep (gx X) Fr B as H M) (rs : RS (gx X) B as σ S) (xr : XR (gx X) B as H c d cls dx) :
    ∀ {fs : List HdF} {cs : List Value} {oj : Option Nat}, fs.length = cs.length → (X.mg c = some (.ref (He.ga X.K c)) ∧ c ∈ L ∧ Pth X.K (.ref (He.ga X.K c)) cs oj) →
      Post B as ((match oj with
        | some j => (match fs[j]? with
          | some (oi, f) => if fits oi S = true then (f c d (offL oi S)).bnd (offE oi) else Ev.no
          | none => Ev.no)
        | none => Ev.ret (.xc c d S)) M) (kF X Fr W D) (fun _ _ _ _ _ => False) → wA X.K W D (hdT X L fs cs) cls dx σ H
  | [], [], oj, _, ⟨hm, hL, hp⟩, h => by
    cases oj with
    | some j => exact hp.elim
    | none => exact (Post.ret (a := Fl.xc c d S) h) σ cls dx H rp rs xr
  | (oi, f) :: fs, c' :: cs, oj, hl, ⟨hm, hL, hp⟩, h => by
    obtain ⟨C1, dd, v, rfl, hm1, rfl, hx, rv, nb, na⟩ := id xr
    have : C1 = He.ga X.K c := by
      have h1 : X.mg c = some (.ref C1) := hm1
      rw [hm] at h1
      cases h1
      rfl
    subst this
    cases oj with
    | none => exact ⟨false, hp.1, (fun z => by cases z), fun _ => caughtC_ok rp rs xr (by simpa using hl) ⟨hm, hL, hp.2⟩ h⟩
    | some j =>
      cases j with
      | succ j => exact ⟨false, hp.1, (fun z => by cases z), fun _ => caughtC_ok rp rs xr (oj := some j) (by simpa using hl) ⟨hm, hL, hp.2⟩ (by simpa using h)⟩
      | zero =>
        refine ⟨true, hp, fun _ a ha => ?_, fun z => by cases z⟩
        have h00 : Post B as ((if fits oi S = true then (f c d (offL oi S)).bnd (offE oi) else Ev.no) M) (kF X Fr W D) (fun _ _ _ _ _ => False) := h
        by_cases hft : fits oi S = true
        case neg => rw [if_neg hft] at h00; exact h00.elim
        rw [if_pos hft] at h00
        have h0 : Post B as (((f c d (offL oi S)).bnd (offE oi)) M) (kF X Fr W D) (fun _ _ _ _ _ => False) := h00
        have rpF := rp.inFrameX hx nb na
        refine ⟨upd Fr dd (.xd [("value", v)]), B, as, offL oi S, M, c, d, ⟨dd, v, rfl, hL, rfl, upd_same, rv, fun i e => ?_⟩, ?_, rpF, h0.bnd.imp fun fl M1 B1 as1 s1 p1 h1 => ?_⟩
        · subst e
          have hi : i < S.length := of_decide_eq_true hft
          unfold onS
          exact List.getElem?_set_self (by rw [rs.len]; exact hi)
        · cases oi with
          | none => exact rs
          | some i => exact rs.off i _
        · cases fl with
          | nx S2 =>
            intro τ G r1 r2
            have k := Post.ret (a := Fl.nx (offL oi S2)) h1
            cases oi with
            | none => exact k τ G (rp.exFrame hx r1) r2
            | some i => exact k (τ.set i none) G (rp.exFrame hx r1) (r2.off i none)
          | rt d2 =>
            intro u G r1 r2
            have k := Post.ret (a := Fl.rt d2) h1
            cases oi <;> exact k u G (rp.exFrame hx r1) r2
          | bk S2 =>
            intro τ G r1 r2
            have k := Post.ret (a := Fl.bk (offL oi S2)) h1
            cases oi with
            | none => exact k τ G (rp.exFrame hx r1) r2
            | some i => exact k (τ.set i none) G (rp.exFrame hx r1) (r2.off i none)
          | ct S2 =>
            intro τ G r1 r2
            have k := Post.ret (a := Fl.ct (offL oi S2)) h1
            cases oi with
            | none => exact k τ G (rp.exFrame hx r1) r2
            | some i => exact k (τ.set i none) G (rp.exFrame hx r1) (r2.off i none)
          | xc _ _ _ => exact h1.elim
  | [], _ :: _, _, hl, _, _ => by simp at hl
  | _ :: _, [], _, hl, _, _ => by simp at hl
theorem DHs.len {L : List Str} : ∀ {hs : List ExceptHandler} {l : List HdF} {cs : List Value}, DHs X L hs l cs → l.length = cs.length
  | _, _, _, .nil => rfl
  | _, _, _, .as_ _ _ _ _ r => congrArg (· + 1) r.len
  | _, _, _, .bare _ _ r => congrArg (· + 1) r.len
theorem ds_tryC {L : List Str} {body : List Stmt} {h0 : ExceptHandler} {hds : List ExceptHandler} {fb : Lo → Ev Fl} {fs : List HdF} {cs : List Value} {T : List (Str × Option Nat)} {pos : Pos} (hst : X.stack = X.env :: X.outer) (hfm : X.env.frame = some X.env.locals) (hN : X.N.Nodup) (tk : Takes X W)
    (hb : ∀ (W' : WX) (pn : List (Addr × Obj)) (xe : Value → Shared → Prop), Takes (X.tr pn xe) W' → PassesOwn (model X.prog X.w) X.A X.env xe → DSs (X.tr pn xe) W' body fb) (hh : DHs X L (h0 :: hds) fs cs) (hT : TOk X.K X.mg L cs T) :
    DS X W (.Try body (h0 :: hds) [] [] pos) (sTryC T fs fb) := by
  refine ⟨_, ps_tryA hst hfm hN tk (tb := fun W' => tSs X W' fb) (fun W' pn xe t po => (hb W' pn xe t po).pss) hh.hds, fun Fr B as σ H S M D rs rp h => ⟨Fr, B, as, S, M, rs, rp, h.bnd.imp fun fl M1 B1 as1 s1 p1 h1 => ?_⟩⟩
  cases fl with
  | xc c d S' =>
    intro τ cls dx G r1 r2 xr
    have h1 : Post B1 as1 (caughtC T fs c d S' M1) (kF X Fr W D) (fun _ _ _ _ _ => False) := h1
    unfold caughtC at h1
    cases q : T.lookup c with
    | none => rw [q] at h1; exact h1.elim
    | some oj =>
      rw [q] at h1
      refine caughtC_ok (oj := oj) r1 r2 xr hh.len (hT _ (lookup_mem q)) ?_
      cases oj <;> exact h1
  | nx S2 =>
    have k := Post.ret (a := Fl.nx S2) (k := kF X Fr W D) (x := fun _ _ _ _ _ => False) h1
    exact k
  | rt d2 =>
    have k := Post.ret (a := Fl.rt d2) (k := kF X Fr W D) (x := fun _ _ _ _ _ => False) h1
    exact k
  | bk S2 =>
    have k := Post.ret (a := Fl.bk S2) (k := kF X Fr W D) (x := fun _ _ _ _ _ => False) h1
    exact k
  | ct S2 =>
    have k := Post.ret (a := Fl.ct S2) (k := kF X Fr W D) (x := fun _ _ _ _ _ => False) h1
    exact k
end
section
variable {X : Cx} {L : List Str} {a : Addr} {cls : Value} {dx : Option Addr} {oi : Option Nat} {e e1 e2 : Expr} {es : List Expr} {pos p : Pos} {x : Str}
theorem xe_of {f : Lo → Ev D} (h : DE X W0 e f) : XE' X L a cls dx oi e (fun _ _ => f) := by
  obtain ⟨t, p, s⟩ := h
  exact ⟨t, p, fun Fr B as σ H S M Q _ _ _ rs rp h => s Fr B as σ H S M Q rs rp h⟩
theorem xa_nil : XA' X L a cls dx oi [] (fun _ _ => eA0) := ⟨_, pa_nil, fun _ _ _ _ _ _ _ _ _ _ _ _ rp h => h.ret [] _ rp .nil⟩
theorem xa_cons {f : Str → D → Lo → Ev D} {g : Str → D → Lo → Ev (List D)} (ha : XE' X L a cls dx oi e f) (hr : XA' X L a cls dx oi es g) (hs : starEach (e :: es) X.env = (false, eval e X.env) :: starEach es X.env := by rfl) : XA' X L a cls dx oi (e :: es) (fun c d => eAc (f c d) (g c d)) := by
  obtain ⟨t, p, s⟩ := ha
  obtain ⟨t', p', s'⟩ := hr
  refine ⟨_, pa_cons p p' hs, fun Fr B as σ H S M Q c d xi rs rp h => ?_⟩
  refine s Fr B as σ H S M _ c d xi rs rp (h.bnd.imp fun x M1 B1 as1 s1 p1 h1 v H1 rp1 r1 => ?_)
  refine s' Fr B1 as1 σ H1 S M1 _ c d (xi.mono s1 p1) (rs.mono s1 p1) rp1 (h1.bnd.imp fun l M2 B2 as2 s2 p2 h2 vs H2 rp2 r2 => ?_)
  exact h2.ret _ H2 rp2 (.cons (r1.mono s2 p2) r2)
theorem xe_callB {id : String} {r : List V → Hp → VK → Prop} {f : Str → D → Lo → Ev (List D)} {op : List D → Ev D} (hc : CallR X (.builtin id) r) (ho : OpN X W0 r op) (hg : Gl X x) (hm : X.mg x = none) (hv : bootBuiltins x = some (.builtin id)) (ha : XA' X L a cls dx oi (e :: es) f)
    (hn : x ≠ "__name__" := by decide) (hdb : (x == ("__debug__" : Str)) = false := by decide) (he : starEach (e :: es) X.env = (false, eval e X.env) :: starEach es X.env := by rfl) (hpl : (backTo pos (starEach es X.env)).any (·.1) = false := by rfl) :
    XE' X L a cls dx oi (.Call (.Name x p) (e :: es) [] pos) (fun c d => eCall op (f c d)) := by
  obtain ⟨t, pa, s⟩ := ha
  refine ⟨_, pe_callB hc hg hm hv pa hn hdb he hpl, fun Fr B as σ H S M Q c d xi rs rp h => ?_⟩
  exact s Fr B as σ H S M _ c d xi rs rp (h.bnd.imp fun l M1 B1 as1 s1 p1 h1 vs H1 rp1 r1 => ho Fr B1 as1 σ H1 M1 vs l Q rp1 r1 h1)
theorem xe_eq {f g : Str → D → Lo → Ev D} (hu : X.A.units + 64 < cLine) (ha : XE' X L a cls dx oi e1 f) (hb : XE' X L a cls dx oi e2 g) : XE' X L a cls dx oi (.Compare e1 [.Eq] [e2] pos) (fun c d => DL.e2 (eqE false) (f c d) (g c d)) := by
  obtain ⟨ta, pa, sa⟩ := ha
  obtain ⟨tb, pb, sb⟩ := hb
  refine ⟨_, pe_cmpR (op_eqD hu) pa pb (nomark _), fun Fr B as σ H S M Q c d xi rs rp h => ?_⟩
  refine sa Fr B as σ H S M _ c d xi rs rp (h.bnd.imp fun x M1 B1 as1 s1 p1 h1 v H1 rp1 r1 => ?_)
  refine sb Fr B1 as1 σ H1 S M1 _ c d (xi.mono s1 p1) (rs.mono s1 p1) rp1 (h1.bnd.imp fun y M2 B2 as2 s2 p2 h2 w H2 rp2 r2 => ?_)
  exact o_eq (X := X) (W := W0) Fr B2 as2 σ H2 M2 v w x y Q rp2 (r1.mono s2 p2) r2 h2
theorem xe_and2 {f g : Str → D → Lo → Ev D} (ha : XE' X L a cls dx oi e1 f) (hb : XE' X L a cls dx oi e2 g) : XE' X L a cls dx oi (.BoolOp .And [e1, e2] pos) (fun c d => eAndV (f c d) (g c d)) := by
  obtain ⟨t, p, s⟩ := ha
  obtain ⟨t', p', s'⟩ := hb
  refine ⟨_, pe_and p (pe_one p'), fun Fr B as σ H S M Q c d xi rs rp h => ?_⟩
  refine s Fr B as σ H S M _ c d xi rs rp (h.bnd.imp fun x M1 B1 as1 s1 p1 h1 v H1 rp1 r1 => ?_)
  cases x <;> first | exact h1.elim | skip
  rename_i c
  cases r1
  refine ⟨c, rfl, ?_⟩
  cases c with
  | true => rw [if_pos rfl]; exact s' Fr B1 as1 σ H1 S M1 _ c d (xi.mono s1 p1) (rs.mono s1 p1) rp1 h1
  | false => rw [if_neg Bool.false_ne_true]; exact (Post.ret (a := D.bl false) h1) _ H1 rp1 (.bl false)
/-! ### statements -/
end
/-! ### e.value -/
section
variable {X : Cx} {L : List Str} {a : Addr} {oe : Obj} {cls : Value} {dx : Option Addr} {pn : List (Addr × Obj)} {pos p : Pos} {x : Str}
theorem xe_val {i : Nat} (T : XvL X.K (L.map (He.ga X.K))) (hz : Zc cls dx oe) (hf : ∃ vs, oe.data = .fields vs) (hi : X.N[i]? = some x := by rfl) (hv : Vis X.env.scope x := by first | exact Or.inl rfl | exact Or.inr (Or.inl rfl) | exact Or.inr (Or.inr rfl))
    (hd : (x == ("__debug__" : Str)) = false := by decide) (hcd : (x == ("__classdict__" : Str)) = false := by decide) (hlt : i < X.N.length := by decide) (hb : attributeBase (.Name x p) "value" X.env (eval (.Name x p) X.env) = eval (.Name x p) X.env := by rfl) :
    XE' (X.suite a ((a, oe) :: pn)) L a cls dx (some i) (.Attribute (.Name x p) "value" pos) (fun _ d _ => Ev.ret d) := by
  by_cases q : ∃ C, cls = .ref C ∧ C ∈ L.map (He.ga X.K)
  · obtain ⟨C, rfl, hC⟩ := q
    refine ⟨_, pe_xf (T C hC).1 (T C hC).2 hz hf (pe_var (X := X.suite a ((a, oe) :: pn)) (i := i) hi hv hd hcd) hb, fun Fr B as σ H S M Q c d xi rs rp h => ?_⟩
    obtain ⟨dd, v, h1, h2, h3, h4, h5, h6⟩ := xi
    refine ⟨.ref a, h6 i rfl, rfl, rfl, dd, _, v, h3, rp.frm dd _ h4, rfl, ?_⟩
    exact h.ret v H rp h5
  · refine ⟨fun _ _ _ => False, ⟨fun _ _ _ _ _ _ z => z.elim⟩, fun Fr B as σ H S M Q c d xi rs rp h => ?_⟩
    obtain ⟨dd, v, h1, h2, _⟩ := xi
    exact q ⟨_, h1, List.mem_map.mpr ⟨c, h2, rfl⟩⟩
end
theorem tok_nil {K : PySem.W.Frag} {mg : Str → Option Value} {L : List Str} {cs : List Value} : TOk K mg L cs [] := fun p hp => by cases hp
theorem tok_cons {K : PySem.W.Frag} {mg : Str → Option Value} {L : List Str} {cs : List Value} {T : List (Str × Option Nat)} {c : Str} {oj : Option Nat} (hm : mg c = some (.ref (He.ga K c))) (hL : c ∈ L) (hP : Pth K (.ref (He.ga K c)) cs oj) (r : TOk K mg L cs T) : TOk K mg L cs ((c, oj) :: T) := fun p hp => by
  rcases List.mem_cons.mp hp with rfl | h
  · exact ⟨hm, hL, hP⟩
  · exact r p h
/-! ### isinstance(e, C) -/
def rIsD (K : PySem.W.Frag) (D dd a : Addr) : List V → Hp → VK → Prop := fun xs H Q => (∃ fs, H dd = some (.xd fs)) ∧ rIsE K D a xs H Q
theorem call_isD {X : Cx} {a D dd : Addr} {oe : Obj} {pn : List (Addr × Obj)} (C : ExcC X.K D) (hz : Zc (.ref D) (some dd) oe) (hf : ∃ vs, oe.data = .fields vs) : CallR (X.suite a ((a, oe) :: pn)) (.builtin "isinstance") (rIsD X.K D dd a) := by
  intro pins s σ H xs us Q I r h
  obtain ⟨⟨fs, hx⟩, c, cv, b, rfl, hcv, e, q⟩ := h
  cases r with
  | cons rx rr =>
    cases rr with
    | cons rt rr =>
      cases rr
      cases rx
      have ec := hcv _ rt
      subst ec
      obtain ⟨hget, _⟩ := I.pin (a, oe) (List.mem_append.mpr (.inl List.mem_cons_self))
      obtain ⟨vs, hv⟩ := hf
      obtain ⟨mA, ⟨od, es, ep, hdd, _⟩, _⟩ := I.hok dd _ hx
      have J : PySem.W.InstAt s.heap a oe D (some od) := by
        obtain ⟨oc, odi, oda, osl⟩ := oe
        obtain ⟨h1, h2⟩ := hz
        dsimp only at h1 h2 hv
        subst h1 h2 hv
        exact ⟨hget, rfl, rfl, hdd⟩
      have hcl : (PySem.W.clsIn X.K D).isSome = true := by obtain ⟨cd, hc, _⟩ := PySem.W.any_some C.hd; rw [hc]; rfl
      exact PySem.W.kia_one (PySem.W.kitx_exc (od := some od) hcl C.hg C.hk C.hs C.ha C.hn C.ht C.hm) I.kIn J e (fun z => nomatch z) fun tk => ⟨.bl b, H, I.kept (t' := tk) fun _ _ z => z, rfl, q⟩
/-- what the written part must say of a class, so that isinstance asks its instances rightly -/
def excB (K : PySem.W.Frag) (c : Str) : Bool := bAll [decide (PySem.W.findIn K (.ref (He.ga K c)) "__getattribute__" = some (some (.builtin "BaseException.__getattribute__"))), decide (PySem.W.findIn K (.ref (He.ga K c)) "__getattr__" = some none), decide (PySem.W.subIn K (.ref (He.ga K c)) (.type "BaseException") = some true),
  PySem.W.hasDictIn K (He.ga K c), decide (PySem.W.findIn K (.ref (He.ga K c)) "__class__" = some (some (.builtin "object.__class__"))), decide (PySem.W.specialIn K (.builtin "object.__class__") "__get__" = some (some (.builtin "getset_descriptor.__get__"))),
  decide (PySem.W.takesIn K (.builtin "object.__class__") = some true), decide (PySem.W.mroIn K (He.ga K c) (.type "object") = some true)]
theorem excB_ok {K : PySem.W.Frag} {c : Str} (h : excB K c = true) : ExcC K (He.ga K c) :=
  ⟨of_decide_eq_true (bAll_get h (i := 0) rfl), of_decide_eq_true (bAll_get h (i := 1) rfl), of_decide_eq_true (bAll_get h (i := 2) rfl), bAll_get h (i := 3) rfl, of_decide_eq_true (bAll_get h (i := 4) rfl), of_decide_eq_true (bAll_get h (i := 5) rfl), of_decide_eq_true (bAll_get h (i := 6) rfl), of_decide_eq_true (bAll_get h (i := 7) rfl)⟩
/-- of every class of L the test for cv answers as tb tells -/
def isB (K : PySem.W.Frag) (L : List Str) (cv : Value) (tb : Str → Bool) : Bool := L.all fun c => excB K c && decide (PySem.W.kitOne K (.ref (He.ga K c)) cv = some (tb c))
theorem isB_ok {K : PySem.W.Frag} {L : List Str} {cv : Value} {tb : Str → Bool} (h : isB K L cv tb = true) : ∀ c ∈ L, ExcC K (He.ga K c) ∧ PySem.W.kitOne K (.ref (He.ga K c)) cv = some (tb c) := fun c hc => by
  obtain ⟨h1, h2⟩ := Bool.and_eq_true_iff.mp (List.all_eq_true.mp h c hc)
  exact ⟨excB_ok h1, of_decide_eq_true h2⟩
section
variable {X : Cx} {L : List Str} {a : Addr} {oe : Obj} {cls : Value} {dx : Option Addr} {pn : List (Addr × Obj)} {pos p p2 : Pos} {x : Str}
theorem xe_isx {i : Nat} {ec : Expr} {dC : D} {cv : Value} {tb : Str → Bool} (hC : ∀ c ∈ L, ExcC X.K (He.ga X.K c) ∧ PySem.W.kitOne X.K (.ref (He.ga X.K c)) cv = some (tb c)) (hdC : ∀ B as v, R (gx (X.suite a ((a, oe) :: pn))) B as v dC → ∀ u, RelV v u → u = cv)
    (hz : Zc cls dx oe) (hf : ∃ vs, oe.data = .fields vs) (hg : Gl X "isinstance") (hm : X.mg "isinstance" = none) (hc : DE (X.suite a ((a, oe) :: pn)) W0 ec (eC dC)) (hi : X.N[i]? = some x := by rfl) (hv : Vis X.env.scope x := by first | exact Or.inl rfl | exact Or.inr (Or.inl rfl) | exact Or.inr (Or.inr rfl))
    (hd : (x == ("__debug__" : Str)) = false := by decide) (hcd : (x == ("__classdict__" : Str)) = false := by decide) (he1 : starEach [ec] X.env = (false, eval ec X.env) :: starEach [] X.env := by rfl) (he : starEach [.Name x p, ec] X.env = (false, eval (.Name x p) X.env) :: starEach [ec] X.env := by rfl) (hpl : (backTo pos (starEach [ec] X.env)).any (·.1) = false := by rfl) :
    XE' (X.suite a ((a, oe) :: pn)) L a cls dx (some i) (.Call (.Name "isinstance" p2) [.Name x p, ec] [] pos) (fun c _ _ => Ev.ret (.bl (tb c))) := by
  obtain ⟨tc, pc, sc⟩ := hc
  by_cases q : ∃ c dd, cls = .ref (He.ga X.K c) ∧ c ∈ L ∧ dx = some dd
  · obtain ⟨c0, dd, rfl, hL, rfl⟩ := q
    refine ⟨_, pe_callB (call_isD (hC c0 hL).1 hz hf) hg hm (by decide +kernel) (pa_cons (pe_var (X := X.suite a ((a, oe) :: pn)) (i := i) hi hv hd hcd) (pa_cons pc pa_nil he1) he) (by decide) (by decide) he hpl, fun Fr B as σ H S M Q c d xi rs rp h => ?_⟩
    obtain ⟨dd', v, h1, h2, h3, h4, h5, h6⟩ := xi
    cases h3
    refine ⟨.ref a, h6 i rfl, ?_⟩
    refine sc Fr B as σ H S M _ rs rp ?_
    intro B' as' e1 e2 v1 H1 rp1 r1
    have hL2 := hC c h2
    have e3 : He.ga X.K c0 = He.ga X.K c := by
      have := h1
      injection this
    refine ⟨⟨_, rp1.frm dd _ h4⟩, v1, cv, tb c, rfl, hdC _ _ _ r1, by rw [e3]; exact hL2.2, ?_⟩
    exact (h.mono e1 e2).ret _ H1 rp1 (.bl _)
  · refine ⟨fun _ _ _ => False, ⟨fun _ _ _ _ _ _ z => z.elim⟩, fun Fr B as σ H S M Q c d xi rs rp h => ?_⟩
    obtain ⟨dd, v, h1, h2, h3, _⟩ := xi
    exact q ⟨c, dd, h1, h2, h3⟩
end
/-! ### suites of several statements -/
def Slot (oi : Option Nat) (a : Addr) (σ : L2.St) : Prop := ∀ i, oi = some i → σ[i]? = some (some (.ref a))
def slotD (oi : Option Nat) (a : Addr) (D : Ends) : Ends := { D with nx := fun σ H => Slot oi a σ → D.nx σ H }
theorem XIn.slot {G : Gx} {L : List Str} {a : Addr} {cls : Value} {dx : Option Addr} {oi : Option Nat} {Fr B : Hp} {as : List Addr} {σ σ' : L2.St} {c : Str} {d : D} (h : XIn G L a cls dx oi Fr B as σ c d) (s : Slot oi a σ') : XIn G L a cls dx oi Fr B as σ' c d := by
  obtain ⟨dd, v, h1, h2, h3, h4, h5, _⟩ := h
  exact ⟨dd, v, h1, h2, h3, h4, h5, s⟩
theorem XIn.sl {G : Gx} {L : List Str} {a : Addr} {cls : Value} {dx : Option Addr} {oi : Option Nat} {Fr B : Hp} {as : List Addr} {σ : L2.St} {c : Str} {d : D} (h : XIn G L a cls dx oi Fr B as σ c d) : Slot oi a σ := by
  obtain ⟨dd, v, h1, h2, h3, h4, h5, h6⟩ := h
  exact h6
section
variable (X : Cx) (L : List Str) (a : Addr) (cls : Value) (dx : Option Addr) (oi : Option Nat)
def XSk (st : Stmt) (f : Str → D → Lo → Ev Fl) : Prop := ∃ t, PS X st t ∧ ∀ Fr B as σ H S M D c d, XIn (gx X) L a cls dx oi Fr B as σ c d → RS (gx X) B as σ S → Rep (gx X) Fr B as H M → Post B as (f c d S M) (kF X Fr W0 (slotD oi a D)) (fun _ _ _ _ _ => False) → t D σ H
def XSsk (st : List Stmt) (f : Str → D → Lo → Ev Fl) : Prop := ∃ t, PSs X st t ∧ ∀ Fr B as σ H S M D c d, XIn (gx X) L a cls dx oi Fr B as σ c d → RS (gx X) B as σ S → Rep (gx X) Fr B as H M → Post B as (f c d S M) (kF X Fr W0 (slotD oi a D)) (fun _ _ _ _ _ => False) → t D σ H
end
section
variable {X : Cx} {L : List Str} {a : Addr} {cls : Value} {dx : Option Addr} {oi : Option Nat} {e e1 e2 : Expr} {pos p : Pos} {x : Str} {st : Stmt} {rest : List Stmt}
theorem xsk_ret {f : Str → D → Lo → Ev D} (he : XE' X L a cls dx oi e f) : XSk X L a cls dx oi (.Return (some e) pos) (fun c d => sRet (f c d)) := by
  obtain ⟨t, p, s⟩ := he
  refine ⟨_, ps_ret p, fun Fr B as σ H S M D c d xi rs rp h => ?_⟩
  exact s Fr B as σ H S M _ c d xi rs rp ((Post.fl rs h).imp fun d M1 B1 as1 s1 p1 h1 v H1 rp1 r1 => h1.ret v H1 rp1 r1)
theorem xssk_one {f : Str → D → Lo → Ev Fl} (h : XSk X L a cls dx oi st f) : XSsk X L a cls dx oi [st] f := by
  obtain ⟨t, p, s⟩ := h
  exact ⟨_, pss_one p, s⟩
theorem xss_of {f : Str → D → Lo → Ev Fl} (h : XSsk X L a cls dx oi rest f) : XSs X L a cls dx oi rest f := by
  obtain ⟨t, p, s⟩ := h
  refine ⟨_, p, fun Fr B as σ H S M D c d xi rs rp h => s Fr B as σ H S M D c d xi rs rp (h.imp fun fl M1 B1 as1 s1 p1 h1 => ?_)⟩
  cases fl with
  | nx S' => exact fun σ' H' rp' rs' _ => h1 σ' H' rp' rs'
  | rt d2 => exact h1
  | bk S' => exact h1
  | ct S' => exact h1
  | xc c2 d2 S' => exact h1
theorem xe_reprF {f : Str → D → Lo → Ev (List D)} (hgu : X.A.guards = some []) (hu : X.A.units + 64 < cLine) (hb : smB X.K = true) (hg : Gl X "repr") (hm : X.mg "repr" = none) (ha : XA' X L a cls dx oi [e] f) (he : starEach [e] X.env = (false, eval e X.env) :: starEach [] X.env := by rfl) :
    XE' X L a cls dx oi (.Call (.Name "repr" p) [e] [] pos) (fun c d => eCall (op1 reprF) (f c d)) :=
  xe_callB (call_reprF hgu hu hb) o_reprF hg hm (by decide +kernel) ha (by decide) (by decide) he
end
def isIn (l : List Str) (c : Str) : Bool := l.contains c
theorem hd_ty {X : Cx} {n : String} : ∀ B as v, R (gx X) B as v (.ty n) → ∀ u, RelV v u → u = .type n := fun B as v r u e => by
  cases r; exact e

end DL.Xc

set_option Elab.async false
set_option linter.all false
set_option maxRecDepth 100000
set_option maxHeartbeats 6400000
/-! DP1: sorted(set(xs)). -/
namespace DL
open PySem PySem.Spec PyProof.Rows L2
variable [Tb]
section
variable {P : Program} {w : World} {A : Around} {E : Value → Shared → Prop} {z : Shared}
end

section
variable {X : Cx} {W : WX} {e a : Expr} {pos p p2 q : Pos}
end
end DL

set_option Elab.async false
set_option linter.all false
set_option maxRecDepth 100000
set_option maxHeartbeats 6400000
/-! DQ1: {e for t in xs if c}, for any kind of member that set.add can take; numbers. -/
namespace DL
open PySem PySem.Spec PyProof.Rows L2 PpSet
variable [Tb]
section
variable {Y : Cx} {κ : Type}
end
end DL

set_option Elab.async false
set_option linter.all false
set_option maxRecDepth 100000
set_option maxHeartbeats 6400000
/-! DQ2: set comprehensions of numbers as data: sorted({..}), len({..}), a set kept, x in a set. -/
namespace DL
open PySem PySem.Spec PyProof.Rows L2
variable [Tb]
/-- a heap that holds code-like things alone -/
theorem set_no_code {w : World} {D c : Addr} {S : Int → Bool} {n : Nat} {q : Str} : SetO w D S n ≠ LamX.CodeO c q := fun e => by
  unfold SetO LamX.CodeO at e
  injection e with e
  have e2 := congrFun e { objs := Array.replicate (c + 1) { cls := .none, data := .fields #[.none, .str q default] } }
  have g : ∀ a : Addr, a < c + 1 → Heap.get? { objs := Array.replicate (c + 1) { cls := .none, data := .fields #[.none, .str q default] } } a = some { cls := .none, data := .fields #[.none, .str q default] } := fun a ha => by
    unfold Heap.get?
    simp [ha]
  have r : (∃ (oc : Obj) (vs : Array Value) (t : Tok), Heap.get? { objs := Array.replicate (c + 1) { cls := .none, data := .fields #[.none, .str q default] } } c = some oc ∧ oc.data = .fields vs ∧ vs[1]? = some (.str q t)) := ⟨_, _, _, g c (Nat.lt_succ_self c), rfl, rfl⟩
  rw [← e2] at r
  obtain ⟨o, es, ep, t, ho, _, hd, _⟩ := r
  have lt : D < c + 1 := by
    have := Heap.lt_size ho
    simpa using this
  rw [g D lt] at ho
  cases ho
  cases hd
theorem Pln.set {w : World} {H : Hp} {a D : Addr} {S : Int → Bool} {n : Nat} (h : H a = some (SetO w D S n)) : Pln H a :=
  ⟨fun ps e => (by rw [h] at e; cases e), fun c q e => (by rw [h] at e; exact set_no_code (Option.some.inj e)), fun o f v e => (by rw [h] at e; cases e)⟩
section
variable {X : Cx} {W : WX}
/-- a new set -/
def kS (X : Cx) (Fr : Hp) (Q : VK) : List Int → Store → Hp → List Addr → Prop := fun l M B as => ∀ H p, Rep (gx X) Fr B as H M → H p = none → l.Nodup → Q (.ref p) (upd H p (SetO X.w p (fun i => decide (i ∈ l)) l.length))
end
end DL

set_option Elab.async false
set_option linter.all false
set_option maxRecDepth 100000
set_option maxHeartbeats 6400000
/-! DQ3: sorted({..}), len({..}), a set of numbers kept, x in it. -/
namespace DL
open PySem PySem.Spec PyProof.Rows L2
variable [Tb]
section
variable {X : Cx} {W : WX} {e a b elt tg iter : Expr} {ifs : List Expr} {scope : Scope} {own : List (Str × Nat)} {ps : List Nat} {fi : Lo → Ev (List D × Gd)} {ft : D → Lo → Ev Lo} {fc : Lo → Ev Bool} {fe : Lo → Ev D} {pos p spos : Pos}
structure Scp (X : Cx) (W : WX) (elt tg iter : Expr) (ifs : List Expr) (scope : Scope) (own : List (Str × Nat)) (f : Lo → Ev (List Int)) : Prop where
  pe : ∀ pos, ∃ t, PE X (.SetComp elt [⟨tg, iter, ifs, 0⟩] scope pos) t ∧ ∀ Fr B as σ H S M Q, RS (gx X) B as σ S → Rep (gx X) Fr B as H M → Post B as (f S M) (kS X Fr Q) (kX X Fr W σ) → t σ H Q
end
end DL

set_option Elab.async false
set_option linter.all false
set_option maxRecDepth 100000
set_option maxHeartbeats 4000000
/-! DV1: the observation of a large top without tables: what the names reach, each address once, told by a mask. -/
namespace He
open PySem L2
def newV (k : Nat → List Addr → List Addr) : Nat → List Addr → List Addr → List Addr
  | m, out, [] => k m out
  | m, out, a :: as => match Nat.testBit m a with
    | true => newV k m out as
    | false => newV k (m ||| (1 <<< a)) (a :: out) as
def lvV (g : Addr → Option Obj) : Nat → Nat → List Addr → List Addr
  | 0, _, fr => fr
  | n + 1, m, fr => fr ++ newV (fun m out => lvV g n m out) m [] (fr.flatMap fun a => match g a with
    | some o => refsD o
    | none => [])
def asV (g : Addr → Option Obj) (n : Nat) : List Addr := lvV g n (1 <<< mainGlobals) [mainGlobals] ++ [cStatics, sysModules]
def obsV (n : Nat) (fa : List Fa) (fn : List DefD) (ex : PySem.W.Frag → Bool) (g : Addr → Option Obj) : AlD × Bool := (obsD fa fn (frG g (asV g n)), ex (frG g (asV g n)))
def hookV (n : Nat) (fa : List Fa) (fn : List DefD) (ex : PySem.W.Frag → Bool) : PySem.W.Hook where
  α := AlD × Bool
  obs := fun s => obsV n fa fn ex s.heap.get?
  val := fun _ => (valD fn, true)
  says := fun _ h => ∃ K : PySem.W.Frag, K.In h ∧ SaysQ fa fn ex K
  of := fun _ _ e => ⟨_, frG_in, congrArg Prod.fst e, congrArg Prod.snd e⟩
  keeps := fun _ _ _ ⟨K, hK, c⟩ k => ⟨K, PySem.W.Frag.In.keeps hK k, c⟩
theorem obsV_eq {n : Nat} {fa : List Fa} {fn : List DefD} {ex : PySem.W.Frag → Bool} {g : Addr → Option Obj} {s : Shared} (h : ∀ a, g a = s.heap.get? a) : obsV n fa fn ex g = (hookV n fa fn ex).obs s := by
  have e : g = s.heap.get? := funext h
  rw [e] <;> rfl
end He

set_option Elab.async false
set_option linter.all false
set_option maxRecDepth 100000
set_option maxHeartbeats 4000000
/-! DM1: zip(a, b, strict=True) of two lists of one length. -/
namespace DL
open PySem PySem.Spec PyProof.Rows L2
variable [Tb]
/-- the six cells of a strict zip of two lists: the zip, its two tuples, the two iterators, and how far they are -/
structure ZC where
  z : Addr
  ti : Addr
  to : Addr
  i : Addr
  j : Addr
  a : Addr
  b : Addr
def zrec (c : ZC) (f : Value) : Obj := { cls := .type "zip", dict := none, data := .fields #[f, .bool false, .bool true, .ref c.ti, .ref c.to], slots := #[] }
structure ZS (c : ZC) (h : Heap) (f : Value) (m n : Nat) (u v : Value) (xs ys : Array Value) : Prop where
  zip : h.get? c.z = some (zrec c f)
  its : IsPair h c.ti (.ref c.i) (.ref c.j)
  own : IsPair h c.to u v
  one : h.IsListIter c.i c.a m
  two : h.IsListIter c.j c.b n
  la : h.IsList c.a xs
  lb : h.IsList c.b ys
abbrev ZC.Ap (c : ZC) : Prop := ZipApart c.z c.ti c.to c.i c.j c.a c.b
/-- what a turn may not touch -/
def Far (c : ZC) (h h' : Heap) : Prop := ∀ b o, b ≠ c.z → b ≠ c.to → b ≠ c.i → b ≠ c.j → h.get? b = some o → h'.get? b = some o
section
variable {c : ZC} {h h' h2 : Heap} {f f' : Value} {m n : Nat} {u v u' v' : Value} {xs ys : Array Value}
theorem Far.refl : Far c h h := fun _ _ _ _ _ _ e => e
theorem ZS.more (S : ZS c h f m n u v xs ys) (k : ∀ b o, h.get? b = some o → h'.get? b = some o) : ZS c h' f m n u v xs ys :=
  ⟨k _ _ S.zip, k _ _ S.its, k _ _ S.own, S.one.at fun o => k _ o, S.two.at fun o => k _ o, S.la.at fun o => k _ o, S.lb.at fun o => k _ o⟩
end
section
variable {P : Program} {w : World} {A : Around} {E : Value → Shared → Prop} {s : Shared} {c : ZC} {m n : Nat} {u v x y : Value} {xs ys : Array Value}
end
/-! ### a strict zip made -/
/-- the zip at turn i, the lists left out -/
structure ZT (c : ZC) (i : Nat) (h : Heap) : Prop where
  zip : h.get? c.z = some (zrec c .none)
  its : IsPair h c.ti (.ref c.i) (.ref c.j)
  own : ∃ u v, IsPair h c.to u v
  one : h.IsListIter c.i c.a i
  two : h.IsListIter c.j c.b i
theorem ZT.at {c : ZC} {i : Nat} {h h' : Heap} (T : ZT c i h) (k : ∀ b ∈ [c.z, c.ti, c.to, c.i, c.j], ∀ o, h.get? b = some o → h'.get? b = some o) : ZT c i h' := by
  obtain ⟨u, v, e⟩ := T.own
  exact ⟨k _ (by simp) _ T.zip, k _ (by simp) _ T.its, ⟨u, v, k _ (by simp) _ e⟩, T.one.at fun o => k _ (by simp) o, T.two.at fun o => k _ (by simp) o⟩
theorem ZT.lt {c : ZC} {i : Nat} {h : Heap} (T : ZT c i h) {b : Addr} (hb : b ∈ [c.z, c.ti, c.to, c.i, c.j]) : ∃ o, h.get? b = some o ∧ ∀ v, o.data ≠ .cell v := by
  obtain ⟨u, v, e⟩ := T.own
  obtain ⟨o1, e1, _, d1⟩ := T.one
  obtain ⟨o2, e2, _, d2⟩ := T.two
  simp only [List.mem_cons, List.not_mem_nil, or_false] at hb
  rcases hb with rfl | rfl | rfl | rfl | rfl
  · exact ⟨_, T.zip, fun v => nofun⟩
  · exact ⟨_, T.its, fun v => nofun⟩
  · exact ⟨_, e, fun v => nofun⟩
  · exact ⟨_, e1, fun v z => by rw [d1] at z; cases z⟩
  · exact ⟨_, e2, fun v z => by rw [d2] at z; cases z⟩
theorem Far.out {c : ZC} {h h' : Heap} (F : Far c h h') {b : Addr} {o : Obj} (hb : b ∉ [c.z, c.ti, c.to, c.i, c.j]) (e : h.get? b = some o) : h'.get? b = some o := by
  simp only [List.mem_cons, List.not_mem_nil, or_false, not_or] at hb
  exact F b o hb.1 hb.2.2.1 hb.2.2.2.1 hb.2.2.2.2 e
/-! ### a class of Python called with keywords -/
/-! ### over data -/
end DL

set_option Elab.async false
set_option linter.all false
set_option maxRecDepth 100000
set_option maxHeartbeats 4000000
/-! DM2: four statements, and what they made is frozen. -/
namespace DL
open PySem L2
variable [Tb]
section
variable {X : Cx} {W : WX} {st1 st2 st3 st4 : Stmt} {rest : List Stmt}
end
end DL

set_option Elab.async false
set_option linter.all false
set_option maxRecDepth 100000
set_option maxHeartbeats 4000000
/-! DM3: a[i] op= v on an own list. -/
namespace DL
open PySem L2
variable [Tb]
section
variable {X : Cx} {W : WX} {o i e : Expr} {pos tpos : Pos}
end
end DL

set_option Elab.async false
set_option linter.all false
set_option maxRecDepth 100000
set_option maxHeartbeats 4000000
namespace Lw
open PySem L2 DL
def top (i : Nat) : Stmt := PySem.Challenge.pw_turnedties_k70_reduced_webs_and_gains.main.body.getD i (.Pass ⟨0, 0, 0, 0⟩)
abbrev s_InvalidModulus___init__ : Stmt := inClass (top 3) 0
def d_InvalidModulus___init__ : He.DefD := ⟨("InvalidModulus", some "__init__"), "__init__", "InvalidModulus.__init__", defArgs s_InvalidModulus___init__, defBody s_InvalidModulus___init__, defScope s_InvalidModulus___init__, [], []⟩
abbrev s_InvalidSize___init__ : Stmt := inClass (top 4) 0
def d_InvalidSize___init__ : He.DefD := ⟨("InvalidSize", some "__init__"), "__init__", "InvalidSize.__init__", defArgs s_InvalidSize___init__, defBody s_InvalidSize___init__, defScope s_InvalidSize___init__, [], []⟩
abbrev s_InvalidEdge___init__ : Stmt := inClass (top 5) 0
def d_InvalidEdge___init__ : He.DefD := ⟨("InvalidEdge", some "__init__"), "__init__", "InvalidEdge.__init__", defArgs s_InvalidEdge___init__, defBody s_InvalidEdge___init__, defScope s_InvalidEdge___init__, [], []⟩
abbrev s_InvalidGains___init__ : Stmt := inClass (top 6) 0
def d_InvalidGains___init__ : He.DefD := ⟨("InvalidGains", some "__init__"), "__init__", "InvalidGains.__init__", defArgs s_InvalidGains___init__, defBody s_InvalidGains___init__, defScope s_InvalidGains___init__, [], []⟩
abbrev s_forest_of : Stmt := top 10
def d_forest_of : He.DefD := ⟨("forest_of", none), "forest_of", "forest_of", defArgs s_forest_of, defBody s_forest_of, defScope s_forest_of, [], []⟩
abbrev s_links_of : Stmt := top 11
def d_links_of : He.DefD := ⟨("links_of", none), "links_of", "links_of", defArgs s_links_of, defBody s_links_of, defScope s_links_of, [], []⟩
abbrev s_is_integer : Stmt := top 16
def d_is_integer : He.DefD := ⟨("is_integer", none), "is_integer", "is_integer", defArgs s_is_integer, defBody s_is_integer, defScope s_is_integer, [], []⟩
abbrev s_is_within : Stmt := top 17
def d_is_within : He.DefD := ⟨("is_within", none), "is_within", "is_within", defArgs s_is_within, defBody s_is_within, defScope s_is_within, [], []⟩
abbrev s_is_edge : Stmt := top 18
def d_is_edge : He.DefD := ⟨("is_edge", none), "is_edge", "is_edge", defArgs s_is_edge, defBody s_is_edge, defScope s_is_edge, [], []⟩
abbrev s_is_modulus : Stmt := top 19
def d_is_modulus : He.DefD := ⟨("is_modulus", none), "is_modulus", "is_modulus", defArgs s_is_modulus, defBody s_is_modulus, defScope s_is_modulus, [], []⟩
abbrev s_check_edges : Stmt := top 20
def d_check_edges : He.DefD := ⟨("check_edges", none), "check_edges", "check_edges", defArgs s_check_edges, defBody s_check_edges, defScope s_check_edges, [], []⟩
abbrev s_Web___init__ : Stmt := inClass (top 21) 0
def d_Web___init__ : He.DefD := ⟨("Web", some "__init__"), "__init__", "Web.__init__", defArgs s_Web___init__, defBody s_Web___init__, defScope s_Web___init__, [.adr (He.dflAt ("Web", some "__init__") 0)], [("modulus", .int 0)]⟩
abbrev s_Web_size : Stmt := inClass (top 21) 1
def d_Web_size : He.DefD := ⟨("Web", some "size"), "size", "Web.size", defArgs s_Web_size, defBody s_Web_size, defScope s_Web_size, [], []⟩
abbrev s_Web_modulus : Stmt := inClass (top 21) 2
def d_Web_modulus : He.DefD := ⟨("Web", some "modulus"), "modulus", "Web.modulus", defArgs s_Web_modulus, defBody s_Web_modulus, defScope s_Web_modulus, [], []⟩
abbrev s_Web_edges : Stmt := inClass (top 21) 3
def d_Web_edges : He.DefD := ⟨("Web", some "edges"), "edges", "Web.edges", defArgs s_Web_edges, defBody s_Web_edges, defScope s_Web_edges, [], []⟩
abbrev s_Web___len__ : Stmt := inClass (top 21) 9
def d_Web___len__ : He.DefD := ⟨("Web", some "__len__"), "__len__", "Web.__len__", defArgs s_Web___len__, defBody s_Web___len__, defScope s_Web___len__, [], []⟩
abbrev s_Web___eq__ : Stmt := inClass (top 21) 10
def d_Web___eq__ : He.DefD := ⟨("Web", some "__eq__"), "__eq__", "Web.__eq__", defArgs s_Web___eq__, defBody s_Web___eq__, defScope s_Web___eq__, [], []⟩
abbrev s_Web___repr__ : Stmt := inClass (top 21) 11
def d_Web___repr__ : He.DefD := ⟨("Web", some "__repr__"), "__repr__", "Web.__repr__", defArgs s_Web___repr__, defBody s_Web___repr__, defScope s_Web___repr__, [], []⟩
abbrev s_is_residue : Stmt := top 23
def d_is_residue : He.DefD := ⟨("is_residue", none), "is_residue", "is_residue", defArgs s_is_residue, defBody s_is_residue, defScope s_is_residue, [], []⟩
abbrev s_are_residues : Stmt := top 24
def d_are_residues : He.DefD := ⟨("are_residues", none), "are_residues", "are_residues", defArgs s_are_residues, defBody s_are_residues, defScope s_are_residues, [], []⟩
abbrev s_is_gains : Stmt := top 25
def d_is_gains : He.DefD := ⟨("is_gains", none), "is_gains", "is_gains", defArgs s_is_gains, defBody s_is_gains, defScope s_is_gains, [], []⟩
abbrev s_check_gains : Stmt := top 26
def d_check_gains : He.DefD := ⟨("check_gains", none), "check_gains", "check_gains", defArgs s_check_gains, defBody s_check_gains, defScope s_check_gains, [], []⟩
abbrev s_check_divisor : Stmt := top 28
def d_check_divisor : He.DefD := ⟨("check_divisor", none), "check_divisor", "check_divisor", defArgs s_check_divisor, defBody s_check_divisor, defScope s_check_divisor, [], []⟩
abbrev s_reduced : Stmt := top 29
def d_reduced : He.DefD := ⟨("reduced", none), "reduced", "reduced", defArgs s_reduced, defBody s_reduced, defScope s_reduced, [], []⟩
abbrev s_reduced_gains : Stmt := top 30
def d_reduced_gains : He.DefD := ⟨("reduced_gains", none), "reduced_gains", "reduced_gains", defArgs s_reduced_gains, defBody s_reduced_gains, defScope s_reduced_gains, [], []⟩
abbrev s__law_pool : Stmt := top 32
def d__law_pool : He.DefD := ⟨("_law_pool", none), "_law_pool", "_law_pool", defArgs s__law_pool, defBody s__law_pool, defScope s__law_pool, [], []⟩
abbrev s__law_take : Stmt := top 33
def d__law_take : He.DefD := ⟨("_law_take", none), "_law_take", "_law_take", defArgs s__law_take, defBody s__law_take, defScope s__law_take, [], []⟩
abbrev s__law_residue : Stmt := top 34
def d__law_residue : He.DefD := ⟨("_law_residue", none), "_law_residue", "_law_residue", defArgs s__law_residue, defBody s__law_residue, defScope s__law_residue, [], []⟩
abbrev s__law_base : Stmt := top 35
def d__law_base : He.DefD := ⟨("_law_base", none), "_law_base", "_law_base", defArgs s__law_base, defBody s__law_base, defScope s__law_base, [], []⟩
abbrev s__law_pairs : Stmt := top 36
def d__law_pairs : He.DefD := ⟨("_law_pairs", none), "_law_pairs", "_law_pairs", defArgs s__law_pairs, defBody s__law_pairs, defScope s__law_pairs, [], []⟩
abbrev s__law_divisors : Stmt := top 37
def d__law_divisors : He.DefD := ⟨("_law_divisors", none), "_law_divisors", "_law_divisors", defArgs s__law_divisors, defBody s__law_divisors, defScope s__law_divisors, [], []⟩
abbrev s__law_refused : Stmt := top 38
def d__law_refused : He.DefD := ⟨("_law_refused", none), "_law_refused", "_law_refused", defArgs s__law_refused, defBody s__law_refused, defScope s__law_refused, [], []⟩
abbrev s_law : Stmt := top 39
def d_law : He.DefD := ⟨("law", none), "law", "law", defArgs s_law, defBody s_law, defScope s_law, [], []⟩
def fn : List He.DefD := [d_InvalidModulus___init__, d_InvalidSize___init__, d_InvalidEdge___init__, d_InvalidGains___init__, d_forest_of, d_links_of, d_is_integer, d_is_within, d_is_edge, d_is_modulus, d_check_edges, d_Web___init__, d_Web_size, d_Web_modulus, d_Web_edges, d_Web___len__, d_Web___eq__, d_Web___repr__, d_is_residue, d_are_residues, d_is_gains, d_check_gains, d_check_divisor, d_reduced, d_reduced_gains, d__law_pool, d__law_take, d__law_residue, d__law_base, d__law_pairs, d__law_divisors, d__law_refused, d_law]
def fa : List He.Fa := [.free "len", .free "abs", .free "int", .glo "_law_take", .free "range", .free "isinstance", .free "bool", .glo "is_integer", .glo "WebError", .free "tuple", .glo "is_within", .free "list", .glo "InvalidEdge", .glo "is_edge", .int "MOST_EDGES" 60, .int "MOST_MODULUS" 60, .free "enumerate", .int "MOST_NODES" 30, .glo "InvalidSize", .glo "check_edges", .glo "is_modulus", .glo "InvalidModulus", .glo "Web", .cls "Web", .noat "Web" "own_size", .noat "Web" "own_edges", .noat "Web" "own_modulus", .glo "forest_of", .noat "Web" "own_forest", .glo "links_of", .noat "Web" "links", .meth "Web" "modulus", .glo "check_divisor", .mkr "Web", .meth "Web" "size", .meth "Web" "edges", .free "all", .glo "is_residue", .glo "are_residues", .meth "Web" "__len__", .glo "is_gains", .glo "InvalidGains", .glo "check_gains", .glo "reduced", .glo "reduced_gains", .exm "InvalidSize" "InvalidModulus" false, .exm "InvalidModulus" "InvalidModulus" true, .exm "InvalidGains" "InvalidModulus" false, .exm "InvalidEdge" "InvalidModulus" false, .free "repr", .free "ValueError", .free "max", .free "min", .glo "_law_pool", .glo "_law_base", .glo "_law_pairs", .glo "_law_residue", .meth "Web" "__repr__", .glo "_law_divisors", .meth "Web" "__eq__", .glo "_law_refused", .glo "law"]
def exF : List (PySem.W.Frag → Bool) := [(fun K => xbB K ("WebError" : Str)), (fun K => xcB K ("InvalidEdge" : Str)), (fun K => xcB K ("InvalidSize" : Str)), (fun K => xcB K ("InvalidModulus" : Str)), (fun K => isoB K (He.ga K ("Web" : Str))), (fun K => xcB K ("InvalidGains" : Str)), (fun K => [("InvalidEdge" : Str), ("InvalidGains" : Str), ("InvalidModulus" : Str), ("InvalidSize" : Str)].all fun c => xvB K c), (fun K => smB K), (fun K => Xc.isB K [("InvalidEdge" : Str), ("InvalidGains" : Str), ("InvalidModulus" : Str), ("InvalidSize" : Str)] (.type "ValueError") (Xc.isIn [("InvalidEdge" : Str), ("InvalidGains" : Str), ("InvalidModulus" : Str), ("InvalidSize" : Str)]))]
end Lw
set_option Elab.async false
set_option linter.all false
set_option maxRecDepth 100000
set_option maxHeartbeats 0
namespace Lw
open PySem PySem.Spec PyProof.Rows L2
def loose0 : List Str := ["_wall", "__name__", "WebError", "InvalidModulus", "InvalidSize", "InvalidEdge", "InvalidGains", "NoEdge", "TooMany", "forest_of", "links_of", "MOST_NODES", "MOST_EDGES", "MOST_MODULUS", "is_integer", "is_within", "is_edge", "is_modulus", "check_edges", "Web", "is_residue", "are_residues", "is_gains", "check_gains", "check_divisor", "reduced", "reduced_gains", "_law_pool", "_law_take", "_law_residue"]
def loose1 : List Str := ["_law_base", "_law_pairs", "_law_divisors", "_law_refused"]
def loose : List Str := loose0 ++ loose1
abbrev rowR : PySem.W.OpenRow := PySem.W.OpenLaw.row PySem.Challenge.rw_turnedties_k70_reduced_webs_and_gains
abbrev hkD : PySem.W.Hook := He.hookV 4 fa fn (fun K => exF.all fun f => f K)
def obD (s : PySem.W.SharedT) : He.AlD × Bool := He.obsV 4 fa fn (fun K => exF.all fun f => f K) (HandSHeadRun.getT s)
theorem obD_eq (s : PySem.W.SharedT) : obD s = hkD.obs s.abs := He.obsV_eq (HandSHeadRun.getT_eq s)
theorem runD (w : World) : HandSHeadRun.RunEq rowR (PySem.W.view rowR.prog [39]) hkD obD 100000 loose w := by
  intro os
  kernel_rfl
end Lw

set_option Elab.async false
set_option linter.all false
set_option maxRecDepth 100000
set_option maxHeartbeats 4000000
namespace Lw
open PySem L2 DL
noncomputable def g_forest_of : Lo → Ev Fl := sSeq (sAsg (eF (lrN (r1E (eVar 0)))) (gNm 2)) (sSeq (sAsg (eCl (nNew .lst eA0)) (gNm 3)) (sSeq (sFor (iEn (eAc (eVar 1) eA0)) (gTp 2 (gCn (gNm 4) (gCn (gTp 2 (gCn (gNm 5) (gCn (gNm 6) gNl))) gNl))) (sIf (eB (e2 (eqE true) (e2 ixE (eVar 2) (eVar 5)) (e2 ixE (eVar 2) (eVar 6)))) (sSeq (sExp (eBm (cellM opAppend) (eVar 3) (eAc (eVar 4) eA0))) (sAsg (eF (nLc (iSeq (eVar 2)) (gNm 7) tYesD (eIf (eB (e2 (eqE false) (eVar 7) (e2 ixE (eVar 2) (eVar 6)))) (e2 ixE (eVar 2) (eVar 5)) (eVar 7)) [7])) (gNm 2))) sNext)) (sRet (eVar 3))))
noncomputable def F_forest_of : List D → Ev D := runF 8 g_forest_of
noncomputable def g_links_of : Lo → Ev Fl := sSeq (sAsg (fun S => (nLc (iR1 (eAc (eVar 0) eA0)) (gNm 7) tYesD (eCl (nNew .lst eA0)) [7] S).bnd frz) (gNm 3)) (sSeq (sFor (iSeq (eVar 2)) (gNm 4) (sSeq (sAsg (e2 ixE (eVar 1) (eVar 4)) (gTp 2 (gCn (gNm 5) (gCn (gNm 6) gNl)))) (sSeq (sExp (eBm (cellM opAppend) (e2 ixE (eVar 3) (eVar 5)) (eAc (eF (nNew .tup (eAc (eVar 4) (eAc (eC (.int 1)) (eAc (eVar 6) eA0))))) eA0))) (sExp (eBm (cellM opAppend) (e2 ixE (eVar 3) (eVar 6)) (eAc (eF (nNew .tup (eAc (eVar 4) (eAc (e1 negE (eC (.int 1))) (eAc (eVar 5) eA0))))) eA0)))))) (sRet (eVar 3)))
noncomputable def F_links_of : List D → Ev D := runF 8 g_links_of
noncomputable def g_is_integer : Lo → Ev Fl := sRet (eAndV (eCall (op2 isiE) (eAc (eVar 0) (eAc (eC (.ty "int")) eA0))) (eNotV (eCall (op2 isiE) (eAc (eVar 0) (eAc (eC (.ty "bool")) eA0)))))
noncomputable def F_is_integer : List D → Ev D := runF 1 g_is_integer
noncomputable def g_is_within : Lo → Ev Fl := sRet (eAndV (eFz (eCall (callD 1 F_is_integer) (eAc (eVar 0) eA0))) (eChain leE leE (eVar 1) (eVar 0) (eVar 2)))
noncomputable def F_is_within : List D → Ev D := runF 3 g_is_within
noncomputable def g_is_edge : Lo → Ev Fl := sSeq (sIf (eOr (eNot (eTru (eCall (op2 isiE) (eAc (eVar 0) (eAc (eC (.ty "tuple")) eA0))))) (eB (e2 (eqE true) (eCall (op1 lenE) (eAc (eVar 0) eA0)) (eC (.int 2))))) (sRet (eC (.bl false))) sNext) (sRet (eAndV (eFz (eCall (callD 3 F_is_within) (eAc (e2 ixE (eVar 0) (eC (.int 0))) (eAc (eC (.int 0)) (eAc (e2 subE (eVar 1) (eC (.int 1))) eA0))))) (eFz (eCall (callD 3 F_is_within) (eAc (e2 ixE (eVar 0) (eC (.int 1))) (eAc (eC (.int 0)) (eAc (e2 subE (eVar 1) (eC (.int 1))) eA0)))))))
noncomputable def F_is_edge : List D → Ev D := runF 2 g_is_edge
noncomputable def g_is_modulus : Lo → Ev Fl := sRet (eAndV (eFz (eCall (callD 3 F_is_within) (eAc (eVar 0) (eAc (eC (.int 0)) (eAc (eC (.int 60)) eA0))))) (e2 (eqE true) (eVar 0) (eC (.int 1))))
noncomputable def F_is_modulus : List D → Ev D := runF 1 g_is_modulus
noncomputable def g_check_edges : Lo → Ev Fl := sSeq (sIf (eNot (eTru (eCall (op2 isiTE) (eAc (eVar 1) (eAc (eF (nNew .tup (eAc (eC (.ty "list")) (eAc (eC (.ty "tuple")) eA0)))) eA0))))) (sRaise ("InvalidEdge" : Str) (eVar 1)) sNext) (sSeq (sFor (iSeq (eVar 1)) (gNm 2) (sIf (eNot (eTru (eFz (eCall (callD 2 F_is_edge) (eAc (eVar 2) (eAc (eVar 0) eA0)))))) (sRaise ("InvalidEdge" : Str) (eVar 2)) sNext)) (sIf (eB (e2 gtE (eCall (op1 lenE) (eAc (eVar 1) eA0)) (eC (.int 60)))) sNo sNext))
noncomputable def F_check_edges : List D → Ev D := runF 3 g_check_edges
noncomputable def g_Web___init__ : Lo → Ev Fl := sSeq (sIf (eNot (eTru (eFz (eCall (callD 3 F_is_within) (eAc (eVar 1) (eAc (eC (.int 1)) (eAc (eC (.int 30)) eA0))))))) (sRaise ("InvalidSize" : Str) (eVar 1)) sNext) (sSeq (sExp (eFz (eCall (callD 2 F_check_edges) (eAc (eVar 1) (eAc (eVar 2) eA0))))) (sSeq (sIf (eNot (eTru (eFz (eCall (callD 1 F_is_modulus) (eAc (eVar 3) eA0))))) (sRaise ("InvalidModulus" : Str) (eVar 3)) sNext) (sSeq (sFldD ("Web" : Str) ("own_size" : Str) (eVar 0) (eVar 1)) (sSeq (sFldD ("Web" : Str) ("own_edges" : Str) (eVar 0) (eF (nCall (op1 listN) (eAc (eVar 2) eA0)))) (sSeq (sFldD ("Web" : Str) ("own_modulus" : Str) (eVar 0) (eVar 3)) (sSeq (sFldD ("Web" : Str) ("own_forest" : Str) (eVar 0) (eFz (eCall (callD 2 F_forest_of) (eAc (eVar 1) (eAc (eVar 2) eA0))))) (sFldD ("Web" : Str) ("links" : Str) (eVar 0) (eFz (eCall (callD 3 F_links_of) (eAc (eVar 1) (eAc (eVar 2) (eAc (e1 (fldE ("Web" : Str) ("own_forest" : Str)) (eVar 0)) eA0))))))))))))
noncomputable def F_Web___init__ : List D → Ev D := runF 4 g_Web___init__
noncomputable def g_Web_size : Lo → Ev Fl := sRet (e1 (fldE ("Web" : Str) ("own_size" : Str)) (eVar 0))
noncomputable def F_Web_size : List D → Ev D := runF 1 g_Web_size
noncomputable def g_Web_modulus : Lo → Ev Fl := sRet (e1 (fldE ("Web" : Str) ("own_modulus" : Str)) (eVar 0))
noncomputable def F_Web_modulus : List D → Ev D := runF 1 g_Web_modulus
noncomputable def g_Web_edges : Lo → Ev Fl := sRet (eF (nCall (op1 listN) (eAc (e1 (fldE ("Web" : Str) ("own_edges" : Str)) (eVar 0)) eA0)))
noncomputable def F_Web_edges : List D → Ev D := runF 1 g_Web_edges
noncomputable def g_Web___len__ : Lo → Ev Fl := sRet (eCall (op1 lenE) (eAc (e1 (fldE ("Web" : Str) ("own_edges" : Str)) (eVar 0)) eA0))
noncomputable def F_Web___len__ : List D → Ev D := runF 1 g_Web___len__
noncomputable def g__law_take : Lo → Ev Fl := sSeq (sIf (eB (e2 gtE (e2 ixE (eVar 0) (eC (.int 0))) (eC (.int 0)))) (sSeq (sAsg (e2 modE (e2 ixE (eVar 0) (eC (.int 0))) (eVar 1)) (gNm 2)) (sSeq (sAsg (e2 divE (e2 ixE (eVar 0) (eC (.int 0))) (eVar 1)) (gSet (eVar 0) (eC (.int 0)))) (sRet (eVar 2)))) sNext) (sSeq (sAsg (e2 modE (eF (n2 addN (e2 mulE (e2 ixE (eVar 0) (eC (.int 1))) (eC (.int 48271))) (eC (.int 11)))) (eC (.int 2147483647))) (gSet (eVar 0) (eC (.int 1)))) (sRet (e2 modE (e2 divE (e2 modE (e2 mulE (e2 ixE (eVar 0) (eC (.int 1))) (e2 ixE (eVar 0) (eC (.int 1)))) (eC (.int 2147483629))) (eC (.int 64))) (eVar 1))))
noncomputable def F__law_take : List D → Ev D := runF 3 g__law_take
noncomputable def g_is_residue : Lo → Ev Fl := sSeq (sIf (eB (e2 (eqE false) (eFz (eMeth ("Web" : Str) ("modulus" : Str) 1 F_Web_modulus [] (eVar 0) eA0)) (eC (.int 0)))) (sRet (eFz (eCall (callD 1 F_is_integer) (eAc (eVar 1) eA0)))) sNext) (sRet (eFz (eCall (callD 3 F_is_within) (eAc (eVar 1) (eAc (eC (.int 0)) (eAc (e2 subE (eFz (eMeth ("Web" : Str) ("modulus" : Str) 1 F_Web_modulus [] (eVar 0) eA0)) (eC (.int 1))) eA0))))))
noncomputable def F_is_residue : List D → Ev D := runF 2 g_is_residue
noncomputable def g_are_residues : Lo → Ev Fl := sRet (eAndV (eCall (op2 isiE) (eAc (eVar 1) (eAc (eC (.ty "list")) eA0))) (eAndV (e2 (eqE false) (eCall (op1 lenE) (eAc (eVar 1) eA0)) (eVar 2)) (eCall (op1 allE) (eAc (eF (nLc (iSeq (eVar 1)) (gNm 3) tYesD (eFz (eCall (callD 2 F_is_residue) (eAc (eVar 0) (eAc (eVar 3) eA0)))) [3])) eA0))))
noncomputable def F_are_residues : List D → Ev D := runF 4 g_are_residues
noncomputable def g_is_gains : Lo → Ev Fl := sRet (eFz (eCall (callD 3 F_are_residues) (eAc (eVar 0) (eAc (eVar 1) (eAc (eCall (op1 (lenO ("Web" : Str) F_Web___len__)) (eAc (eVar 0) eA0)) eA0)))))
noncomputable def F_is_gains : List D → Ev D := runF 2 g_is_gains
noncomputable def g_check_gains : Lo → Ev Fl := sIf (eNot (eTru (eFz (eCall (callD 2 F_is_gains) (eAc (eVar 0) (eAc (eVar 1) eA0)))))) (sRaise ("InvalidGains" : Str) (eVar 1)) sNext
noncomputable def F_check_gains : List D → Ev D := runF 2 g_check_gains
noncomputable def g__law_residue : Lo → Ev Fl := sSeq (sIf (eB (e2 gtE (eVar 1) (eC (.int 0)))) (sRet (eFz (eCall (callD 2 F__law_take) (eAc (eVar 0) (eAc (eVar 1) eA0))))) sNext) (sSeq (sAsg (e2 subE (e2 mulE (eFz (eCall (callD 2 F__law_take) (eAc (eVar 0) (eAc (e2 powE (eC (.int 10)) (eC (.int 9))) eA0)))) (e2 powE (eC (.int 10)) (eC (.int 9)))) (e2 mulE (eC (.int 5)) (e2 powE (eC (.int 10)) (eC (.int 17))))) (gNm 2)) (sRet (e2 ixE (eF (nNew .lst (eAc (e2 subE (eFz (eCall (callD 2 F__law_take) (eAc (eVar 0) (eAc (eC (.int 9)) eA0)))) (eC (.int 4))) (eAc (e2 subE (eFz (eCall (callD 2 F__law_take) (eAc (eVar 0) (eAc (eC (.int 9)) eA0)))) (eC (.int 4))) (eAc (eC (.int 0)) (eAc (eVar 2) eA0)))))) (eFz (eCall (callD 2 F__law_take) (eAc (eVar 0) (eAc (eC (.int 4)) eA0)))))))
noncomputable def F__law_residue : List D → Ev D := runF 3 g__law_residue
noncomputable def g__law_base : Lo → Ev Fl := sRet (e2 ixE (eF (nNew .lst (eAc (eC (.int 0)) (eAc (eC (.int 0)) (eAc (eC (.int 2)) (eAc (eC (.int 3)) (eAc (eC (.int 4)) (eAc (eC (.int 5)) (eAc (eC (.int 12)) (eAc (eF (n2 addN (eC (.int 2)) (eFz (eCall (callD 2 F__law_take) (eAc (eVar 0) (eAc (eC (.int 59)) eA0)))))) eA0)))))))))) (eFz (eCall (callD 2 F__law_take) (eAc (eVar 0) (eAc (eC (.int 8)) eA0)))))
noncomputable def F__law_base : List D → Ev D := runF 1 g__law_base
noncomputable def g__law_pairs : Lo → Ev Fl := sSeq (sAsg (eCl (nNew .lst eA0)) (gNm 3)) (sSeq (sFor (iR1 (eAc (eFz (eCall (callD 2 F__law_take) (eAc (eVar 0) (eAc (eF (n2 addN (eVar 2) (eC (.int 1)))) eA0)))) eA0)) (gNm 4) (sSeq (sAsg (eFz (eCall (callD 2 F__law_take) (eAc (eVar 0) (eAc (eVar 1) eA0)))) (gNm 5)) (sSeq (sAsg (eFz (eCall (callD 2 F__law_take) (eAc (eVar 0) (eAc (eVar 1) eA0)))) (gNm 6)) (sExp (eBm (cellM opAppend) (eVar 3) (eAc (eF (nNew .tup (eAc (eVar 5) (eAc (eVar 6) eA0)))) eA0)))))) (sRet (eVar 3)))
noncomputable def F__law_pairs : List D → Ev D := runF 7 g__law_pairs
noncomputable def g_check_divisor : Lo → Ev Fl := sIf (eOr (eNot (eTru (eFz (eCall (callD 3 F_is_within) (eAc (eVar 1) (eAc (eC (.int 2)) (eAc (eC (.int 60)) eA0))))))) (eB (e2 (eqE true) (e2 modE (eFz (eMeth ("Web" : Str) ("modulus" : Str) 1 F_Web_modulus [] (eVar 0) eA0)) (eVar 1)) (eC (.int 0))))) (sRaise ("InvalidModulus" : Str) (eVar 1)) sNext
noncomputable def F_check_divisor : List D → Ev D := runF 2 g_check_divisor
noncomputable def g_reduced : Lo → Ev Fl := sSeq (sExp (eFz (eCall (callD 2 F_check_divisor) (eAc (eVar 0) (eAc (eVar 1) eA0))))) (sRet (eFz (eMake ("Web" : Str) 4 2 1 (fun d l z => d :: (l ++ z)) F_Web___init__ (eAc (eFz (eMeth ("Web" : Str) ("size" : Str) 1 F_Web_size [] (eVar 0) eA0)) (eAc (eFz (eMeth ("Web" : Str) ("edges" : Str) 1 F_Web_edges [] (eVar 0) eA0)) eA0)) (eAc (eVar 1) eA0))))
noncomputable def F_reduced : List D → Ev D := runF 2 g_reduced
noncomputable def g__law_divisors : Lo → Ev Fl := sRet (eF (nLc (iR2 (eAc (eC (.int 2)) (eAc (eC (.int 61)) eA0))) (gNm 1) (eB (e2 (eqE false) (e2 modE (eVar 0) (eVar 1)) (eC (.int 0)))) (eVar 1) [1]))
noncomputable def F__law_divisors : List D → Ev D := runF 2 g__law_divisors
end Lw

set_option Elab.async false
set_option linter.all false
set_option maxRecDepth 100000
set_option maxHeartbeats 4000000
namespace Lw
open PySem L2 DL
noncomputable def g__law_pool_v : Lo → Ev Fl := sSeq (sAsg (eC (.int 0)) (gNm 2)) (sSeq (sIf (eB (e2 ltE (eVar 1) (eCall (op1 lenE) (eAc (eVar 0) eA0)))) (sAsg (e2 ixE (eVar 0) (eVar 1)) (gNm 2)) sNext) (sSeq (sAsg (eCall (op1 absE) (eAc (eVar 2) eA0)) (gNm 3)) (sSeq (sAsg (e2 modE (e2 mulE (eF (n2 addN (eF (n2 addN (e2 modE (eVar 3) (eC (.int 2147483629))) (e2 mulE (e2 mulE (eC (.int 7919)) (eVar 1)) (eVar 1)))) (eC (.int 13)))) (eC (.int 48271))) (eC (.int 2147483647))) (gNm 4)) (sRet (eCl (nNew .lst (eAc (e2 mulE (eVar 3) (eCall (op1 intE) (eAc (e2 geE (eVar 3) (e2 powE (eC (.int 10)) (eC (.int 18)))) eA0))) (eAc (eVar 4) eA0))))))))
noncomputable def F__law_pool_v : List D → Ev D := runF 5 g__law_pool_v
noncomputable def g_Web___eq___v : Lo → Ev Fl := sSeq (sIf (eNot (eTru (eIsO ("Web" : Str) (eVar 1)))) (sRet (eC (.bl false))) sNext) (sSeq (sAsg (eF (nNew .tup (eAc (e1 (fldE ("Web" : Str) ("own_size" : Str)) (eVar 0)) (eAc (e1 (fldE ("Web" : Str) ("own_edges" : Str)) (eVar 0)) (eAc (e1 (fldE ("Web" : Str) ("own_modulus" : Str)) (eVar 0)) eA0))))) (gNm 2)) (sRet (e2 (eqE false) (eVar 2) (eF (nNew .tup (eAc (e1 (fldE ("Web" : Str) ("own_size" : Str)) (eVar 1)) (eAc (e1 (fldE ("Web" : Str) ("own_edges" : Str)) (eVar 1)) (eAc (e1 (fldE ("Web" : Str) ("own_modulus" : Str)) (eVar 1)) eA0))))))))
noncomputable def F_Web___eq___v : List D → Ev D := runF 3 g_Web___eq___v
noncomputable def g_reduced_gains_v : Lo → Ev Fl := sSeq (sExp (eFz (eCall (callD 2 F_check_gains) (eAc (eVar 0) (eAc (eVar 1) eA0))))) (sSeq (sExp (eFz (eCall (callD 2 F_check_divisor) (eAc (eVar 0) (eAc (eVar 2) eA0))))) (sRet (eCl (nLc (iSeq (eVar 1)) (gNm 3) tYesD (e2 modE (eVar 3) (eVar 2)) [3]))))
noncomputable def F_reduced_gains_v : List D → Ev D := runF 4 g_reduced_gains_v
noncomputable def g__law_refused : Lo → Ev Fl := sSeq (Xc.sTryC [(("InvalidEdge" : Str), none), (("InvalidGains" : Str), none), (("InvalidModulus" : Str), some 0), (("InvalidSize" : Str), none)] [(some 4, fun c d => sRet (eAndV (e2 (eqE false) (eCall (op1 reprF) (eAc (fun _ => Ev.ret d) eA0)) (eCall (op1 reprF) (eAc (eVar 3) eA0))) (fun _ => Ev.ret (.bl ((Xc.isIn [("InvalidEdge" : Str), ("InvalidGains" : Str), ("InvalidModulus" : Str), ("InvalidSize" : Str)]) c)))))] (sIf (eB (e2 (eqE false) (eVar 0) (eC (.int 0)))) (sExp (eFz (eCall (callD 2 F_reduced) (eAc (eVar 1) (eAc (eVar 3) eA0))))) (sExp (eFz (eCall (callD 3 F_reduced_gains_v) (eAc (eVar 1) (eAc (eVar 2) (eAc (eVar 3) eA0)))))))) (sRet (eC (.bl false)))
noncomputable def F__law_refused : List D → Ev D := runF 5 g__law_refused
noncomputable def g_law : Lo → Ev Fl := sSeq (sFor (iR1 (eAc (eCall (op2 maxE) (eAc (eC (.int 1)) (eAc (eCall (op2 minE) (eAc (eC (.int 8)) (eAc (eCall (op1 lenE) (eAc (eVar 0) eA0)) eA0))) eA0))) eA0)) (gNm 1) (sSeq (sAsg (eCall (callD 2 F__law_pool_v) (eAc (eVar 0) (eAc (eVar 1) eA0))) (gNm 2)) (sSeq (sAsg (eF (n2 addN (eC (.int 1)) (eFz (eCall (callD 2 F__law_take) (eAc (eVar 2) (eAc (eC (.int 8)) eA0)))))) (gNm 3)) (sSeq (sAsg (eFz (eCall (callD 1 F__law_base) (eAc (eVar 2) eA0))) (gNm 4)) (sSeq (sAsg (eFz (eCall (callD 3 F__law_pairs) (eAc (eVar 2) (eAc (eVar 3) (eAc (eC (.int 12)) eA0))))) (gNm 5)) (sSeq (sAsg (fun S => (nLc (iSeq (eVar 5)) (gNm 14) tYesD (eFz (eCall (callD 2 F__law_residue) (eAc (eVar 2) (eAc (eVar 4) eA0)))) [14] S).bnd frz) (gNm 6)) (sSeq (sAsg (eFz (eMake ("Web" : Str) 4 2 1 (fun d l z => d :: (l ++ z)) F_Web___init__ (eAc (eVar 3) (eAc (eVar 5) eA0)) (eAc (eVar 4) eA0))) (gNm 7)) (sSeq (sAsg (eCall (op1 reprO) (eAc (eF (nNew .lst (eAc (eVar 7) (eAc (eVar 6) eA0)))) eA0)) (gNm 8)) (sSeq (sAsg (eFz (eCall (callD 1 F__law_divisors) (eAc (eVar 4) eA0))) (gNm 9)) (sSeq (sFor (iSeq (eVar 9)) (gNm 10) (sSeq (sAsg (eFz (eCall (callD 2 F_reduced) (eAc (eVar 7) (eAc (eVar 10) eA0)))) (gNm 11)) (sSeq (sIf (eOr (eNot (eTru (eIsO ("Web" : Str) (eVar 11)))) (eB (eFz (e2 (neO ("Web" : Str) F_Web___eq___v) (eVar 11) (eFz (eMake ("Web" : Str) 4 2 1 (fun d l z => d :: (l ++ z)) F_Web___init__ (eAc (eVar 3) (eAc (eVar 5) eA0)) (eAc (eVar 10) eA0))))))) (sRet (eC (.bl false))) sNext) (sSeq (sAsg (eCall (callD 3 F_reduced_gains_v) (eAc (eVar 7) (eAc (eVar 6) (eAc (eVar 10) eA0)))) (gNm 12)) (sSeq (sIf (eB (e2 (eqE true) (eCall (op1 reprE) (eAc (eVar 12) eA0)) (eCall (op1 reprE) (eAc (eF (nLc (iSeq (eVar 6)) (gNm 15) tYesD (e2 modE (eVar 15) (eVar 10)) [15])) eA0)))) (sRet (eC (.bl false))) sNext) (sExp (eBm (cellM opAppend) (eVar 12) (eAc (eC .non) eA0)))))))) (sSeq (sAsg (eF (n2 addN (eF (nLc (iR2 (eAc (e1 negE (eC (.int 2))) (eAc (eC (.int 64)) eA0))) (gNm 10) (eB (e2 (inE true) (eVar 10) (eVar 9))) (eVar 10) [10])) (eF (nNew .lst (eAc (eC .non) (eAc (eC (.bl true)) (eAc (eC (.bl false)) (eAc (eC (.str ("2" : Str))) (eAc (eF (nNew .lst (eAc (eC (.int 2)) eA0))) (eAc (eF (nNew .tup (eAc (eC (.int 3)) eA0))) (eAc (e2 powE (eC (.int 10)) (eC (.int 30))) eA0))))))))))) (gNm 13)) (sSeq (sFor (iSeq (eVar 13)) (gNm 10) (sIf (eOr (eNot (eTru (eFz (eCall (callD 4 F__law_refused) (eAc (eC (.int 0)) (eAc (eVar 7) (eAc (eVar 6) (eAc (eVar 10) eA0)))))))) (eNot (eTru (eFz (eCall (callD 4 F__law_refused) (eAc (eC (.int 1)) (eAc (eVar 7) (eAc (eVar 6) (eAc (eVar 10) eA0))))))))) (sRet (eC (.bl false))) sNext)) (sIf (eB (e2 (eqE true) (eCall (op1 reprO) (eAc (eF (nNew .lst (eAc (eVar 7) (eAc (eVar 6) eA0)))) eA0)) (eVar 8))) (sRet (eC (.bl false))) sNext))))))))))))) (sRet (eC (.bl true)))
noncomputable def F_law : List D → Ev D := runF 16 g_law
end Lw

set_option Elab.async false
set_option linter.all false
set_option maxRecDepth 100000
set_option maxHeartbeats 4000000
namespace Lw
open PySem L2 DL
theorem sc__law_pool : FnScope ["_law_script", "_law_k", "_law_cell", "_law_whole", "_law_seed"] ["_law_script", "_law_k"] (defScope s__law_pool) := ⟨rfl, rfl, rfl, by decide +kernel, rfl, by decide +kernel, by decide +kernel⟩
theorem ok__law_pool {P : Program} {w : World} {K : PySem.W.Frag} {h : Heap} {mg : Str → Option Value} {base : Heap} (KX : K.In h) (G : h.Ns mainGlobals mg) (c : He.SaysD fa fn K) (cx : (exF.all fun f => f K) = true) : ∃ fd, Binds K fd ["_law_script", "_law_k"] [] ∧ FnOk P w K mg base (L2.CX P w) 1 (He.fAd K d__law_pool.at_) fd ["_law_script", "_law_k"] (spD ⟨K, mg⟩ 2 F__law_pool_v) := by
  obtain ⟨fd, F⟩ := c.def_ 25 (d := d__law_pool) rfl
  have z_len : mg "len" = none := He.free_ok KX G (c.fact 0 rfl)
  have z_abs : mg "abs" = none := He.free_ok KX G (c.fact 1 rfl)
  have z_int : mg "int" = none := He.free_ok KX G (c.fact 2 rfl)
  refine ⟨fd, FunD.bindsN F (fun _ _ _ _ _ _ us hl => match us, hl with | [_, _], _ => rfl), fn_d (k := 0) F sc__law_pool (fun cdv A outer s H E hr tk => ?_)⟩
  have hx : Passes (L2.CX P w) (cxOf (L2.CX P w) P w K mg base ["_law_script", "_law_k", "_law_cell", "_law_whole", "_law_seed"] d__law_pool.qual d__law_pool.scope (He.fAd K d__law_pool.at_) cdv A outer s H E) E := passes_call tk (fun _ _ _ _ z => z)
  have hu64 := hr.units
  have hu := hu_of hr
  exact dss_cons (st 2 sc__law_pool.nd de_int) (dss_cons (ds_if (dt_lt (dv 1) (de_len rfl z_len (da_cons (dv 0) da_nil))) (dss_one (st 2 sc__law_pool.nd (de_ix (dv 0) (dv 1) (fun _ _ => rfl)))) dss_nil) (dss_cons (st 3 sc__law_pool.nd (de_abs rfl z_abs (da_cons (dv 2) da_nil))) (dss_cons (st 4 sc__law_pool.nd (de_mod (de_mul (DN.frz (dn_add (DN.frz (dn_add (de_mod (dv 3) de_int) (de_mul (de_mul de_int (dv 1)) (dv 1)))) de_int)) de_int) de_int)) (dss_one (ds_ret (DN.cel (dn_lst (da_cons (de_mul (dv 3) (de_intOf rfl z_int (da_cons (de_ge (dv 3) (de_pow de_int de_int)) da_nil))) (da_cons (dv 4) da_nil)))))))))
theorem sc__law_take : FnScope ["_law_pool_here", "_law_many", "_law_found"] ["_law_pool_here", "_law_many"] (defScope s__law_take) := ⟨rfl, rfl, rfl, by decide +kernel, rfl, by decide +kernel, by decide +kernel⟩
theorem ok__law_take {P : Program} {w : World} {K : PySem.W.Frag} {h : Heap} {mg : Str → Option Value} {base : Heap} (KX : K.In h) (G : h.Ns mainGlobals mg) (c : He.SaysD fa fn K) (cx : (exF.all fun f => f K) = true) : ∃ fd, Binds K fd ["_law_pool_here", "_law_many"] [] ∧ FnOk P w K mg base (L2.CX P w) 1 (He.fAd K d__law_take.at_) fd ["_law_pool_here", "_law_many"] (spD ⟨K, mg⟩ 2 F__law_take) := by
  obtain ⟨fd, F⟩ := c.def_ 26 (d := d__law_take) rfl
  refine ⟨fd, FunD.bindsN F (fun _ _ _ _ _ _ us hl => match us, hl with | [_, _], _ => rfl), fn_d (k := 0) F sc__law_take (fun cdv A outer s H E hr tk => ?_)⟩
  have hx : Passes (L2.CX P w) (cxOf (L2.CX P w) P w K mg base ["_law_pool_here", "_law_many", "_law_found"] d__law_take.qual d__law_take.scope (He.fAd K d__law_take.at_) cdv A outer s H E) E := passes_call tk (fun _ _ _ _ z => z)
  have hu64 := hr.units
  have hu := hu_of hr
  exact dss_cons (ds_if (dt_gt (de_ix (dv 0) de_int (fun _ _ => rfl)) de_int) (dss_cons (st 2 sc__law_take.nd (de_mod (de_ix (dv 0) de_int (fun _ _ => rfl)) (dv 1))) (dss_cons (ds_asg (de_div (de_ix (dv 0) de_int (fun _ _ => rfl)) (dv 1)) (dg_sub (dv 0) de_int)) (dss_one (ds_ret (dv 2))))) dss_nil) (dss_cons (ds_asg (de_mod (DN.frz (dn_add (de_mul (de_ix (dv 0) de_int (fun _ _ => rfl)) de_int) de_int)) de_int) (dg_sub (dv 0) de_int)) (dss_one (ds_ret (de_mod (de_div (de_mod (de_mul (de_ix (dv 0) de_int (fun _ _ => rfl)) (de_ix (dv 0) de_int (fun _ _ => rfl))) de_int) de_int) (dv 1)))))
theorem sc__law_base : FnScope ["_law_pool_here"] ["_law_pool_here"] (defScope s__law_base) := ⟨rfl, rfl, rfl, by decide +kernel, rfl, by decide +kernel, by decide +kernel⟩
theorem ok__law_base {P : Program} {w : World} {K : PySem.W.Frag} {h : Heap} {mg : Str → Option Value} {base : Heap} (KX : K.In h) (G : h.Ns mainGlobals mg) (c : He.SaysD fa fn K) (cx : (exF.all fun f => f K) = true) : ∃ fd, Binds K fd ["_law_pool_here"] [] ∧ FnOk P w K mg base (L2.CX P w) 2 (He.fAd K d__law_base.at_) fd ["_law_pool_here"] (spD ⟨K, mg⟩ 1 F__law_base) := by
  obtain ⟨fd, F⟩ := c.def_ 28 (d := d__law_base) rfl
  obtain ⟨fd__law_take, b__law_take, FO__law_take⟩ := ok__law_take (P := P) (w := w) (base := base) KX G c cx
  have g_f__law_take : mg "_law_take" = some (.ref (He.ga K "_law_take")) := He.glo_ok KX G (c.fact 3 rfl)
  have kp__law_take : PySem.W.keepIn K (.ref (He.ga K "_law_take")) = true := by
    obtain ⟨_, FF⟩ := c.def_ 26 (d := d__law_take) rfl
    exact FF.kp
  refine ⟨fd, FunD.bindsN F (fun _ _ _ _ _ _ us hl => match us, hl with | [_], _ => rfl), fn_d (k := 1) F sc__law_base (fun cdv A outer s H E hr tk => ?_)⟩
  have hx : Passes (L2.CX P w) (cxOf (L2.CX P w) P w K mg base ["_law_pool_here"] d__law_base.qual d__law_base.scope (He.fAd K d__law_base.at_) cdv A outer s H E) E := passes_call tk (fun _ _ _ _ z => z)
  have hu64 := hr.units
  have hu := hu_of hr
  exact dss_one (ds_ret (de_ix (DN.frz (dn_lst (da_cons de_int (da_cons de_int (da_cons de_int (da_cons de_int (da_cons de_int (da_cons de_int (da_cons de_int (da_cons (DN.frz (dn_add de_int (DE.fz (de_call FO__law_take (hr.mono (by decide)) rfl g_f__law_take kp__law_take b__law_take tk (da_cons (dv 0) (da_cons de_int da_nil)))))) da_nil)))))))))) (DE.fz (de_call FO__law_take (hr.mono (by decide)) rfl g_f__law_take kp__law_take b__law_take tk (da_cons (dv 0) (da_cons de_int da_nil)))) (fun _ _ => rfl)))
theorem sc__law_pairs : FnScope ["_law_pool_here", "_law_many", "_law_most", "_law_found", "_law_turn", "_law_tail", "_law_head"] ["_law_pool_here", "_law_many", "_law_most"] (defScope s__law_pairs) := ⟨rfl, rfl, rfl, by decide +kernel, rfl, by decide +kernel, by decide +kernel⟩
theorem ok__law_pairs {P : Program} {w : World} {K : PySem.W.Frag} {h : Heap} {mg : Str → Option Value} {base : Heap} (KX : K.In h) (G : h.Ns mainGlobals mg) (c : He.SaysD fa fn K) (cx : (exF.all fun f => f K) = true) : ∃ fd, Binds K fd ["_law_pool_here", "_law_many", "_law_most"] [] ∧ FnOk P w K mg base (L2.CX P w) 2 (He.fAd K d__law_pairs.at_) fd ["_law_pool_here", "_law_many", "_law_most"] (spD ⟨K, mg⟩ 3 F__law_pairs) := by
  obtain ⟨fd, F⟩ := c.def_ 29 (d := d__law_pairs) rfl
  obtain ⟨fd__law_take, b__law_take, FO__law_take⟩ := ok__law_take (P := P) (w := w) (base := base) KX G c cx
  have g_f__law_take : mg "_law_take" = some (.ref (He.ga K "_law_take")) := He.glo_ok KX G (c.fact 3 rfl)
  have kp__law_take : PySem.W.keepIn K (.ref (He.ga K "_law_take")) = true := by
    obtain ⟨_, FF⟩ := c.def_ 26 (d := d__law_take) rfl
    exact FF.kp
  have z_range : mg "range" = none := He.free_ok KX G (c.fact 4 rfl)
  refine ⟨fd, FunD.bindsN F (fun _ _ _ _ _ _ us hl => match us, hl with | [_, _, _], _ => rfl), fn_d (k := 1) F sc__law_pairs (fun cdv A outer s H E hr tk => ?_)⟩
  have hx : Passes (L2.CX P w) (cxOf (L2.CX P w) P w K mg base ["_law_pool_here", "_law_many", "_law_most", "_law_found", "_law_turn", "_law_tail", "_law_head"] d__law_pairs.qual d__law_pairs.scope (He.fAd K d__law_pairs.at_) cdv A outer s H E) E := passes_call tk (fun _ _ _ _ z => z)
  have hu64 := hr.units
  have hu := hu_of hr
  exact dss_cons (st 3 sc__law_pairs.nd (DN.cel (dn_lst da_nil))) (dss_cons (ds_for hp_of rfl (di_range1 rfl z_range (da_cons (DE.fz (de_call FO__law_take (hr.mono (by decide)) rfl g_f__law_take kp__law_take b__law_take tk (da_cons (dv 0) (da_cons (DN.frz (dn_add (dv 2) de_int)) da_nil)))) da_nil)) (gn 4 sc__law_pairs.nd) (dss_cons (st 5 sc__law_pairs.nd (DE.fz (de_call FO__law_take (hr.mono (by decide)) rfl g_f__law_take kp__law_take b__law_take tk (da_cons (dv 0) (da_cons (dv 1) da_nil))))) (dss_cons (st 6 sc__law_pairs.nd (DE.fz (de_call FO__law_take (hr.mono (by decide)) rfl g_f__law_take kp__law_take b__law_take tk (da_cons (dv 0) (da_cons (dv 1) da_nil))))) (dss_one (ds_expr (de_append (dv 3) (da_cons (DN.frz (dn_tup (da_cons (dv 5) (da_cons (dv 6) da_nil)))) da_nil))))))) (dss_one (ds_ret (dv 3))))
theorem sc__law_residue : FnScope ["_law_pool_here", "_law_base_here", "_law_far"] ["_law_pool_here", "_law_base_here"] (defScope s__law_residue) := ⟨rfl, rfl, rfl, by decide +kernel, rfl, by decide +kernel, by decide +kernel⟩
theorem ok__law_residue {P : Program} {w : World} {K : PySem.W.Frag} {h : Heap} {mg : Str → Option Value} {base : Heap} (KX : K.In h) (G : h.Ns mainGlobals mg) (c : He.SaysD fa fn K) (cx : (exF.all fun f => f K) = true) : ∃ fd, Binds K fd ["_law_pool_here", "_law_base_here"] [] ∧ FnOk P w K mg base (L2.CX P w) 2 (He.fAd K d__law_residue.at_) fd ["_law_pool_here", "_law_base_here"] (spD ⟨K, mg⟩ 2 F__law_residue) := by
  obtain ⟨fd, F⟩ := c.def_ 27 (d := d__law_residue) rfl
  obtain ⟨fd__law_take, b__law_take, FO__law_take⟩ := ok__law_take (P := P) (w := w) (base := base) KX G c cx
  have g_f__law_take : mg "_law_take" = some (.ref (He.ga K "_law_take")) := He.glo_ok KX G (c.fact 3 rfl)
  have kp__law_take : PySem.W.keepIn K (.ref (He.ga K "_law_take")) = true := by
    obtain ⟨_, FF⟩ := c.def_ 26 (d := d__law_take) rfl
    exact FF.kp
  refine ⟨fd, FunD.bindsN F (fun _ _ _ _ _ _ us hl => match us, hl with | [_, _], _ => rfl), fn_d (k := 1) F sc__law_residue (fun cdv A outer s H E hr tk => ?_)⟩
  have hx : Passes (L2.CX P w) (cxOf (L2.CX P w) P w K mg base ["_law_pool_here", "_law_base_here", "_law_far"] d__law_residue.qual d__law_residue.scope (He.fAd K d__law_residue.at_) cdv A outer s H E) E := passes_call tk (fun _ _ _ _ z => z)
  have hu64 := hr.units
  have hu := hu_of hr
  exact dss_cons (ds_if (dt_gt (dv 1) de_int) (dss_one (ds_ret (DE.fz (de_call FO__law_take (hr.mono (by decide)) rfl g_f__law_take kp__law_take b__law_take tk (da_cons (dv 0) (da_cons (dv 1) da_nil)))))) dss_nil) (dss_cons (st 2 sc__law_residue.nd (de_sub (de_mul (DE.fz (de_call FO__law_take (hr.mono (by decide)) rfl g_f__law_take kp__law_take b__law_take tk (da_cons (dv 0) (da_cons (de_pow de_int de_int) da_nil)))) (de_pow de_int de_int)) (de_mul de_int (de_pow de_int de_int)))) (dss_one (ds_ret (de_ix (DN.frz (dn_lst (da_cons (de_sub (DE.fz (de_call FO__law_take (hr.mono (by decide)) rfl g_f__law_take kp__law_take b__law_take tk (da_cons (dv 0) (da_cons de_int da_nil)))) de_int) (da_cons (de_sub (DE.fz (de_call FO__law_take (hr.mono (by decide)) rfl g_f__law_take kp__law_take b__law_take tk (da_cons (dv 0) (da_cons de_int da_nil)))) de_int) (da_cons de_int (da_cons (dv 2) da_nil)))))) (DE.fz (de_call FO__law_take (hr.mono (by decide)) rfl g_f__law_take kp__law_take b__law_take tk (da_cons (dv 0) (da_cons de_int da_nil)))) (fun _ _ => rfl)))))
theorem sc_is_integer : FnScope ["thing"] ["thing"] (defScope s_is_integer) := ⟨rfl, rfl, rfl, by decide +kernel, rfl, by decide +kernel, by decide +kernel⟩
theorem ok_is_integer {P : Program} {w : World} {K : PySem.W.Frag} {h : Heap} {mg : Str → Option Value} {base : Heap} (KX : K.In h) (G : h.Ns mainGlobals mg) (c : He.SaysD fa fn K) (cx : (exF.all fun f => f K) = true) : ∃ fd, Binds K fd ["thing"] [] ∧ FnOk P w K mg base (L2.CX P w) 1 (He.fAd K d_is_integer.at_) fd ["thing"] (spD ⟨K, mg⟩ 1 F_is_integer) := by
  obtain ⟨fd, F⟩ := c.def_ 6 (d := d_is_integer) rfl
  have z_isinstance : mg "isinstance" = none := He.free_ok KX G (c.fact 5 rfl)
  have z_int : mg "int" = none := He.free_ok KX G (c.fact 2 rfl)
  have z_bool : mg "bool" = none := He.free_ok KX G (c.fact 6 rfl)
  refine ⟨fd, FunD.bindsN F (fun _ _ _ _ _ _ us hl => match us, hl with | [_], _ => rfl), fn_d (k := 0) F sc_is_integer (fun cdv A outer s H E hr tk => ?_)⟩
  have hx : Passes (L2.CX P w) (cxOf (L2.CX P w) P w K mg base ["thing"] d_is_integer.qual d_is_integer.scope (He.fAd K d_is_integer.at_) cdv A outer s H E) E := passes_call tk (fun _ _ _ _ z => z)
  have hu64 := hr.units
  have hu := hu_of hr
  exact dss_one (ds_ret (de_and (de_isi rfl z_isinstance (da_cons (dv 0) (da_cons (de_ty rfl z_int (by decide +kernel)) da_nil))) (de_one (de_not (de_isi rfl z_isinstance (da_cons (dv 0) (da_cons (de_ty rfl z_bool (by decide +kernel)) da_nil)))))))
theorem sc_is_within : FnScope ["thing", "least", "most"] ["thing", "least", "most"] (defScope s_is_within) := ⟨rfl, rfl, rfl, by decide +kernel, rfl, by decide +kernel, by decide +kernel⟩
theorem ok_is_within {P : Program} {w : World} {K : PySem.W.Frag} {h : Heap} {mg : Str → Option Value} {base : Heap} (KX : K.In h) (G : h.Ns mainGlobals mg) (c : He.SaysD fa fn K) (cx : (exF.all fun f => f K) = true) : ∃ fd, Binds K fd ["thing", "least", "most"] [] ∧ FnOk P w K mg base (L2.CX P w) 2 (He.fAd K d_is_within.at_) fd ["thing", "least", "most"] (spD ⟨K, mg⟩ 3 F_is_within) := by
  obtain ⟨fd, F⟩ := c.def_ 7 (d := d_is_within) rfl
  obtain ⟨fd_is_integer, b_is_integer, FO_is_integer⟩ := ok_is_integer (P := P) (w := w) (base := base) KX G c cx
  have g_f_is_integer : mg "is_integer" = some (.ref (He.ga K "is_integer")) := He.glo_ok KX G (c.fact 7 rfl)
  have kp_is_integer : PySem.W.keepIn K (.ref (He.ga K "is_integer")) = true := by
    obtain ⟨_, FF⟩ := c.def_ 6 (d := d_is_integer) rfl
    exact FF.kp
  refine ⟨fd, FunD.bindsN F (fun _ _ _ _ _ _ us hl => match us, hl with | [_, _, _], _ => rfl), fn_d (k := 1) F sc_is_within (fun cdv A outer s H E hr tk => ?_)⟩
  have hx : Passes (L2.CX P w) (cxOf (L2.CX P w) P w K mg base ["thing", "least", "most"] d_is_within.qual d_is_within.scope (He.fAd K d_is_within.at_) cdv A outer s H E) E := passes_call tk (fun _ _ _ _ z => z)
  have hu64 := hr.units
  have hu := hu_of hr
  exact dss_one (ds_ret (de_and (DE.fz (de_call FO_is_integer (hr.mono (by decide)) rfl g_f_is_integer kp_is_integer b_is_integer tk (da_cons (dv 0) da_nil))) (de_one (de_lele (dv 1) (dv 0) (dv 2)))))
theorem sc_InvalidSize___init__ : FnScope ["self", "value"] ["self", "value"] (defScope s_InvalidSize___init__) := ⟨rfl, rfl, rfl, by decide +kernel, rfl, by decide +kernel, by decide +kernel⟩
theorem ok_InvalidSize___init__ {P : Program} {w : World} {K : PySem.W.Frag} {h : Heap} {mg : Str → Option Value} {base : Heap} (KX : K.In h) (G : h.Ns mainGlobals mg) (c : He.SaysD fa fn K) (cx : (exF.all fun f => f K) = true) : ∃ fd, Binds K fd ["self", "value"] [] ∧ FnOk P w K mg base (L2.CX P w) 1 (He.fAd K d_InvalidSize___init__.at_) fd ["self", "value"] (spXI K) := by
  obtain ⟨fd, F⟩ := c.def_ 1 (d := d_InvalidSize___init__) rfl
  have gb : mg ("WebError" : Str) = some (.ref (He.ga K ("WebError" : Str))) := He.glo_ok KX G (c.fact 8 rfl)
  have tb : XcB K (He.ga K ("WebError" : Str)) := xbB_ok (List.all_eq_true.mp cx (exF[0]) (List.getElem_mem (by decide)))
  refine ⟨fd, FunD.bindsN F (fun _ _ _ _ _ _ us hl => match us, hl with | [_, _], _ => rfl), F.ok sc_InvalidSize___init__ (fun vs H Q E h => xi_len h) (fun cdv A outer s H vs Q E hr h => ?_)⟩
  exact ⟨_, pss_cons (ps_expr (pe_xinit tb rfl gb (pa_cons (pe_var (i := 0) rfl (.inl rfl)) (pa_cons (pe_var (i := 1) rfl (.inl rfl)) pa_nil)))) (pss_one (ps_ost (pe_var (i := 0) rfl (.inl rfl)) (pe_var (i := 1) rfl (.inl rfl)))), xi_end h⟩
theorem sc_InvalidEdge___init__ : FnScope ["self", "value"] ["self", "value"] (defScope s_InvalidEdge___init__) := ⟨rfl, rfl, rfl, by decide +kernel, rfl, by decide +kernel, by decide +kernel⟩
theorem ok_InvalidEdge___init__ {P : Program} {w : World} {K : PySem.W.Frag} {h : Heap} {mg : Str → Option Value} {base : Heap} (KX : K.In h) (G : h.Ns mainGlobals mg) (c : He.SaysD fa fn K) (cx : (exF.all fun f => f K) = true) : ∃ fd, Binds K fd ["self", "value"] [] ∧ FnOk P w K mg base (L2.CX P w) 1 (He.fAd K d_InvalidEdge___init__.at_) fd ["self", "value"] (spXI K) := by
  obtain ⟨fd, F⟩ := c.def_ 2 (d := d_InvalidEdge___init__) rfl
  have gb : mg ("WebError" : Str) = some (.ref (He.ga K ("WebError" : Str))) := He.glo_ok KX G (c.fact 8 rfl)
  have tb : XcB K (He.ga K ("WebError" : Str)) := xbB_ok (List.all_eq_true.mp cx (exF[0]) (List.getElem_mem (by decide)))
  refine ⟨fd, FunD.bindsN F (fun _ _ _ _ _ _ us hl => match us, hl with | [_, _], _ => rfl), F.ok sc_InvalidEdge___init__ (fun vs H Q E h => xi_len h) (fun cdv A outer s H vs Q E hr h => ?_)⟩
  exact ⟨_, pss_cons (ps_expr (pe_xinit tb rfl gb (pa_cons (pe_var (i := 0) rfl (.inl rfl)) (pa_cons (pe_var (i := 1) rfl (.inl rfl)) pa_nil)))) (pss_one (ps_ost (pe_var (i := 0) rfl (.inl rfl)) (pe_var (i := 1) rfl (.inl rfl)))), xi_end h⟩
theorem sc_is_edge : FnScope ["thing", "size"] ["thing", "size"] (defScope s_is_edge) := ⟨rfl, rfl, rfl, by decide +kernel, rfl, by decide +kernel, by decide +kernel⟩
theorem ok_is_edge {P : Program} {w : World} {K : PySem.W.Frag} {h : Heap} {mg : Str → Option Value} {base : Heap} (KX : K.In h) (G : h.Ns mainGlobals mg) (c : He.SaysD fa fn K) (cx : (exF.all fun f => f K) = true) : ∃ fd, Binds K fd ["thing", "size"] [] ∧ FnOk P w K mg base (L2.CX P w) 3 (He.fAd K d_is_edge.at_) fd ["thing", "size"] (spD ⟨K, mg⟩ 2 F_is_edge) := by
  obtain ⟨fd, F⟩ := c.def_ 8 (d := d_is_edge) rfl
  have z_isinstance : mg "isinstance" = none := He.free_ok KX G (c.fact 5 rfl)
  have z_tuple : mg "tuple" = none := He.free_ok KX G (c.fact 9 rfl)
  have z_len : mg "len" = none := He.free_ok KX G (c.fact 0 rfl)
  obtain ⟨fd_is_within, b_is_within, FO_is_within⟩ := ok_is_within (P := P) (w := w) (base := base) KX G c cx
  have g_f_is_within : mg "is_within" = some (.ref (He.ga K "is_within")) := He.glo_ok KX G (c.fact 10 rfl)
  have kp_is_within : PySem.W.keepIn K (.ref (He.ga K "is_within")) = true := by
    obtain ⟨_, FF⟩ := c.def_ 7 (d := d_is_within) rfl
    exact FF.kp
  refine ⟨fd, FunD.bindsN F (fun _ _ _ _ _ _ us hl => match us, hl with | [_, _], _ => rfl), fn_d (k := 2) F sc_is_edge (fun cdv A outer s H E hr tk => ?_)⟩
  have hx : Passes (L2.CX P w) (cxOf (L2.CX P w) P w K mg base ["thing", "size"] d_is_edge.qual d_is_edge.scope (He.fAd K d_is_edge.at_) cdv A outer s H E) E := passes_call tk (fun _ _ _ _ z => z)
  have hu64 := hr.units
  have hu := hu_of hr
  exact dss_cons (ds_if (dt_w (dw_or (dt_not (dt_truth (de_isi rfl z_isinstance (da_cons (dv 0) (da_cons (de_ty rfl z_tuple (by decide +kernel)) da_nil))))) (dw_or1 (dt_ne hu64 (de_len rfl z_len (da_cons (dv 0) da_nil)) de_int)))) (dss_one (ds_ret de_bl)) dss_nil) (dss_one (ds_ret (de_and (DE.fz (de_call FO_is_within (hr.mono (by decide)) rfl g_f_is_within kp_is_within b_is_within tk (da_cons (de_ix (dv 0) de_int (fun _ _ => rfl)) (da_cons de_int (da_cons (de_sub (dv 1) de_int) da_nil))))) (de_one (DE.fz (de_call FO_is_within (hr.mono (by decide)) rfl g_f_is_within kp_is_within b_is_within tk (da_cons (de_ix (dv 0) de_int (fun _ _ => rfl)) (da_cons de_int (da_cons (de_sub (dv 1) de_int) da_nil)))))))))
theorem sc_check_edges : FnScope ["size", "edges", "edge"] ["size", "edges"] (defScope s_check_edges) := ⟨rfl, rfl, rfl, by decide +kernel, rfl, by decide +kernel, by decide +kernel⟩
theorem ok_check_edges {P : Program} {w : World} {K : PySem.W.Frag} {h : Heap} {mg : Str → Option Value} {base : Heap} (KX : K.In h) (G : h.Ns mainGlobals mg) (c : He.SaysD fa fn K) (cx : (exF.all fun f => f K) = true) : ∃ fd, Binds K fd ["size", "edges"] [] ∧ FnOk P w K mg base (L2.CX P w) 4 (He.fAd K d_check_edges.at_) fd ["size", "edges"] (spD ⟨K, mg⟩ 2 F_check_edges) := by
  obtain ⟨fd, F⟩ := c.def_ 10 (d := d_check_edges) rfl
  have z_isinstance : mg "isinstance" = none := He.free_ok KX G (c.fact 5 rfl)
  have z_list : mg "list" = none := He.free_ok KX G (c.fact 11 rfl)
  have z_tuple : mg "tuple" = none := He.free_ok KX G (c.fact 9 rfl)
  have gc_InvalidEdge : mg "InvalidEdge" = some (.ref (He.ga K "InvalidEdge")) := He.glo_ok KX G (c.fact 12 rfl)
  obtain ⟨fd_InvalidEdge___init__, b_InvalidEdge___init__, FO_InvalidEdge___init__⟩ := ok_InvalidEdge___init__ (P := P) (w := w) (base := base) KX G c cx
  have tx_InvalidEdge : XcC K (He.ga K "InvalidEdge") (He.ma K (He.ga K "InvalidEdge") "__init__") := xcB_ok (List.all_eq_true.mp cx (exF[1]) (List.getElem_mem (by decide)))
  obtain ⟨fd_is_edge, b_is_edge, FO_is_edge⟩ := ok_is_edge (P := P) (w := w) (base := base) KX G c cx
  have g_f_is_edge : mg "is_edge" = some (.ref (He.ga K "is_edge")) := He.glo_ok KX G (c.fact 13 rfl)
  have kp_is_edge : PySem.W.keepIn K (.ref (He.ga K "is_edge")) = true := by
    obtain ⟨_, FF⟩ := c.def_ 8 (d := d_is_edge) rfl
    exact FF.kp
  have z_len : mg "len" = none := He.free_ok KX G (c.fact 0 rfl)
  have i_MOST_EDGES : ∃ t, mg "MOST_EDGES" = some (.int 60 t) := He.int_ok KX G (c.fact 14 rfl)
  refine ⟨fd, FunD.bindsN F (fun _ _ _ _ _ _ us hl => match us, hl with | [_, _], _ => rfl), fn_d (k := 3) F sc_check_edges (fun cdv A outer s H E hr tk => ?_)⟩
  have hx : Passes (L2.CX P w) (cxOf (L2.CX P w) P w K mg base ["size", "edges", "edge"] d_check_edges.qual d_check_edges.scope (He.fAd K d_check_edges.at_) cdv A outer s H E) E := passes_call tk (fun _ _ _ _ z => z)
  have hu64 := hr.units
  have hu := hu_of hr
  exact dss_cons (ds_if (dt_not (dt_truth (de_isiT rfl z_isinstance (da_cons (dv 1) (da_cons (DN.frz (dn_tup (da_cons (de_ty rfl z_list (by decide +kernel)) (da_cons (de_ty rfl z_tuple (by decide +kernel)) da_nil)))) da_nil))))) (dss_one (ds_raise rfl tk tx_InvalidEdge FO_InvalidEdge___init__ (hr.mono (by decide)) b_InvalidEdge___init__ rfl gc_InvalidEdge (dv 1))) dss_nil) (dss_cons (ds_for hp_of rfl (di_sq (dv 1)) (gn 2 sc_check_edges.nd) (dss_one (ds_if (dt_not (dt_truth (DE.fz (de_call FO_is_edge (hr.mono (by decide)) rfl g_f_is_edge kp_is_edge b_is_edge tk (da_cons (dv 2) (da_cons (dv 0) da_nil)))))) (dss_one (ds_raise rfl tk tx_InvalidEdge FO_InvalidEdge___init__ (hr.mono (by decide)) b_InvalidEdge___init__ rfl gc_InvalidEdge (dv 2))) dss_nil))) (dss_one (ds_if (dt_gt (de_len rfl z_len (da_cons (dv 1) da_nil)) (de_globI rfl i_MOST_EDGES)) (dss_one ds_never) dss_nil)))
theorem sc_is_modulus : FnScope ["thing"] ["thing"] (defScope s_is_modulus) := ⟨rfl, rfl, rfl, by decide +kernel, rfl, by decide +kernel, by decide +kernel⟩
theorem ok_is_modulus {P : Program} {w : World} {K : PySem.W.Frag} {h : Heap} {mg : Str → Option Value} {base : Heap} (KX : K.In h) (G : h.Ns mainGlobals mg) (c : He.SaysD fa fn K) (cx : (exF.all fun f => f K) = true) : ∃ fd, Binds K fd ["thing"] [] ∧ FnOk P w K mg base (L2.CX P w) 3 (He.fAd K d_is_modulus.at_) fd ["thing"] (spD ⟨K, mg⟩ 1 F_is_modulus) := by
  obtain ⟨fd, F⟩ := c.def_ 9 (d := d_is_modulus) rfl
  obtain ⟨fd_is_within, b_is_within, FO_is_within⟩ := ok_is_within (P := P) (w := w) (base := base) KX G c cx
  have g_f_is_within : mg "is_within" = some (.ref (He.ga K "is_within")) := He.glo_ok KX G (c.fact 10 rfl)
  have kp_is_within : PySem.W.keepIn K (.ref (He.ga K "is_within")) = true := by
    obtain ⟨_, FF⟩ := c.def_ 7 (d := d_is_within) rfl
    exact FF.kp
  have i_MOST_MODULUS : ∃ t, mg "MOST_MODULUS" = some (.int 60 t) := He.int_ok KX G (c.fact 15 rfl)
  refine ⟨fd, FunD.bindsN F (fun _ _ _ _ _ _ us hl => match us, hl with | [_], _ => rfl), fn_d (k := 2) F sc_is_modulus (fun cdv A outer s H E hr tk => ?_)⟩
  have hx : Passes (L2.CX P w) (cxOf (L2.CX P w) P w K mg base ["thing"] d_is_modulus.qual d_is_modulus.scope (He.fAd K d_is_modulus.at_) cdv A outer s H E) E := passes_call tk (fun _ _ _ _ z => z)
  have hu64 := hr.units
  have hu := hu_of hr
  exact dss_one (ds_ret (de_and (DE.fz (de_call FO_is_within (hr.mono (by decide)) rfl g_f_is_within kp_is_within b_is_within tk (da_cons (dv 0) (da_cons de_int (da_cons (de_globI rfl i_MOST_MODULUS) da_nil))))) (de_one (de_ne hu64 (dv 0) de_int))))
theorem sc_InvalidModulus___init__ : FnScope ["self", "value"] ["self", "value"] (defScope s_InvalidModulus___init__) := ⟨rfl, rfl, rfl, by decide +kernel, rfl, by decide +kernel, by decide +kernel⟩
theorem ok_InvalidModulus___init__ {P : Program} {w : World} {K : PySem.W.Frag} {h : Heap} {mg : Str → Option Value} {base : Heap} (KX : K.In h) (G : h.Ns mainGlobals mg) (c : He.SaysD fa fn K) (cx : (exF.all fun f => f K) = true) : ∃ fd, Binds K fd ["self", "value"] [] ∧ FnOk P w K mg base (L2.CX P w) 1 (He.fAd K d_InvalidModulus___init__.at_) fd ["self", "value"] (spXI K) := by
  obtain ⟨fd, F⟩ := c.def_ 0 (d := d_InvalidModulus___init__) rfl
  have gb : mg ("WebError" : Str) = some (.ref (He.ga K ("WebError" : Str))) := He.glo_ok KX G (c.fact 8 rfl)
  have tb : XcB K (He.ga K ("WebError" : Str)) := xbB_ok (List.all_eq_true.mp cx (exF[0]) (List.getElem_mem (by decide)))
  refine ⟨fd, FunD.bindsN F (fun _ _ _ _ _ _ us hl => match us, hl with | [_, _], _ => rfl), F.ok sc_InvalidModulus___init__ (fun vs H Q E h => xi_len h) (fun cdv A outer s H vs Q E hr h => ?_)⟩
  exact ⟨_, pss_cons (ps_expr (pe_xinit tb rfl gb (pa_cons (pe_var (i := 0) rfl (.inl rfl)) (pa_cons (pe_var (i := 1) rfl (.inl rfl)) pa_nil)))) (pss_one (ps_ost (pe_var (i := 0) rfl (.inl rfl)) (pe_var (i := 1) rfl (.inl rfl)))), xi_end h⟩
theorem sc_forest_of : FnScope ["size", "pairs", "groups", "found", "index", "tail", "head", "group"] ["size", "pairs"] (defScope s_forest_of) := ⟨rfl, rfl, rfl, by decide +kernel, rfl, by decide +kernel, by decide +kernel⟩
theorem ok_forest_of {P : Program} {w : World} {K : PySem.W.Frag} {h : Heap} {mg : Str → Option Value} {base : Heap} (KX : K.In h) (G : h.Ns mainGlobals mg) (c : He.SaysD fa fn K) (cx : (exF.all fun f => f K) = true) : ∃ fd, Binds K fd ["size", "pairs"] [] ∧ FnOk P w K mg base (L2.CX P w) 1 (He.fAd K d_forest_of.at_) fd ["size", "pairs"] (spD ⟨K, mg⟩ 2 F_forest_of) := by
  obtain ⟨fd, F⟩ := c.def_ 4 (d := d_forest_of) rfl
  have z_list : mg "list" = none := He.free_ok KX G (c.fact 11 rfl)
  have z_range : mg "range" = none := He.free_ok KX G (c.fact 4 rfl)
  have z_enumerate : mg "enumerate" = none := He.free_ok KX G (c.fact 16 rfl)
  refine ⟨fd, FunD.bindsN F (fun _ _ _ _ _ _ us hl => match us, hl with | [_, _], _ => rfl), fn_d (k := 0) F sc_forest_of (fun cdv A outer s H E hr tk => ?_)⟩
  have hx : Passes (L2.CX P w) (cxOf (L2.CX P w) P w K mg base ["size", "pairs", "groups", "found", "index", "tail", "head", "group"] d_forest_of.qual d_forest_of.scope (He.fAd K d_forest_of.at_) cdv A outer s H E) E := passes_call tk (fun _ _ _ _ z => z)
  have hu64 := hr.units
  have hu := hu_of hr
  exact dss_cons (st 2 sc_forest_of.nd (DN.frz (dn_listRg rfl rfl z_list (dr_1 rfl z_range (dv 0))))) (dss_cons (st 3 sc_forest_of.nd (DN.cel (dn_lst da_nil))) (dss_cons (ds_for hp_of rfl (di_enum rfl z_enumerate (da_cons (dv 1) da_nil)) (dg_tup rfl (dgs_cons (gn 4 sc_forest_of.nd) (dgs_cons (dg_tup rfl (dgs_cons (gn 5 sc_forest_of.nd) (dgs_cons (gn 6 sc_forest_of.nd) dgs_nil))) dgs_nil))) (dss_one (ds_if (dt_ne hu64 (de_ix (dv 2) (dv 5) (fun _ _ => rfl)) (de_ix (dv 2) (dv 6) (fun _ _ => rfl))) (dss_cons (ds_expr (de_append (dv 3) (da_cons (dv 4) da_nil))) (dss_one (st 2 sc_forest_of.nd (DN.frz (dn_lc (own := [(("group" : Str), 7)]) rfl sc_forest_of.nd (di_sq (dv 2)) (blkOk_by rfl) (fun _ _ _ _ _ => gn 7 sc_forest_of.nd) (fun _ _ _ _ _ => dts_nil) (fun _ _ _ _ _ => de_ifExp (dt_eq hu64 (dv 7) (de_ix (dv 2) (dv 6) (fun _ _ => rfl))) (de_ix (dv 2) (dv 5) (fun _ _ => rfl)) (dv 7)) (rs_mem rfl)))))) dss_nil))) (dss_one (ds_ret (dv 3)))))
theorem sc_links_of : FnScope ["size", "pairs", "forest", "found", "index", "tail", "head", "node"] ["size", "pairs", "forest"] (defScope s_links_of) := ⟨rfl, rfl, rfl, by decide +kernel, rfl, by decide +kernel, by decide +kernel⟩
theorem ok_links_of {P : Program} {w : World} {K : PySem.W.Frag} {h : Heap} {mg : Str → Option Value} {base : Heap} (KX : K.In h) (G : h.Ns mainGlobals mg) (c : He.SaysD fa fn K) (cx : (exF.all fun f => f K) = true) : ∃ fd, Binds K fd ["size", "pairs", "forest"] [] ∧ FnOk P w K mg base (L2.CX P w) 1 (He.fAd K d_links_of.at_) fd ["size", "pairs", "forest"] (spD ⟨K, mg⟩ 3 F_links_of) := by
  obtain ⟨fd, F⟩ := c.def_ 5 (d := d_links_of) rfl
  have z_range : mg "range" = none := He.free_ok KX G (c.fact 4 rfl)
  refine ⟨fd, FunD.bindsN F (fun _ _ _ _ _ _ us hl => match us, hl with | [_, _, _], _ => rfl), fn_d (k := 0) F sc_links_of (fun cdv A outer s H E hr tk => ?_)⟩
  have hx : Passes (L2.CX P w) (cxOf (L2.CX P w) P w K mg base ["size", "pairs", "forest", "found", "index", "tail", "head", "node"] d_links_of.qual d_links_of.scope (He.fAd K d_links_of.at_) cdv A outer s H E) E := passes_call tk (fun _ _ _ _ z => z)
  have hu64 := hr.units
  have hu := hu_of hr
  exact dss_cons (ds_setLc (own := [(("node" : Str), 7)]) kN_frz rfl sc_links_of.nd (show _ from rfl) rfl (sw_true rfl rfl rfl (by decide +kernel)) (di_range1 rfl z_range (da_cons (dv 0) da_nil)) (blkOk_by rfl) (fun _ _ _ _ _ => gn 7 sc_links_of.nd) (fun _ _ _ _ _ => dts_nil) (fun _ _ _ _ _ => DN.cel (dn_lst da_nil)) (rs_mem rfl)) (dss_cons (ds_for hp_of rfl (di_sq (dv 2)) (gn 4 sc_links_of.nd) (dss_cons (ds_asg (de_ix (dv 1) (dv 4) (fun _ _ => rfl)) (dg_tup rfl (dgs_cons (gn 5 sc_links_of.nd) (dgs_cons (gn 6 sc_links_of.nd) dgs_nil)))) (dss_cons (ds_expr (de_append (de_ix (dv 3) (dv 5) (fun _ _ => rfl)) (da_cons (DN.frz (dn_tup (da_cons (dv 4) (da_cons de_int (da_cons (dv 6) da_nil))))) da_nil))) (dss_one (ds_expr (de_append (de_ix (dv 3) (dv 6) (fun _ _ => rfl)) (da_cons (DN.frz (dn_tup (da_cons (dv 4) (da_cons (de_neg de_int) (da_cons (dv 5) da_nil))))) da_nil))))))) (dss_one (ds_ret (dv 3))))
theorem sc_Web___init__ : FnScope ["self", "size", "edges", "modulus"] ["self", "size", "edges", "modulus"] (defScope s_Web___init__) := ⟨rfl, rfl, rfl, by decide +kernel, rfl, by decide +kernel, by decide +kernel⟩
theorem ok_Web___init__ {P : Program} {w : World} {K : PySem.W.Frag} {h : Heap} {mg : Str → Option Value} {base : Heap} (KX : K.In h) (G : h.Ns mainGlobals mg) (c : He.SaysD fa fn K) (cx : (exF.all fun f => f K) = true) : ∃ fd, FunD K d_Web___init__.name d_Web___init__.qual d_Web___init__.params d_Web___init__.body d_Web___init__.scope (d_Web___init__.dvs K) (d_Web___init__.kws K) (He.fAd K d_Web___init__.at_) fd ∧ FnOk P w K mg base (L2.CX P w) 5 (He.fAd K d_Web___init__.at_) fd ["self", "size", "edges", "modulus"] (spD ⟨K, mg⟩ 4 F_Web___init__) := by
  obtain ⟨fd, F⟩ := c.def_ 11 (d := d_Web___init__) rfl
  obtain ⟨fd_is_within, b_is_within, FO_is_within⟩ := ok_is_within (P := P) (w := w) (base := base) KX G c cx
  have g_f_is_within : mg "is_within" = some (.ref (He.ga K "is_within")) := He.glo_ok KX G (c.fact 10 rfl)
  have kp_is_within : PySem.W.keepIn K (.ref (He.ga K "is_within")) = true := by
    obtain ⟨_, FF⟩ := c.def_ 7 (d := d_is_within) rfl
    exact FF.kp
  have i_MOST_NODES : ∃ t, mg "MOST_NODES" = some (.int 30 t) := He.int_ok KX G (c.fact 17 rfl)
  have gc_InvalidSize : mg "InvalidSize" = some (.ref (He.ga K "InvalidSize")) := He.glo_ok KX G (c.fact 18 rfl)
  obtain ⟨fd_InvalidSize___init__, b_InvalidSize___init__, FO_InvalidSize___init__⟩ := ok_InvalidSize___init__ (P := P) (w := w) (base := base) KX G c cx
  have tx_InvalidSize : XcC K (He.ga K "InvalidSize") (He.ma K (He.ga K "InvalidSize") "__init__") := xcB_ok (List.all_eq_true.mp cx (exF[2]) (List.getElem_mem (by decide)))
  obtain ⟨fd_check_edges, b_check_edges, FO_check_edges⟩ := ok_check_edges (P := P) (w := w) (base := base) KX G c cx
  have g_f_check_edges : mg "check_edges" = some (.ref (He.ga K "check_edges")) := He.glo_ok KX G (c.fact 19 rfl)
  have kp_check_edges : PySem.W.keepIn K (.ref (He.ga K "check_edges")) = true := by
    obtain ⟨_, FF⟩ := c.def_ 10 (d := d_check_edges) rfl
    exact FF.kp
  obtain ⟨fd_is_modulus, b_is_modulus, FO_is_modulus⟩ := ok_is_modulus (P := P) (w := w) (base := base) KX G c cx
  have g_f_is_modulus : mg "is_modulus" = some (.ref (He.ga K "is_modulus")) := He.glo_ok KX G (c.fact 20 rfl)
  have kp_is_modulus : PySem.W.keepIn K (.ref (He.ga K "is_modulus")) = true := by
    obtain ⟨_, FF⟩ := c.def_ 9 (d := d_is_modulus) rfl
    exact FF.kp
  have gc_InvalidModulus : mg "InvalidModulus" = some (.ref (He.ga K "InvalidModulus")) := He.glo_ok KX G (c.fact 21 rfl)
  obtain ⟨fd_InvalidModulus___init__, b_InvalidModulus___init__, FO_InvalidModulus___init__⟩ := ok_InvalidModulus___init__ (P := P) (w := w) (base := base) KX G c cx
  have tx_InvalidModulus : XcC K (He.ga K "InvalidModulus") (He.ma K (He.ga K "InvalidModulus") "__init__") := xcB_ok (List.all_eq_true.mp cx (exF[3]) (List.getElem_mem (by decide)))
  have gc_Web : mg "Web" = some (.ref (He.ga K "Web")) := He.glo_ok KX G (c.fact 22 rfl)
  have cl_Web : Cls K (He.ga K "Web") := He.cls_ok (c.fact 23 rfl)
  have n_Web_own_size : NoAttr K (He.ga K "Web") "own_size" := He.noat_ok (c.fact 24 rfl)
  have z_list : mg "list" = none := He.free_ok KX G (c.fact 11 rfl)
  have n_Web_own_edges : NoAttr K (He.ga K "Web") "own_edges" := He.noat_ok (c.fact 25 rfl)
  have n_Web_own_modulus : NoAttr K (He.ga K "Web") "own_modulus" := He.noat_ok (c.fact 26 rfl)
  obtain ⟨fd_forest_of, b_forest_of, FO_forest_of⟩ := ok_forest_of (P := P) (w := w) (base := base) KX G c cx
  have g_f_forest_of : mg "forest_of" = some (.ref (He.ga K "forest_of")) := He.glo_ok KX G (c.fact 27 rfl)
  have kp_forest_of : PySem.W.keepIn K (.ref (He.ga K "forest_of")) = true := by
    obtain ⟨_, FF⟩ := c.def_ 4 (d := d_forest_of) rfl
    exact FF.kp
  have n_Web_own_forest : NoAttr K (He.ga K "Web") "own_forest" := He.noat_ok (c.fact 28 rfl)
  obtain ⟨fd_links_of, b_links_of, FO_links_of⟩ := ok_links_of (P := P) (w := w) (base := base) KX G c cx
  have g_f_links_of : mg "links_of" = some (.ref (He.ga K "links_of")) := He.glo_ok KX G (c.fact 29 rfl)
  have kp_links_of : PySem.W.keepIn K (.ref (He.ga K "links_of")) = true := by
    obtain ⟨_, FF⟩ := c.def_ 5 (d := d_links_of) rfl
    exact FF.kp
  have n_Web_links : NoAttr K (He.ga K "Web") "links" := He.noat_ok (c.fact 30 rfl)
  refine ⟨fd, F, fn_d (k := 4) F sc_Web___init__ (fun cdv A outer s H E hr tk => ?_)⟩
  have hx : Passes (L2.CX P w) (cxOf (L2.CX P w) P w K mg base ["self", "size", "edges", "modulus"] d_Web___init__.qual d_Web___init__.scope (He.fAd K d_Web___init__.at_) cdv A outer s H E) E := passes_call tk (fun _ _ _ _ z => z)
  have hu64 := hr.units
  have hu := hu_of hr
  have c_Web : ∀ {Y : Cx}, Y.mg = mg → Y.K = K → ClsD Y "Web" (He.ga K "Web") := fun h1 h2 => ⟨by rw [h1]; exact gc_Web, by rw [h2]; exact cl_Web⟩
  exact dss_cons (ds_if (dt_not (dt_truth (DE.fz (de_call FO_is_within (hr.mono (by decide)) rfl g_f_is_within kp_is_within b_is_within tk (da_cons (dv 1) (da_cons de_int (da_cons (de_globI rfl i_MOST_NODES) da_nil))))))) (dss_one (ds_raise rfl tk tx_InvalidSize FO_InvalidSize___init__ (hr.mono (by decide)) b_InvalidSize___init__ rfl gc_InvalidSize (dv 1))) dss_nil) (dss_cons (ds_expr (DE.fz (de_call FO_check_edges (hr.mono (by decide)) rfl g_f_check_edges kp_check_edges b_check_edges tk (da_cons (dv 1) (da_cons (dv 2) da_nil))))) (dss_cons (ds_if (dt_not (dt_truth (DE.fz (de_call FO_is_modulus (hr.mono (by decide)) rfl g_f_is_modulus kp_is_modulus b_is_modulus tk (da_cons (dv 3) da_nil))))) (dss_one (ds_raise rfl tk tx_InvalidModulus FO_InvalidModulus___init__ (hr.mono (by decide)) b_InvalidModulus___init__ rfl gc_InvalidModulus (dv 3))) dss_nil) (dss_cons (ds_fld (c_Web rfl rfl) n_Web_own_size (dv 0) (dv 1)) (dss_cons (ds_fld (c_Web rfl rfl) n_Web_own_edges (dv 0) (DN.frz (dn_list rfl z_list (da_cons (dv 2) da_nil)))) (dss_cons (ds_fld (c_Web rfl rfl) n_Web_own_modulus (dv 0) (dv 3)) (dss_cons (ds_fld (c_Web rfl rfl) n_Web_own_forest (dv 0) (DE.fz (de_call FO_forest_of (hr.mono (by decide)) rfl g_f_forest_of kp_forest_of b_forest_of tk (da_cons (dv 1) (da_cons (dv 2) da_nil))))) (dss_one (ds_fld (c_Web rfl rfl) n_Web_links (dv 0) (DE.fz (de_call FO_links_of (hr.mono (by decide)) rfl g_f_links_of kp_links_of b_links_of tk (da_cons (dv 1) (da_cons (dv 2) (da_cons (de_fld (c_Web rfl rfl) n_Web_own_forest (dv 0)) da_nil)))))))))))))
theorem sc_Web___repr__ : FnScope ["self"] ["self"] (defScope s_Web___repr__) := ⟨rfl, rfl, rfl, by decide +kernel, rfl, by decide +kernel, by decide +kernel⟩
theorem sc__law_divisors : FnScope ["_law_base_here", "_law_part"] ["_law_base_here"] (defScope s__law_divisors) := ⟨rfl, rfl, rfl, by decide +kernel, rfl, by decide +kernel, by decide +kernel⟩
theorem ok__law_divisors {P : Program} {w : World} {K : PySem.W.Frag} {h : Heap} {mg : Str → Option Value} {base : Heap} (KX : K.In h) (G : h.Ns mainGlobals mg) (c : He.SaysD fa fn K) (cx : (exF.all fun f => f K) = true) : ∃ fd, Binds K fd ["_law_base_here"] [] ∧ FnOk P w K mg base (L2.CX P w) 1 (He.fAd K d__law_divisors.at_) fd ["_law_base_here"] (spD ⟨K, mg⟩ 1 F__law_divisors) := by
  obtain ⟨fd, F⟩ := c.def_ 30 (d := d__law_divisors) rfl
  have z_range : mg "range" = none := He.free_ok KX G (c.fact 4 rfl)
  refine ⟨fd, FunD.bindsN F (fun _ _ _ _ _ _ us hl => match us, hl with | [_], _ => rfl), fn_d (k := 0) F sc__law_divisors (fun cdv A outer s H E hr tk => ?_)⟩
  have hx : Passes (L2.CX P w) (cxOf (L2.CX P w) P w K mg base ["_law_base_here", "_law_part"] d__law_divisors.qual d__law_divisors.scope (He.fAd K d__law_divisors.at_) cdv A outer s H E) E := passes_call tk (fun _ _ _ _ z => z)
  have hu64 := hr.units
  have hu := hu_of hr
  exact dss_one (ds_ret (DN.frz (dn_lc (own := [(("_law_part" : Str), 1)]) rfl sc__law_divisors.nd (di_range2 rfl z_range (da_cons de_int (da_cons de_int da_nil))) (blkOk_by rfl) (fun _ _ _ _ _ => gn 1 sc__law_divisors.nd) (fun _ _ _ _ _ => dts_one (dt_eq hu64 (de_mod (dv 0) (dv 1)) de_int)) (fun _ _ _ _ _ => dv 1) (rs_mem rfl))))
theorem sc_Web_modulus : FnScope ["self"] ["self"] (defScope s_Web_modulus) := ⟨rfl, rfl, rfl, by decide +kernel, rfl, by decide +kernel, by decide +kernel⟩
theorem ok_Web_modulus {P : Program} {w : World} {K : PySem.W.Frag} {h : Heap} {mg : Str → Option Value} {base : Heap} (KX : K.In h) (G : h.Ns mainGlobals mg) (c : He.SaysD fa fn K) (cx : (exF.all fun f => f K) = true) : ∃ fd, Binds K fd ["self"] [] ∧ FnOk P w K mg base (L2.CX P w) 1 (He.fAd K d_Web_modulus.at_) fd ["self"] (spD ⟨K, mg⟩ 1 F_Web_modulus) := by
  obtain ⟨fd, F⟩ := c.def_ 13 (d := d_Web_modulus) rfl
  have gc_Web : mg "Web" = some (.ref (He.ga K "Web")) := He.glo_ok KX G (c.fact 22 rfl)
  have cl_Web : Cls K (He.ga K "Web") := He.cls_ok (c.fact 23 rfl)
  have n_Web_own_modulus : NoAttr K (He.ga K "Web") "own_modulus" := He.noat_ok (c.fact 26 rfl)
  refine ⟨fd, FunD.bindsN F (fun _ _ _ _ _ _ us hl => match us, hl with | [_], _ => rfl), fn_d (k := 0) F sc_Web_modulus (fun cdv A outer s H E hr tk => ?_)⟩
  have hx : Passes (L2.CX P w) (cxOf (L2.CX P w) P w K mg base ["self"] d_Web_modulus.qual d_Web_modulus.scope (He.fAd K d_Web_modulus.at_) cdv A outer s H E) E := passes_call tk (fun _ _ _ _ z => z)
  have hu64 := hr.units
  have hu := hu_of hr
  have c_Web : ∀ {Y : Cx}, Y.mg = mg → Y.K = K → ClsD Y "Web" (He.ga K "Web") := fun h1 h2 => ⟨by rw [h1]; exact gc_Web, by rw [h2]; exact cl_Web⟩
  exact dss_one (ds_ret (de_fld (c_Web rfl rfl) n_Web_own_modulus (dv 0)))
theorem sc_check_divisor : FnScope ["web", "modulus"] ["web", "modulus"] (defScope s_check_divisor) := ⟨rfl, rfl, rfl, by decide +kernel, rfl, by decide +kernel, by decide +kernel⟩
theorem ok_check_divisor {P : Program} {w : World} {K : PySem.W.Frag} {h : Heap} {mg : Str → Option Value} {base : Heap} (KX : K.In h) (G : h.Ns mainGlobals mg) (c : He.SaysD fa fn K) (cx : (exF.all fun f => f K) = true) : ∃ fd, Binds K fd ["web", "modulus"] [] ∧ FnOk P w K mg base (L2.CX P w) 3 (He.fAd K d_check_divisor.at_) fd ["web", "modulus"] (spD ⟨K, mg⟩ 2 F_check_divisor) := by
  obtain ⟨fd, F⟩ := c.def_ 22 (d := d_check_divisor) rfl
  obtain ⟨fd_is_within, b_is_within, FO_is_within⟩ := ok_is_within (P := P) (w := w) (base := base) KX G c cx
  have g_f_is_within : mg "is_within" = some (.ref (He.ga K "is_within")) := He.glo_ok KX G (c.fact 10 rfl)
  have kp_is_within : PySem.W.keepIn K (.ref (He.ga K "is_within")) = true := by
    obtain ⟨_, FF⟩ := c.def_ 7 (d := d_is_within) rfl
    exact FF.kp
  have i_MOST_MODULUS : ∃ t, mg "MOST_MODULUS" = some (.int 60 t) := He.int_ok KX G (c.fact 15 rfl)
  obtain ⟨fd_Web_modulus, b_Web_modulus, FO_Web_modulus⟩ := ok_Web_modulus (P := P) (w := w) (base := base) KX G c cx
  have gc_Web : mg "Web" = some (.ref (He.ga K "Web")) := He.glo_ok KX G (c.fact 22 rfl)
  have cl_Web : Cls K (He.ga K "Web") := He.cls_ok (c.fact 23 rfl)
  have m_Web_modulus : Meth K (He.ga K "Web") "modulus" (He.ma K (He.ga K "Web") "modulus") := He.meth_ok (c.fact 31 rfl)
  have gc_InvalidModulus : mg "InvalidModulus" = some (.ref (He.ga K "InvalidModulus")) := He.glo_ok KX G (c.fact 21 rfl)
  obtain ⟨fd_InvalidModulus___init__, b_InvalidModulus___init__, FO_InvalidModulus___init__⟩ := ok_InvalidModulus___init__ (P := P) (w := w) (base := base) KX G c cx
  have tx_InvalidModulus : XcC K (He.ga K "InvalidModulus") (He.ma K (He.ga K "InvalidModulus") "__init__") := xcB_ok (List.all_eq_true.mp cx (exF[3]) (List.getElem_mem (by decide)))
  refine ⟨fd, FunD.bindsN F (fun _ _ _ _ _ _ us hl => match us, hl with | [_, _], _ => rfl), fn_d (k := 2) F sc_check_divisor (fun cdv A outer s H E hr tk => ?_)⟩
  have hx : Passes (L2.CX P w) (cxOf (L2.CX P w) P w K mg base ["web", "modulus"] d_check_divisor.qual d_check_divisor.scope (He.fAd K d_check_divisor.at_) cdv A outer s H E) E := passes_call tk (fun _ _ _ _ z => z)
  have hu64 := hr.units
  have hu := hu_of hr
  have c_Web : ∀ {Y : Cx}, Y.mg = mg → Y.K = K → ClsD Y "Web" (He.ga K "Web") := fun h1 h2 => ⟨by rw [h1]; exact gc_Web, by rw [h2]; exact cl_Web⟩
  exact dss_one (ds_if (dt_w (dw_or (dt_not (dt_truth (DE.fz (de_call FO_is_within (hr.mono (by decide)) rfl g_f_is_within kp_is_within b_is_within tk (da_cons (dv 1) (da_cons de_int (da_cons (de_globI rfl i_MOST_MODULUS) da_nil))))))) (dw_or1 (dt_ne hu64 (de_mod (DE.fz (de_meth0 (pl := _) (c_Web rfl rfl) m_Web_modulus FO_Web_modulus (hr.mono (by decide)) b_Web_modulus .nil (fun _ _ => .nil) hx (dv 0))) (dv 1)) de_int)))) (dss_one (ds_raise rfl tk tx_InvalidModulus FO_InvalidModulus___init__ (hr.mono (by decide)) b_InvalidModulus___init__ rfl gc_InvalidModulus (dv 1))) dss_nil)
theorem sc_Web_size : FnScope ["self"] ["self"] (defScope s_Web_size) := ⟨rfl, rfl, rfl, by decide +kernel, rfl, by decide +kernel, by decide +kernel⟩
theorem ok_Web_size {P : Program} {w : World} {K : PySem.W.Frag} {h : Heap} {mg : Str → Option Value} {base : Heap} (KX : K.In h) (G : h.Ns mainGlobals mg) (c : He.SaysD fa fn K) (cx : (exF.all fun f => f K) = true) : ∃ fd, Binds K fd ["self"] [] ∧ FnOk P w K mg base (L2.CX P w) 1 (He.fAd K d_Web_size.at_) fd ["self"] (spD ⟨K, mg⟩ 1 F_Web_size) := by
  obtain ⟨fd, F⟩ := c.def_ 12 (d := d_Web_size) rfl
  have gc_Web : mg "Web" = some (.ref (He.ga K "Web")) := He.glo_ok KX G (c.fact 22 rfl)
  have cl_Web : Cls K (He.ga K "Web") := He.cls_ok (c.fact 23 rfl)
  have n_Web_own_size : NoAttr K (He.ga K "Web") "own_size" := He.noat_ok (c.fact 24 rfl)
  refine ⟨fd, FunD.bindsN F (fun _ _ _ _ _ _ us hl => match us, hl with | [_], _ => rfl), fn_d (k := 0) F sc_Web_size (fun cdv A outer s H E hr tk => ?_)⟩
  have hx : Passes (L2.CX P w) (cxOf (L2.CX P w) P w K mg base ["self"] d_Web_size.qual d_Web_size.scope (He.fAd K d_Web_size.at_) cdv A outer s H E) E := passes_call tk (fun _ _ _ _ z => z)
  have hu64 := hr.units
  have hu := hu_of hr
  have c_Web : ∀ {Y : Cx}, Y.mg = mg → Y.K = K → ClsD Y "Web" (He.ga K "Web") := fun h1 h2 => ⟨by rw [h1]; exact gc_Web, by rw [h2]; exact cl_Web⟩
  exact dss_one (ds_ret (de_fld (c_Web rfl rfl) n_Web_own_size (dv 0)))
theorem sc_Web_edges : FnScope ["self"] ["self"] (defScope s_Web_edges) := ⟨rfl, rfl, rfl, by decide +kernel, rfl, by decide +kernel, by decide +kernel⟩
theorem ok_Web_edges {P : Program} {w : World} {K : PySem.W.Frag} {h : Heap} {mg : Str → Option Value} {base : Heap} (KX : K.In h) (G : h.Ns mainGlobals mg) (c : He.SaysD fa fn K) (cx : (exF.all fun f => f K) = true) : ∃ fd, Binds K fd ["self"] [] ∧ FnOk P w K mg base (L2.CX P w) 1 (He.fAd K d_Web_edges.at_) fd ["self"] (spD ⟨K, mg⟩ 1 F_Web_edges) := by
  obtain ⟨fd, F⟩ := c.def_ 14 (d := d_Web_edges) rfl
  have z_list : mg "list" = none := He.free_ok KX G (c.fact 11 rfl)
  have gc_Web : mg "Web" = some (.ref (He.ga K "Web")) := He.glo_ok KX G (c.fact 22 rfl)
  have cl_Web : Cls K (He.ga K "Web") := He.cls_ok (c.fact 23 rfl)
  have n_Web_own_edges : NoAttr K (He.ga K "Web") "own_edges" := He.noat_ok (c.fact 25 rfl)
  refine ⟨fd, FunD.bindsN F (fun _ _ _ _ _ _ us hl => match us, hl with | [_], _ => rfl), fn_d (k := 0) F sc_Web_edges (fun cdv A outer s H E hr tk => ?_)⟩
  have hx : Passes (L2.CX P w) (cxOf (L2.CX P w) P w K mg base ["self"] d_Web_edges.qual d_Web_edges.scope (He.fAd K d_Web_edges.at_) cdv A outer s H E) E := passes_call tk (fun _ _ _ _ z => z)
  have hu64 := hr.units
  have hu := hu_of hr
  have c_Web : ∀ {Y : Cx}, Y.mg = mg → Y.K = K → ClsD Y "Web" (He.ga K "Web") := fun h1 h2 => ⟨by rw [h1]; exact gc_Web, by rw [h2]; exact cl_Web⟩
  exact dss_one (ds_ret (DN.frz (dn_list rfl z_list (da_cons (de_fld (c_Web rfl rfl) n_Web_own_edges (dv 0)) da_nil))))
theorem sc_reduced : FnScope ["web", "modulus"] ["web", "modulus"] (defScope s_reduced) := ⟨rfl, rfl, rfl, by decide +kernel, rfl, by decide +kernel, by decide +kernel⟩
theorem ok_reduced {P : Program} {w : World} {K : PySem.W.Frag} {h : Heap} {mg : Str → Option Value} {base : Heap} (KX : K.In h) (G : h.Ns mainGlobals mg) (c : He.SaysD fa fn K) (cx : (exF.all fun f => f K) = true) : ∃ fd, Binds K fd ["web", "modulus"] [] ∧ FnOk P w K mg base (L2.CX P w) 7 (He.fAd K d_reduced.at_) fd ["web", "modulus"] (spD ⟨K, mg⟩ 2 F_reduced) := by
  obtain ⟨fd, F⟩ := c.def_ 23 (d := d_reduced) rfl
  obtain ⟨fd_check_divisor, b_check_divisor, FO_check_divisor⟩ := ok_check_divisor (P := P) (w := w) (base := base) KX G c cx
  have g_f_check_divisor : mg "check_divisor" = some (.ref (He.ga K "check_divisor")) := He.glo_ok KX G (c.fact 32 rfl)
  have kp_check_divisor : PySem.W.keepIn K (.ref (He.ga K "check_divisor")) = true := by
    obtain ⟨_, FF⟩ := c.def_ 22 (d := d_check_divisor) rfl
    exact FF.kp
  obtain ⟨fd_Web___init__, b_Web___init__, FO_Web___init__⟩ := ok_Web___init__ (P := P) (w := w) (base := base) KX G c cx
  have gc_Web : mg "Web" = some (.ref (He.ga K "Web")) := He.glo_ok KX G (c.fact 22 rfl)
  have cl_Web : Cls K (He.ga K "Web") := He.cls_ok (c.fact 23 rfl)
  have k_Web : Mk K (He.ga K "Web") (He.ma K (He.ga K "Web") "__init__") := He.mkr_ok (c.fact 33 rfl)
  obtain ⟨fd_Web_size, b_Web_size, FO_Web_size⟩ := ok_Web_size (P := P) (w := w) (base := base) KX G c cx
  have m_Web_size : Meth K (He.ga K "Web") "size" (He.ma K (He.ga K "Web") "size") := He.meth_ok (c.fact 34 rfl)
  obtain ⟨fd_Web_edges, b_Web_edges, FO_Web_edges⟩ := ok_Web_edges (P := P) (w := w) (base := base) KX G c cx
  have m_Web_edges : Meth K (He.ga K "Web") "edges" (He.ma K (He.ga K "Web") "edges") := He.meth_ok (c.fact 35 rfl)
  obtain ⟨its_kb_Web___init___2_modulus, kb_Web___init___2_modulus⟩ := FunD.kbindsD (ps := ["self", "size", "edges", "modulus"]) b_Web___init__ 3 ["modulus"] (fun us _ ws => us ++ ws) (by intro z; cases z) (fun r1 _ r3 => r1.append r3) (fun T kV doc pm an cdv ct us its ws l1 l2 l3 => match us, its, ws, l1, l2, l3 with | [_, _, _], [_], [_], _, _, _ => ⟨_, rfl, rfl⟩)
  refine ⟨fd, FunD.bindsN F (fun _ _ _ _ _ _ us hl => match us, hl with | [_, _], _ => rfl), fn_d (k := 6) F sc_reduced (fun cdv A outer s H E hr tk => ?_)⟩
  have hx : Passes (L2.CX P w) (cxOf (L2.CX P w) P w K mg base ["web", "modulus"] d_reduced.qual d_reduced.scope (He.fAd K d_reduced.at_) cdv A outer s H E) E := passes_call tk (fun _ _ _ _ z => z)
  have hu64 := hr.units
  have hu := hu_of hr
  have c_Web : ∀ {Y : Cx}, Y.mg = mg → Y.K = K → ClsD Y "Web" (He.ga K "Web") := fun h1 h2 => ⟨by rw [h1]; exact gc_Web, by rw [h2]; exact cl_Web⟩
  exact dss_cons (ds_expr (DE.fz (de_call FO_check_divisor (hr.mono (by decide)) rfl g_f_check_divisor kp_check_divisor b_check_divisor tk (da_cons (dv 0) (da_cons (dv 1) da_nil))))) (dss_one (ds_ret (DE.fz (de_makeN (c_Web rfl rfl) k_Web FO_Web___init__ (hr.mono (by decide)) rfl kb_Web___init___2_modulus (fun d l z h1 h2 => by simp [h1, h2]) (fun B as v d vs zs l z r r1 r2 => .cons r (r1.app r2)) hx (da_cons (DE.fz (de_meth0 (pl := _) (c_Web rfl rfl) m_Web_size FO_Web_size (hr.mono (by decide)) b_Web_size .nil (fun _ _ => .nil) hx (dv 0))) (da_cons (DE.fz (de_meth0 (pl := _) (c_Web rfl rfl) m_Web_edges FO_Web_edges (hr.mono (by decide)) b_Web_edges .nil (fun _ _ => .nil) hx (dv 0))) da_nil)) (dk_cons (dv 1) dk_nil)))))
theorem sc_Web___eq__ : FnScope ["self", "other", "mine"] ["self", "other"] (defScope s_Web___eq__) := ⟨rfl, rfl, rfl, by decide +kernel, rfl, by decide +kernel, by decide +kernel⟩
theorem ok_Web___eq__ {P : Program} {w : World} {K : PySem.W.Frag} {h : Heap} {mg : Str → Option Value} {base : Heap} (KX : K.In h) (G : h.Ns mainGlobals mg) (c : He.SaysD fa fn K) (cx : (exF.all fun f => f K) = true) : ∃ fd, Binds K fd ["self", "other"] [] ∧ FnOk P w K mg base (L2.CX P w) 1 (He.fAd K d_Web___eq__.at_) fd ["self", "other"] (spD ⟨K, mg⟩ 2 F_Web___eq___v) := by
  obtain ⟨fd, F⟩ := c.def_ 16 (d := d_Web___eq__) rfl
  have z_isinstance : mg "isinstance" = none := He.free_ok KX G (c.fact 5 rfl)
  have gc_Web : mg "Web" = some (.ref (He.ga K "Web")) := He.glo_ok KX G (c.fact 22 rfl)
  have cl_Web : Cls K (He.ga K "Web") := He.cls_ok (c.fact 23 rfl)
  have n_Web_own_size : NoAttr K (He.ga K "Web") "own_size" := He.noat_ok (c.fact 24 rfl)
  have n_Web_own_edges : NoAttr K (He.ga K "Web") "own_edges" := He.noat_ok (c.fact 25 rfl)
  have n_Web_own_modulus : NoAttr K (He.ga K "Web") "own_modulus" := He.noat_ok (c.fact 26 rfl)
  refine ⟨fd, FunD.bindsN F (fun _ _ _ _ _ _ us hl => match us, hl with | [_, _], _ => rfl), fn_d (k := 0) F sc_Web___eq__ (fun cdv A outer s H E hr tk => ?_)⟩
  have hx : Passes (L2.CX P w) (cxOf (L2.CX P w) P w K mg base ["self", "other", "mine"] d_Web___eq__.qual d_Web___eq__.scope (He.fAd K d_Web___eq__.at_) cdv A outer s H E) E := passes_call tk (fun _ _ _ _ z => z)
  have hu64 := hr.units
  have hu := hu_of hr
  have c_Web : ∀ {Y : Cx}, Y.mg = mg → Y.K = K → ClsD Y "Web" (He.ga K "Web") := fun h1 h2 => ⟨by rw [h1]; exact gc_Web, by rw [h2]; exact cl_Web⟩
  exact dss_cons (ds_if (dt_not (dt_truth (de_isO (c_Web rfl rfl) (isoB_ok (List.all_eq_true.mp cx (exF[4]) (List.getElem_mem (by decide)))) rfl z_isinstance rfl (dv 1)))) (dss_one (ds_ret de_bl)) dss_nil) (dss_cons (st 2 sc_Web___eq__.nd (DN.frz (dn_tup (da_cons (de_fld (c_Web rfl rfl) n_Web_own_size (dv 0)) (da_cons (de_fld (c_Web rfl rfl) n_Web_own_edges (dv 0)) (da_cons (de_fld (c_Web rfl rfl) n_Web_own_modulus (dv 0)) da_nil)))))) (dss_one (ds_ret (de_eq hu64 (dv 2) (DN.frz (dn_tup (da_cons (de_fld (c_Web rfl rfl) n_Web_own_size (dv 1)) (da_cons (de_fld (c_Web rfl rfl) n_Web_own_edges (dv 1)) (da_cons (de_fld (c_Web rfl rfl) n_Web_own_modulus (dv 1)) da_nil)))))))))
theorem sc_is_residue : FnScope ["web", "thing"] ["web", "thing"] (defScope s_is_residue) := ⟨rfl, rfl, rfl, by decide +kernel, rfl, by decide +kernel, by decide +kernel⟩
theorem ok_is_residue {P : Program} {w : World} {K : PySem.W.Frag} {h : Heap} {mg : Str → Option Value} {base : Heap} (KX : K.In h) (G : h.Ns mainGlobals mg) (c : He.SaysD fa fn K) (cx : (exF.all fun f => f K) = true) : ∃ fd, Binds K fd ["web", "thing"] [] ∧ FnOk P w K mg base (L2.CX P w) 3 (He.fAd K d_is_residue.at_) fd ["web", "thing"] (spD ⟨K, mg⟩ 2 F_is_residue) := by
  obtain ⟨fd, F⟩ := c.def_ 18 (d := d_is_residue) rfl
  obtain ⟨fd_Web_modulus, b_Web_modulus, FO_Web_modulus⟩ := ok_Web_modulus (P := P) (w := w) (base := base) KX G c cx
  have gc_Web : mg "Web" = some (.ref (He.ga K "Web")) := He.glo_ok KX G (c.fact 22 rfl)
  have cl_Web : Cls K (He.ga K "Web") := He.cls_ok (c.fact 23 rfl)
  have m_Web_modulus : Meth K (He.ga K "Web") "modulus" (He.ma K (He.ga K "Web") "modulus") := He.meth_ok (c.fact 31 rfl)
  obtain ⟨fd_is_integer, b_is_integer, FO_is_integer⟩ := ok_is_integer (P := P) (w := w) (base := base) KX G c cx
  have g_f_is_integer : mg "is_integer" = some (.ref (He.ga K "is_integer")) := He.glo_ok KX G (c.fact 7 rfl)
  have kp_is_integer : PySem.W.keepIn K (.ref (He.ga K "is_integer")) = true := by
    obtain ⟨_, FF⟩ := c.def_ 6 (d := d_is_integer) rfl
    exact FF.kp
  obtain ⟨fd_is_within, b_is_within, FO_is_within⟩ := ok_is_within (P := P) (w := w) (base := base) KX G c cx
  have g_f_is_within : mg "is_within" = some (.ref (He.ga K "is_within")) := He.glo_ok KX G (c.fact 10 rfl)
  have kp_is_within : PySem.W.keepIn K (.ref (He.ga K "is_within")) = true := by
    obtain ⟨_, FF⟩ := c.def_ 7 (d := d_is_within) rfl
    exact FF.kp
  refine ⟨fd, FunD.bindsN F (fun _ _ _ _ _ _ us hl => match us, hl with | [_, _], _ => rfl), fn_d (k := 2) F sc_is_residue (fun cdv A outer s H E hr tk => ?_)⟩
  have hx : Passes (L2.CX P w) (cxOf (L2.CX P w) P w K mg base ["web", "thing"] d_is_residue.qual d_is_residue.scope (He.fAd K d_is_residue.at_) cdv A outer s H E) E := passes_call tk (fun _ _ _ _ z => z)
  have hu64 := hr.units
  have hu := hu_of hr
  have c_Web : ∀ {Y : Cx}, Y.mg = mg → Y.K = K → ClsD Y "Web" (He.ga K "Web") := fun h1 h2 => ⟨by rw [h1]; exact gc_Web, by rw [h2]; exact cl_Web⟩
  exact dss_cons (ds_if (dt_eq hu64 (DE.fz (de_meth0 (pl := _) (c_Web rfl rfl) m_Web_modulus FO_Web_modulus (hr.mono (by decide)) b_Web_modulus .nil (fun _ _ => .nil) hx (dv 0))) de_int) (dss_one (ds_ret (DE.fz (de_call FO_is_integer (hr.mono (by decide)) rfl g_f_is_integer kp_is_integer b_is_integer tk (da_cons (dv 1) da_nil))))) dss_nil) (dss_one (ds_ret (DE.fz (de_call FO_is_within (hr.mono (by decide)) rfl g_f_is_within kp_is_within b_is_within tk (da_cons (dv 1) (da_cons de_int (da_cons (de_sub (DE.fz (de_meth0 (pl := _) (c_Web rfl rfl) m_Web_modulus FO_Web_modulus (hr.mono (by decide)) b_Web_modulus .nil (fun _ _ => .nil) hx (dv 0))) de_int) da_nil)))))))
theorem sc_are_residues : FnScope ["web", "thing", "count", "one"] ["web", "thing", "count"] (defScope s_are_residues) := ⟨rfl, rfl, rfl, by decide +kernel, rfl, by decide +kernel, by decide +kernel⟩
theorem ok_are_residues {P : Program} {w : World} {K : PySem.W.Frag} {h : Heap} {mg : Str → Option Value} {base : Heap} (KX : K.In h) (G : h.Ns mainGlobals mg) (c : He.SaysD fa fn K) (cx : (exF.all fun f => f K) = true) : ∃ fd, Binds K fd ["web", "thing", "count"] [] ∧ FnOk P w K mg base (L2.CX P w) 4 (He.fAd K d_are_residues.at_) fd ["web", "thing", "count"] (spD ⟨K, mg⟩ 3 F_are_residues) := by
  obtain ⟨fd, F⟩ := c.def_ 19 (d := d_are_residues) rfl
  have z_isinstance : mg "isinstance" = none := He.free_ok KX G (c.fact 5 rfl)
  have z_list : mg "list" = none := He.free_ok KX G (c.fact 11 rfl)
  have z_len : mg "len" = none := He.free_ok KX G (c.fact 0 rfl)
  have z_all : mg "all" = none := He.free_ok KX G (c.fact 36 rfl)
  obtain ⟨fd_is_residue, b_is_residue, FO_is_residue⟩ := ok_is_residue (P := P) (w := w) (base := base) KX G c cx
  have g_f_is_residue : mg "is_residue" = some (.ref (He.ga K "is_residue")) := He.glo_ok KX G (c.fact 37 rfl)
  have kp_is_residue : PySem.W.keepIn K (.ref (He.ga K "is_residue")) = true := by
    obtain ⟨_, FF⟩ := c.def_ 18 (d := d_is_residue) rfl
    exact FF.kp
  refine ⟨fd, FunD.bindsN F (fun _ _ _ _ _ _ us hl => match us, hl with | [_, _, _], _ => rfl), fn_d (k := 3) F sc_are_residues (fun cdv A outer s H E hr tk => ?_)⟩
  have hx : Passes (L2.CX P w) (cxOf (L2.CX P w) P w K mg base ["web", "thing", "count", "one"] d_are_residues.qual d_are_residues.scope (He.fAd K d_are_residues.at_) cdv A outer s H E) E := passes_call tk (fun _ _ _ _ z => z)
  have hu64 := hr.units
  have hu := hu_of hr
  exact dss_one (ds_ret (de_and (de_isi rfl z_isinstance (da_cons (dv 1) (da_cons (de_ty rfl z_list (by decide +kernel)) da_nil))) (de_and (de_eq hu64 (de_len rfl z_len (da_cons (dv 1) da_nil)) (dv 2)) (de_one (de_all rfl rfl z_all (da_cons (DN.frz (dn_lc (own := [(("one" : Str), 3)]) rfl sc_are_residues.nd (di_sq (dv 1)) (blkOk_by rfl) (fun _ _ _ _ _ => gn 3 sc_are_residues.nd) (fun _ _ _ _ _ => dts_nil) (fun _ _ _ _ _ => DE.fz (de_call FO_is_residue (hr.mono (by decide)) rfl g_f_is_residue kp_is_residue b_is_residue takes0 (da_cons (dv 0) (da_cons (dv 3) da_nil)))) (rs_mem rfl))) da_nil))))))
theorem sc_Web___len__ : FnScope ["self"] ["self"] (defScope s_Web___len__) := ⟨rfl, rfl, rfl, by decide +kernel, rfl, by decide +kernel, by decide +kernel⟩
theorem ok_Web___len__ {P : Program} {w : World} {K : PySem.W.Frag} {h : Heap} {mg : Str → Option Value} {base : Heap} (KX : K.In h) (G : h.Ns mainGlobals mg) (c : He.SaysD fa fn K) (cx : (exF.all fun f => f K) = true) : ∃ fd, Binds K fd ["self"] [] ∧ FnOk P w K mg base (L2.CX P w) 1 (He.fAd K d_Web___len__.at_) fd ["self"] (spD ⟨K, mg⟩ 1 F_Web___len__) := by
  obtain ⟨fd, F⟩ := c.def_ 15 (d := d_Web___len__) rfl
  have z_len : mg "len" = none := He.free_ok KX G (c.fact 0 rfl)
  have gc_Web : mg "Web" = some (.ref (He.ga K "Web")) := He.glo_ok KX G (c.fact 22 rfl)
  have cl_Web : Cls K (He.ga K "Web") := He.cls_ok (c.fact 23 rfl)
  have n_Web_own_edges : NoAttr K (He.ga K "Web") "own_edges" := He.noat_ok (c.fact 25 rfl)
  refine ⟨fd, FunD.bindsN F (fun _ _ _ _ _ _ us hl => match us, hl with | [_], _ => rfl), fn_d (k := 0) F sc_Web___len__ (fun cdv A outer s H E hr tk => ?_)⟩
  have hx : Passes (L2.CX P w) (cxOf (L2.CX P w) P w K mg base ["self"] d_Web___len__.qual d_Web___len__.scope (He.fAd K d_Web___len__.at_) cdv A outer s H E) E := passes_call tk (fun _ _ _ _ z => z)
  have hu64 := hr.units
  have hu := hu_of hr
  have c_Web : ∀ {Y : Cx}, Y.mg = mg → Y.K = K → ClsD Y "Web" (He.ga K "Web") := fun h1 h2 => ⟨by rw [h1]; exact gc_Web, by rw [h2]; exact cl_Web⟩
  exact dss_one (ds_ret (de_len rfl z_len (da_cons (de_fld (c_Web rfl rfl) n_Web_own_edges (dv 0)) da_nil)))
theorem sc_is_gains : FnScope ["web", "thing"] ["web", "thing"] (defScope s_is_gains) := ⟨rfl, rfl, rfl, by decide +kernel, rfl, by decide +kernel, by decide +kernel⟩
theorem ok_is_gains {P : Program} {w : World} {K : PySem.W.Frag} {h : Heap} {mg : Str → Option Value} {base : Heap} (KX : K.In h) (G : h.Ns mainGlobals mg) (c : He.SaysD fa fn K) (cx : (exF.all fun f => f K) = true) : ∃ fd, Binds K fd ["web", "thing"] [] ∧ FnOk P w K mg base (L2.CX P w) 5 (He.fAd K d_is_gains.at_) fd ["web", "thing"] (spD ⟨K, mg⟩ 2 F_is_gains) := by
  obtain ⟨fd, F⟩ := c.def_ 20 (d := d_is_gains) rfl
  obtain ⟨fd_are_residues, b_are_residues, FO_are_residues⟩ := ok_are_residues (P := P) (w := w) (base := base) KX G c cx
  have g_f_are_residues : mg "are_residues" = some (.ref (He.ga K "are_residues")) := He.glo_ok KX G (c.fact 38 rfl)
  have kp_are_residues : PySem.W.keepIn K (.ref (He.ga K "are_residues")) = true := by
    obtain ⟨_, FF⟩ := c.def_ 19 (d := d_are_residues) rfl
    exact FF.kp
  have z_len : mg "len" = none := He.free_ok KX G (c.fact 0 rfl)
  obtain ⟨fd_Web___len__, b_Web___len__, FO_Web___len__⟩ := ok_Web___len__ (P := P) (w := w) (base := base) KX G c cx
  have gc_Web : mg "Web" = some (.ref (He.ga K "Web")) := He.glo_ok KX G (c.fact 22 rfl)
  have cl_Web : Cls K (He.ga K "Web") := He.cls_ok (c.fact 23 rfl)
  have m_Web___len__ : Meth K (He.ga K "Web") "__len__" (He.ma K (He.ga K "Web") "__len__") := He.meth_ok (c.fact 39 rfl)
  refine ⟨fd, FunD.bindsN F (fun _ _ _ _ _ _ us hl => match us, hl with | [_, _], _ => rfl), fn_d (k := 4) F sc_is_gains (fun cdv A outer s H E hr tk => ?_)⟩
  have hx : Passes (L2.CX P w) (cxOf (L2.CX P w) P w K mg base ["web", "thing"] d_is_gains.qual d_is_gains.scope (He.fAd K d_is_gains.at_) cdv A outer s H E) E := passes_call tk (fun _ _ _ _ z => z)
  have hu64 := hr.units
  have hu := hu_of hr
  have c_Web : ∀ {Y : Cx}, Y.mg = mg → Y.K = K → ClsD Y "Web" (He.ga K "Web") := fun h1 h2 => ⟨by rw [h1]; exact gc_Web, by rw [h2]; exact cl_Web⟩
  exact dss_one (ds_ret (DE.fz (de_call FO_are_residues (hr.mono (by decide)) rfl g_f_are_residues kp_are_residues b_are_residues tk (da_cons (dv 0) (da_cons (dv 1) (da_cons (de_lenO (c_Web rfl rfl) m_Web___len__ FO_Web___len__ (hr.mono (by decide)) b_Web___len__ hx rfl z_len (da_cons (dv 0) da_nil)) da_nil))))))
theorem sc_InvalidGains___init__ : FnScope ["self", "value"] ["self", "value"] (defScope s_InvalidGains___init__) := ⟨rfl, rfl, rfl, by decide +kernel, rfl, by decide +kernel, by decide +kernel⟩
theorem ok_InvalidGains___init__ {P : Program} {w : World} {K : PySem.W.Frag} {h : Heap} {mg : Str → Option Value} {base : Heap} (KX : K.In h) (G : h.Ns mainGlobals mg) (c : He.SaysD fa fn K) (cx : (exF.all fun f => f K) = true) : ∃ fd, Binds K fd ["self", "value"] [] ∧ FnOk P w K mg base (L2.CX P w) 1 (He.fAd K d_InvalidGains___init__.at_) fd ["self", "value"] (spXI K) := by
  obtain ⟨fd, F⟩ := c.def_ 3 (d := d_InvalidGains___init__) rfl
  have gb : mg ("WebError" : Str) = some (.ref (He.ga K ("WebError" : Str))) := He.glo_ok KX G (c.fact 8 rfl)
  have tb : XcB K (He.ga K ("WebError" : Str)) := xbB_ok (List.all_eq_true.mp cx (exF[0]) (List.getElem_mem (by decide)))
  refine ⟨fd, FunD.bindsN F (fun _ _ _ _ _ _ us hl => match us, hl with | [_, _], _ => rfl), F.ok sc_InvalidGains___init__ (fun vs H Q E h => xi_len h) (fun cdv A outer s H vs Q E hr h => ?_)⟩
  exact ⟨_, pss_cons (ps_expr (pe_xinit tb rfl gb (pa_cons (pe_var (i := 0) rfl (.inl rfl)) (pa_cons (pe_var (i := 1) rfl (.inl rfl)) pa_nil)))) (pss_one (ps_ost (pe_var (i := 0) rfl (.inl rfl)) (pe_var (i := 1) rfl (.inl rfl)))), xi_end h⟩
theorem sc_check_gains : FnScope ["web", "gains"] ["web", "gains"] (defScope s_check_gains) := ⟨rfl, rfl, rfl, by decide +kernel, rfl, by decide +kernel, by decide +kernel⟩
theorem ok_check_gains {P : Program} {w : World} {K : PySem.W.Frag} {h : Heap} {mg : Str → Option Value} {base : Heap} (KX : K.In h) (G : h.Ns mainGlobals mg) (c : He.SaysD fa fn K) (cx : (exF.all fun f => f K) = true) : ∃ fd, Binds K fd ["web", "gains"] [] ∧ FnOk P w K mg base (L2.CX P w) 6 (He.fAd K d_check_gains.at_) fd ["web", "gains"] (spD ⟨K, mg⟩ 2 F_check_gains) := by
  obtain ⟨fd, F⟩ := c.def_ 21 (d := d_check_gains) rfl
  obtain ⟨fd_is_gains, b_is_gains, FO_is_gains⟩ := ok_is_gains (P := P) (w := w) (base := base) KX G c cx
  have g_f_is_gains : mg "is_gains" = some (.ref (He.ga K "is_gains")) := He.glo_ok KX G (c.fact 40 rfl)
  have kp_is_gains : PySem.W.keepIn K (.ref (He.ga K "is_gains")) = true := by
    obtain ⟨_, FF⟩ := c.def_ 20 (d := d_is_gains) rfl
    exact FF.kp
  have gc_InvalidGains : mg "InvalidGains" = some (.ref (He.ga K "InvalidGains")) := He.glo_ok KX G (c.fact 41 rfl)
  obtain ⟨fd_InvalidGains___init__, b_InvalidGains___init__, FO_InvalidGains___init__⟩ := ok_InvalidGains___init__ (P := P) (w := w) (base := base) KX G c cx
  have tx_InvalidGains : XcC K (He.ga K "InvalidGains") (He.ma K (He.ga K "InvalidGains") "__init__") := xcB_ok (List.all_eq_true.mp cx (exF[5]) (List.getElem_mem (by decide)))
  refine ⟨fd, FunD.bindsN F (fun _ _ _ _ _ _ us hl => match us, hl with | [_, _], _ => rfl), fn_d (k := 5) F sc_check_gains (fun cdv A outer s H E hr tk => ?_)⟩
  have hx : Passes (L2.CX P w) (cxOf (L2.CX P w) P w K mg base ["web", "gains"] d_check_gains.qual d_check_gains.scope (He.fAd K d_check_gains.at_) cdv A outer s H E) E := passes_call tk (fun _ _ _ _ z => z)
  have hu64 := hr.units
  have hu := hu_of hr
  exact dss_one (ds_if (dt_not (dt_truth (DE.fz (de_call FO_is_gains (hr.mono (by decide)) rfl g_f_is_gains kp_is_gains b_is_gains tk (da_cons (dv 0) (da_cons (dv 1) da_nil)))))) (dss_one (ds_raise rfl tk tx_InvalidGains FO_InvalidGains___init__ (hr.mono (by decide)) b_InvalidGains___init__ rfl gc_InvalidGains (dv 1))) dss_nil)
theorem sc_reduced_gains : FnScope ["web", "gains", "modulus", "gain"] ["web", "gains", "modulus"] (defScope s_reduced_gains) := ⟨rfl, rfl, rfl, by decide +kernel, rfl, by decide +kernel, by decide +kernel⟩
theorem ok_reduced_gains {P : Program} {w : World} {K : PySem.W.Frag} {h : Heap} {mg : Str → Option Value} {base : Heap} (KX : K.In h) (G : h.Ns mainGlobals mg) (c : He.SaysD fa fn K) (cx : (exF.all fun f => f K) = true) : ∃ fd, Binds K fd ["web", "gains", "modulus"] [] ∧ FnOk P w K mg base (L2.CX P w) 7 (He.fAd K d_reduced_gains.at_) fd ["web", "gains", "modulus"] (spD ⟨K, mg⟩ 3 F_reduced_gains_v) := by
  obtain ⟨fd, F⟩ := c.def_ 24 (d := d_reduced_gains) rfl
  obtain ⟨fd_check_gains, b_check_gains, FO_check_gains⟩ := ok_check_gains (P := P) (w := w) (base := base) KX G c cx
  have g_f_check_gains : mg "check_gains" = some (.ref (He.ga K "check_gains")) := He.glo_ok KX G (c.fact 42 rfl)
  have kp_check_gains : PySem.W.keepIn K (.ref (He.ga K "check_gains")) = true := by
    obtain ⟨_, FF⟩ := c.def_ 21 (d := d_check_gains) rfl
    exact FF.kp
  obtain ⟨fd_check_divisor, b_check_divisor, FO_check_divisor⟩ := ok_check_divisor (P := P) (w := w) (base := base) KX G c cx
  have g_f_check_divisor : mg "check_divisor" = some (.ref (He.ga K "check_divisor")) := He.glo_ok KX G (c.fact 32 rfl)
  have kp_check_divisor : PySem.W.keepIn K (.ref (He.ga K "check_divisor")) = true := by
    obtain ⟨_, FF⟩ := c.def_ 22 (d := d_check_divisor) rfl
    exact FF.kp
  refine ⟨fd, FunD.bindsN F (fun _ _ _ _ _ _ us hl => match us, hl with | [_, _, _], _ => rfl), fn_d (k := 6) F sc_reduced_gains (fun cdv A outer s H E hr tk => ?_)⟩
  have hx : Passes (L2.CX P w) (cxOf (L2.CX P w) P w K mg base ["web", "gains", "modulus", "gain"] d_reduced_gains.qual d_reduced_gains.scope (He.fAd K d_reduced_gains.at_) cdv A outer s H E) E := passes_call tk (fun _ _ _ _ z => z)
  have hu64 := hr.units
  have hu := hu_of hr
  exact dss_cons (ds_expr (DE.fz (de_call FO_check_gains (hr.mono (by decide)) rfl g_f_check_gains kp_check_gains b_check_gains tk (da_cons (dv 0) (da_cons (dv 1) da_nil))))) (dss_cons (ds_expr (DE.fz (de_call FO_check_divisor (hr.mono (by decide)) rfl g_f_check_divisor kp_check_divisor b_check_divisor tk (da_cons (dv 0) (da_cons (dv 2) da_nil))))) (dss_one (ds_ret (DN.cel (dn_lc (own := [(("gain" : Str), 3)]) rfl sc_reduced_gains.nd (di_sq (dv 1)) (blkOk_by rfl) (fun _ _ _ _ _ => gn 3 sc_reduced_gains.nd) (fun _ _ _ _ _ => dts_nil) (fun _ _ _ _ _ => de_mod (dv 3) (dv 2)) (rs_mem rfl))))))
theorem sc__law_refused : FnScope ["_law_door", "_law_web", "_law_old", "_law_part", "e"] ["_law_door", "_law_web", "_law_old", "_law_part"] (defScope s__law_refused) := ⟨rfl, rfl, rfl, by decide +kernel, rfl, by decide +kernel, by decide +kernel⟩
theorem ok__law_refused {P : Program} {w : World} {K : PySem.W.Frag} {h : Heap} {mg : Str → Option Value} {base : Heap} (KX : K.In h) (G : h.Ns mainGlobals mg) (c : He.SaysD fa fn K) (cx : (exF.all fun f => f K) = true) : ∃ fd, Binds K fd ["_law_door", "_law_web", "_law_old", "_law_part"] [] ∧ FnOkG P w K mg base (L2.CX P w) 8 (He.fAd K d__law_refused.at_) fd ["_law_door", "_law_web", "_law_old", "_law_part"] (spD ⟨K, mg⟩ 4 F__law_refused) := by
  obtain ⟨fd, F⟩ := c.def_ 31 (d := d__law_refused) rfl
  obtain ⟨fd_reduced, b_reduced, FO_reduced⟩ := ok_reduced (P := P) (w := w) (base := base) KX G c cx
  have g_f_reduced : mg "reduced" = some (.ref (He.ga K "reduced")) := He.glo_ok KX G (c.fact 43 rfl)
  have kp_reduced : PySem.W.keepIn K (.ref (He.ga K "reduced")) = true := by
    obtain ⟨_, FF⟩ := c.def_ 23 (d := d_reduced) rfl
    exact FF.kp
  obtain ⟨fd_reduced_gains, b_reduced_gains, FO_reduced_gains⟩ := ok_reduced_gains (P := P) (w := w) (base := base) KX G c cx
  have g_f_reduced_gains : mg "reduced_gains" = some (.ref (He.ga K "reduced_gains")) := He.glo_ok KX G (c.fact 44 rfl)
  have kp_reduced_gains : PySem.W.keepIn K (.ref (He.ga K "reduced_gains")) = true := by
    obtain ⟨_, FF⟩ := c.def_ 24 (d := d_reduced_gains) rfl
    exact FF.kp
  have gc_InvalidSize : mg "InvalidSize" = some (.ref (He.ga K "InvalidSize")) := He.glo_ok KX G (c.fact 18 rfl)
  have ex_InvalidSize_InvalidModulus : PySem.W.exmOne K (.ref (He.ga K "InvalidSize")) (.ref (He.ga K "InvalidModulus")) = some false := He.exm_ok (c.fact 45 rfl)
  have gc_InvalidModulus : mg "InvalidModulus" = some (.ref (He.ga K "InvalidModulus")) := He.glo_ok KX G (c.fact 21 rfl)
  have ex_InvalidModulus_InvalidModulus : PySem.W.exmOne K (.ref (He.ga K "InvalidModulus")) (.ref (He.ga K "InvalidModulus")) = some true := He.exm_ok (c.fact 46 rfl)
  have gc_InvalidGains : mg "InvalidGains" = some (.ref (He.ga K "InvalidGains")) := He.glo_ok KX G (c.fact 41 rfl)
  have ex_InvalidGains_InvalidModulus : PySem.W.exmOne K (.ref (He.ga K "InvalidGains")) (.ref (He.ga K "InvalidModulus")) = some false := He.exm_ok (c.fact 47 rfl)
  have gc_InvalidEdge : mg "InvalidEdge" = some (.ref (He.ga K "InvalidEdge")) := He.glo_ok KX G (c.fact 12 rfl)
  have ex_InvalidEdge_InvalidModulus : PySem.W.exmOne K (.ref (He.ga K "InvalidEdge")) (.ref (He.ga K "InvalidModulus")) = some false := He.exm_ok (c.fact 48 rfl)
  have z_repr : mg "repr" = none := He.free_ok KX G (c.fact 49 rfl)
  have z_isinstance : mg "isinstance" = none := He.free_ok KX G (c.fact 5 rfl)
  have z_ValueError : mg "ValueError" = none := He.free_ok KX G (c.fact 50 rfl)
  have hsm : smB K = true := List.all_eq_true.mp cx (exF[7]) (List.getElem_mem (by decide))
  have xv0 : XvL K ([("InvalidEdge" : Str), ("InvalidGains" : Str), ("InvalidModulus" : Str), ("InvalidSize" : Str)].map (He.ga K)) := xvL_of (List.all_eq_true.mp cx (exF[6]) (List.getElem_mem (by decide)))
  refine ⟨fd, FunD.bindsN F (fun _ _ _ _ _ _ us hl => match us, hl with | [_, _, _, _], _ => rfl), fn_dG (k := 7) F sc__law_refused (fun cdv A outer s H E hr hgu tk => ?_)⟩
  have hx : Passes (L2.CX P w) (cxOf (L2.CX P w) P w K mg base ["_law_door", "_law_web", "_law_old", "_law_part", "e"] d__law_refused.qual d__law_refused.scope (He.fAd K d__law_refused.at_) cdv A outer s H E) E := passes_call tk (fun _ _ _ _ z => z)
  have hu64 := hr.units
  have hu := hu_of hr
  exact dss_cons (Xc.ds_tryC (L := [("InvalidEdge" : Str), ("InvalidGains" : Str), ("InvalidModulus" : Str), ("InvalidSize" : Str)]) (cs := [.ref (He.ga K ("InvalidModulus" : Str))]) rfl rfl sc__law_refused.nd tk (fun W1 pn xe tk po => dss_one (ds_if (dt_eq hu64 (dv 0) de_int) (dss_one (ds_expr (DE.fz (de_call FO_reduced (hr.mono (by decide)) rfl g_f_reduced kp_reduced b_reduced tk (da_cons (dv 1) (da_cons (dv 3) da_nil)))))) (dss_one (ds_expr (DE.fz (de_call FO_reduced_gains (hr.mono (by decide)) rfl g_f_reduced_gains kp_reduced_gains b_reduced_gains tk (da_cons (dv 1) (da_cons (dv 2) (da_cons (dv 3) da_nil))))))))) (.as_ ⟨rfl, by decide, .inl gc_InvalidModulus⟩ rfl rfl (fun a oe cls dx pn hz hf => Xc.xss_of (Xc.xssk_one (Xc.xsk_ret (Xc.xe_and2 (Xc.xe_eq hu64 (Xc.xe_reprF hgu hu64 hsm rfl z_repr (Xc.xa_cons (Xc.xe_val (i := 4) xv0 hz hf (hlt := (by decide : 4 < List.length [("_law_door" : Str), ("_law_web" : Str), ("_law_old" : Str), ("_law_part" : Str), ("e" : Str)]))) Xc.xa_nil)) (Xc.xe_of (de_reprF hgu hu64 hsm rfl z_repr (da_cons (dv 3) da_nil)))) (Xc.xe_isx (i := 4) (tb := (Xc.isIn [("InvalidEdge" : Str), ("InvalidGains" : Str), ("InvalidModulus" : Str), ("InvalidSize" : Str)])) (Xc.isB_ok (List.all_eq_true.mp cx (exF[8]) (List.getElem_mem (by decide)))) (Xc.hd_ty) hz hf rfl z_isinstance (de_ty rfl z_ValueError (by decide +kernel)) (x := ("e" : Str))))))) (.nil)) (Xc.tok_cons gc_InvalidEdge (List.mem_cons_self) (⟨ex_InvalidEdge_InvalidModulus, trivial⟩) (Xc.tok_cons gc_InvalidGains (List.mem_cons_of_mem _ (List.mem_cons_self)) (⟨ex_InvalidGains_InvalidModulus, trivial⟩) (Xc.tok_cons gc_InvalidModulus (List.mem_cons_of_mem _ (List.mem_cons_of_mem _ (List.mem_cons_self))) (ex_InvalidModulus_InvalidModulus) (Xc.tok_cons gc_InvalidSize (List.mem_cons_of_mem _ (List.mem_cons_of_mem _ (List.mem_cons_of_mem _ (List.mem_cons_self)))) (⟨ex_InvalidSize_InvalidModulus, trivial⟩) (Xc.tok_nil)))))) (dss_one (ds_ret de_bl))
theorem sc_law : FnScope ["_law_script", "_law_k", "_law_pool_here", "_law_many", "_law_base_here", "_law_pairs_here", "_law_old", "_law_web", "_law_kept", "_law_good", "_law_part", "_law_less", "_law_found", "_law_odd", "_law_pair", "_law_one"] ["_law_script"] (defScope s_law) := ⟨rfl, rfl, rfl, by decide +kernel, rfl, by decide +kernel, by decide +kernel⟩
theorem ok_law {P : Program} {w : World} {K : PySem.W.Frag} {h : Heap} {mg : Str → Option Value} (KX : K.In h) (G : h.Ns mainGlobals mg) (c : He.SaysD fa fn K) (cx : (exF.all fun f => f K) = true) : ∃ fd, (∀ (s : Shared) (v : Value), BindsTo s fd ⟨[v], []⟩ [("_law_script", v)]) ∧ ∀ base : Heap, FnOkG P w K mg base CX0 9 (He.fAd K d_law.at_) fd ["_law_script"] (spL ⟨K, mg⟩ 1 F_law) := by
  obtain ⟨fd, F⟩ := c.def_ 32 (d := d_law) rfl
  refine ⟨fd, fun s v => FunD.bindsA (ps := ["_law_script"]) F (fun _ _ _ _ _ _ us hl => match us, hl with | [_], _ => rfl) s [v] rfl, fun base => ?_⟩
  have z_max : mg "max" = none := He.free_ok KX G (c.fact 51 rfl)
  have z_min : mg "min" = none := He.free_ok KX G (c.fact 52 rfl)
  have z_len : mg "len" = none := He.free_ok KX G (c.fact 0 rfl)
  have z_range : mg "range" = none := He.free_ok KX G (c.fact 4 rfl)
  obtain ⟨fd__law_pool, b__law_pool, FO__law_pool⟩ := ok__law_pool (P := P) (w := w) (base := base) KX G c cx
  have g_f__law_pool : mg "_law_pool" = some (.ref (He.ga K "_law_pool")) := He.glo_ok KX G (c.fact 53 rfl)
  have kp__law_pool : PySem.W.keepIn K (.ref (He.ga K "_law_pool")) = true := by
    obtain ⟨_, FF⟩ := c.def_ 25 (d := d__law_pool) rfl
    exact FF.kp
  obtain ⟨fd__law_take, b__law_take, FO__law_take⟩ := ok__law_take (P := P) (w := w) (base := base) KX G c cx
  have g_f__law_take : mg "_law_take" = some (.ref (He.ga K "_law_take")) := He.glo_ok KX G (c.fact 3 rfl)
  have kp__law_take : PySem.W.keepIn K (.ref (He.ga K "_law_take")) = true := by
    obtain ⟨_, FF⟩ := c.def_ 26 (d := d__law_take) rfl
    exact FF.kp
  obtain ⟨fd__law_base, b__law_base, FO__law_base⟩ := ok__law_base (P := P) (w := w) (base := base) KX G c cx
  have g_f__law_base : mg "_law_base" = some (.ref (He.ga K "_law_base")) := He.glo_ok KX G (c.fact 54 rfl)
  have kp__law_base : PySem.W.keepIn K (.ref (He.ga K "_law_base")) = true := by
    obtain ⟨_, FF⟩ := c.def_ 28 (d := d__law_base) rfl
    exact FF.kp
  obtain ⟨fd__law_pairs, b__law_pairs, FO__law_pairs⟩ := ok__law_pairs (P := P) (w := w) (base := base) KX G c cx
  have g_f__law_pairs : mg "_law_pairs" = some (.ref (He.ga K "_law_pairs")) := He.glo_ok KX G (c.fact 55 rfl)
  have kp__law_pairs : PySem.W.keepIn K (.ref (He.ga K "_law_pairs")) = true := by
    obtain ⟨_, FF⟩ := c.def_ 29 (d := d__law_pairs) rfl
    exact FF.kp
  obtain ⟨fd__law_residue, b__law_residue, FO__law_residue⟩ := ok__law_residue (P := P) (w := w) (base := base) KX G c cx
  have g_f__law_residue : mg "_law_residue" = some (.ref (He.ga K "_law_residue")) := He.glo_ok KX G (c.fact 56 rfl)
  have kp__law_residue : PySem.W.keepIn K (.ref (He.ga K "_law_residue")) = true := by
    obtain ⟨_, FF⟩ := c.def_ 27 (d := d__law_residue) rfl
    exact FF.kp
  obtain ⟨fd_Web___init__, b_Web___init__, FO_Web___init__⟩ := ok_Web___init__ (P := P) (w := w) (base := base) KX G c cx
  have gc_Web : mg "Web" = some (.ref (He.ga K "Web")) := He.glo_ok KX G (c.fact 22 rfl)
  have cl_Web : Cls K (He.ga K "Web") := He.cls_ok (c.fact 23 rfl)
  have k_Web : Mk K (He.ga K "Web") (He.ma K (He.ga K "Web") "__init__") := He.mkr_ok (c.fact 33 rfl)
  have z_repr : mg "repr" = none := He.free_ok KX G (c.fact 49 rfl)
  have m_Web___repr__ : Meth K (He.ga K "Web") "__repr__" (He.ma K (He.ga K "Web") "__repr__") := He.meth_ok (c.fact 57 rfl)
  have n_Web_own_size : NoAttr K (He.ga K "Web") "own_size" := He.noat_ok (c.fact 24 rfl)
  have n_Web_own_edges : NoAttr K (He.ga K "Web") "own_edges" := He.noat_ok (c.fact 25 rfl)
  have n_Web_own_modulus : NoAttr K (He.ga K "Web") "own_modulus" := He.noat_ok (c.fact 26 rfl)
  obtain ⟨fd__law_divisors, b__law_divisors, FO__law_divisors⟩ := ok__law_divisors (P := P) (w := w) (base := base) KX G c cx
  have g_f__law_divisors : mg "_law_divisors" = some (.ref (He.ga K "_law_divisors")) := He.glo_ok KX G (c.fact 58 rfl)
  have kp__law_divisors : PySem.W.keepIn K (.ref (He.ga K "_law_divisors")) = true := by
    obtain ⟨_, FF⟩ := c.def_ 30 (d := d__law_divisors) rfl
    exact FF.kp
  obtain ⟨fd_reduced, b_reduced, FO_reduced⟩ := ok_reduced (P := P) (w := w) (base := base) KX G c cx
  have g_f_reduced : mg "reduced" = some (.ref (He.ga K "reduced")) := He.glo_ok KX G (c.fact 43 rfl)
  have kp_reduced : PySem.W.keepIn K (.ref (He.ga K "reduced")) = true := by
    obtain ⟨_, FF⟩ := c.def_ 23 (d := d_reduced) rfl
    exact FF.kp
  have z_isinstance : mg "isinstance" = none := He.free_ok KX G (c.fact 5 rfl)
  obtain ⟨fd_Web___eq__, b_Web___eq__, FO_Web___eq__⟩ := ok_Web___eq__ (P := P) (w := w) (base := base) KX G c cx
  have m_Web___eq__ : Meth K (He.ga K "Web") "__eq__" (He.ma K (He.ga K "Web") "__eq__") := He.meth_ok (c.fact 59 rfl)
  obtain ⟨fd_reduced_gains, b_reduced_gains, FO_reduced_gains⟩ := ok_reduced_gains (P := P) (w := w) (base := base) KX G c cx
  have g_f_reduced_gains : mg "reduced_gains" = some (.ref (He.ga K "reduced_gains")) := He.glo_ok KX G (c.fact 44 rfl)
  have kp_reduced_gains : PySem.W.keepIn K (.ref (He.ga K "reduced_gains")) = true := by
    obtain ⟨_, FF⟩ := c.def_ 24 (d := d_reduced_gains) rfl
    exact FF.kp
  obtain ⟨fd__law_refused, b__law_refused, FO__law_refused⟩ := ok__law_refused (P := P) (w := w) (base := base) KX G c cx
  have g_f__law_refused : mg "_law_refused" = some (.ref (He.ga K "_law_refused")) := He.glo_ok KX G (c.fact 60 rfl)
  have kp__law_refused : PySem.W.keepIn K (.ref (He.ga K "_law_refused")) = true := by
    obtain ⟨_, FF⟩ := c.def_ 31 (d := d__law_refused) rfl
    exact FF.kp
  obtain ⟨fdW, FW⟩ := c.def_ 17 (d := d_Web___repr__) rfl
  have bW : Binds K fdW ["self"] [] := FunD.bindsN FW (fun _ _ _ _ _ _ us hl => match us, hl with | [_], _ => rfl)
  obtain ⟨its_kb_Web___init___2_modulus, kb_Web___init___2_modulus⟩ := FunD.kbindsD (ps := ["self", "size", "edges", "modulus"]) b_Web___init__ 3 ["modulus"] (fun us _ ws => us ++ ws) (by intro z; cases z) (fun r1 _ r3 => r1.append r3) (fun T kV doc pm an cdv ct us its ws l1 l2 l3 => match us, its, ws, l1, l2, l3 with | [_, _, _], [_], [_], _, _, _ => ⟨_, rfl, rfl⟩)
  refine fn_lG (k := 8) F sc_law (fun cdv A outer s H E hr hgu => ?_)
  have tk : Takes (cxOf CX0 P w K mg base ["_law_script", "_law_k", "_law_pool_here", "_law_many", "_law_base_here", "_law_pairs_here", "_law_old", "_law_web", "_law_kept", "_law_good", "_law_part", "_law_less", "_law_found", "_law_odd", "_law_pair", "_law_one"] d_law.qual d_law.scope (He.fAd K d_law.at_) cdv A outer s H E) (WF E0) := takes0
  have hx : Passes (L2.CX P w) (cxOf CX0 P w K mg base ["_law_script", "_law_k", "_law_pool_here", "_law_many", "_law_base_here", "_law_pairs_here", "_law_old", "_law_web", "_law_kept", "_law_good", "_law_part", "_law_less", "_law_found", "_law_odd", "_law_pair", "_law_one"] d_law.qual d_law.scope (He.fAd K d_law.at_) cdv A outer s H E) E0 := passL
  have hu64 := hr.units
  have hu := hu_of hr
  have c_Web : ∀ {Y : Cx}, Y.mg = mg → Y.K = K → ClsD Y "Web" (He.ga K "Web") := fun h1 h2 => ⟨by rw [h1]; exact gc_Web, by rw [h2]; exact cl_Web⟩
  exact dss_cons (ds_for hp_of rfl (di_range1 rfl z_range (da_cons (de_max2 rfl rfl z_max (da_cons de_int (da_cons (de_min2 rfl rfl z_min (da_cons de_int (da_cons (de_len rfl z_len (da_cons (dv 0) da_nil)) da_nil))) da_nil))) da_nil)) (gn 1 sc_law.nd) (dss_cons (st 2 sc_law.nd (de_call FO__law_pool (hr.mono (by decide)) rfl g_f__law_pool kp__law_pool b__law_pool tk (da_cons (dv 0) (da_cons (dv 1) da_nil)))) (dss_cons (st 3 sc_law.nd (DN.frz (dn_add de_int (DE.fz (de_call FO__law_take (hr.mono (by decide)) rfl g_f__law_take kp__law_take b__law_take tk (da_cons (dv 2) (da_cons de_int da_nil))))))) (dss_cons (st 4 sc_law.nd (DE.fz (de_call FO__law_base (hr.mono (by decide)) rfl g_f__law_base kp__law_base b__law_base tk (da_cons (dv 2) da_nil)))) (dss_cons (st 5 sc_law.nd (DE.fz (de_call FO__law_pairs (hr.mono (by decide)) rfl g_f__law_pairs kp__law_pairs b__law_pairs tk (da_cons (dv 2) (da_cons (dv 3) (da_cons de_int da_nil)))))) (dss_cons (ds_setLc (own := [(("_law_pair" : Str), 14)]) kN_frz rfl sc_law.nd (show _ from rfl) rfl (sw_true rfl rfl rfl (by decide +kernel)) (di_sq (dv 5)) (blkOk_by rfl) (fun _ _ _ _ _ => gn 14 sc_law.nd) (fun _ _ _ _ _ => dts_nil) (fun _ _ _ _ _ => DE.fz (de_call FO__law_residue (hr.mono (by decide)) rfl g_f__law_residue kp__law_residue b__law_residue takes0 (da_cons (dv 2) (da_cons (dv 4) da_nil)))) (rs_mem rfl)) (dss_cons (st 7 sc_law.nd (DE.fz (de_makeN (c_Web rfl rfl) k_Web FO_Web___init__ (hr.mono (by decide)) rfl kb_Web___init___2_modulus (fun d l z h1 h2 => by simp [h1, h2]) (fun B as v d vs zs l z r r1 r2 => .cons r (r1.app r2)) hx (da_cons (dv 3) (da_cons (dv 5) da_nil)) (dk_cons (dv 4) dk_nil)))) (dss_cons (st 8 sc_law.nd (de_reprO hgu (hr.mono (by decide)) (webR_of FW sc_Web___repr__ (.inl rfl) bW gc_Web cl_Web m_Web___repr__ n_Web_own_size n_Web_own_edges n_Web_own_modulus) rfl z_repr (da_cons (DN.frz (dn_lst (da_cons (dv 7) (da_cons (dv 6) da_nil)))) da_nil))) (dss_cons (st 9 sc_law.nd (DE.fz (de_call FO__law_divisors (hr.mono (by decide)) rfl g_f__law_divisors kp__law_divisors b__law_divisors tk (da_cons (dv 4) da_nil)))) (dss_cons (ds_for hp_of rfl (di_sq (dv 9)) (gn 10 sc_law.nd) (dss_cons (st 11 sc_law.nd (DE.fz (de_call FO_reduced (hr.mono (by decide)) rfl g_f_reduced kp_reduced b_reduced tk (da_cons (dv 7) (da_cons (dv 10) da_nil))))) (dss_cons (ds_if (dt_w (dw_or (dt_not (dt_truth (de_isO (c_Web rfl rfl) (isoB_ok (List.all_eq_true.mp cx (exF[4]) (List.getElem_mem (by decide)))) rfl z_isinstance rfl (dv 11)))) (dw_or1 (DT.fz (dt_neO (c_Web rfl rfl) FO_Web___eq__ (hr.mono (by decide)) b_Web___eq__ hx (isoB_ok (List.all_eq_true.mp cx (exF[4]) (List.getElem_mem (by decide)))).hne (isoB_ok (List.all_eq_true.mp cx (exF[4]) (List.getElem_mem (by decide)))).hm m_Web___eq__ (dv 11) (DE.fz (de_makeN (c_Web rfl rfl) k_Web FO_Web___init__ (hr.mono (by decide)) rfl kb_Web___init___2_modulus (fun d l z h1 h2 => by simp [h1, h2]) (fun B as v d vs zs l z r r1 r2 => .cons r (r1.app r2)) hx (da_cons (dv 3) (da_cons (dv 5) da_nil)) (dk_cons (dv 10) dk_nil)))))))) (dss_one (ds_ret de_bl)) dss_nil) (dss_cons (st 12 sc_law.nd (de_call FO_reduced_gains (hr.mono (by decide)) rfl g_f_reduced_gains kp_reduced_gains b_reduced_gains tk (da_cons (dv 7) (da_cons (dv 6) (da_cons (dv 10) da_nil))))) (dss_cons (ds_if (dt_ne hu64 (de_repr hgu hu64 rfl z_repr (da_cons (dv 12) da_nil)) (de_repr hgu hu64 rfl z_repr (da_cons (DN.frz (dn_lc (own := [(("_law_one" : Str), 15)]) rfl sc_law.nd (di_sq (dv 6)) (blkOk_by rfl) (fun _ _ _ _ _ => gn 15 sc_law.nd) (fun _ _ _ _ _ => dts_nil) (fun _ _ _ _ _ => de_mod (dv 15) (dv 10)) (rs_mem rfl))) da_nil))) (dss_one (ds_ret de_bl)) dss_nil) (dss_one (ds_expr (de_append (dv 12) (da_cons de_non da_nil))))))))) (dss_cons (st 13 sc_law.nd (DN.frz (dn_add (DN.frz (dn_lc (own := [(("_law_part" : Str), 10)]) rfl sc_law.nd (di_range2 rfl z_range (da_cons (de_neg de_int) (da_cons de_int da_nil))) (blkOk_by rfl) (fun _ _ _ _ _ => gn 10 sc_law.nd) (fun _ _ _ _ _ => dts_one (dt_notIn (dv 10) (dv 9))) (fun _ _ _ _ _ => dv 10) (rs_mem rfl))) (DN.frz (dn_lst (da_cons de_non (da_cons de_bl (da_cons de_bl (da_cons de_str (da_cons (DN.frz (dn_lst (da_cons de_int da_nil))) (da_cons (DN.frz (dn_tup (da_cons de_int da_nil))) (da_cons (de_pow de_int de_int) da_nil)))))))))))) (dss_cons (ds_for hp_of rfl (di_sq (dv 13)) (gn 10 sc_law.nd) (dss_one (ds_if (dt_w (dw_or (dt_not (dt_truth (DE.fz (de_callG FO__law_refused (hr.mono (by decide)) hgu rfl g_f__law_refused kp__law_refused b__law_refused tk (da_cons de_int (da_cons (dv 7) (da_cons (dv 6) (da_cons (dv 10) da_nil)))))))) (dw_or1 (dt_not (dt_truth (DE.fz (de_callG FO__law_refused (hr.mono (by decide)) hgu rfl g_f__law_refused kp__law_refused b__law_refused tk (da_cons de_int (da_cons (dv 7) (da_cons (dv 6) (da_cons (dv 10) da_nil))))))))))) (dss_one (ds_ret de_bl)) dss_nil))) (dss_one (ds_if (dt_ne hu64 (de_reprO hgu (hr.mono (by decide)) (webR_of FW sc_Web___repr__ (.inl rfl) bW gc_Web cl_Web m_Web___repr__ n_Web_own_size n_Web_own_edges n_Web_own_modulus) rfl z_repr (da_cons (DN.frz (dn_lst (da_cons (dv 7) (da_cons (dv 6) da_nil)))) da_nil)) (dv 8)) (dss_one (ds_ret de_bl)) dss_nil)))))))))))))) (dss_one (ds_ret de_bl))
end Lw

set_option Elab.async false
set_option linter.all false
set_option maxRecDepth 100000
set_option maxHeartbeats 1000000
/-! TL1: typed results, frames by slots, the judgements. -/
namespace TL
open PySem L2 DL
/-- what a deterministic piece gives -/
inductive E (α : Type) where
  | ok (a : α) | exc (c : Str) (d : D) | bad
abbrev W (α : Type) := (α → Prop) → (Str → D → Prop) → Prop
def E.bind {α β : Type} (e : E α) (k : α → E β) : E β := match e with
  | .ok a => k a
  | .exc c d => .exc c d
  | .bad => .bad
def E.tr {α : Type} (e : E α) (k : Str → D → E α) : E α := match e with
  | .ok a => .ok a
  | .exc c d => k c d
  | .bad => .bad
def E.wp {α : Type} (e : E α) : W α := fun Q X => match e with
  | .ok a => Q a
  | .exc c d => X c d
  | .bad => False
class Mo (m : Type → Type) where
  pur0 : {α : Type} → α → m α
  bnd0 : {α β : Type} → m α → (α → m β) → m β
  lft0 : {α : Type} → E α → m α
  tr0 : {α : Type} → m α → (Str → D → m α) → m α
  wp0 : {α : Type} → m α → W α
  pur_wp0 : ∀ {α : Type} {a : α} {Q : α → Prop} {X : Str → D → Prop}, wp0 (pur0 a) Q X → Q a
  bnd_wp0 : ∀ {α β : Type} {x : m α} {k : α → m β} {Q : β → Prop} {X : Str → D → Prop}, wp0 (bnd0 x k) Q X → wp0 x (fun a => wp0 (k a) Q X) X
  lft_wp0 : ∀ {α : Type} {x : E α} {Q : α → Prop} {X : Str → D → Prop}, wp0 (lft0 x) Q X → x.wp Q X
  tr_wp0 : ∀ {α : Type} {x : m α} {k : Str → D → m α} {Q : α → Prop} {X : Str → D → Prop}, wp0 (tr0 x k) Q X → wp0 x Q (fun c d => wp0 (k c d) Q X)
instance : Mo E where
  pur0 := E.ok
  bnd0 := E.bind
  lft0 := id
  tr0 := E.tr
  wp0 := E.wp
  pur_wp0 h := h
  bnd_wp0 {α β x k Q X} h := by cases x <;> exact h
  lft_wp0 h := h
  tr_wp0 {α x k Q X} h := by cases x <;> exact h
instance : Mo W where
  pur0 a := fun Q _ => Q a
  bnd0 x k := fun Q X => x (fun a => k a Q X) X
  lft0 e := e.wp
  tr0 x k := fun Q X => x Q (fun c d => k c d Q X)
  wp0 x := x
  pur_wp0 h := h
  bnd_wp0 h := h
  lft_wp0 h := h
  tr_wp0 h := h
namespace Mo
@[irreducible] def pur {m : Type → Type} [Mo m] {α : Type} (a : α) : m α := Mo.pur0 a
@[irreducible] def bnd {m : Type → Type} [Mo m] {α β : Type} (x : m α) (k : α → m β) : m β := Mo.bnd0 x k
@[irreducible] def lft {m : Type → Type} [Mo m] {α : Type} (x : E α) : m α := Mo.lft0 x
@[irreducible] def tr {m : Type → Type} [Mo m] {α : Type} (x : m α) (k : Str → D → m α) : m α := Mo.tr0 x k
@[irreducible] def wp {m : Type → Type} [Mo m] {α : Type} (x : m α) : W α := Mo.wp0 x
section
variable {m : Type → Type} [Mo m] {α β : Type} {Q : β → Prop} {X : Str → D → Prop}
theorem pur_wp {a : β} (h : wp (m := m) (pur a) Q X) : Q a := by unfold wp pur at h; exact Mo.pur_wp0 h
theorem bnd_wp {x : m α} {k : α → m β} (h : wp (bnd x k) Q X) : wp x (fun a => wp (k a) Q X) X := by unfold wp bnd at h; unfold wp; exact Mo.bnd_wp0 h
theorem lft_wp {x : E β} (h : wp (m := m) (lft x) Q X) : x.wp Q X := by unfold wp lft at h; exact Mo.lft_wp0 h
theorem tr_wp {x : m β} {k : Str → D → m β} (h : wp (tr x k) Q X) : wp x Q (fun c d => wp (k c d) Q X) := by unfold wp tr at h; unfold wp; exact Mo.tr_wp0 h
end
end Mo
open Mo (pur bnd lft)
theorem bndE {α β : Type} (x : E α) (k : α → E β) : bnd x k = x.bind k := by unfold bnd; rfl
theorem purE {α : Type} (a : α) : (pur a : E α) = .ok a := by unfold pur; rfl
theorem lftE {α : Type} (x : E α) : (lft x : E α) = x := by unfold lft; rfl
theorem trE {α : Type} (x : E α) (k : Str → D → E α) : Mo.tr x k = x.tr k := by unfold Mo.tr; rfl
theorem wpE {α : Type} (x : E α) : Mo.wp x = x.wp := by unfold Mo.wp; rfl
theorem lft_wpE {m : Type → Type} [Mo m] {β : Type} {Q : β → Prop} {X : Str → D → Prop} {x : E β} (h : Mo.wp (m := m) (lft x) Q X) : Mo.wp x Q X := by rw [wpE]; exact Mo.lft_wp h
theorem bndW {α β : Type} (x : W α) (k : α → W β) : bnd x k = fun Q X => x (fun a => k a Q X) X := by unfold bnd; rfl
theorem purW {α : Type} (a : α) : (pur a : W α) = fun Q _ => Q a := by unfold pur; rfl
theorem lftW {α : Type} (x : E α) : (lft x : W α) = x.wp := by unfold lft; rfl
theorem trW {α : Type} (x : W α) (k : Str → D → W α) : Mo.tr x k = fun Q X => x Q (fun c d => k c d Q X) := by unfold Mo.tr; rfl
theorem wpW {α : Type} (x : W α) : Mo.wp x = x := by unfold Mo.wp; rfl

/-- data of a type, as a tree without cells -/
class Enc (α : Type) where
  enc : α → D
  nr : ∀ (a : α) (n : Nat), rlt n (enc a) = true
open Enc (enc)
instance : Enc Int := ⟨D.int, fun _ _ => rfl⟩
instance : Enc Bool := ⟨D.bl, fun _ _ => rfl⟩
instance : Enc Str := ⟨D.str, fun _ _ => rfl⟩
instance : Enc Unit := ⟨fun _ => D.non, fun _ _ => rfl⟩
theorem nrs {α : Type} [Enc α] (n : Nat) : ∀ xs : List α, rlts n (xs.map enc) = true
  | [] => rfl
  | x :: xs => by simp [rlts, Enc.nr x n, nrs n xs]
instance {α : Type} [Enc α] : Enc (List α) := ⟨fun xs => .nd .lst (xs.map enc), fun xs n => by simp [rlt, nrs]⟩
instance {α β : Type} [Enc α] [Enc β] : Enc (α × β) := ⟨fun x => .nd .tup [enc x.1, enc x.2], fun x n => by simp [rlt, rlts, Enc.nr]⟩
structure T1 (α : Type) where
  a : α
  deriving DecidableEq
structure T3 (α β γ : Type) where
  a : α
  b : β
  c : γ
  deriving DecidableEq
structure T0 where
  deriving DecidableEq
instance : Enc T0 := ⟨fun _ => .nd .tup [], fun x n => by simp [rlt, rlts]⟩
instance {α : Type} [Enc α] : Enc (T1 α) := ⟨fun x => .nd .tup [enc x.a], fun x n => by simp [rlt, rlts, Enc.nr]⟩
instance {α β γ : Type} [Enc α] [Enc β] [Enc γ] : Enc (T3 α β γ) := ⟨fun x => .nd .tup [enc x.a, enc x.b, enc x.c], fun x n => by simp [rlt, rlts, Enc.nr]⟩
instance {α : Type} [Enc α] : Enc (Option α) := ⟨fun x => match x with | some a => enc a | none => .non, fun x n => by cases x <;> simp [rlt, Enc.nr]⟩
instance {α β : Type} [Enc α] [Enc β] : Enc (α ⊕ β) := ⟨fun x => match x with | .inl a => enc a | .inr b => enc b, fun x n => by cases x <;> simp [Enc.nr]⟩
/-- the pool's contents -/
def Pl (c : List D) : Prop := ∃ a b : Int, c = [.int a, .int b] ∧ 0 ≤ b ∧ b < 2147483648
def PoolAt (M : Store) (p : Nat) : Prop := ∃ c, M[p]? = some (.lst, c) ∧ Pl c
theorem PoolAt.lt {M : Store} {p : Nat} (h : PoolAt M p) : p < M.length := by
  obtain ⟨c, h, _⟩ := h
  exact (List.getElem?_eq_some_iff.mp h).1
theorem PoolAt.same {M M' : Store} {p : Nat} (h : PoolAt M p) (e : M'[p]? = M[p]?) : PoolAt M' p := by
  obtain ⟨c, h, q⟩ := h
  exact ⟨c, by rw [e]; exact h, q⟩
/-- a slot of the frame: anything, a value, an own cell, an own pool, the caller's pool -/
inductive SV where
  | any | val (d : D) | lc (t : Tg) (l : List D) | lpl | par (n : Nat) | pin (n : Nat) (t : Tg) (l : List D) | ro (n : Nat) (t : Tg) (l : List D) | tc (w : Str) (l q : List D)
def SV.cell : SV → Bool
  | .lc _ _ => true
  | .lpl => true
  | .par _ => true
  | .pin _ _ _ => true
  | .tc _ _ _ => true
  | _ => false
abbrev SV.v {α : Type} [Enc α] (a : α) : SV := .val (enc a)
abbrev SV.L {α : Type} [Enc α] (xs : List α) : SV := .lc .lst (xs.map enc)
/-- what a piece may change: pools alone -/
structure Chg (M M' : Store) : Prop where
  le : M.length ≤ M'.length
  same : ∀ k, k < M.length → M'[k]? = M[k]? ∨ PoolAt M' k
theorem Chg.refl (M : Store) : Chg M M := ⟨Nat.le_refl _, fun _ _ => .inl rfl⟩
theorem Chg.trans {M M1 M2 : Store} (h : Chg M M1) (k : Chg M1 M2) : Chg M M2 := ⟨Nat.le_trans h.le k.le, fun i hi => by
  rcases k.same i (Nat.lt_of_lt_of_le hi h.le) with e | e
  · rcases h.same i hi with e' | e'
    · exact .inl (e.trans e')
    · exact .inr (e'.same e)
  · exact .inr e⟩
theorem Chg.none (M : Store) : Chg [] M := ⟨by simp, fun k h => by simp at h⟩
/-- the caller's pools; a store to compare with -/
structure PX where
  pl : List Nat
  mr : Store
def SlotOk (pp : PX) (M0 : Store) (ns : Nat → Nat) (S : Lo) (M : Store) (i : Nat) : SV → Prop
  | .any => True
  | .val d => S[i]? = some (some d)
  | .lc t l => S[i]? = some (some (.ref (ns i))) ∧ M0.length ≤ ns i ∧ M[ns i]? = some (t, l)
  | .lpl => S[i]? = some (some (.ref (ns i))) ∧ M0.length ≤ ns i ∧ PoolAt M (ns i)
  | .par n => S[i]? = some (some (.ref n)) ∧ n ∈ pp.pl ∧ ns i = n
  | .pin n t l => S[i]? = some (some (.ref n)) ∧ ns i = n ∧ M0.length ≤ n ∧ M[n]? = some (t, l)
  | .ro n t l => S[i]? = some (some (.ref n)) ∧ n ∉ pp.pl ∧ M0[n]? = some (t, l)
  | .tc w l q => S[i]? = some (some (.nd .tup (.str w :: .ref (ns i) :: q))) ∧ M0.length ≤ ns i ∧ M[ns i]? = some (.lst, l)
structure Rel (pp : PX) (M0 : Store) (fs : List SV) (S : Lo) (M : Store) (ns : Nat → Nat) : Prop where
  len : S.length = fs.length
  le : M0.length ≤ M.length
  fr : ∀ k, k < M0.length → k ∉ pp.pl → M[k]? = M0[k]?
  pl : ∀ n ∈ pp.pl, n < M0.length ∧ PoolAt M n
  cg : Chg pp.mr M
  sl : ∀ i v, fs[i]? = some v → SlotOk pp M0 ns S M i v
  dj : ∀ i j u v, i ≠ j → fs[i]? = some u → fs[j]? = some v → u.cell = true → v.cell = true → ns i ≠ ns j
/-- the store but for pools -/
structure Fram (pp : List Nat) (M M' : Store) : Prop where
  le : M.length ≤ M'.length
  fr : ∀ k, k < M.length → k ∉ pp → M'[k]? = M[k]?
  pl : ∀ n ∈ pp, PoolAt M' n
section
variable {pp : PX} {M0 M M' : Store} {fs fs' : List SV} {S : Lo} {ns : Nat → Nat} {i j n : Nat} {t : Tg} {l : List D} {d : D}
theorem SlotOk.lt {v : SV} (r : Rel pp M0 fs S M ns) (h : SlotOk pp M0 ns S M i v) (hc : v.cell = true) : ns i < M.length := by
  cases v with
  | any => cases hc
  | val d => cases hc
  | lc t l => exact (List.getElem?_eq_some_iff.mp h.2.2).1
  | lpl => exact h.2.2.lt
  | par n => rw [h.2.2]; exact (r.pl n h.2.1).2.lt
  | pin n t l => rw [h.2.1]; exact (List.getElem?_eq_some_iff.mp h.2.2.2).1
  | ro n t l => cases hc
  | tc w l q => exact (List.getElem?_eq_some_iff.mp h.2.2).1
theorem Rel.grd_ {c : Tg × List D} (r : Rel pp M0 fs S M ns) (hn : n ∉ pp.pl) (hc : M0[n]? = some c) : M[n]? = some c := by rw [r.fr n (List.getElem?_eq_some_iff.mp hc).1 hn]; exact hc
theorem Rel.fram (r : Rel pp M0 fs S M ns) : Fram pp.pl M0 M := ⟨r.le, r.fr, fun n h => (r.pl n h).2⟩
/-- the store has changed, no cell of the frame has, but for pools -/
theorem Rel.store (r : Rel pp M0 fs S M ns) (hl : M.length ≤ M'.length) (hk : ∀ k, k < M.length → M'[k]? = M[k]?) : Rel pp M0 fs S M' ns := by
  refine ⟨r.len, Nat.le_trans r.le hl, fun k h1 h2 => by rw [hk k (Nat.lt_of_lt_of_le h1 r.le), r.fr k h1 h2], fun n hn => ?_, r.cg.trans ⟨hl, fun k h => .inl (hk k h)⟩, fun i v h => ?_, r.dj⟩
  · have := r.pl n hn
    exact ⟨this.1, this.2.same (hk n this.2.lt)⟩
  · have s := r.sl i v h
    cases v with
    | any => trivial
    | val d => exact s
    | lc t l => exact ⟨s.1, s.2.1, by rw [hk _ (s.lt r rfl)]; exact s.2.2⟩
    | lpl => exact ⟨s.1, s.2.1, s.2.2.same (hk _ (s.lt r rfl))⟩
    | par n => exact s
    | pin n t l => exact ⟨s.1, s.2.1, s.2.2.1, by rw [hk _ (by have := s.lt r rfl; rw [s.2.1] at this; exact this)]; exact s.2.2.2⟩
    | ro n t l => exact s
    | tc w l q => exact ⟨s.1, s.2.1, by rw [hk _ (s.lt r rfl)]; exact s.2.2⟩
theorem Rel.storeP (r : Rel pp M0 fs S M ns) {v : SV} (hv : fs[i]? = some v) (hp : v = .lpl ∨ ∃ n, v = .par n) (hl : M.length ≤ M'.length) (hk : ∀ k, k < M.length → k ≠ ns i → M'[k]? = M[k]?) (hq : PoolAt M' (ns i)) : Rel pp M0 fs S M' ns := by
  have sv := r.sl i v hv
  have hcv : v.cell = true := by rcases hp with rfl | ⟨n, rfl⟩ <;> rfl
  have ne : ∀ k, k < M0.length → k ∉ pp.pl → k ≠ ns i := fun k h1 h2 e => by
    rcases hp with rfl | ⟨n, rfl⟩
    · have := sv.2.1; omega
    · exact h2 (by rw [e, sv.2.2]; exact sv.2.1)
  refine ⟨r.len, Nat.le_trans r.le hl, fun k h1 h2 => by rw [hk k (Nat.lt_of_lt_of_le h1 r.le) (ne k h1 h2), r.fr k h1 h2], fun n hn => ?_, r.cg.trans ⟨hl, fun k h => ?_⟩, fun j u h => ?_, r.dj⟩
  · have := r.pl n hn
    by_cases e : n = ns i
    · exact ⟨this.1, by rw [e]; exact hq⟩
    · exact ⟨this.1, this.2.same (hk n this.2.lt e)⟩
  · by_cases e : k = ns i
    · exact .inr (by rw [e]; exact hq)
    · exact .inl (hk k h e)
  · have s := r.sl j u h
    by_cases e : j = i
    · subst e
      have := h.symm.trans hv
      cases this
      rcases hp with rfl | ⟨n, rfl⟩
      · exact ⟨s.1, s.2.1, hq⟩
      · exact s
    · have nj : u.cell = true → ns j ≠ ns i := fun hc => r.dj j i u v e h hv hc hcv
      cases u with
      | any => trivial
      | val d => exact s
      | lc t l => exact ⟨s.1, s.2.1, by rw [hk _ (s.lt r rfl) (nj rfl)]; exact s.2.2⟩
      | lpl => exact ⟨s.1, s.2.1, s.2.2.same (hk _ (s.lt r rfl) (nj rfl))⟩
      | par n => exact s
      | pin n t l => exact ⟨s.1, s.2.1, s.2.2.1, by rw [hk _ (by have := s.lt r rfl; rw [s.2.1] at this; exact this) (by have := nj rfl; rw [s.2.1] at this; exact this)]; exact s.2.2.2⟩
      | ro n t l => exact s
      | tc w l q => exact ⟨s.1, s.2.1, by rw [hk _ (s.lt r rfl) (nj rfl)]; exact s.2.2⟩
theorem get_set {α : Type} {l : List α} {i j : Nat} {a b : α} (h : (l.set i a)[j]? = some b) : (i = j ∧ a = b ∧ i < l.length) ∨ (i ≠ j ∧ l[j]? = some b) := by
  by_cases e : i = j
  · subst e
    have hl : i < l.length := by
      have := (List.getElem?_eq_some_iff.mp h).1
      simpa using this
    rw [List.getElem?_set_self hl] at h
    cases h
    exact .inl ⟨rfl, rfl, hl⟩
  · rw [List.getElem?_set_ne e] at h
    exact .inr ⟨e, h⟩
/-- a slot is set to a value -/
theorem Rel.setV (r : Rel pp M0 fs S M ns) : Rel pp M0 (fs.set i (.val d)) (S.set i (some d)) M ns := by
  refine ⟨by simp [r.len], r.le, r.fr, r.pl, r.cg, fun j v h => ?_, fun j k u v hn hu hv cu cv => ?_⟩
  · rcases get_set h with ⟨rfl, rfl, hl⟩ | ⟨hn, h⟩
    · exact List.getElem?_set_self (by rw [r.len]; exact hl)
    · have s := r.sl j v h
      have e : (S.set i (some d))[j]? = S[j]? := List.getElem?_set_ne hn
      cases v <;> first | trivial | (unfold SlotOk at s ⊢; rw [e]; exact s)
  · rcases get_set hu with ⟨_, rfl, _⟩ | ⟨_, hu⟩
    · cases cu
    · rcases get_set hv with ⟨_, rfl, _⟩ | ⟨_, hv⟩
      · cases cv
      · exact r.dj j k u v hn hu hv cu cv
/-- a slot gets a new cell -/
theorem Rel.setC (r : Rel pp M0 fs S M ns) (hn : M.length ≤ n) (hc : M'[n]? = some (t, l)) (hl : M.length ≤ M'.length) (hk : ∀ k, k < M.length → M'[k]? = M[k]?) :
    Rel pp M0 (fs.set i (.lc t l)) (S.set i (some (.ref n))) M' (fun j => if j = i then n else ns j) := by
  have r' := r.store hl hk
  refine ⟨by simp [r.len], r'.le, r'.fr, r'.pl, r'.cg, fun j v h => ?_, fun j k u v hn hu hv cu cv => ?_⟩
  · rcases get_set h with ⟨rfl, rfl, hl⟩ | ⟨hne, h⟩
    · exact ⟨by dsimp only; rw [if_pos rfl]; exact List.getElem?_set_self (by rw [r.len]; exact hl), by dsimp only; rw [if_pos rfl]; exact Nat.le_trans r.le hn, by dsimp only; rw [if_pos rfl]; exact hc⟩
    · have s := r'.sl j v h
      have e : (S.set i (some (.ref n)))[j]? = S[j]? := List.getElem?_set_ne hne
      have e2 : ¬ (j = i) := fun z => hne z.symm
      cases v <;> first | trivial | (unfold SlotOk at s ⊢; simp only [e, if_neg e2]; exact s)
  · have lt : ∀ a w, fs[a]? = some w → w.cell = true → ns a < M.length := fun a w h c => (r.sl a w h).lt r c
    rcases get_set hu with ⟨ei, rfl, _⟩ | ⟨ne1, hu⟩
    · rcases get_set hv with ⟨ej, rfl, _⟩ | ⟨ne2, hv⟩
      · omega
      · have := lt k v hv cv
        simp only [if_pos ei.symm, if_neg (Ne.symm ne2)]
        omega
    · rcases get_set hv with ⟨ej, rfl, _⟩ | ⟨ne2, hv⟩
      · have := lt j u hu cu
        simp only [if_pos ej.symm, if_neg (Ne.symm ne1)]
        omega
      · simp only [if_neg (Ne.symm ne1), if_neg (Ne.symm ne2)]
        exact r.dj j k u v hn hu hv cu cv
/-- a slot gets a new pool -/
theorem Rel.setP (r : Rel pp M0 fs S M ns) (hn : M.length ≤ n) (hc : PoolAt M' n) (hl : M.length ≤ M'.length) (hk : ∀ k, k < M.length → M'[k]? = M[k]?) :
    Rel pp M0 (fs.set i .lpl) (S.set i (some (.ref n))) M' (fun j => if j = i then n else ns j) := by
  have r' := r.store hl hk
  refine ⟨by simp [r.len], r'.le, r'.fr, r'.pl, r'.cg, fun j v h => ?_, fun j k u v hn hu hv cu cv => ?_⟩
  · rcases get_set h with ⟨rfl, rfl, hl⟩ | ⟨hne, h⟩
    · exact ⟨by dsimp only; rw [if_pos rfl]; exact List.getElem?_set_self (by rw [r.len]; exact hl), by dsimp only; rw [if_pos rfl]; exact Nat.le_trans r.le hn, by dsimp only; rw [if_pos rfl]; exact hc⟩
    · have s := r'.sl j v h
      have e : (S.set i (some (.ref n)))[j]? = S[j]? := List.getElem?_set_ne hne
      have e2 : ¬ (j = i) := fun z => hne z.symm
      cases v <;> first | trivial | (unfold SlotOk at s ⊢; simp only [e, if_neg e2]; exact s)
  · have lt : ∀ a w, fs[a]? = some w → w.cell = true → ns a < M.length := fun a w h c => (r.sl a w h).lt r c
    rcases get_set hu with ⟨ei, rfl, _⟩ | ⟨ne1, hu⟩
    · rcases get_set hv with ⟨ej, rfl, _⟩ | ⟨ne2, hv⟩
      · omega
      · have := lt k v hv cv
        simp only [if_pos ei.symm, if_neg (Ne.symm ne2)]
        omega
    · rcases get_set hv with ⟨ej, rfl, _⟩ | ⟨ne2, hv⟩
      · have := lt j u hu cu
        simp only [if_pos ej.symm, if_neg (Ne.symm ne1)]
        omega
      · simp only [if_neg (Ne.symm ne1), if_neg (Ne.symm ne2)]
        exact r.dj j k u v hn hu hv cu cv
/-- an own cell is written -/
theorem Rel.wr {t' : Tg} {l' : List D} (r : Rel pp M0 fs S M ns) (hm : pp.mr = []) (h : fs[i]? = some (.lc t l)) : Rel pp M0 (fs.set i (.lc t' l')) S (M.set (ns i) (t', l')) ns := by
  have s := r.sl i _ h
  have hi := (List.getElem?_eq_some_iff.mp h).1
  refine ⟨by simp [r.len], by simpa using r.le, fun k h1 h2 => ?_, fun n hn => ?_, by rw [hm]; exact Chg.none _, fun j v hj => ?_, fun j k u v hn hu hv cu cv => ?_⟩
  · rw [List.getElem?_set_ne (by have := s.2.1; omega)]; exact r.fr k h1 h2
  · have q := r.pl n hn
    exact ⟨q.1, q.2.same (List.getElem?_set_ne (by have := s.2.1; have := q.1; omega))⟩
  · rcases get_set hj with ⟨rfl, rfl, hl⟩ | ⟨hne, hj⟩
    · exact ⟨s.1, s.2.1, List.getElem?_set_self (s.lt r rfl)⟩
    · have sj := r.sl j v hj
      have nj : v.cell = true → (M.set (ns i) (t', l'))[ns j]? = M[ns j]? := fun hc => List.getElem?_set_ne (r.dj i j _ v hne h hj rfl hc)
      cases v with
      | any => trivial
      | val d => exact sj
      | lc t l => exact ⟨sj.1, sj.2.1, by rw [nj rfl]; exact sj.2.2⟩
      | lpl => exact ⟨sj.1, sj.2.1, sj.2.2.same (nj rfl)⟩
      | par n => exact sj
      | pin n t l => exact ⟨sj.1, sj.2.1, sj.2.2.1, by have := nj rfl; rw [sj.2.1] at this; rw [this]; exact sj.2.2.2⟩
      | ro n t l => exact sj
      | tc w l q => exact ⟨sj.1, sj.2.1, by rw [nj rfl]; exact sj.2.2⟩
  · rcases get_set hu with ⟨ei, rfl, _⟩ | ⟨ne1, hu⟩
    · subst ei
      rcases get_set hv with ⟨ej, rfl, _⟩ | ⟨ne2, hv⟩
      · omega
      · exact r.dj i k _ v hn h hv rfl cv
    · rcases get_set hv with ⟨ej, rfl, _⟩ | ⟨ne2, hv⟩
      · subst ej
        exact r.dj j i u _ hn hu h cu rfl
      · exact r.dj j k u v hn hu hv cu cv
/-- a pinned cell is written -/
theorem Rel.wrP {t' : Tg} {l' : List D} (r : Rel pp M0 fs S M ns) (hm : pp.mr = []) (h : fs[i]? = some (.pin n t l)) : Rel pp M0 (fs.set i (.pin n t' l')) S (M.set n (t', l')) ns := by
  have s := r.sl i _ h
  have hlt : n < M.length := (List.getElem?_eq_some_iff.mp s.2.2.2).1
  refine ⟨by simp [r.len], by simpa using r.le, fun k h1 h2 => ?_, fun c hn => ?_, by rw [hm]; exact Chg.none _, fun j v hj => ?_, fun j k u v hn hu hv cu cv => ?_⟩
  · rw [List.getElem?_set_ne (by have := s.2.2.1; omega)]; exact r.fr k h1 h2
  · have q := r.pl c hn
    exact ⟨q.1, q.2.same (List.getElem?_set_ne (by have := s.2.2.1; have := q.1; omega))⟩
  · rcases get_set hj with ⟨rfl, rfl, hl⟩ | ⟨hne, hj⟩
    · exact ⟨s.1, s.2.1, s.2.2.1, List.getElem?_set_self hlt⟩
    · have sj := r.sl j v hj
      have nj : v.cell = true → (M.set n (t', l'))[ns j]? = M[ns j]? := fun hc => List.getElem?_set_ne (by have := r.dj i j _ v hne h hj rfl hc; rw [s.2.1] at this; exact this)
      cases v with
      | any => trivial
      | val d => exact sj
      | lc t l => exact ⟨sj.1, sj.2.1, by rw [nj rfl]; exact sj.2.2⟩
      | lpl => exact ⟨sj.1, sj.2.1, sj.2.2.same (nj rfl)⟩
      | par n => exact sj
      | pin c t l => exact ⟨sj.1, sj.2.1, sj.2.2.1, by have := nj rfl; rw [sj.2.1] at this; rw [this]; exact sj.2.2.2⟩
      | ro n t l => exact sj
      | tc w l q => exact ⟨sj.1, sj.2.1, by rw [nj rfl]; exact sj.2.2⟩
  · rcases get_set hu with ⟨ei, rfl, _⟩ | ⟨ne1, hu⟩
    · subst ei
      rcases get_set hv with ⟨ej, rfl, _⟩ | ⟨ne2, hv⟩
      · omega
      · exact r.dj i k _ v hn h hv rfl cv
    · rcases get_set hv with ⟨ej, rfl, _⟩ | ⟨ne2, hv⟩
      · subst ej
        exact r.dj j i u _ hn hu h cu rfl
      · exact r.dj j k u v hn hu hv cu cv
/-- a cell is pinned, and let go -/
theorem Rel.pin (r : Rel pp M0 fs S M ns) (h : fs[i]? = some (.lc t l)) : Rel pp M0 (fs.set i (.pin (ns i) t l)) S M ns := by
  have s := r.sl i _ h
  refine ⟨by simp [r.len], r.le, r.fr, r.pl, r.cg, fun j v hj => ?_, fun j k u v hn hu hv cu cv => ?_⟩
  · rcases get_set hj with ⟨rfl, rfl, hl⟩ | ⟨hne, hj⟩
    · exact ⟨s.1, rfl, s.2.1, s.2.2⟩
    · exact r.sl j v hj
  · rcases get_set hu with ⟨ei, rfl, _⟩ | ⟨ne1, hu⟩
    · subst ei
      rcases get_set hv with ⟨ej, rfl, _⟩ | ⟨ne2, hv⟩
      · omega
      · exact r.dj i k _ v hn h hv rfl cv
    · rcases get_set hv with ⟨ej, rfl, _⟩ | ⟨ne2, hv⟩
      · subst ej
        exact r.dj j i u _ hn hu h cu rfl
      · exact r.dj j k u v hn hu hv cu cv
theorem Rel.unpin (r : Rel pp M0 fs S M ns) (h : fs[i]? = some (.pin n t l)) : Rel pp M0 (fs.set i (.lc t l)) S M ns := by
  have s := r.sl i _ h
  refine ⟨by simp [r.len], r.le, r.fr, r.pl, r.cg, fun j v hj => ?_, fun j k u v hn hu hv cu cv => ?_⟩
  · rcases get_set hj with ⟨rfl, rfl, hl⟩ | ⟨hne, hj⟩
    · exact ⟨by rw [s.2.1]; exact s.1, by rw [s.2.1]; exact s.2.2.1, by rw [s.2.1]; exact s.2.2.2⟩
    · exact r.sl j v hj
  · rcases get_set hu with ⟨ei, rfl, _⟩ | ⟨ne1, hu⟩
    · subst ei
      rcases get_set hv with ⟨ej, rfl, _⟩ | ⟨ne2, hv⟩
      · omega
      · exact r.dj i k _ v hn h hv rfl cv
    · rcases get_set hv with ⟨ej, rfl, _⟩ | ⟨ne2, hv⟩
      · subst ej
        exact r.dj j i u _ hn hu h cu rfl
      · exact r.dj j k u v hn hu hv cu cv
/-- less is known -/
def Wk : List SV → List SV → Prop
  | [], [] => True
  | a :: as, b :: bs => (b = .any ∨ b = a) ∧ Wk as bs
  | _, _ => False
theorem Wk.len : ∀ {fs fs' : List SV}, Wk fs fs' → fs'.length = fs.length
  | [], [], _ => rfl
  | _ :: _, _ :: _, h => by simp [Wk.len h.2]
theorem Wk.get : ∀ {fs fs' : List SV} {i : Nat} {v : SV}, Wk fs fs' → fs'[i]? = some v → v = .any ∨ fs[i]? = some v
  | [], [], _, _, _, h => by simp at h
  | a :: as, b :: bs, 0, v, w, h => by
    simp at h; subst h
    rcases w.1 with e | e
    · exact .inl e
    · exact .inr (by simp [e])
  | a :: as, b :: bs, i + 1, v, w, h => by
    rcases Wk.get (i := i) w.2 (by simpa using h) with e | e
    · exact .inl e
    · exact .inr (by simpa using e)
theorem Rel.wk (r : Rel pp M0 fs S M ns) (w : Wk fs fs') : Rel pp M0 fs' S M ns := by
  refine ⟨by rw [w.len, r.len], r.le, r.fr, r.pl, r.cg, fun i v h => ?_, fun i j u v hn hu hv cu cv => ?_⟩
  · rcases w.get h with rfl | h
    · trivial
    · exact r.sl i v h
  · rcases w.get hu with rfl | hu
    · cases cu
    · rcases w.get hv with rfl | hv
      · cases cv
      · exact r.dj i j u v hn hu hv cu cv
theorem Wk.refl : ∀ fs : List SV, Wk fs fs
  | [] => trivial
  | _ :: fs => ⟨.inr rfl, Wk.refl fs⟩
end
/-- an outcome, what holds of it -/
def Sim {A : Type} (o : Out A) (k : A → Store → Prop) (x : Str → D → Store → Prop) : Prop := match o with
  | .ok a M => k a M
  | .exc c d M => x c d M
  | .stuck => False
theorem Sim.bnd {A B : Type} {m : Ev A} {f : A → Ev B} {M : Store} {k : B → Store → Prop} {x : Str → D → Store → Prop} (h : Sim (m M) (fun a M' => Sim (f a M') k x) x) : Sim ((m.bnd f) M) k x := by
  unfold Ev.bnd
  cases e : m M with
  | ok a M' => rw [e] at h; exact h
  | exc c d M' => rw [e] at h; exact h
  | stuck => rw [e] at h; exact h
theorem Sim.ok {A : Type} {o : Out A} {k : A → Store → Prop} {x : Str → D → Store → Prop} {a : A} {M : Store} (e : o = .ok a M) (h : k a M) : Sim o k x := by rw [e]; exact h
theorem Sim.imp {A : Type} {o : Out A} {k k' : A → Store → Prop} {x x' : Str → D → Store → Prop} (h : Sim o k x) (hk : ∀ a M, k a M → k' a M) (hx : ∀ c d M, x c d M → x' c d M) : Sim o k' x' := by
  cases o with
  | ok a M => exact hk a M h
  | exc c d M => exact hx c d M h
  | stuck => exact h
/-! ### judgements -/
section
variable {m : Type → Type} [Mo m]
/-- a pure expression -/
def EP {α : Type} [Enc α] (fs : List SV) (e : Lo → Ev D) (v : α) : Prop := ∀ pp M0 S M ns, Rel pp M0 fs S M ns → e S M = .ok (enc v) M
/-- a pure test -/
def TP (fs : List SV) (e : Lo → Ev Bool) (v : Bool) : Prop := ∀ pp M0 S M ns, Rel pp M0 fs S M ns → e S M = .ok v M
/-- a view of a sequence or other node -/
def EV (fs : List SV) (e : Lo → Ev D) (t : Tg) (l : List D) : Prop := ∀ pp M0 S M ns, Rel pp M0 fs S M ns → ∃ d, e S M = .ok d M ∧ vw d M = .ok (t, l) M
/-- an expression -/
def EO {α : Type} [Enc α] (fs : List SV) (e : Lo → Ev D) (p : m α) : Prop := ∀ pp M0 S M ns, Rel pp M0 fs S M ns → ∀ Q X, Mo.wp p Q X →
  Sim (e S M) (fun d M' => ∃ v, d = enc v ∧ Q v ∧ Rel pp M0 fs S M' ns) (fun c d M' => X c d ∧ Rel pp M0 fs S M' ns)
def TO (fs : List SV) (e : Lo → Ev Bool) (p : m Bool) : Prop := ∀ pp M0 S M ns, Rel pp M0 fs S M ns → ∀ Q X, Mo.wp p Q X →
  Sim (e S M) (fun d M' => Q d ∧ Rel pp M0 fs S M' ns) (fun c d M' => X c d ∧ Rel pp M0 fs S M' ns)
/-- arguments -/
class EncL (τ : Type) where
  encL : τ → List D
open EncL (encL)
instance : EncL Unit := ⟨fun _ => []⟩
instance {α τ : Type} [Enc α] [EncL τ] : EncL (α × τ) := ⟨fun x => enc x.1 :: encL x.2⟩
def AP {τ : Type} [EncL τ] (fs : List SV) (e : Lo → Ev (List D)) (v : τ) : Prop := ∀ pp M0 S M ns, Rel pp M0 fs S M ns → e S M = .ok (encL v) M
def AO {τ : Type} [EncL τ] (fs : List SV) (e : Lo → Ev (List D)) (p : m τ) : Prop := ∀ pp M0 S M ns, Rel pp M0 fs S M ns → ∀ Q X, Mo.wp p Q X →
  Sim (e S M) (fun d M' => ∃ v, d = encL v ∧ Q v ∧ Rel pp M0 fs S M' ns) (fun c d M' => X c d ∧ Rel pp M0 fs S M' ns)
/-- a new node -/
def NP (fs : List SV) (e : Lo → Ev NR) (t : Tg) (l : List D) : Prop := ∀ pp M0 S M ns, Rel pp M0 fs S M ns → e S M = .ok (.n t l) M
def NO {α : Type} (fs : List SV) (e : Lo → Ev NR) (p : m α) (t : α → Tg) (l : α → List D) : Prop := ∀ pp M0 S M ns, Rel pp M0 fs S M ns → ∀ Q X, Mo.wp p Q X →
  Sim (e S M) (fun d M' => ∃ v, d = .n (t v) (l v) ∧ Q v ∧ Rel pp M0 fs S M' ns) (fun c d M' => X c d ∧ Rel pp M0 fs S M' ns)
/-- what must stand while a list is walked: it is the caller's -/
def GdOk (pp : PX) (M0 : Store) (g : Gd) : Prop := g = none ∨ ∃ n c, g = some (n, c) ∧ n ∉ pp.pl ∧ M0[n]? = some c
theorem GdOk.grd {pp : PX} {M0 : Store} {g : Gd} (h : GdOk pp M0 g) {fs : List SV} {S : Lo} {M : Store} {ns : Nat → Nat} (r : Rel pp M0 fs S M ns) : DL.grd g M := by
  rcases h with rfl | ⟨n, c, rfl, h1, h2⟩
  · trivial
  · exact r.grd_ h1 h2
/-- what is walked -/
def IP {α : Type} [Enc α] (fs : List SV) (e : Lo → Ev (List D × Gd)) (xs : List α) : Prop := ∀ pp M0 S M ns, Rel pp M0 fs S M ns → e S M = .ok (xs.map enc, none) M
def IO {α : Type} [Enc α] (fs : List SV) (e : Lo → Ev (List D × Gd)) (p : m (List α)) : Prop := ∀ pp M0 S M ns, Rel pp M0 fs S M ns → ∀ Q X, Mo.wp p Q X →
  Sim (e S M) (fun d M' => ∃ (v : List α) (g : Gd), d = (v.map enc, g) ∧ GdOk pp M0 g ∧ Q v ∧ Rel pp M0 fs S M' ns) (fun c d M' => X c d ∧ Rel pp M0 fs S M' ns)
/-- a block: ends as K says -/
def Blk {φ : Type} (pp : List Nat) (M0 : Store) (fs : List SV) (g : Lo → Ev Fl) (p : m φ) (K : φ → Fl → Store → Prop) : Prop := ∀ S M ns, Rel ⟨pp, []⟩ M0 fs S M ns → ∀ Q X, Mo.wp p Q X →
  Sim (g S M) (fun fl M' => match fl with
    | .xc c d _ => X c d ∧ Fram pp M0 M'
    | fl => ∃ f, Q f ∧ K f fl M') (fun _ _ _ => False)
/-- a returned value -/
def Res {ρ : Type} [Enc ρ] (cc : Bool) (pp : List Nat) (M0 : Store) (r : ρ) (d : D) (M' : Store) : Prop :=
  Fram pp M0 M' ∧ fz M' M0.length 9 d = some (enc r) ∧ (cc = true → ∃ n t l, d = .ref n ∧ M0.length ≤ n ∧ M'[n]? = some (t, l) ∧ enc r = .nd t l)
/-- a tail block -/
def KT {ρ : Type} [Enc ρ] (cc : Bool) (pp : List Nat) (M0 : Store) : ρ → Fl → Store → Prop := fun r fl M' => match fl with
  | .rt d => Res cc pp M0 r d M'
  | .nx _ => Res cc pp M0 r .non M'
  | _ => False
/-- a call -/
def Ret {ρ : Type} [Enc ρ] (cc : Bool) (pp : List Nat) (f : Ev D) (p : m ρ) : Prop := ∀ M, (∀ n ∈ pp, PoolAt M n) → ∀ Q X, Mo.wp p Q X →
  Sim (f M) (fun d M' => ∃ r, Q r ∧ Res cc pp M r d M') (fun c d M' => X c d ∧ Fram pp M M')
/-- flow of a block in a loop or a branch -/
inductive Fw (β ρ : Type) where
  | nx (b : β) | ct (b : β) | bk (b : β) | rt (r : ρ)
def KF {β ρ : Type} [Enc ρ] (cc : Bool) (pp : List Nat) (M0 : Store) (fs : β → List SV) : Fw β ρ → Fl → Store → Prop := fun w fl M' => match w, fl with
  | .nx b, .nx S => ∃ ns, Rel ⟨pp, []⟩ M0 (fs b) S M' ns
  | .ct b, .ct S => ∃ ns, Rel ⟨pp, []⟩ M0 (fs b) S M' ns
  | .bk b, .bk S => ∃ ns, Rel ⟨pp, []⟩ M0 (fs b) S M' ns
  | .rt r, .rt d => Res cc pp M0 r d M'
  | _, _ => False
/-- a block that goes on -/
def KN {β : Type} (pp : List Nat) (M0 : Store) (fs : β → List SV) : β → Fl → Store → Prop := fun b fl M' => match fl with
  | .nx S => ∃ ns, Rel ⟨pp, []⟩ M0 (fs b) S M' ns
  | _ => False
end
end TL

set_option Elab.async false
set_option linter.all false
set_option maxRecDepth 100000
set_option maxHeartbeats 1000000
/-! TL2: rules for expressions. -/
namespace TL
open PySem L2 DL
open Mo (pur bnd lft)
open Enc (enc)
open EncL (encL)
theorem bok {α β : Type} {m : Ev α} {k : α → Ev β} {M M1 : Store} {a : α} (h : m M = .ok a M1) : (m.bnd k) M = k a M1 := by
  simp only [Ev.bnd, h, Out.bnd]
section
variable {m : Type → Type} [Mo m] {fs : List SV} {α β γ τ : Type} [Enc α] [Enc β] [Enc γ] [EncL τ]
theorem EP.eo {e : Lo → Ev D} {v : α} (h : EP fs e v) : EO (m := m) fs e (pur v) := fun pp M0 S M ns r Q X w => Sim.ok (h pp M0 S M ns r) ⟨v, rfl, Mo.pur_wp w, r⟩
theorem TP.to {e : Lo → Ev Bool} {v : Bool} (h : TP fs e v) : TO (m := m) fs e (pur v) := fun pp M0 S M ns r Q X w => Sim.ok (h pp M0 S M ns r) ⟨Mo.pur_wp w, r⟩
theorem AP.ao {e : Lo → Ev (List D)} {v : τ} (h : AP fs e v) : AO (m := m) fs e (pur v) := fun pp M0 S M ns r Q X w => Sim.ok (h pp M0 S M ns r) ⟨v, rfl, Mo.pur_wp w, r⟩
theorem IP.io {e : Lo → Ev (List D × Gd)} {v : List α} (h : IP fs e v) : IO (m := m) fs e (pur v) := fun pp M0 S M ns r Q X w => Sim.ok (h pp M0 S M ns r) ⟨v, none, rfl, .inl rfl, Mo.pur_wp w, r⟩
/-! ### variables, constants, views -/
theorem ep_var (i : Nat) {v : α} (h : fs[i]? = some (.val (enc v))) : EP fs (eVar i) v := fun pp M0 S M ns r => by
  have := r.sl i _ h
  unfold SlotOk at this
  unfold eVar
  rw [this]
  rfl
theorem ep_c {d : D} {v : α} (h : d = enc v) : EP fs (eC d) v := fun _ _ _ _ _ _ => by rw [h]; rfl
theorem EP.ev {e : Lo → Ev D} {v : α} {t : Tg} {l : List D} (h : EP fs e v) (hv : enc v = .nd t l) : EV fs e t l := fun pp M0 S M ns r => ⟨_, h pp M0 S M ns r, by rw [hv]; rfl⟩
theorem ev_pin (i : Nat) {n : Nat} {t : Tg} {l : List D} (h : fs[i]? = some (.pin n t l)) : EV fs (eVar i) t l := fun pp M0 S M ns r => by
  obtain ⟨h1, h2, h3, h4⟩ := r.sl i _ h
  refine ⟨.ref n, ?_, ?_⟩
  · unfold eVar; rw [h1]; rfl
  · unfold vw; simp only [h4]
theorem EP.ls {e : Lo → Ev D} {xs : List α} (h : EP fs e xs) : EV fs e .lst (xs.map enc) := h.ev rfl
/-! ### operations -/
def OpM {α : Type} [Enc α] (o : Out D) (M : Store) (p : E α) : Prop := match p with
  | .ok v => o = .ok (enc v) M
  | .exc c d => o = .exc c d M
  | .bad => True
def OpE (f : Ev D) (p : E α) : Prop := ∀ M, OpM (f M) M p
theorem OpE.ret {f : Ev D} {v : α} (h : f = Ev.ret (enc v)) : OpE f (.ok v) := fun M => by rw [h]; rfl
theorem OpE.sim {f : Ev D} {p : E α} (h : OpE f p) {M : Store} {Q : α → Prop} {X : Str → D → Prop} (w : p.wp Q X) : Sim (f M) (fun d M' => ∃ v, d = enc v ∧ Q v ∧ M' = M) (fun c d M' => X c d ∧ M' = M) := by
  have h := h M
  cases p with
  | ok v => exact Sim.ok h ⟨v, rfl, w, rfl⟩
  | exc c d => rw [h]; exact ⟨w, rfl⟩
  | bad => exact w.elim
theorem ep_2 {op : D → D → Ev D} {a b : Lo → Ev D} {x : α} {y : β} {z : γ} (ha : EP fs a x) (hb : EP fs b y) (ho : op (enc x) (enc y) = Ev.ret (enc z)) : EP fs (e2 op a b) z := fun pp M0 S M ns r => by
  unfold e2
  rw [bok (ha pp M0 S M ns r), bok (hb pp M0 S M ns r), ho]
  rfl
theorem eo_2p {op : D → D → Ev D} {a b : Lo → Ev D} {x : α} {y : β} {p : E γ} (ha : EP fs a x) (hb : EP fs b y) (ho : OpE (op (enc x) (enc y)) p) : EO (m := m) fs (e2 op a b) (lft p) := fun pp M0 S M ns r Q X w => by
  refine Sim.bnd (Sim.ok (ha pp M0 S M ns r) (Sim.bnd (Sim.ok (hb pp M0 S M ns r) ?_)))
  exact (ho.sim (M := M) (Mo.lft_wp w)).imp (fun d M' ⟨v, e, q, e2⟩ => ⟨v, e, q, e2 ▸ r⟩) (fun c d M' ⟨q, e2⟩ => ⟨q, e2 ▸ r⟩)
theorem eo_2 {op : D → D → Ev D} {a b : Lo → Ev D} {pa : m α} {pb : m β} {po : α → β → E γ} (ha : EO fs a pa) (hb : EO fs b pb) (ho : ∀ x y, OpE (op (enc x) (enc y)) (po x y)) : EO fs (e2 op a b) (bnd pa fun x => bnd pb fun y => lft (po x y)) := fun pp M0 S M ns r Q X w => by
  refine Sim.bnd ((ha pp M0 S M ns r _ _ (Mo.bnd_wp w)).imp (fun d M1 ⟨x, e, w, r⟩ => ?_) (fun _ _ _ h => h))
  subst e
  refine Sim.bnd ((hb pp M0 S M1 ns r _ _ (Mo.bnd_wp w)).imp (fun d M2 ⟨y, e, w, r⟩ => ?_) (fun _ _ _ h => h))
  subst e
  exact ((ho x y).sim (M := M2) (Mo.lft_wp w)).imp (fun d M' ⟨v, e, q, e2⟩ => ⟨v, e, q, e2 ▸ r⟩) (fun c d M' ⟨q, e2⟩ => ⟨q, e2 ▸ r⟩)
theorem ep_1 {op : D → Ev D} {a : Lo → Ev D} {x : α} {z : γ} (ha : EP fs a x) (ho : op (enc x) = Ev.ret (enc z)) : EP fs (e1 op a) z := fun pp M0 S M ns r => by
  unfold e1 Ev.bnd
  rw [ha pp M0 S M ns r]
  dsimp only [Out.bnd]
  rw [ho]
  rfl
/-- an operation on a view and a value -/
theorem ep_v2 {op : D → D → Ev D} {a b : Lo → Ev D} {t : Tg} {l : List D} {y : β} {z : γ} (ha : EV fs a t l) (hb : EP fs b y) (ho : ∀ d M, vw d M = .ok (t, l) M → op d (enc y) M = .ok (enc z) M) : EP fs (e2 op a b) z := fun pp M0 S M ns r => by
  obtain ⟨d, h1, h2⟩ := ha pp M0 S M ns r
  unfold e2 Ev.bnd
  rw [h1]
  dsimp only [Out.bnd]
  rw [hb pp M0 S M ns r]
  exact ho d M h2
def OpV {α : Type} [Enc α] (f : D → Ev D) (t : Tg) (l : List D) (p : E α) : Prop := ∀ d M, vw d M = .ok (t, l) M → OpM (f d M) M p
theorem OpV.sim {f : D → Ev D} {t : Tg} {l : List D} {p : E α} (h : OpV f t l p) {d : D} {M : Store} (hd : vw d M = .ok (t, l) M) {Q : α → Prop} {X : Str → D → Prop} (w : p.wp Q X) : Sim (f d M) (fun d M' => ∃ v, d = enc v ∧ Q v ∧ M' = M) (fun c d M' => X c d ∧ M' = M) := by
  have h := h d M hd
  cases p with
  | ok v => exact Sim.ok h ⟨v, rfl, w, rfl⟩
  | exc c d => rw [h]; exact ⟨w, rfl⟩
  | bad => exact w.elim
theorem eo_v2p {op : D → D → Ev D} {a b : Lo → Ev D} {t : Tg} {l : List D} {y : β} {p : E γ} (ha : EV fs a t l) (hb : EP fs b y) (ho : OpV (fun d => op d (enc y)) t l p) : EO (m := m) fs (e2 op a b) (lft p) := fun pp M0 S M ns r Q X w => by
  obtain ⟨d, h1, h2⟩ := ha pp M0 S M ns r
  refine Sim.bnd (Sim.ok h1 (Sim.bnd (Sim.ok (hb pp M0 S M ns r) ?_)))
  exact (ho.sim h2 (Mo.lft_wp w)).imp (fun d M' ⟨v, e, q, e2⟩ => ⟨v, e, q, e2 ▸ r⟩) (fun c d M' ⟨q, e2⟩ => ⟨q, e2 ▸ r⟩)
/-! ### arguments -/
theorem ap_nil : AP fs eA0 () := fun _ _ _ _ _ _ => rfl
theorem ap_cons {a : Lo → Ev D} {r : Lo → Ev (List D)} {x : α} {v : τ} (ha : EP fs a x) (hr : AP fs r v) : AP fs (eAc a r) (x, v) := fun pp M0 S M ns rl => by
  unfold eAc Ev.bnd
  rw [ha pp M0 S M ns rl]
  dsimp only [Out.bnd]
  rw [hr pp M0 S M ns rl]
  rfl
theorem ao_cons {a : Lo → Ev D} {r : Lo → Ev (List D)} {x : m α} {v : m τ} (ha : EO fs a x) (hr : AO fs r v) : AO fs (eAc a r) (bnd x fun x => bnd v fun v => pur (x, v)) := fun pp M0 S M ns rl Q X w => by
  refine Sim.bnd ((ha pp M0 S M ns rl _ _ (Mo.bnd_wp w)).imp (fun d M1 ⟨x, e, w, rl⟩ => ?_) (fun _ _ _ h => h))
  subst e
  refine Sim.bnd ((hr pp M0 S M1 ns rl _ _ (Mo.bnd_wp w)).imp (fun d M1 ⟨v, e, w, rl⟩ => ?_) (fun _ _ _ h => h))
  subst e
  exact ⟨(x, v), rfl, Mo.pur_wp w, rl⟩
/-! ### tests -/
theorem tp_b {e : Lo → Ev D} {v : Bool} (h : EP fs e v) : TP fs (eB e) v := fun pp M0 S M ns r => by
  unfold eB Ev.bnd
  rw [h pp M0 S M ns r]
  rfl
theorem to_b {e : Lo → Ev D} {p : m Bool} (h : EO fs e p) : TO fs (eB e) p := fun pp M0 S M ns r Q X w => by
  refine Sim.bnd ((h pp M0 S M ns r _ _ w).imp (fun d M1 ⟨x, e, w, r⟩ => ?_) (fun _ _ _ h => h))
  subst e
  exact ⟨w, r⟩
theorem tp_or {a b : Lo → Ev Bool} {x y : Bool} (ha : TP fs a x) (hb : TP fs b y) : TP fs (eOr a b) (x || y) := fun pp M0 S M ns r => by
  unfold eOr Ev.bnd
  rw [ha pp M0 S M ns r]
  dsimp only [Out.bnd]
  cases x
  · rw [if_neg (by decide), hb pp M0 S M ns r]; rfl
  · rfl
theorem tp_not {a : Lo → Ev Bool} {x : Bool} (ha : TP fs a x) : TP fs (eNot a) (!x) := fun pp M0 S M ns r => by
  unfold eNot Ev.bnd
  rw [ha pp M0 S M ns r]
  rfl
theorem to_or {a b : Lo → Ev Bool} {pa pb : m Bool} (ha : TO fs a pa) (hb : TO fs b pb) : TO fs (eOr a b) (bnd pa fun x => if x = true then pur true else pb) := fun pp M0 S M ns r Q X w => by
  refine Sim.bnd ((ha pp M0 S M ns r _ _ (Mo.bnd_wp w)).imp (fun x M1 ⟨w, r⟩ => ?_) (fun _ _ _ h => h))
  cases x
  · rw [if_neg (by decide)] at w; rw [if_neg (by decide)]; exact hb pp M0 S M1 ns r _ _ w
  · rw [if_pos rfl] at w; rw [if_pos rfl]; exact ⟨Mo.pur_wp w, r⟩
theorem to_not {a : Lo → Ev Bool} {pa : m Bool} (ha : TO fs a pa) : TO fs (eNot a) (bnd pa fun x => pur (!x)) := fun pp M0 S M ns r Q X w => by
  refine Sim.bnd ((ha pp M0 S M ns r _ _ (Mo.bnd_wp w)).imp (fun x M1 ⟨w, r⟩ => ?_) (fun _ _ _ h => h))
  exact ⟨Mo.pur_wp w, r⟩
theorem ep_and {a b : Lo → Ev D} {x y : Bool} (ha : EP fs a x) (hb : EP fs b y) : EP fs (eAndV a b) (x && y) := fun pp M0 S M ns r => by
  unfold eAndV Ev.bnd
  rw [ha pp M0 S M ns r]
  cases x
  · rfl
  · show (if true = true then b S else Ev.ret (.bl false)) M = _
    rw [if_pos rfl, hb pp M0 S M ns r]; rfl
theorem ep_not {a : Lo → Ev D} {x : Bool} (ha : EP fs a x) : EP fs (eNotV a) (!x) := fun pp M0 S M ns r => by
  unfold eNotV Ev.bnd
  rw [ha pp M0 S M ns r]
  rfl
theorem eo_and {a b : Lo → Ev D} {pa pb : m Bool} (ha : EO fs a pa) (hb : EO fs b pb) : EO fs (eAndV a b) (bnd pa fun x => if x = true then pb else pur false) := fun pp M0 S M ns r Q X w => by
  refine Sim.bnd ((ha pp M0 S M ns r _ _ (Mo.bnd_wp w)).imp (fun d M1 ⟨x, e, w, r⟩ => ?_) (fun _ _ _ h => h))
  subst e
  cases x
  · rw [if_neg (by decide)] at w; exact ⟨false, rfl, Mo.pur_wp w, r⟩
  · rw [if_pos rfl] at w; exact hb pp M0 S M1 ns r _ _ w
theorem eo_not {a : Lo → Ev D} {pa : m Bool} (ha : EO fs a pa) : EO fs (eNotV a) (bnd pa fun x => pur (!x)) := fun pp M0 S M ns r Q X w => by
  refine Sim.bnd ((ha pp M0 S M ns r _ _ (Mo.bnd_wp w)).imp (fun d M1 ⟨x, e, w, r⟩ => ?_) (fun _ _ _ h => h))
  subst e
  exact ⟨!x, rfl, Mo.pur_wp w, r⟩
theorem eo_if {c : Lo → Ev Bool} {a b : Lo → Ev D} {z : m Bool} {x y : m α} (hc : TO fs c z) (ha : EO fs a x) (hb : EO fs b y) : EO fs (eIf c a b) (bnd z fun z => if z = true then x else y) := fun pp M0 S M ns r Q X w => by
  refine Sim.bnd ((hc pp M0 S M ns r _ _ (Mo.bnd_wp w)).imp (fun z M1 ⟨w, r⟩ => ?_) (fun _ _ _ h => h))
  cases z
  · exact hb pp M0 S M1 ns r _ _ w
  · exact ha pp M0 S M1 ns r _ _ w
theorem tp_tru {e : Lo → Ev D} {v : Bool} (h : EP fs e v) : TP fs (eTru e) v := fun pp M0 S M ns r => by
  unfold eTru Ev.bnd
  rw [h pp M0 S M ns r]
  rfl
theorem to_tru {e : Lo → Ev D} {p : m Bool} (h : EO fs e p) : TO fs (eTru e) p := fun pp M0 S M ns r Q X w => by
  refine Sim.bnd ((h pp M0 S M ns r _ _ w).imp (fun d M1 ⟨x, e, w, r⟩ => ?_) (fun _ _ _ h => h))
  subst e
  exact ⟨w, r⟩
/-! ### numbers -/
theorem ep_add {a b : Lo → Ev D} {x y : Int} (ha : EP fs a x) (hb : EP fs b y) : EP fs (eF (n2 addN a b)) (x + y) := fun pp M0 S M ns r => by
  unfold eF n2 Ev.bnd
  rw [ha pp M0 S M ns r]
  dsimp only [Out.bnd]
  rw [hb pp M0 S M ns r]
  rfl
theorem eo_add {a b : Lo → Ev D} {pa pb : m Int} (ha : EO fs a pa) (hb : EO fs b pb) : EO fs (eF (n2 addN a b)) (bnd pa fun x => bnd pb fun y => pur (x + y)) := fun pp M0 S M ns r Q X w => by
  refine Sim.bnd (Sim.bnd ((ha pp M0 S M ns r _ _ (Mo.bnd_wp w)).imp (fun d M1 ⟨x, e, w, r⟩ => ?_) (fun _ _ _ h => h)))
  subst e
  refine Sim.bnd ((hb pp M0 S M1 ns r _ _ (Mo.bnd_wp w)).imp (fun d M2 ⟨y, e, w, r⟩ => ?_) (fun _ _ _ h => h))
  subst e
  exact ⟨x + y, rfl, Mo.pur_wp w, r⟩
theorem o_sub (x y : Int) : subE (enc x) (enc y) = Ev.ret (enc (x - y)) := rfl
theorem o_neg (x : Int) : negE (enc x) = Ev.ret (enc (-x)) := rfl
theorem o_lt (x y : Int) : ltE (enc x) (enc y) = Ev.ret (enc (decide (x < y))) := rfl
theorem o_le (x y : Int) : leE (enc x) (enc y) = Ev.ret (enc (decide (x ≤ y))) := rfl
theorem o_gt (x y : Int) : gtE (enc x) (enc y) = Ev.ret (enc (decide (y < x))) := rfl
theorem o_ge (x y : Int) : geE (enc x) (enc y) = Ev.ret (enc (decide (y ≤ x))) := rfl
theorem o_min (x y : Int) : minE (enc x) (enc y) = Ev.ret (enc (if y < x then y else x)) := rfl
theorem o_max (x y : Int) : maxE (enc x) (enc y) = Ev.ret (enc (if y > x then y else x)) := rfl
def mulZ (x y : Int) : E Int := if CMul x y then .ok (x * y) else .bad
def modZ (x y : Int) : E Int := if 0 < y then .ok (x % y) else .bad
theorem o_mul (x y : Int) : OpE (mulE (enc x) (enc y)) (mulZ x y) := by
  unfold mulZ
  by_cases h : CMul x y
  · rw [if_pos h]; exact OpE.ret (if_pos h)
  · rw [if_neg h]; exact fun _ => trivial
theorem o_mod (x y : Int) : OpE (modE (enc x) (enc y)) (modZ x y) := by
  unfold modZ
  by_cases h : 0 < y
  · rw [if_pos h]; exact OpE.ret (if_pos h)
  · rw [if_neg h]; exact fun _ => trivial
theorem o_mulL (x y : Int) (h : CMul x y) : mulE (enc x) (enc y) = Ev.ret (enc (x * y)) := if_pos h
theorem o_pow (x y z : Int) (h : CPow x y) (e : x ^ y.toNat = z) : powE (enc x) (enc y) = Ev.ret (enc z) := by rw [← e]; exact if_pos h
theorem E1 {op : D → D → Ev D} {f : α → β → γ} (h : ∀ x y, op (enc x) (enc y) = Ev.ret (enc (f x y))) : ∀ x y, OpE (op (enc x) (enc y)) (.ok (f x y)) := fun x y => OpE.ret (h x y)
theorem ep_chain {o o' : D → D → Ev D} {a b c : Lo → Ev D} {x y z : Int} {u v : Bool} (ha : EP fs a x) (hb : EP fs b y) (hc : EP fs c z) (h1 : o (enc x) (enc y) = Ev.ret (enc u)) (h2 : o' (enc y) (enc z) = Ev.ret (enc v)) : EP fs (eChain o o' a b c) (u && v) := fun pp M0 S M ns r => by
  unfold eChain Ev.bnd
  rw [ha pp M0 S M ns r]
  dsimp only [Out.bnd]
  rw [hb pp M0 S M ns r]
  dsimp only
  rw [h1]
  cases u
  · rfl
  · show ((c S).bnd fun w => o' (enc y) w) M = _
    unfold Ev.bnd
    rw [hc pp M0 S M ns r]
    dsimp only [Out.bnd]
    rw [h2]
    rfl
/-! ### built-in calls -/
theorem eo_c1 {op : D → Ev D} {f : Lo → Ev (List D)} {p : m (α × Unit)} {po : α → E γ} (ha : AO fs f p) (ho : ∀ x, OpE (op (enc x)) (po x)) : EO fs (eCall (op1 op) f) (bnd p fun x => lft (po x.1)) := fun pp M0 S M ns r Q X w => by
  refine Sim.bnd ((ha pp M0 S M ns r _ _ (Mo.bnd_wp w)).imp (fun d M1 ⟨x, e, w, r⟩ => ?_) (fun _ _ _ h => h))
  subst e
  exact ((ho x.1).sim (M := M1) (Mo.lft_wp w)).imp (fun d M' ⟨v, e, q, e2⟩ => ⟨v, e, q, e2 ▸ r⟩) (fun c d M' ⟨q, e2⟩ => ⟨q, e2 ▸ r⟩)
theorem ep_c2 {op : D → D → Ev D} {f : Lo → Ev (List D)} {x : α} {y : β} {z : γ} (ha : AP fs f (x, y, ())) (ho : op (enc x) (enc y) = Ev.ret (enc z)) : EP fs (eCall (op2 op) f) z := fun pp M0 S M ns r => by
  unfold eCall Ev.bnd
  rw [ha pp M0 S M ns r]
  show op (enc x) (enc y) M = _
  rw [ho]
  rfl
/-- one argument, by its view -/
theorem ep_cv {op : D → Ev D} {a : Lo → Ev D} {t : Tg} {l : List D} {z : γ} (ha : EV fs a t l) (ho : ∀ d M, vw d M = .ok (t, l) M → op d M = .ok (enc z) M) : EP fs (eCall (op1 op) (eAc a eA0)) z := fun pp M0 S M ns r => by
  obtain ⟨d, h1, h2⟩ := ha pp M0 S M ns r
  unfold eCall eAc Ev.bnd
  rw [h1]
  exact ho d M h2
theorem vw_len {d : D} {M : Store} {t : Tg} {l : List D} (h : vw d M = .ok (t, l) M) (ht : FC.isSeq t = true) : lenE d M = .ok (.int l.length) M := by
  have : sq d M = .ok l M := by unfold sq; rw [bok h]; dsimp only; rw [if_pos ht]; rfl
  cases d with
  | ref n => show ((sq (.ref n)).bnd _) M = _; unfold Ev.bnd; rw [this]; rfl
  | nd t l => show ((sq (.nd t l)).bnd _) M = _; unfold Ev.bnd; rw [this]; rfl
  | _ => cases h
theorem ep_len {a : Lo → Ev D} {t : Tg} {xs : List α} (ha : EV fs a t (xs.map enc)) (ht : FC.isSeq t = true) : EP fs (eCall (op1 lenE) (eAc a eA0)) (xs.length : Int) := ep_cv ha fun d M h => by
  rw [vw_len h ht, List.length_map]
  rfl
theorem vw_sq {d : D} {M : Store} {t : Tg} {l : List D} (h : vw d M = .ok (t, l) M) (ht : FC.isSeq t = true) : sq d M = .ok l M := by
  unfold sq
  rw [bok h]
  dsimp only
  rw [if_pos ht]
  rfl
/-! ### items -/
def ixL (xs : List α) (i : Int) : E α := match atI xs i with
  | some a => .ok a
  | none => .bad
theorem atI_map {α β : Type} (f : α → β) (xs : List α) (i : Int) : atI (xs.map f) i = (atI xs i).map f := by
  unfold atI
  rw [List.length_map]
  cases ixN xs.length i <;> simp
theorem o_ix {t : Tg} (ht : FC.isSeq t = true) (xs : List α) (i : Int) : OpV (fun d => ixE d (enc i)) t (xs.map enc) (ixL xs i) := fun d M h => by
  unfold ixL
  cases q : atI xs i with
  | none => trivial
  | some a =>
    have e : atI (xs.map enc) i = some (enc a) := by rw [atI_map, q]; rfl
    show ixE d (.int i) M = _
    unfold ixE
    cases d with
    | ref n => show ((sq (.ref n)).bnd _) M = _; unfold Ev.bnd; rw [vw_sq h ht]; show optE (atI (xs.map enc) i) M = _; rw [e]; rfl
    | nd t l => show ((sq (.nd t l)).bnd _) M = _; unfold Ev.bnd; rw [vw_sq h ht]; show optE (atI (xs.map enc) i) M = _; rw [e]; rfl
    | _ => cases h
theorem eo_ixp {a b : Lo → Ev D} {t : Tg} {xs : List α} {i : Int} (ha : EV fs a t (xs.map enc)) (hb : EP fs b i) (ht : FC.isSeq t = true) : EO (m := m) fs (e2 ixE a b) (lft (ixL xs i)) := eo_v2p ha hb (o_ix ht xs i)
theorem eo_ix {a b : Lo → Ev D} {p : m (List α)} {q : m Int} (ha : EO fs a p) (hb : EO fs b q) : EO fs (e2 ixE a b) (bnd p fun xs => bnd q fun i => lft (ixL xs i)) := eo_2 ha hb fun xs i M => by
  have := o_ix (t := .lst) rfl xs i (enc xs) M rfl
  exact this
/-- the part of a tuple -/
theorem ep_tup {a : Lo → Ev D} {l : List D} {i : Int} {z : α} (ha : EV fs a .tup l) (hi : atI l i = some (enc z)) : EP fs (e2 ixE a (eC (.int i))) z := ep_v2 (y := i) ha (ep_c rfl) fun d M h => by
  show ixE d (.int i) M = _
  unfold ixE
  cases d with
  | ref n => show ((sq (.ref n)).bnd _) M = _; unfold Ev.bnd; rw [vw_sq h rfl]; show optE (atI l i) M = _; rw [hi]; rfl
  | nd t l => show ((sq (.nd t l)).bnd _) M = _; unfold Ev.bnd; rw [vw_sq h rfl]; show optE (atI _ i) M = _; rw [hi]; rfl
  | _ => cases h
end
end TL

set_option Elab.async false
set_option linter.all false
set_option maxRecDepth 100000
set_option maxHeartbeats 1000000
/-! TL3: equality, membership, new nodes, lists. -/
namespace TL
open PySem L2 DL
open Mo (pur bnd lft)
open Enc (enc)
open EncL (encL)
/-! ### == -/
class PyEq (α : Type) [Enc α] where
  pd : α → PyData
  dep : Nat
  ok : ∀ (M : Store) (k : Nat) (a : α), dep ≤ k → py M k (enc a) = some (pd a)
  iff : ∀ a b : α, PyData.eqv (pd a) (pd b) = true ↔ a = b
instance : PyEq Int where
  pd := .int
  dep := 1
  ok M k a h := by
    obtain ⟨k, rfl⟩ : ∃ j, k = j + 1 := ⟨k - 1, by omega⟩
    show py M (k + 1) (.int a) = _
    simp [py]
  iff a b := by rw [PyData.eqv]; simp
instance : PyEq Bool where
  pd := .bool
  dep := 1
  ok M k a h := by
    obtain ⟨k, rfl⟩ : ∃ j, k = j + 1 := ⟨k - 1, by omega⟩
    show py M (k + 1) (.bl a) = _
    simp [py]
  iff a b := by rw [PyData.eqv]; simp
instance : PyEq Unit where
  pd _ := .none
  dep := 1
  ok M k a h := by
    obtain ⟨k, rfl⟩ : ∃ j, k = j + 1 := ⟨k - 1, by omega⟩
    show py M (k + 1) .non = _
    simp [py]
  iff a b := by rw [PyData.eqv]; simp
theorem pys_map {α : Type} [Enc α] [PyEq α] (M : Store) (k : Nat) (h : PyEq.dep α ≤ k) : ∀ xs : List α, pys M k (xs.map enc) = some (xs.map PyEq.pd)
  | [] => by rw [List.map_nil, List.map_nil, pys]
  | x :: xs => by rw [List.map_cons, List.map_cons, pys, PyEq.ok M k x h, pys_map M k h xs]
theorem eqvAll_map {α : Type} [Enc α] [PyEq α] : ∀ xs ys : List α, PyData.eqvAll (xs.map PyEq.pd) (ys.map PyEq.pd) = true ↔ xs = ys
  | [], [] => by simp [PyData.eqvAll]
  | [], _ :: _ => by simp [PyData.eqvAll]
  | _ :: _, [] => by simp [PyData.eqvAll]
  | x :: xs, y :: ys => by
    rw [List.map_cons, List.map_cons, PyData.eqvAll, Bool.and_eq_true, PyEq.iff, eqvAll_map xs ys, List.cons.injEq]
instance {α : Type} [Enc α] [PyEq α] : PyEq (List α) where
  pd xs := .list (xs.map PyEq.pd)
  dep := PyEq.dep α + 1
  ok M k a h := by
    obtain ⟨k, rfl⟩ : ∃ j, k = j + 1 := ⟨k - 1, by omega⟩
    show py M (k + 1) (.nd .lst (a.map enc)) = _
    rw [py]
    rw [pys_map M k (by omega) a]
    rfl
  iff a b := by rw [PyData.eqv]; exact eqvAll_map a b
instance {α β : Type} [Enc α] [PyEq α] [Enc β] [PyEq β] : PyEq (α × β) where
  pd x := .tuple [PyEq.pd x.1, PyEq.pd x.2]
  dep := max (PyEq.dep α) (PyEq.dep β) + 1
  ok M k a h := by
    obtain ⟨k, rfl⟩ : ∃ j, k = j + 1 := ⟨k - 1, by omega⟩
    show py M (k + 1) (.nd .tup [enc a.1, enc a.2]) = _
    rw [py]
    rw [pys, pys, pys, PyEq.ok M k a.1 (by omega), PyEq.ok M k a.2 (by omega)]
    rfl
  iff a b := by
    rw [PyData.eqv, PyData.eqvAll, PyData.eqvAll, PyData.eqvAll, Bool.and_true, Bool.and_eq_true, PyEq.iff, PyEq.iff]
    exact ⟨fun h => Prod.ext h.1 h.2, fun h => by rw [h]; exact ⟨rfl, rfl⟩⟩
instance {α β γ : Type} [Enc α] [PyEq α] [Enc β] [PyEq β] [Enc γ] [PyEq γ] : PyEq (T3 α β γ) where
  pd x := .tuple [PyEq.pd x.a, PyEq.pd x.b, PyEq.pd x.c]
  dep := max (PyEq.dep α) (max (PyEq.dep β) (PyEq.dep γ)) + 1
  ok M k a h := by
    obtain ⟨k, rfl⟩ : ∃ j, k = j + 1 := ⟨k - 1, by omega⟩
    show py M (k + 1) (.nd .tup [enc a.a, enc a.b, enc a.c]) = _
    rw [py]
    rw [pys, pys, pys, pys, PyEq.ok M k a.a (by omega), PyEq.ok M k a.b (by omega), PyEq.ok M k a.c (by omega)]
    rfl
  iff a b := by
    rw [PyData.eqv, PyData.eqvAll, PyData.eqvAll, PyData.eqvAll, PyData.eqvAll, Bool.and_true, Bool.and_eq_true, Bool.and_eq_true, PyEq.iff, PyEq.iff, PyEq.iff]
    cases a; cases b
    simp
/-- an expression and its data -/
def EY {α : Type} [Enc α] [PyEq α] (fs : List SV) (e : Lo → Ev D) (v : α) : Prop := ∀ pp M0 S M ns, Rel pp M0 fs S M ns → ∃ d, e S M = .ok d M ∧ py M 14 d = some (PyEq.pd v)
def eqB {α : Type} [DecidableEq α] (a b : α) : Bool := decide (a = b)
theorem eqv_eq {α : Type} [DecidableEq α] [Enc α] [PyEq α] (a b : α) : PyData.eqv (PyEq.pd a) (PyEq.pd b) = eqB a b := by
  unfold eqB
  by_cases h : a = b
  · rw [decide_eq_true h]; exact (PyEq.iff a b).mpr h
  · rw [decide_eq_false h]
    cases q : PyData.eqv (PyEq.pd a) (PyEq.pd b) with
    | false => rfl
    | true => exact (h ((PyEq.iff a b).mp q)).elim
section
variable {m : Type → Type} [Mo m] {fs : List SV} {α β γ τ : Type} [Enc α] [Enc β] [Enc γ] [EncL τ]
theorem EP.ey [PyEq α] {e : Lo → Ev D} {v : α} (h : EP fs e v) (hd : PyEq.dep α ≤ 14 := by decide) : EY fs e v := fun pp M0 S M ns r => ⟨_, h pp M0 S M ns r, PyEq.ok M 14 v hd⟩
theorem ey_cell [PyEq α] (i : Nat) {xs : List α} (h : fs[i]? = some (.lc .lst (xs.map enc))) (hd : PyEq.dep α ≤ 13 := by decide) : EY fs (eVar i) xs := fun pp M0 S M ns r => by
  obtain ⟨h1, h2, h3⟩ := r.sl i _ h
  refine ⟨.ref (ns i), by unfold eVar; rw [h1]; rfl, ?_⟩
  rw [py]
  rw [h3]
  dsimp only
  rw [pys_map M 13 hd]
  rfl
theorem ep_eq [DecidableEq α] [PyEq α] {neg : Bool} {a b : Lo → Ev D} {x y : α} (ha : EY fs a x) (hb : EY fs b y) : EP fs (e2 (eqE neg) a b) (neg ^^ eqB x y) := fun pp M0 S M ns r => by
  obtain ⟨d1, h1, p1⟩ := ha pp M0 S M ns r
  obtain ⟨d2, h2, p2⟩ := hb pp M0 S M ns r
  unfold e2
  rw [bok h1, bok h2]
  unfold eqE
  rw [p1, p2]
  dsimp only
  rw [eqv_eq]
  rfl
theorem o_eqE [DecidableEq α] [PyEq α] {neg : Bool} (hd : PyEq.dep α ≤ 14 := by decide) (x y : α) : eqE neg (enc x) (enc y) = Ev.ret (enc (neg ^^ eqB x y)) := by
  funext M
  unfold eqE
  rw [PyEq.ok M 14 x hd, PyEq.ok M 14 y hd]
  dsimp only
  rw [eqv_eq]
  rfl
/-! ### membership of numbers -/
def inI (x : Int) (xs : List Int) : Bool := decide (x ∈ xs)
theorem toVs_ints (xs : List Int) : toVs (xs.map D.int) = some (xs.map V.int) := by
  induction xs with
  | nil => rfl
  | cons x xs ih => rw [List.map_cons, toVs, ih]; rfl
theorem inV_ints (x : Int) (xs : List Int) : inV (.int x) (xs.map V.int) = inI x xs := by
  unfold inV inI
  induction xs with
  | nil => simp
  | cons y ys ih =>
    rw [List.map_cons, List.any_cons, ih]
    have : eqV (.int y) (.int x) = decide (y = x) := by
      unfold eqV; exact Bool.beq_eq_decide_eq y x
    rw [this]
    by_cases h : y = x
    · simp [h]
    · have : ¬ x = y := fun z => h z.symm
      simp [h, this]
theorem ep_in {neg : Bool} {a b : Lo → Ev D} {t : Tg} {x : Int} {xs : List Int} (ha : EP fs a x) (hb : EV fs b t (xs.map enc)) (ht : FC.isSeq t = true) : EP fs (e2 (inE neg) a b) (neg ^^ inI x xs) := fun pp M0 S M ns r => by
  obtain ⟨d, h1, h2⟩ := hb pp M0 S M ns r
  unfold e2
  rw [bok (ha pp M0 S M ns r), bok h1]
  unfold inE
  rw [bok (vw_sq h2 ht)]
  show (match toV (D.int x), toVs (xs.map D.int) with
    | some v, some vs => Ev.ret (D.bl (if neg then !inV v vs else inV v vs))
    | _, _ => Ev.no) M = _
  rw [toVs_ints]
  show Out.ok (D.bl (if neg then !inV (.int x) (xs.map V.int) else inV (.int x) (xs.map V.int))) M = _
  rw [inV_ints]
  cases neg <;> simp [enc]
/-! ### new nodes -/
theorem np_new {t : Tg} {f : Lo → Ev (List D)} {v : τ} {n : Nat} (h : AP fs f v) (hn : (encL v).length = n) (hl : n ≤ 1000 := by decide) : NP fs (nNew t f) t (encL v) := fun pp M0 S M ns r => by
  unfold nNew
  rw [bok (h pp M0 S M ns r)]
  have : (encL v).length ≤ sizeLine := by rw [hn]; exact Nat.le_trans hl (by decide)
  rw [if_pos this]
  rfl
theorem no_new {t : Tg} {f : Lo → Ev (List D)} {p : m τ} {n : Nat} (h : AO fs f p) (hn : ∀ v : τ, (encL v).length = n) (hl : n ≤ 1000 := by decide) : NO fs (nNew t f) p (fun _ => t) (fun v => encL v) := fun pp M0 S M ns r Q X w => by
  refine Sim.bnd ((h pp M0 S M ns r _ _ w).imp (fun d M1 ⟨v, e, w, r⟩ => ?_) (fun _ _ _ h => h))
  subst e
  have : (encL v).length ≤ sizeLine := by rw [hn]; exact Nat.le_trans hl (by decide)
  rw [if_pos this]
  exact ⟨v, rfl, w, r⟩
theorem NP.no {e : Lo → Ev NR} {t : Tg} {l : List D} {v : α} (h : NP fs e t l) (hv : enc v = .nd t l) (hb : enc v = .nd .lst l ∨ enc v = .nd .tup l) : EP fs (eF e) v := fun pp M0 S M ns r => by
  unfold eF
  rw [bok (h pp M0 S M ns r), hv]
  rcases hb with hb | hb
  · rw [hv] at hb; cases hb; rfl
  · rw [hv] at hb; cases hb; rfl
theorem ep_lst {e : Lo → Ev NR} {xs : List α} (h : NP fs e .lst (xs.map enc)) : EP fs (eF e) xs := h.no rfl (.inl rfl)
theorem ep_frt {e : Lo → Ev NR} {v : α} {l : List D} (h : NP fs e .tup l) (hv : enc v = .nd .tup l) : EP fs (eF e) v := h.no hv (.inr hv)
theorem eo_frz {e : Lo → Ev NR} {p : m α} {t : α → Tg} {l : α → List D} {f : α → β} (h : NO fs e p t l) (hv : ∀ v, enc (f v) = .nd (t v) (l v)) (hb : ∀ v, t v = .lst ∨ t v = .tup) : EO fs (eF e) (bnd p fun v => pur (f v)) := fun pp M0 S M ns r Q X w => by
  refine Sim.bnd ((h pp M0 S M ns r _ _ (Mo.bnd_wp w)).imp (fun d M1 ⟨v, e, w, r⟩ => ?_) (fun _ _ _ h => h))
  subst e
  have w := Mo.pur_wp w
  have hv := hv v
  rcases hb v with q | q
  · rw [q] at hv ⊢; exact ⟨f v, by rw [hv], w, r⟩
  · rw [q] at hv ⊢; exact ⟨f v, by rw [hv], w, r⟩
/-- a list by its typed items -/
abbrev NL (m : Type → Type) [Mo m] {α : Type} [Enc α] (fs : List SV) (e : Lo → Ev NR) (p : m (List α)) : Prop := NO fs e p (fun _ => .lst) (fun xs => xs.map enc)
theorem eo_lst {e : Lo → Ev NR} {p : m (List α)} (h : NL m fs e p) : EO fs (eF e) p := fun pp M0 S M ns r Q X w => by
  refine Sim.bnd ((h pp M0 S M ns r _ _ w).imp (fun d M1 ⟨v, e, w, r⟩ => ?_) (fun _ _ _ h => h))
  subst e
  exact ⟨v, rfl, w, r⟩
theorem NP.nl {e : Lo → Ev NR} {xs : List α} (h : NP fs e .lst (xs.map enc)) : NL m fs e (pur xs) := fun pp M0 S M ns r Q X w => Sim.ok (h pp M0 S M ns r) ⟨xs, rfl, Mo.pur_wp w, r⟩
def NopE (f : Ev NR) (p : E (List α)) : Prop := ∀ M, match p with
  | .ok v => f M = .ok (.n .lst (v.map enc)) M
  | .exc c d => f M = .exc c d M
  | .bad => True
theorem NopE.sim {f : Ev NR} {p : E (List α)} (h : NopE f p) {M : Store} {Q : List α → Prop} {X : Str → D → Prop} (w : p.wp Q X) : Sim (f M) (fun d M' => ∃ v : List α, d = .n .lst (v.map enc) ∧ Q v ∧ M' = M) (fun c d M' => X c d ∧ M' = M) := by
  have h := h M
  cases p with
  | ok v => exact Sim.ok h ⟨v, rfl, w, rfl⟩
  | exc c d => rw [h]; exact ⟨w, rfl⟩
  | bad => exact w.elim
/-- lists put together -/
def catL {α : Type} (xs ys : List α) : E (List α) := if xs.length + ys.length ≤ sizeLine then .ok (xs ++ ys) else .bad
theorem addN_vw {x y : D} {M : Store} {l k : List D} (hx : vw x M = .ok (.lst, l) M) (hy : vw y M = .ok (.lst, k) M) (hl : l.length + k.length ≤ sizeLine) : addN x y M = .ok (.n .lst (l ++ k)) M := by
  have e : addN x y = (vw x).bnd fun p => (vw y).bnd fun q => match p.1, q.1 with
    | .lst, .lst => if p.2.length + q.2.length ≤ sizeLine then Ev.ret (.n .lst (p.2 ++ q.2)) else Ev.no
    | .tup, .tup => if p.2.isEmpty = false ∧ q.2.isEmpty = false ∧ p.2.length + q.2.length ≤ sizeLine then Ev.ret (.n .tup (p.2 ++ q.2)) else Ev.no
    | _, _ => Ev.no := by
    cases x <;> first | rfl | (cases hx)
  rw [e, bok hx, bok hy]
  dsimp only
  rw [if_pos hl]
  rfl
theorem nl_cat {a b : Lo → Ev D} {p q : m (List α)} (ha : EO fs a p) (hb : EO fs b q) : NL m fs (n2 addN a b) (bnd p fun xs => bnd q fun ys => lft (catL xs ys)) := fun pp M0 S M ns r Q X w => by
  refine Sim.bnd ((ha pp M0 S M ns r _ _ (Mo.bnd_wp w)).imp (fun d M1 ⟨xs, e, w, r⟩ => ?_) (fun _ _ _ h => h))
  subst e
  refine Sim.bnd ((hb pp M0 S M1 ns r _ _ (Mo.bnd_wp w)).imp (fun d M2 ⟨ys, e, w, r⟩ => ?_) (fun _ _ _ h => h))
  subst e
  have w := Mo.lft_wp w
  unfold catL at w
  by_cases hl : xs.length + ys.length ≤ sizeLine
  · rw [if_pos hl] at w
    refine Sim.ok (addN_vw (l := xs.map enc) (k := ys.map enc) rfl rfl (by simpa using hl)) ⟨xs ++ ys, by dsimp only; rw [List.map_append], w, r⟩
  · rw [if_neg hl] at w; exact w.elim
/-- list(xs) -/
theorem np_list {a : Lo → Ev D} {t : Tg} {l : List D} (ha : EV fs a t l) (ht : FC.isSeq t = true) : NP fs (nCall (op1 listN) (eAc a eA0)) .lst l := fun pp M0 S M ns r => by
  obtain ⟨d, h1, h2⟩ := ha pp M0 S M ns r
  unfold nCall eAc
  have : ((a S).bnd fun x => (eA0 S).bnd fun l => Ev.ret (x :: l)) M = .ok [d] M := by rw [bok h1]; rfl
  rw [bok this]
  show listN d M = _
  unfold listN
  rw [bok (vw_sq h2 ht)]
  rfl
theorem vw_all {xs : List Bool} {d : D} {M : Store} (h : vw d M = .ok (.lst, xs.map enc) M) : allE d M = .ok (enc (xs.all id)) M := by
  unfold allE
  rw [bok h]
  dsimp only
  rw [show (xs.map enc) = xs.map D.bl from rfl, blsOf_map]
  rfl
theorem o_all (xs : List Bool) : allE (enc xs) = Ev.ret (enc (xs.all id)) := by funext M; exact vw_all rfl
theorem o_len (xs : List α) : lenE (enc xs) = Ev.ret (enc (xs.length : Int)) := by funext M; rw [vw_len (t := .lst) (l := xs.map enc) rfl rfl, List.length_map]; rfl
theorem E2 {op : D → Ev D} {f : α → γ} (h : ∀ x, op (enc x) = Ev.ret (enc (f x))) : ∀ x, OpE (op (enc x)) (.ok (f x)) := fun x => OpE.ret (h x)
/-! ### ranges -/
def rg (a b : Int) : List Int := (List.range (b - a).toNat).map fun i => a + (i : Nat)
theorem rg_map (a b : Int) : rgD a b = (rg a b).map enc := by unfold rgD rg; rw [List.map_map]; rfl
open Classical in
noncomputable def rgL (a b : Int) : E (List Int) := if RgOk a b then .ok (rg a b) else .bad
open Classical in
noncomputable def rgW (a b : Int) : E (List Int) := if RgI a b then .ok (rg a b) else .bad
theorem nl_range1 {a : Lo → Ev D} {p : m Int} (ha : EO fs a p) : NL m fs (lrN (r1E a)) (bnd p fun n => lft (rgL 0 n)) := fun pp M0 S M ns r Q X w => by
  refine Sim.bnd (Sim.bnd ((ha pp M0 S M ns r _ _ (Mo.bnd_wp w)).imp (fun d M1 ⟨n, e, w, r⟩ => ?_) (fun _ _ _ h => h)))
  subst e
  show Sim (rgN (0, n) M1) _ _
  have w := Mo.lft_wp w
  unfold rgL at w
  by_cases h : RgOk 0 n
  · rw [if_pos h] at w
    rw [rgN_ok (r := (0, n)) h]
    exact ⟨rg 0 n, by dsimp only; rw [rg_map], w, r⟩
  · rw [if_neg h] at w; exact w.elim
theorem io_range1 {a : Lo → Ev D} {p : m Int} (ha : EO fs a p) : IO (α := Int) fs (iR1 (eAc a eA0)) (bnd p fun n => lft (rgW 0 n)) := fun pp M0 S M ns r Q X w => by
  refine Sim.bnd (Sim.bnd ((ha pp M0 S M ns r _ _ (Mo.bnd_wp w)).imp (fun d M1 ⟨n, e, w, r⟩ => ?_) (fun _ _ _ h => h)))
  subst e
  show Sim (rngE 0 n M1) _ _
  have w := Mo.lft_wp w
  unfold rgW at w
  by_cases h : RgI 0 n
  · rw [if_pos h] at w
    rw [rngE_ok h]
    exact ⟨rg 0 n, none, by rw [rg_map], .inl rfl, w, r⟩
  · rw [if_neg h] at w; exact w.elim
theorem io_range2 {a b : Lo → Ev D} {p q : m Int} (ha : EO fs a p) (hb : EO fs b q) : IO (α := Int) fs (iR2 (eAc a (eAc b eA0))) (bnd p fun x => bnd q fun n => lft (rgW x n)) := fun pp M0 S M ns r Q X w => by
  refine Sim.bnd (Sim.bnd ((ha pp M0 S M ns r _ _ (Mo.bnd_wp w)).imp (fun d M1 ⟨x, e, w, r⟩ => ?_) (fun _ _ _ h => h)))
  subst e
  refine Sim.bnd (Sim.bnd ((hb pp M0 S M1 ns r _ _ (Mo.bnd_wp w)).imp (fun d M1 ⟨n, e, w, r⟩ => ?_) (fun _ _ _ h => h)))
  subst e
  show Sim (rngE x n M1) _ _
  have w := Mo.lft_wp w
  unfold rgW at w
  by_cases h : RgI x n
  · rw [if_pos h] at w
    rw [rngE_ok h]
    exact ⟨rg x n, none, by rw [rg_map], .inl rfl, w, r⟩
  · rw [if_neg h] at w; exact w.elim
theorem io_seq {a : Lo → Ev D} {p : m (List α)} (ha : EO fs a p) : IO fs (iSeq a) p := fun pp M0 S M ns r Q X w => by
  refine Sim.bnd ((ha pp M0 S M ns r _ _ w).imp (fun d M1 ⟨xs, e, w, r⟩ => ?_) (fun _ _ _ h => h))
  subst e
  exact ⟨xs, none, rfl, .inl rfl, w, r⟩
def enI {α : Type} (k : Nat) (xs : List α) : List (Int × α) := (xs.zipIdx k).map fun x => ((x.2 : Int), x.1)
theorem enI_map (xs : List α) : ∀ k, enD k (xs.map enc) = (enI k xs).map enc := by
  induction xs with
  | nil => intro k; rfl
  | cons x xs ih =>
    intro k
    show D.tup [.int (k : Nat), enc x] :: enD (k + 1) (xs.map enc) = _
    rw [ih]
    rfl
theorem io_enum {a : Lo → Ev D} {p : m (List α)} (ha : EO fs a p) : IO (α := Int × α) fs (iEn (eAc a eA0)) (bnd p fun xs => pur (enI 0 xs)) := fun pp M0 S M ns r Q X w => by
  refine Sim.bnd (Sim.bnd ((ha pp M0 S M ns r _ _ (Mo.bnd_wp w)).imp (fun d M1 ⟨xs, e, w, r⟩ => ?_) (fun _ _ _ h => h)))
  subst e
  refine ⟨enI 0 xs, none, ?_, .inl rfl, Mo.pur_wp w, r⟩
  show (enD 0 (xs.map enc), none) = _
  rw [enI_map]
end
end TL

set_option Elab.async false
set_option linter.all false
set_option maxRecDepth 100000
set_option maxHeartbeats 1000000
/-! TL4: statements, loops, comprehensions, calls. -/
namespace TL
open PySem L2 DL
open Mo (pur bnd lft)
open Enc (enc)
open EncL (encL)
def BP {φ : Type} (pp : List Nat) (M0 : Store) (Q : φ → Prop) (X : Str → D → Prop) (K : φ → Fl → Store → Prop) : Fl → Store → Prop := fun fl M' => match fl with
    | .xc c d _ => X c d ∧ Fram pp M0 M'
    | fl => ∃ f, Q f ∧ K f fl M'
abbrev NoX : Str → D → Store → Prop := fun _ _ _ => False
theorem Sim.fl {m : Ev D} {S : Lo} {k : D → Ev Fl} {M : Store} {P : Fl → Store → Prop} (h : Sim (m M) (fun d M' => Sim (k d M') P NoX) (fun c d M' => P (.xc c d S) M')) : Sim (m.fl S k M) P NoX := by
  unfold Ev.fl
  cases e : m M with
  | ok a M' => rw [e] at h; exact h
  | exc c d M' => rw [e] at h; exact h
  | stuck => rw [e] at h; exact h
theorem Sim.flB {m : Ev Bool} {S : Lo} {k : Bool → Ev Fl} {M : Store} {P : Fl → Store → Prop} (h : Sim (m M) (fun d M' => Sim (k d M') P NoX) (fun c d M' => P (.xc c d S) M')) : Sim (m.flB S k M) P NoX := by
  unfold Ev.flB
  cases e : m M with
  | ok a M' => rw [e] at h; exact h
  | exc c d M' => rw [e] at h; exact h
  | stuck => rw [e] at h; exact h
theorem Sim.flG {α : Type} {m : Ev α} {S : Lo} {k : α → Ev Fl} {M : Store} {P : Fl → Store → Prop} (h : Sim (m M) (fun d M' => Sim (k d M') P NoX) (fun c d M' => P (.xc c d S) M')) : Sim (m.flG S k M) P NoX := by
  unfold Ev.flG
  cases e : m M with
  | ok a M' => rw [e] at h; exact h
  | exc c d M' => rw [e] at h; exact h
  | stuck => rw [e] at h; exact h
theorem Sim.seq {f g : Lo → Ev Fl} {S : Lo} {M : Store} {P : Fl → Store → Prop} (h : Sim (f S M) (fun fl M' => match fl with
    | .nx S' => Sim (g S' M') P NoX
    | o => P o M') NoX) : Sim (sSeq f g S M) P NoX := by
  unfold sSeq
  refine Sim.bnd (h.imp (fun fl M' h => ?_) (fun _ _ _ h => h))
  cases fl <;> exact h
theorem seq_next (f : Lo → Ev Fl) : sSeq f sNext = f := by
  funext S M
  unfold sSeq Ev.bnd
  cases f S M with
  | ok fl M' => cases fl <;> rfl
  | exc c d M' => rfl
  | stuck => rfl
/-! ### targets -/
def TgOk {α : Type} [Enc α] (fs : List SV) (g : D → Lo → Ev Lo) (x : α) (fs' : List SV) : Prop := ∀ pp M0 S M ns, Rel pp M0 fs S M ns → ∃ S', g (enc x) S M = .ok S' M ∧ Rel pp M0 fs' S' M ns
section
variable {m : Type → Type} [Mo m] {pp : List Nat} {M0 : Store} {fs fs' fs'' : List SV} {α β γ τ φ ρ : Type} [Enc α] [Enc β] [Enc γ] [EncL τ] [Enc ρ] {K : φ → Fl → Store → Prop}
theorem tg_nm (i : Nat) (x : α) : TgOk fs (gNm i) x (fs.set i (.val (enc x))) := fun pp M0 S M ns r => ⟨_, rfl, r.setV⟩
theorem tg_2 {ga gb : D → Lo → Ev Lo} {x : α × β} (ha : TgOk fs ga x.1 fs') (hb : TgOk fs' gb x.2 fs'') : TgOk fs (gTp 2 (gCn ga (gCn gb gNl))) x fs'' := fun pp M0 S M ns r => by
  obtain ⟨S1, h1, r1⟩ := ha pp M0 S M ns r
  obtain ⟨S2, h2, r2⟩ := hb pp M0 S1 M ns r1
  refine ⟨S2, ?_, r2⟩
  show gTp 2 (gCn ga (gCn gb gNl)) (.tup [enc x.1, enc x.2]) S M = _
  simp only [gTp, vw, Ev.bnd, Ev.ret, Out.bnd, gCn, h1, h2, gNl, List.length_cons, List.length_nil, if_pos]
/-! ### statements -/
theorem Blk.of {g : Lo → Ev Fl} {p : m φ} (h : ∀ S M ns, Rel ⟨pp, []⟩ M0 fs S M ns → ∀ Q X, Mo.wp p Q X → Sim (g S M) (BP pp M0 Q X K) NoX) : Blk pp M0 fs g p K := h
theorem Blk.at_ {g : Lo → Ev Fl} {p : m φ} (h : Blk pp M0 fs g p K) {S : Lo} {M : Store} {ns : Nat → Nat} (r : Rel ⟨pp, []⟩ M0 fs S M ns) {Q : φ → Prop} {X : Str → D → Prop} (w : Mo.wp p Q X) : Sim (g S M) (BP pp M0 Q X K) NoX := h S M ns r Q X w
theorem b_last {f : Lo → Ev Fl} {p : m φ} (h : Blk pp M0 fs (sSeq f sNext) p K) : Blk pp M0 fs f p K := by rw [seq_next] at h; exact h
theorem b_skip {g : Lo → Ev Fl} {p : m φ} (h : Blk pp M0 fs g p K) : Blk pp M0 fs (sSeq sNext g) p K := h
theorem b_wk {g : Lo → Ev Fl} {p : m φ} (w : Wk fs fs') (h : Blk pp M0 fs' g p K) : Blk pp M0 fs g p K := fun S M ns r => h S M ns (r.wk w)
theorem b_asg {e : Lo → Ev D} {i : Nat} {g : Lo → Ev Fl} {pe : m α} {k : α → m φ} (he : EO fs e pe) (hr : ∀ x, Blk pp M0 (fs.set i (.val (enc x))) g (k x) K) : Blk pp M0 fs (sSeq (sAsg e (gNm i)) g) (bnd pe k) K := Blk.of fun S M ns r Q X w => by
  refine Sim.seq (Sim.fl ((he _ M0 S M ns r _ _ (Mo.bnd_wp w)).imp (fun d M1 ⟨x, e, w, r⟩ => ?_) (fun c d M1 ⟨x, r⟩ => ⟨x, r.fram⟩)))
  subst e
  exact (hr x).at_ (r.setV (i := i)) w
theorem b_exp {e : Lo → Ev D} {g : Lo → Ev Fl} {pe : m α} {k : α → m φ} (he : EO fs e pe) (hr : ∀ x, Blk pp M0 fs g (k x) K) : Blk pp M0 fs (sSeq (sExp e) g) (bnd pe k) K := Blk.of fun S M ns r Q X w => by
  refine Sim.seq (Sim.fl ((he _ M0 S M ns r _ _ (Mo.bnd_wp w)).imp (fun d M1 ⟨x, e, w, r⟩ => ?_) (fun c d M1 ⟨x, r⟩ => ⟨x, r.fram⟩)))
  exact (hr x).at_ r w
/-- a new list of one's own -/
theorem b_cell {e : Lo → Ev NR} {i : Nat} {g : Lo → Ev Fl} {pe : m (List α)} {k : List α → m φ} (he : NL m fs e pe) (hr : ∀ x, Blk pp M0 (fs.set i (.L x)) g (k x) K) : Blk pp M0 fs (sSeq (sAsg (eCl e) (gNm i)) g) (bnd pe k) K := Blk.of fun S M ns r Q X w => by
  refine Sim.seq (Sim.fl (Sim.bnd ((he _ M0 S M ns r _ _ (Mo.bnd_wp w)).imp (fun d M1 ⟨x, e, w, r⟩ => ?_) (fun c d M1 ⟨x, r⟩ => ⟨x, r.fram⟩))))
  subst e
  refine (hr x).at_ (r.setC (i := i) (n := M1.length) (t := .lst) (l := x.map enc) (M' := M1 ++ [(.lst, x.map enc)]) (Nat.le_refl _) (by simp) (by simp) (fun k hk => List.getElem?_append_left hk)) w
theorem b_val' {e : Lo → Ev NR} {i : Nat} {g : Lo → Ev Fl} {pe : m (List α)} {k : List α → m φ} (he : NL m fs e pe) (hr : ∀ x, Blk pp M0 (fs.set i (.val (enc x))) g (k x) K) : Blk pp M0 fs (sSeq (sAsg (fun S => (e S).bnd frz) (gNm i)) g) (bnd pe k) K := b_asg (eo_lst he) hr
def appL {α : Type} (xs : List α) (x : α) : E (List α) := if xs.length < sizeLine then .ok (xs ++ [x]) else .bad
theorem b_app {i : Nat} {e : Lo → Ev D} {g : Lo → Ev Fl} {xs : List α} {pe : m α} {k : List α → m φ} (hi : fs[i]? = some (.L xs)) (he : EO fs e pe) (hr : ∀ x, Blk pp M0 (fs.set i (.L x)) g (k x) K) :
    Blk pp M0 fs (sSeq (sExp (eBm (cellM opAppend) (eVar i) (eAc e eA0))) g) (bnd pe fun v => bnd (lft (appL xs v)) k) K := Blk.of fun S M ns r Q X w => by
  have s := r.sl i _ hi
  have h1 : eVar i S M = .ok (.ref (ns i)) M := by unfold eVar; rw [s.1]; rfl
  have h2 : isCellL (.ref (ns i)) M = .ok () M := by unfold isCellL; simp only [s.2.2]
  refine Sim.seq (Sim.fl (Sim.bnd (Sim.ok h1 (Sim.bnd (Sim.ok h2 (Sim.bnd (Sim.bnd ((he _ M0 S M ns r _ _ (Mo.bnd_wp w)).imp (fun d M1 ⟨x, e, w, r⟩ => ?_) (fun c d M1 ⟨x, r⟩ => ⟨x, r.fram⟩)))))))))
  subst e
  have s := r.sl i _ hi
  have w := Mo.lft_wp (Mo.bnd_wp w)
  unfold appL at w
  by_cases hl : xs.length < sizeLine
  · rw [if_pos hl] at w
    have h3 : cellM opAppend (.ref (ns i)) [enc x] M1 = .ok .non (M1.set (ns i) (.lst, xs.map enc ++ [enc x])) := by
      have : opAppend (xs.map enc) [enc x] = some (.non, xs.map enc ++ [enc x]) := by unfold opAppend; exact if_pos (by simpa using hl)
      simp only [cellM, s.2.2, this]
    refine Sim.bnd (Sim.ok (a := []) (M := M1) rfl ?_)
    show Sim (cellM opAppend (.ref (ns i)) [enc x] M1) _ _
    refine Sim.ok h3 ?_
    have r2 := r.wr (t' := .lst) (l' := (xs ++ [x]).map enc) rfl hi
    rw [List.map_append] at r2
    refine (hr (xs ++ [x])).at_ (ns := ns) ?_ w
    show Rel ⟨pp, []⟩ M0 (fs.set i (.lc .lst ((xs ++ [x]).map enc))) S _ ns
    rw [List.map_append]
    exact r2
  · rw [if_neg hl] at w; exact w.elim
/-! ### ends -/
theorem b_bad {p : m φ} (h : ∀ Q X, Mo.wp p Q X → False) {g : Lo → Ev Fl} : Blk pp M0 fs g p K := fun S M ns r Q X w => (h Q X w).elim
theorem bad_wp {α : Type} : ∀ (Q : α → Prop) (X : Str → D → Prop), Mo.wp (m := m) (lft (E.bad : E α)) Q X → False := fun _ _ w => Mo.lft_wp w
def KRet {ρ : Type} [Enc ρ] (cc : Bool) (pp : List Nat) (M0 : Store) (K : φ → Fl → Store → Prop) (inj : ρ → φ) : Prop := ∀ r d M', Res cc pp M0 r d M' → K (inj r) (.rt d) M'
theorem kr_t {cc : Bool} : KRet (ρ := ρ) cc pp M0 (KT cc pp M0) id := fun r d M' h => h
theorem kr_f {cc : Bool} {fsL : β → List SV} : KRet (ρ := ρ) cc pp M0 (KF cc pp M0 fsL) Fw.rt := fun r d M' h => h
theorem b_ret {cc : Bool} {e : Lo → Ev D} {pe : m ρ} {inj : ρ → φ} (hk : KRet cc pp M0 K inj) (hc : cc = false) (he : EO fs e pe) : Blk pp M0 fs (sRet e) (bnd pe fun v => pur (inj v)) K := Blk.of fun S M ns r Q X w => by
  refine Sim.fl ((he _ M0 S M ns r _ _ (Mo.bnd_wp w)).imp (fun d M1 ⟨x, e, w, r⟩ => ?_) (fun c d M1 ⟨x, r⟩ => ⟨x, r.fram⟩))
  subst e
  exact ⟨inj x, Mo.pur_wp w, hk x _ _ ⟨r.fram, fz_id _ _ _ _ (Enc.nr x _), fun h => by rw [hc] at h; cases h⟩⟩
theorem b_retS {cc : Bool} {e : Lo → Ev D} {g : Lo → Ev Fl} {pe : m ρ} {inj : ρ → φ} (hk : KRet cc pp M0 K inj) (hc : cc = false) (he : EO fs e pe) : Blk pp M0 fs (sSeq (sRet e) g) (bnd pe fun v => pur (inj v)) K := Blk.of fun S M ns r Q X w => by
  refine Sim.seq (Sim.fl ((he _ M0 S M ns r _ _ (Mo.bnd_wp w)).imp (fun d M1 ⟨x, e, w, r⟩ => ?_) (fun c d M1 ⟨x, r⟩ => ⟨x, r.fram⟩)))
  subst e
  exact ⟨inj x, Mo.pur_wp w, hk x _ _ ⟨r.fram, fz_id _ _ _ _ (Enc.nr x _), fun h => by rw [hc] at h; cases h⟩⟩
theorem fz_cell {M : Store} {n c k : Nat} {t : Tg} {l : List D} (hn : n ≤ c) (h : M[c]? = some (t, l)) (hl : rlts n l = true) : fz M n (k + 1) (.ref c) = some (.nd t l) := by
  rw [fz]
  simp only [h, fzs_id M n k l hl, Option.map_some]
  rw [if_neg (by omega)]
theorem b_retC {cc : Bool} (i : Nat) {xs : List α} {inj : List α → φ} (hk : KRet cc pp M0 K inj) (hi : fs[i]? = some (.L xs)) : Blk (m := m) pp M0 fs (sRet (eVar i)) (pur (inj xs)) K := Blk.of fun S M ns r Q X w => by
  have s := r.sl i _ hi
  have h1 : eVar i S M = .ok (.ref (ns i)) M := by unfold eVar; rw [s.1]; rfl
  exact Sim.fl (Sim.ok h1 ⟨inj xs, Mo.pur_wp w, hk xs _ _ ⟨r.fram, fz_cell s.2.1 s.2.2 (nrs _ _), fun _ => ⟨ns i, .lst, xs.map enc, rfl, s.2.1, s.2.2, rfl⟩⟩⟩)
theorem b_retL {cc : Bool} {e : Lo → Ev NR} {pe : m (List α)} {inj : List α → φ} (hk : KRet cc pp M0 K inj) (he : NL m fs e pe) : Blk pp M0 fs (sRet (eCl e)) (bnd pe fun v => pur (inj v)) K := Blk.of fun S M ns r Q X w => by
  refine Sim.fl (Sim.bnd ((he _ M0 S M ns r _ _ (Mo.bnd_wp w)).imp (fun d M1 ⟨x, e, w, r⟩ => ?_) (fun c d M1 ⟨x, r⟩ => ⟨x, r.fram⟩)))
  subst e
  have g : (M1 ++ [(Tg.lst, x.map enc)])[M1.length]? = some (.lst, x.map enc) := by simp
  have r2 := r.store (M' := M1 ++ [(.lst, x.map enc)]) (by simp) (fun k hk => List.getElem?_append_left hk)
  exact ⟨inj x, Mo.pur_wp w, hk x _ _ ⟨r2.fram, fz_cell r.le g (nrs _ _), fun _ => ⟨_, .lst, x.map enc, rfl, r.le, g, rfl⟩⟩⟩
theorem b_end {fsL : β → List SV} (b : β) (w : Wk fs (fsL b)) : Blk (m := m) pp M0 fs sNext (pur b) (KN pp M0 fsL) := Blk.of fun S M ns r Q X h => ⟨b, Mo.pur_wp h, ns, r.wk w⟩
theorem b_endF {cc : Bool} {fsL : β → List SV} (b : β) (w : Wk fs (fsL b)) : Blk (m := m) pp M0 fs sNext (pur (Fw.nx b)) (KF (ρ := ρ) cc pp M0 fsL) := Blk.of fun S M ns r Q X h => ⟨_, Mo.pur_wp h, ns, r.wk w⟩
theorem b_endT {cc : Bool} (hc : cc = false) : Blk (m := m) pp M0 fs sNext (pur ()) (KT cc pp M0) := Blk.of fun S M ns r Q X h => ⟨(), Mo.pur_wp h, r.fram, fz_id _ _ _ _ rfl, fun z => by rw [hc] at z; cases z⟩
/-! ### if -/
theorem b_if {c : Lo → Ev Bool} {f g : Lo → Ev Fl} {pc : m Bool} {pf pg : m φ} (hc : TO fs c pc) (hf : Blk pp M0 fs f pf K) (hg : Blk pp M0 fs g pg K) : Blk pp M0 fs (sIf c f g) (bnd pc fun b => if b = true then pf else pg) K := Blk.of fun S M ns r Q X w => by
  refine Sim.flB ((hc _ M0 S M ns r _ _ (Mo.bnd_wp w)).imp (fun b M1 ⟨w, r⟩ => ?_) (fun c d M1 ⟨x, r⟩ => ⟨x, r.fram⟩))
  cases b
  · exact hg.at_ r w
  · exact hf.at_ r w
theorem b_ifD {c : Lo → Ev Bool} {f g h : Lo → Ev Fl} {pc : m Bool} {pf pg : m φ} (hc : TO fs c pc) (hf : Blk pp M0 fs (sSeq f h) pf K) (hg : Blk pp M0 fs (sSeq g h) pg K) : Blk pp M0 fs (sSeq (sIf c f g) h) (bnd pc fun b => if b = true then pf else pg) K := by
  have : sSeq (sIf c f g) h = sIf c (sSeq f h) (sSeq g h) := by
    funext S M
    have e1 : sSeq (sIf c f g) h S M = (sIf c f g S M).bnd fun fl => match fl with
      | .nx S' => h S'
      | o => Ev.ret o := rfl
    rw [e1]
    unfold sIf Ev.flB
    cases q : c S M with
    | ok b M' => cases b <;> rfl
    | exc c d M' => rfl
    | stuck => rfl
  rw [this]
  exact b_if hc hf hg
/-! ### loops -/
def forM {m : Type → Type} [Mo m] {α β : Type} (st : β → α → m β) : List α → β → m β
  | [], b => pur b
  | x :: xs, b => bnd (st b x) fun b' => forM st xs b'
def forF {m : Type → Type} [Mo m] {α β ρ : Type} (st : β → α → m (Fw β ρ)) : List α → β → m (β ⊕ ρ)
  | [], b => pur (.inl b)
  | x :: xs, b => bnd (st b x) fun w => match w with
    | .nx b' => forF st xs b'
    | .ct b' => forF st xs b'
    | .bk b' => pur (.inl b')
    | .rt r => pur (.inr r)
def outF {m : Type → Type} {β ρ φ : Type} (k : β → m φ) (j : ρ → m φ) : β ⊕ ρ → m φ
  | .inl b => k b
  | .inr r => j r
theorem b_for {it : Lo → Ev (List D × Gd)} {tg : D → Lo → Ev Lo} {body g : Lo → Ev Fl} {px : m (List α)} {st : β → α → m β} {k : β → m φ} {b0 : β} {fsL : β → List SV} {fsT : β → α → List SV} (hi : IO fs it px) (hw : Wk fs (fsL b0)) (ht : ∀ b x, TgOk (fsL b) tg x (fsT b x))
    (hb : ∀ b x, Blk pp M0 (fsT b x) body (st b x) (KN pp M0 fsL)) (hr : ∀ b, Blk pp M0 (fsL b) g (k b) K) : Blk pp M0 fs (sSeq (sFor it tg body) g) (bnd px fun xs => bnd (forM st xs b0) k) K := Blk.of fun S M ns r Q X w => by
  refine Sim.seq (Sim.flG ((hi _ M0 S M ns r _ _ (Mo.bnd_wp w)).imp (fun d M1 ⟨xs, gd, e, hgd, w, r⟩ => ?_) (fun c d M1 ⟨x, r⟩ => ⟨x, r.fram⟩)))
  subst e
  have w := Mo.bnd_wp w
  show Sim (forL tg body gd (xs.map enc) S M1) _ NoX
  have gen : ∀ (xs : List α) (b : β) (S : Lo) (M : Store) (ns : Nat → Nat), Rel ⟨pp, []⟩ M0 (fsL b) S M ns → Mo.wp (forM st xs b) (fun a => Mo.wp (k a) Q X) X → Sim (forL tg body gd (xs.map enc) S M) (fun fl M' => match fl with
    | .nx S' => Sim (g S' M') (BP pp M0 Q X K) NoX
    | o => BP pp M0 Q X K o M') NoX := by
    intro xs
    induction xs with
    | nil =>
      intro b S M ns r w
      rw [List.map_nil, forL, chk_ok (hgd.grd r)]
      have w : Mo.wp (k b) Q X := Mo.pur_wp (Q := fun a => Mo.wp (k a) Q X) w
      exact (hr b).at_ r w
    | cons x xs ih =>
      intro b S M ns r w
      rw [List.map_cons, forL, chk_ok (hgd.grd r)]
      have w := Mo.bnd_wp w
      obtain ⟨S', h1, r1⟩ := ht b x _ M0 S M ns r
      refine Sim.bnd (Sim.ok h1 (Sim.bnd (((hb b x).at_ r1 w).imp (fun fl M2 h => ?_) (fun _ _ _ h => h))))
      cases fl with
      | nx S' => obtain ⟨b', w, ns', r'⟩ := h; exact ih b' S' M2 ns' r' w
      | xc c d S' => exact h
      | rt d => obtain ⟨b, w, z⟩ := h; exact z.elim
      | bk S' => obtain ⟨b, w, z⟩ := h; exact z.elim
      | ct S' => obtain ⟨b, w, z⟩ := h; exact z.elim
  exact gen xs b0 S M1 ns (r.wk hw) w
theorem b_forF {cc : Bool} {it : Lo → Ev (List D × Gd)} {tg : D → Lo → Ev Lo} {body g : Lo → Ev Fl} {px : m (List α)} {st : β → α → m (Fw β ρ)} {k : β → m φ} {inj : ρ → φ} {b0 : β} {fsL : β → List SV} {fsT : β → α → List SV} (hk : KRet cc pp M0 K inj) (hi : IO fs it px) (hw : Wk fs (fsL b0)) (ht : ∀ b x, TgOk (fsL b) tg x (fsT b x))
    (hb : ∀ b x, Blk pp M0 (fsT b x) body (st b x) (KF cc pp M0 fsL)) (hr : ∀ b, Blk pp M0 (fsL b) g (k b) K) : Blk pp M0 fs (sSeq (sFor it tg body) g) (bnd px fun xs => bnd (forF st xs b0) (outF k fun r => pur (inj r))) K := Blk.of fun S M ns r Q X w => by
  refine Sim.seq (Sim.flG ((hi _ M0 S M ns r _ _ (Mo.bnd_wp w)).imp (fun d M1 ⟨xs, gd, e, hgd, w, r⟩ => ?_) (fun c d M1 ⟨x, r⟩ => ⟨x, r.fram⟩)))
  subst e
  have w := Mo.bnd_wp w
  show Sim (forL tg body gd (xs.map enc) S M1) _ NoX
  have gen : ∀ (xs : List α) (b : β) (S : Lo) (M : Store) (ns : Nat → Nat), Rel ⟨pp, []⟩ M0 (fsL b) S M ns → Mo.wp (forF st xs b) (fun o => Mo.wp (outF k (fun r => pur (inj r)) o) Q X) X → Sim (forL tg body gd (xs.map enc) S M) (fun fl M' => match fl with
    | .nx S' => Sim (g S' M') (BP pp M0 Q X K) NoX
    | o => BP pp M0 Q X K o M') NoX := by
    intro xs
    induction xs with
    | nil =>
      intro b S M ns r w
      rw [List.map_nil, forL, chk_ok (hgd.grd r)]
      have w : Mo.wp (k b) Q X := Mo.pur_wp (a := Sum.inl b) (Q := fun o => Mo.wp (outF k (fun r => pur (inj r)) o) Q X) w
      exact (hr b).at_ r w
    | cons x xs ih =>
      intro b S M ns r w
      rw [List.map_cons, forL, chk_ok (hgd.grd r)]
      have w := Mo.bnd_wp w
      obtain ⟨S', h1, r1⟩ := ht b x _ M0 S M ns r
      refine Sim.bnd (Sim.ok h1 (Sim.bnd (((hb b x).at_ r1 w).imp (fun fl M2 h => ?_) (fun _ _ _ h => h))))
      cases fl with
      | nx S' =>
        obtain ⟨o, w, z⟩ := h
        cases o <;> first | exact z.elim | skip
        obtain ⟨ns', r'⟩ := z
        exact ih _ S' M2 ns' r' w
      | xc c d S' => exact h
      | rt d =>
        obtain ⟨o, w, z⟩ := h
        cases o <;> first | exact z.elim | skip
        rename_i rr
        have w : Mo.wp (m := m) (pur (inj rr)) Q X := Mo.pur_wp (a := Sum.inr rr) (Q := fun o => Mo.wp (outF k (fun r => pur (inj r)) o) Q X) w
        exact ⟨_, Mo.pur_wp w, hk _ _ _ z⟩
      | bk S' =>
        obtain ⟨o, w, z⟩ := h
        cases o <;> first | exact z.elim | skip
        obtain ⟨ns', r'⟩ := z
        rename_i bb
        have w : Mo.wp (k bb) Q X := Mo.pur_wp (a := Sum.inl bb) (Q := fun o => Mo.wp (outF k (fun r => pur (inj r)) o) Q X) w
        exact (hr _).at_ r' w
      | ct S' =>
        obtain ⟨o, w, z⟩ := h
        cases o <;> first | exact z.elim | skip
        obtain ⟨ns', r'⟩ := z
        exact ih _ S' M2 ns' r' w
  exact gen xs b0 S M1 ns (r.wk hw) w
end
end TL

set_option Elab.async false
set_option linter.all false
set_option maxRecDepth 100000
set_option maxHeartbeats 1000000
/-! TL5: comprehensions, calls, objects, pools. -/
namespace TL
open PySem L2 DL
open Mo (pur bnd lft)
open Enc (enc)
open EncL (encL)
/-! ### frames -/
theorem wk_n : Wk [] [] := trivial
theorem wk_a {a : SV} {as bs : List SV} (h : Wk as bs) : Wk (a :: as) (.any :: bs) := ⟨.inl rfl, h⟩
theorem wk_s {a : SV} {as bs : List SV} (h : Wk as bs) : Wk (a :: as) (a :: bs) := ⟨.inr rfl, h⟩
def Cin : List SV → List SV → Prop
  | [], [] => True
  | a :: as, b :: bs => (a.cell = false ∨ b = a) ∧ Cin as bs
  | _, _ => False
theorem ci_n : Cin [] [] := trivial
theorem ci_v {a b : SV} {as bs : List SV} (h : Cin as bs) (ha : a.cell = false := by rfl) : Cin (a :: as) (b :: bs) := ⟨.inl ha, h⟩
theorem ci_s {a : SV} {as bs : List SV} (h : Cin as bs) : Cin (a :: as) (a :: bs) := ⟨.inr rfl, h⟩
theorem Cin.get : ∀ {fs fs' : List SV} {i : Nat} {v : SV}, Cin fs fs' → fs[i]? = some v → v.cell = true → fs'[i]? = some v
  | [], [], _, _, _, h, _ => by simp at h
  | a :: as, b :: bs, 0, v, w, h, c => by
    simp at h; subst h
    rcases w.1 with e | e
    · rw [e] at c; cases c
    · simp [e]
  | a :: as, b :: bs, i + 1, v, w, h, c => by
    have := Cin.get (i := i) w.2 (by simpa using h) c
    simpa using this
section
variable {pp : PX} {M0 M M' : Store} {fs fs' fs2 : List SV} {S S2 : Lo} {ns : Nat → Nat} {i j n : Nat} {t : Tg} {l : List D} {d : D}
theorem Rel.back (r : Rel pp M0 fs S M ns) (r2 : Rel pp M0 fs2 S2 M' ns) (c : ∀ (i : Nat) (v : SV), fs[i]? = some v → v.cell = true → fs2[i]? = some v) : Rel pp M0 fs S M' ns := by
  refine ⟨r.len, r2.le, r2.fr, r2.pl, r2.cg, fun i v h => ?_, r.dj⟩
  have s := r.sl i v h
  cases v with
  | any => trivial
  | val d => exact s
  | lc t l => exact ⟨s.1, s.2.1, (r2.sl i _ (c i _ h rfl)).2.2⟩
  | lpl => exact ⟨s.1, s.2.1, (r2.sl i _ (c i _ h rfl)).2.2⟩
  | par n => exact s
  | pin n t l => exact ⟨s.1, s.2.1, s.2.2.1, (r2.sl i _ (c i _ h rfl)).2.2.2⟩
  | ro n t l => exact s
  | tc w l q => exact ⟨s.1, s.2.1, (r2.sl i _ (c i _ h rfl)).2.2⟩
theorem Rel.setA {o : Option D} (r : Rel pp M0 fs S M ns) : Rel pp M0 (fs.set i .any) (S.set i o) M ns := by
  refine ⟨by simp [r.len], r.le, r.fr, r.pl, r.cg, fun j v h => ?_, fun j k u v hn hu hv cu cv => ?_⟩
  · rcases get_set h with ⟨rfl, rfl, hl⟩ | ⟨hn, h⟩
    · trivial
    · have s := r.sl j v h
      have e : (S.set i o)[j]? = S[j]? := List.getElem?_set_ne hn
      cases v <;> first | trivial | (unfold SlotOk at s ⊢; rw [e]; exact s)
  · rcases get_set hu with ⟨_, rfl, _⟩ | ⟨_, hu⟩
    · cases cu
    · rcases get_set hv with ⟨_, rfl, _⟩ | ⟨_, hv⟩
      · cases cv
      · exact r.dj j k u v hn hu hv cu cv
def wipeF (fs : List SV) : List Nat → List SV
  | [] => fs
  | v :: vs => (wipeF fs vs).set v .any
theorem Rel.wipe (r : Rel pp M0 fs S M ns) : ∀ vs, Rel pp M0 (wipeF fs vs) (wipeD S vs) M ns
  | [] => r
  | v :: vs => (r.wipe vs).setA
end
/-! ### comprehensions -/
def nox {m : Type → Type} [Mo m] {α : Type} (x : m α) : m α := Mo.tr x (fun _ _ => lft .bad)
def compM {m : Type → Type} [Mo m] {α β : Type} (c : α → m Bool) (f : α → m β) : List α → m (List β)
  | [] => pur []
  | x :: xs => bnd (nox (c x)) fun b => if b = true then bnd (nox (f x)) fun y => bnd (compM c f xs) fun ys => pur (y :: ys) else compM c f xs
def szL {α : Type} (xs : List α) : E Unit := if xs.length ≤ sizeLine then .ok () else .bad
def lcM {m : Type → Type} [Mo m] {α β : Type} (xs : List α) (c : α → m Bool) (f : α → m β) : m (List β) := bnd (lft (szL xs)) fun _ => compM c f xs
theorem Sim.nox {α : Type} {m : Ev α} {M : Store} {k : α → Store → Prop} {x : Str → D → Store → Prop} (h : Sim (m M) k NoX) : Sim (Ev.nox m M) k x := by
  unfold Ev.nox
  cases e : m M with
  | ok a M' => rw [e] at h; exact h
  | exc c d M' => rw [e] at h; exact h.elim
  | stuck => rw [e] at h; exact h.elim
section
variable {m : Type → Type} [Mo m] {pp : List Nat} {M0 : Store} {fs fs' fs'' : List SV} {α β γ τ φ ρ : Type} [Enc α] [Enc β] [Enc γ] [EncL τ] [Enc ρ] {K : φ → Fl → Store → Prop}
theorem nox_wp {x : m α} {Q : α → Prop} {X : Str → D → Prop} (w : Mo.wp (nox x) Q X) : Mo.wp x Q (fun c d => Mo.wp (m := m) (α := α) (lft E.bad) Q X) := Mo.tr_wp w
theorem nox_wpB {x : m Bool} {Q : Bool → Prop} {X : Str → D → Prop} (w : Mo.wp (nox x) Q X) : Mo.wp x Q (fun c d => Mo.wp (m := m) (α := Bool) (lft E.bad) Q X) := Mo.tr_wp w
theorem nl_lc {it : Lo → Ev (List D × Gd)} {tg : D → Lo → Ev Lo} {tt : Lo → Ev Bool} {te : Lo → Ev D} {vs : List Nat} {px : m (List α)} {c : α → m Bool} {f : α → m β} {fsT : α → List SV} (hi : IO fs it px) (ht : ∀ x, TgOk (wipeF fs vs) tg x (fsT x)) (hc : ∀ x, TO (fsT x) tt (c x)) (hf : ∀ x, EO (fsT x) te (f x)) (hC : ∀ x, Cin fs (fsT x)) :
    NL m fs (nLc it tg tt te vs) (bnd px fun xs => lcM xs c f) := fun pp M0 S M ns r Q X w => by
  refine Sim.bnd ((hi pp M0 S M ns r _ _ (Mo.bnd_wp w)).imp (fun d M1 ⟨xs, gd, e, hgd, w, r⟩ => ?_) (fun _ _ _ h => h))
  subst e
  have w := Mo.lft_wp (Mo.bnd_wp w)
  unfold szL at w
  by_cases hl : xs.length ≤ sizeLine
  · rw [if_pos hl] at w
    have w : Mo.wp (compM c f xs) Q X := w
    show Sim ((if (xs.map enc).length ≤ sizeLine then _ else Ev.no) M1) _ _
    rw [if_pos (by simpa using hl)]
    have gen : ∀ (xs : List α) (M : Store) (Q : List β → Prop), Rel pp M0 fs S M ns → Mo.wp (compM c f xs) Q X → Sim (compL tg tt te gd (wipeD S vs) (xs.map enc) M) (fun ys M' => ∃ v : List β, ys = v.map enc ∧ Q v ∧ Rel pp M0 fs S M' ns) NoX := by
      intro xs
      induction xs with
      | nil =>
        intro M Q r w
        rw [List.map_nil, compL, chk_ok (hgd.grd r)]
        exact ⟨[], rfl, Mo.pur_wp w, r⟩
      | cons x xs ih =>
        intro M Q r w
        rw [List.map_cons, compL, chk_ok (hgd.grd r)]
        have w := nox_wpB (Mo.bnd_wp w)
        obtain ⟨S1, h1, r1⟩ := ht x pp M0 _ M ns (r.wipe vs)
        refine Sim.bnd (Sim.ok (nox_ok h1) (Sim.bnd (Sim.nox (((hc x) pp M0 S1 M ns r1 _ _ w).imp (fun z M1 ⟨w, r1⟩ => ?_) (fun c d M1 ⟨x, r⟩ => Mo.lft_wp x)))))
        have r0 := r.back r1 (fun i v h hv => (hC x).get h hv)
        cases z with
        | false =>
          rw [if_neg (by decide)] at w ⊢
          exact ih M1 Q r0 w
        | true =>
          rw [if_pos rfl] at w ⊢
          have w := nox_wp (Mo.bnd_wp w)
          refine Sim.bnd (Sim.nox (((hf x) pp M0 S1 M1 ns r1 _ _ w).imp (fun z M2 ⟨y, e, w, r1⟩ => ?_) (fun c d M1 ⟨x, r⟩ => Mo.lft_wp x)))
          subst e
          have r0 := r.back r1 (fun i v h hv => (hC x).get h hv)
          refine Sim.bnd ((ih M2 _ r0 (Mo.bnd_wp w)).imp (fun ys M3 ⟨v, e, w, r0⟩ => ?_) (fun _ _ _ h => h))
          subst e
          exact ⟨y :: v, rfl, Mo.pur_wp w, r0⟩
    refine Sim.bnd ((gen xs M1 Q r w).imp (fun ys M3 ⟨v, e, w, r0⟩ => ?_) (fun _ _ _ h => h.elim))
    subst e
    exact ⟨v, rfl, w, r0⟩
  · rw [if_neg hl] at w; exact w.elim
theorem to_yes : TO (m := m) fs tYesD (pur true) := fun pp M0 S M ns r Q X w => ⟨Mo.pur_wp w, r⟩
/-! ### calls -/
mutual
theorem fz_base' {M : Store} {n n0 : Nat} (hn : n0 ≤ n) (k : Nat) (d d' : D) (h : fz M n k d = some d') (hr : rlt n0 d' = true) (h0 : ∀ j, rlt j d' = true) : fz M n0 k d = some d' := by
  cases d with
  | ref c =>
    unfold fz at h
    by_cases hc : c < n
    · rw [if_pos hc] at h
      cases h
      have := h0 0
      simp [rlt] at this
    · rw [if_neg hc] at h
      unfold fz
      rw [if_neg (by omega)]
      cases k with
      | zero => cases h
      | succ k =>
        dsimp only at h ⊢
        cases q : M[c]? with
        | none => rw [q] at h; cases h
        | some tl =>
          obtain ⟨t, l⟩ := tl
          rw [q] at h
          dsimp only at h ⊢
          cases q2 : fzs M n k l with
          | none => rw [q2] at h; cases h
          | some l' =>
            rw [q2] at h
            cases h
            rw [fzs_base' hn k l l' q2 (fun j => by have := h0 j; simpa [rlt] using this)]
            rfl
  | nd t l =>
    unfold fz at h ⊢
    cases q2 : fzs M n k l with
    | none => rw [q2] at h; cases h
    | some l' =>
      rw [q2] at h
      cases h
      rw [fzs_base' hn k l l' q2 (fun j => by have := h0 j; simpa [rlt] using this)]
      rfl
  | _ => unfold fz at h ⊢; exact h
  termination_by (k, sizeOf d)
theorem fzs_base' {M : Store} {n n0 : Nat} (hn : n0 ≤ n) (k : Nat) (l l' : List D) (h : fzs M n k l = some l') (h0 : ∀ j, rlts j l' = true) : fzs M n0 k l = some l' := by
  cases l with
  | nil => rw [fzs] at h ⊢; exact h
  | cons d l =>
    rw [fzs] at h ⊢
    cases q1 : fz M n k d with
    | none => rw [q1] at h; cases h
    | some a =>
      cases q2 : fzs M n k l with
      | none => rw [q1, q2] at h; cases h
      | some b =>
        rw [q1, q2] at h
        cases h
        have ha : ∀ j, rlt j a = true := fun j => by have := h0 j; simp [rlts] at this; exact this.1
        have hb : ∀ j, rlts j b = true := fun j => by have := h0 j; simp [rlts] at this; exact this.2
        rw [fz_base' hn k d a q1 (ha n0) ha, fzs_base' hn k l b q2 hb]
  termination_by (k, sizeOf l)
end
theorem Rel.call {pp : PX} {M0 M M' : Store} {S : Lo} {ns : Nat → Nat} (r : Rel pp M0 fs S M ns) (f : Fram [] M M') : Rel pp M0 fs S M' ns := r.store f.le fun k hk => f.fr k hk (by simp)
theorem Rel.callP {pp : PX} {M0 M M' : Store} {S : Lo} {ns : Nat → Nat} {i : Nat} {v : SV} (r : Rel pp M0 fs S M ns) (hv : fs[i]? = some v) (hp : v = .lpl ∨ ∃ n, v = .par n) (f : Fram [ns i] M M') : Rel pp M0 fs S M' ns :=
  r.storeP hv hp f.le (fun k hk hn => f.fr k hk (by simpa using hn)) (f.pl _ (by simp))
theorem Rel.re {pp : PX} {M0 M : Store} {S : Lo} {ns : Nat → Nat} (r : Rel pp M0 fs S M ns) {mr : Store} (h : Chg mr M) : Rel ⟨pp.pl, mr⟩ M0 fs S M ns := ⟨r.len, r.le, r.fr, r.pl, h, fun i v hv => by
  have := r.sl i v hv
  cases v <;> exact this, r.dj⟩
theorem Rel.cut {pp : PX} {M0 M M' : Store} {S : Lo} {ns : Nat → Nat} (r : Rel pp M0 fs S M ns) (r2 : Rel ⟨pp.pl, M⟩ M0 fs S M' ns) : Rel pp M0 fs S (M'.take M.length) ns := by
  have lt : (M'.take M.length).length = M.length := by rw [List.length_take]; have := r2.cg.le; dsimp only at this; omega
  refine ⟨r.len, by rw [lt]; exact r.le, fun k h1 h2 => ?_, fun n hn => ?_, ?_, fun i v hv => ?_, r.dj⟩
  · rw [List.getElem?_take_of_lt (Nat.lt_of_lt_of_le h1 r.le)]; exact r2.fr k h1 h2
  · have a := r.pl n hn
    exact ⟨a.1, (r2.pl n hn).2.same (List.getElem?_take_of_lt a.2.lt)⟩
  · refine r.cg.trans ⟨by omega, fun k hk => ?_⟩
    rcases r2.cg.same k hk with e | e
    · exact .inl (by rw [List.getElem?_take_of_lt hk]; exact e)
    · exact .inr (e.same (List.getElem?_take_of_lt hk))
  · have s := r.sl i v hv
    have s2 := r2.sl i v hv
    cases v with
    | any => trivial
    | val d => exact s
    | lc t l => exact ⟨s.1, s.2.1, by rw [List.getElem?_take_of_lt (s.lt r rfl)]; exact s2.2.2⟩
    | lpl => exact ⟨s.1, s.2.1, s2.2.2.same (List.getElem?_take_of_lt (s.lt r rfl))⟩
    | par n => exact s
    | pin n t l => exact ⟨s.1, s.2.1, s.2.2.1, by rw [List.getElem?_take_of_lt (by have := s.lt r rfl; rw [s.2.1] at this; exact this)]; exact s2.2.2.2⟩
    | ro n t l => exact s
    | tc w l q => exact ⟨s.1, s.2.1, by rw [List.getElem?_take_of_lt (s.lt r rfl)]; exact s2.2.2⟩
theorem Chg.kept {M M' : Store} (h : Chg M M') : Kept M M' := ⟨h.le, fun i c hi hc => by
  rcases h.same i hi with e | ⟨c', h1, a, b, e, _⟩
  · exact .inl (by rw [← e]; exact hc)
  · rw [h1] at hc
    cases hc
    right
    rw [e]
    rfl⟩
/-- freezing what a whole piece gave -/
theorem sim_fz {cc : Bool} {pp : PX} {M0 M : Store} {S : Lo} {ns : Nat → Nat} {f : Ev D} {Q : ρ → Prop} {X : Str → D → Prop} (r : Rel pp M0 fs S M ns) (h : Sim (f M) (fun d M' => ∃ M1 q v, Q v ∧ Res cc q M1 v d M' ∧ M.length ≤ M1.length ∧ Rel ⟨pp.pl, M⟩ M0 fs S M' ns) (fun c d M' => X c d ∧ Rel ⟨pp.pl, M⟩ M0 fs S M' ns)) :
    Sim (fzE f M) (fun d M' => ∃ v, d = enc v ∧ Q v ∧ Rel pp M0 fs S M' ns) (fun c d M' => X c d ∧ Rel pp M0 fs S M' ns) := by
  cases e : f M with
  | ok d M' =>
    rw [e] at h
    obtain ⟨M1, q, v, hq, hres, hl, r2⟩ := h
    have hz := fz_base' hl 9 d _ hres.2.1 (Enc.nr v _) (fun j => Enc.nr v j)
    refine Sim.ok (a := enc v) (M := M'.take M.length) ?_ ⟨v, rfl, hq, r.cut r2⟩
    unfold fzE
    rw [e]
    dsimp only
    rw [if_pos r2.cg.kept, hz]
  | exc c d M' =>
    rw [e] at h
    unfold fzE
    rw [e]
    refine ⟨h.1, ?_⟩
    have := h.2.re (mr := pp.mr) (r.cg.trans h.2.cg)
    exact this
  | stuck => rw [e] at h; exact h.elim
/-- a call -/
theorem eo_call {cc : Bool} {n : Nat} {F : List D → Ev D} {f : Lo → Ev (List D)} {p : m τ} {q : τ → E ρ} (ha : AO fs f p) (hF : ∀ v, Ret cc [] (F (encL v)) (q v)) (hn : ∀ v : τ, (encL v).length = n) : EO fs (eFz (eCall (callD n F) f)) (bnd p fun v => lft (q v)) := fun pp M0 S M ns r Q X w => by
  refine sim_fz (cc := cc) r (Sim.bnd ((ha _ M0 S M ns (r.re (Chg.refl M)) _ _ (Mo.bnd_wp w)).imp (fun l M1 ⟨v, e, w, r1⟩ => ?_) (fun _ _ _ h => h)))
  subst e
  unfold callD
  rw [if_pos (hn v)]
  exact (hF v M1 (by simp) Q X (lft_wpE w)).imp (fun d M' ⟨v', hq, hres⟩ => ⟨M1, [], v', hq, hres, r1.cg.le, r1.call hres.1⟩) (fun c d M' ⟨x, fr⟩ => ⟨x, r1.call fr⟩)
/-- a call with pure arguments -/
theorem eo_callp {cc : Bool} {n : Nat} {F : List D → Ev D} {f : Lo → Ev (List D)} {v : τ} {q : E ρ} (ha : AP fs f v) (hF : Ret cc [] (F (encL v)) q) (hn : (encL v).length = n) : EO (m := m) fs (eFz (eCall (callD n F) f)) (lft q) := fun pp M0 S M ns r Q X w => by
  refine sim_fz (cc := cc) r (Sim.bnd (Sim.ok (ha _ M0 S M ns r) ?_))
  unfold callD
  rw [if_pos hn]
  have r1 := r.re (Chg.refl M)
  exact (hF M (by simp) Q X (lft_wpE w)).imp (fun d M' ⟨v', hq, hres⟩ => ⟨M, [], v', hq, hres, Nat.le_refl _, r1.call hres.1⟩) (fun c d M' ⟨x, fr⟩ => ⟨x, r1.call fr⟩)
/-- a call that draws from the pool -/
theorem eo_pool {cc : Bool} {n i : Nat} {sv : SV} {F : List D → Ev D} {f : Lo → Ev (List D)} {p : m τ} {q : τ → m ρ} (hv : fs[i]? = some sv) (hp : sv = .lpl ∨ ∃ n, sv = .par n) (ha : AO fs f p) (hF : ∀ c v, Ret cc [c] (F (.ref c :: encL v)) (q v)) (hn : ∀ v : τ, (encL v).length + 1 = n) : EO fs (eFz (eCall (callD n F) (eAc (eVar i) f))) (bnd p fun v => q v) := fun pp M0 S M ns r Q X w => by
  have h1 : eVar i S M = .ok (.ref (ns i)) M := by
    have s := r.sl i _ hv
    rcases hp with rfl | ⟨c, rfl⟩
    · unfold eVar; rw [s.1]; rfl
    · unfold eVar; rw [s.1, s.2.2]; rfl
  have hpool : ∀ M1, Rel ⟨pp.pl, M⟩ M0 fs S M1 ns → PoolAt M1 (ns i) := fun M1 r1 => by
    have s := r1.sl i _ hv
    rcases hp with rfl | ⟨c, rfl⟩
    · exact s.2.2
    · rw [s.2.2]; exact (r1.pl c s.2.1).2
  refine sim_fz (cc := cc) r (Sim.bnd (Sim.bnd (Sim.ok h1 (Sim.bnd ((ha _ M0 S M ns (r.re (Chg.refl M)) _ _ (Mo.bnd_wp w)).imp (fun l M1 ⟨v, e, w, r1⟩ => ?_) (fun _ _ _ h => h))))))
  subst e
  show Sim (callD n F (.ref (ns i) :: encL v) M1) _ _
  unfold callD
  rw [if_pos (by rw [List.length_cons]; exact hn v)]
  exact (hF (ns i) v M1 (by intro c hc; simp at hc; subst hc; exact hpool M1 r1) Q X w).imp (fun d M' ⟨v', hq, hres⟩ => ⟨M1, [ns i], v', hq, hres, r1.cg.le, r1.callP hv hp hres.1⟩) (fun c d M' ⟨x, fr⟩ => ⟨x, r1.callP hv hp fr⟩)
/-- a method of a frozen object -/
theorem eo_meth {cc : Bool} {cn mm : Str} {n : Nat} {F : List D → Ev D} {fo : Lo → Ev D} {f : Lo → Ev (List D)} {o : α} {os : List Str} {l : List D} {p : m τ} {q : τ → E ρ} (ho : EP fs fo o) (eo : enc o = .nd (.obj cn os) l) (hm : mm ∉ os) (ha : AO fs f p) (hF : ∀ v, Ret cc [] (F (enc o :: encL v)) (q v)) (hn : ∀ v : τ, (encL v).length + 1 = n) :
    EO fs (eFz (eMeth cn mm n F [] fo f)) (bnd p fun v => lft (q v)) := fun pp M0 S M ns r Q X w => by
  have hi : DL.isObj cn mm (enc o) M = .ok () M := by
    unfold DL.isObj
    rw [eo, bok (show vw (D.nd (.obj cn os) l) M = .ok (.obj cn os, l) M from rfl)]
    dsimp only
    rw [if_pos ⟨rfl, hm⟩]
    rfl
  refine sim_fz (cc := cc) r (Sim.bnd (Sim.ok (ho _ M0 S M ns r) (Sim.bnd (Sim.ok hi (Sim.bnd ((ha _ M0 S M ns (r.re (Chg.refl M)) _ _ (Mo.bnd_wp w)).imp (fun l M1 ⟨v, e, w, r1⟩ => ?_) (fun _ _ _ h => h)))))))
  subst e
  rw [List.append_nil]
  unfold callD
  rw [if_pos (by rw [List.length_cons]; exact hn v)]
  exact (hF v M1 (by simp) Q X (lft_wpE w)).imp (fun d M' ⟨v', hq, hres⟩ => ⟨M1, [], v', hq, hres, r1.cg.le, r1.call hres.1⟩) (fun c d M' ⟨x, fr⟩ => ⟨x, r1.call fr⟩)
theorem ep_fld {cn f : Str} {a : Lo → Ev D} {os : List Str} {l : List D} {v : α} (ha : EV fs a (.obj cn os) l) (hf : (os.zip l).lookup f = some (enc v)) : EP fs (e1 (fldE cn f) a) v := fun pp M0 S M ns r => by
  obtain ⟨d, h1, h2⟩ := ha pp M0 S M ns r
  unfold e1
  rw [bok h1]
  unfold fldE
  rw [bok h2]
  dsimp only
  rw [if_pos rfl, hf]
  rfl
/-! ### whole defs -/
theorem start_rel {n : Nat} {l : List D} (pp : List Nat) (M0 : Store) (hp : ∀ c ∈ pp, PoolAt M0 c) (fs : List SV) (hl : fs.length = n) (hle : l.length ≤ n) (hfs : ∀ (i : Nat) (v : SV), fs[i]? = some v → v = .any ∨ (∃ d, v = .val d ∧ l[i]? = some d)) : Rel ⟨pp, []⟩ M0 fs (startD n l) M0 (fun _ => 0) := by
  refine ⟨by unfold startD; simp; omega, Nat.le_refl _, fun _ _ _ => rfl, fun c hc => ⟨(hp c hc).lt, hp c hc⟩, Chg.none _, fun i v h => ?_, fun i j u v hn hu hv cu cv => ?_⟩
  · rcases hfs i v h with rfl | ⟨d, rfl, h2⟩
    · trivial
    · show (startD n l)[i]? = some (some d)
      unfold startD
      rw [List.getElem?_append_left (by have := (List.getElem?_eq_some_iff.mp h2).1; simpa using this), List.getElem?_map, h2]
      rfl
  · rcases hfs i u hu with rfl | ⟨d, rfl, h2⟩ <;> cases cu
theorem ret_of {cc : Bool} {n : Nat} {g : Lo → Ev Fl} {l : List D} {p : m ρ} {fs : List SV} (hl : fs.length = n) (hle : l.length ≤ n) (hfs : ∀ (i : Nat) (v : SV), fs[i]? = some v → v = .any ∨ (∃ d, v = .val d ∧ l[i]? = some d)) (h : ∀ M0, Blk [] M0 fs g p (KT cc [] M0)) : Ret cc [] (runF n g l) p := fun M hp Q X w => by
  have key := (h M).at_ (start_rel [] M (by simp) fs hl hle hfs) w
  unfold runF
  refine Sim.bnd ?_
  unfold Ev.nox
  cases e : g (startD n l) M with
  | stuck => rw [e] at key; exact key.elim
  | exc c d M' => rw [e] at key; exact key.elim
  | ok fl M' =>
    rw [e] at key
    cases fl with
    | nx S' => exact key
    | rt d => exact key
    | bk S' => obtain ⟨f, _, z⟩ := key; exact z.elim
    | ct S' => obtain ⟨f, _, z⟩ := key; exact z.elim
    | xc c d S' => exact key
/-- the def's frame: its values, then unbound names -/
def fr0 (vs : List D) (n : Nat) : List SV := vs.map SV.val ++ List.replicate (n - vs.length) .any
theorem fr0_ok {vs : List D} {n : Nat} (h : vs.length ≤ n) : (fr0 vs n).length = n ∧ ∀ (i : Nat) (v : SV), (fr0 vs n)[i]? = some v → v = .any ∨ (∃ d, v = .val d ∧ vs[i]? = some d) := by
  unfold fr0
  refine ⟨by simp; omega, fun i v hv => ?_⟩
  by_cases hi : i < vs.length
  · rw [List.getElem?_append_left (by simpa using hi), List.getElem?_map] at hv
    cases q : vs[i]? with
    | none => rw [q] at hv; cases hv
    | some d => rw [q] at hv; cases hv; exact .inr ⟨d, rfl, rfl⟩
  · rw [List.getElem?_append_right (by simpa using hi)] at hv
    obtain ⟨h1, h2⟩ := List.getElem?_eq_some_iff.mp hv
    rw [List.getElem_replicate] at h2
    exact .inl h2.symm
theorem ret_def {cc : Bool} {n : Nat} {g : Lo → Ev Fl} {l : List D} {p : m ρ} (hle : l.length ≤ n) (h : ∀ M0, Blk [] M0 (fr0 l n) g p (KT cc [] M0)) : Ret cc [] (runF n g l) p := ret_of (fr0_ok hle).1 hle (fr0_ok hle).2 h
/-- a def whose first argument is a pool -/
theorem ret_pool {cc : Bool} {n c : Nat} {g : Lo → Ev Fl} {l : List D} {p : m ρ} (hle : l.length + 1 ≤ n) (h : ∀ M0, Blk [c] M0 (.par c :: fr0 l (n - 1)) g p (KT cc [c] M0)) : Ret cc [c] (runF n g (.ref c :: l)) p := fun M hp Q X w => by
  obtain ⟨f1, f2⟩ := fr0_ok (vs := l) (n := n - 1) (by omega)
  have r0 := start_rel (l := l) [c] M hp (fr0 l (n - 1)) f1 (by omega) f2
  have r : Rel ⟨[c], []⟩ M (.par c :: fr0 l (n - 1)) (startD n (.ref c :: l)) M (fun _ => c) := by
    refine ⟨by unfold startD; simp [f1]; omega, Nat.le_refl _, fun _ _ _ => rfl, r0.pl, Chg.none _, fun i v hv => ?_, fun i j u v hn hu hv cu cv => ?_⟩
    · cases i with
      | zero => simp at hv; subst hv; exact ⟨rfl, by simp, rfl⟩
      | succ i =>
        have := r0.sl i v (by simpa using hv)
        rcases f2 i v (by simpa using hv) with rfl | ⟨d, rfl, h2⟩
        · trivial
        · show (startD n (.ref c :: l))[i + 1]? = some (some d)
          unfold startD
          rw [List.getElem?_append_left (by have := (List.getElem?_eq_some_iff.mp h2).1; simpa using this), List.getElem?_map, List.getElem?_cons_succ, h2]
          rfl
    · have z : ∀ i u, (SV.par c :: fr0 l (n - 1))[i]? = some u → u.cell = true → i = 0 := fun i u hu cu => by
        cases i with
        | zero => rfl
        | succ i =>
          rcases f2 i u (by simpa using hu) with rfl | ⟨d, rfl, h2⟩ <;> cases cu
      have a := z i u hu cu
      have b := z j v hv cv
      omega
  have key := (h M).at_ r w
  unfold runF
  refine Sim.bnd ?_
  unfold Ev.nox
  cases e : g (startD n (.ref c :: l)) M with
  | stuck => rw [e] at key; exact key.elim
  | exc c d M' => rw [e] at key; exact key.elim
  | ok fl M' =>
    rw [e] at key
    cases fl with
    | nx S' => exact key
    | rt d => exact key
    | bk S' => obtain ⟨f, _, z⟩ := key; exact z.elim
    | ct S' => obtain ⟨f, _, z⟩ := key; exact z.elim
    | xc c d S' => exact key
/-- a call whose list is kept as a cell -/
theorem b_callC {n i : Nat} {F : List D → Ev D} {f : Lo → Ev (List D)} {g : Lo → Ev Fl} {p : m τ} {q : τ → E (List α)} {k : List α → m φ} (ha : AO fs f p) (hF : ∀ v, Ret true [] (F (encL v)) (q v)) (hn : ∀ v : τ, (encL v).length = n) (hr : ∀ x, Blk pp M0 (fs.set i (.L x)) g (k x) K) :
    Blk pp M0 fs (sSeq (sAsg (eCall (callD n F) f) (gNm i)) g) (bnd (bnd p fun v => lft (q v)) k) K := Blk.of fun S M ns r Q X w => by
  refine Sim.seq (Sim.fl (Sim.bnd ((ha _ M0 S M ns r _ _ (Mo.bnd_wp (Mo.bnd_wp w))).imp (fun l M1 ⟨v, e, w, r1⟩ => ?_) (fun c d M1 ⟨x, r⟩ => ⟨x, r.fram⟩))))
  subst e
  unfold callD
  rw [if_pos (hn v)]
  refine (hF v M1 (by simp) _ _ (lft_wpE w)).imp (fun d M' ⟨v', hq, hres⟩ => ?_) (fun c d M' ⟨x, fr⟩ => ⟨x, (r1.call fr).fram⟩)
  obtain ⟨fr, _, h3⟩ := hres
  obtain ⟨c, t, l, rfl, hc, hm, he⟩ := h3 rfl
  cases he
  exact (hr v').at_ (r1.setC (i := i) hc hm fr.le (fun k hk => fr.fr k hk (by simp))) hq
/-- a new pool -/
def PoolRet (f : Ev D) : Prop := ∀ M, ∃ c M', f M = .ok (.ref c) M' ∧ M.length ≤ c ∧ PoolAt M' c ∧ M.length ≤ M'.length ∧ ∀ k, k < M.length → M'[k]? = M[k]?
theorem b_newPool {n i : Nat} {F : List D → Ev D} {f : Lo → Ev (List D)} {g : Lo → Ev Fl} {v : τ} {p : m φ} (ha : AP fs f v) (hF : PoolRet (F (encL v))) (hn : (encL v).length = n) (hr : Blk pp M0 (fs.set i .lpl) g p K) : Blk pp M0 fs (sSeq (sAsg (eCall (callD n F) f) (gNm i)) g) p K := Blk.of fun S M ns r Q X w => by
  obtain ⟨c, M', h1, h2, h3, h4, h5⟩ := hF M
  have e : eCall (callD n F) f S M = .ok (.ref c) M' := by
    unfold eCall
    rw [bok (ha _ M0 S M ns r)]
    unfold callD
    rw [if_pos hn, h1]
  exact Sim.seq (Sim.fl (Sim.ok e (hr.at_ (r.setP (i := i) h2 h3 h4 h5) w)))
end
end TL

set_option Elab.async false
set_option linter.all false
set_option maxRecDepth 100000
set_option maxHeartbeats 1000000
/-! TL6: dicts with numbers as keys, objects made, zip, insert. -/
namespace TL
open PySem L2 DL
open Mo (pur bnd lft)
open Enc (enc)
open EncL (encL)
/-- a dict by its pairs -/
structure Dc (α : Type) where
  kv : List (Int × α)
abbrev dks {α : Type} (d : Dc α) : List Key := d.kv.map fun p => Sum.inl p.1
abbrev dvs {α : Type} [Enc α] (d : Dc α) : List D := d.kv.map fun p => enc p.2
theorem nrv {α : Type} [Enc α] (n : Nat) : ∀ xs : List (Int × α), rlts n (xs.map fun p => enc p.2) = true
  | [] => rfl
  | x :: xs => by simp [rlts, Enc.nr x.2 n, nrv n xs]
instance {α : Type} [Enc α] : Enc (Dc α) := ⟨fun d => .nd (.dct (dks d)) (dvs d), fun d n => by simp [rlt, nrv]⟩
abbrev SV.D {α : Type} [Enc α] (d : Dc α) : SV := .lc (.dct (dks d)) (dvs d)
def dfind {α : Type} (d : Dc α) (k : Int) : Option α := (d.kv.find? fun p => decide (p.1 = k)).map (·.2)
def dget {α : Type} (d : Dc α) (k : Int) : E α := match dfind d k with
  | some a => .ok a
  | none => .bad
def dputV {α : Type} (d : Dc α) (k : Int) (a : α) : Dc α := ⟨if (d.kv.any fun p => decide (p.1 = k)) = true then d.kv.map (fun p => if p.1 = k then (p.1, a) else p) else d.kv ++ [(k, a)]⟩
def dput {α : Type} (d : Dc α) (k : Int) (a : α) : E (Dc α) := if d.kv.length < sizeLine then .ok (dputV d k a) else .bad
section
variable {α : Type} [Enc α]
end
section
variable {m : Type → Type} [Mo m] {pp : List Nat} {M0 : Store} {fs fs' fs'' : List SV} {α β γ τ κ φ ρ ω : Type} [Enc α] [Enc β] [Enc γ] [EncL τ] [EncL κ] [Enc ρ] [Enc ω] {K : φ → Fl → Store → Prop}
theorem EP.dv {e : Lo → Ev D} {d : Dc α} (h : EP fs e d) : EV fs e (.dct (dks d)) (dvs d) := h.ev rfl
/-! ### zip -/
/-! ### insert, [::-1], in -/
/-! ### objects made -/
theorem b_fld {cn f : Str} {i : Nat} {fv : Lo → Ev D} {g : Lo → Ev Fl} {os : List Str} {l : List D} {pe : m α} {k : α → m φ} {c : Nat} (hi : fs[i]? = some (.pin c (.obj cn os) l)) (ho : Nat.ble (os.length + 1) 1000 = true) (he : EO fs fv pe) (hr : ∀ x, Blk pp M0 (fs.set i (.pin c (.obj cn (putD f (enc x) os l).1) (putD f (enc x) os l).2)) g (k x) K) :
    Blk pp M0 fs (sSeq (sFldD cn f (eVar i) fv) g) (bnd pe k) K := Blk.of fun S M ns r Q X w => by
  refine Sim.seq (Sim.fl ((he _ M0 S M ns r _ _ (Mo.bnd_wp w)).imp (fun x M1 ⟨v, e, w, r⟩ => ?_) (fun c d M1 ⟨x, r⟩ => ⟨x, r.fram⟩)))
  subst e
  have s := r.sl i _ hi
  have h1 : eVar i S M1 = .ok (.ref c) M1 := by unfold eVar; rw [s.1]; rfl
  refine Sim.fl (Sim.ok h1 (Sim.bnd (Sim.ok (a := ()) (M := M1.set c (.obj cn (putD f (enc v) os l).1, (putD f (enc v) os l).2)) ?_ ?_)))
  · unfold stE
    simp only [s.2.2.2]
    rw [if_pos ⟨trivial, Nat.le_of_ble_eq_true ho⟩]
  · exact (hr v).at_ (r.wrP rfl hi) w
/-- what __init__ makes of an object -/
def Ini {ω : Type} [Enc ω] (cn : Str) (F : List D → Ev D) (l : List D) (p : E ω) : Prop := ∀ M Q X, Mo.wp p Q X → Sim (F (.ref M.length :: l) (M ++ [(.obj cn [], [])]))
  (fun d M' => d = .non ∧ ∃ o os vs, Q o ∧ Fram [] M M' ∧ M'[M.length]? = some (.obj cn os, vs) ∧ enc o = .nd (.obj cn os) vs) (fun c d M' => X c d ∧ Fram [] M M')
/-- a tail block of __init__ -/
def KI {ω : Type} [Enc ω] (cn : Str) (c : Nat) (M0 : Store) : ω → Fl → Store → Prop := fun o fl M' => match fl with
  | .nx S => ∃ ns fs os vs, Rel ⟨[], []⟩ M0 fs S M' ns ∧ fs[0]? = some (.pin c (.obj cn os) vs) ∧ enc o = .nd (.obj cn os) vs
  | _ => False
theorem b_endI {cn : Str} {c : Nat} {o : ω} {os : List Str} {vs : List D} (h : fs[0]? = some (.pin c (.obj cn os) vs)) (he : enc o = .nd (.obj cn os) vs) : Blk (m := m) [] M0 fs sNext (pur o) (KI cn c M0) := Blk.of fun S M ns r Q X w => ⟨o, Mo.pur_wp w, ns, fs, os, vs, r, h, he⟩
theorem ini_def {cn : Str} {n : Nat} {g : Lo → Ev Fl} {l : List D} {p : E ω} (hle : l.length + 1 ≤ n) (h : ∀ M0 c, Blk [] M0 (.pin c (.obj cn []) [] :: fr0 l (n - 1)) g p (KI cn c M0)) : Ini cn (runF n g) l p := fun M Q X w => by
  obtain ⟨f1, f2⟩ := fr0_ok (vs := l) (n := n - 1) (by omega)
  have g0 : (M ++ [(Tg.obj cn [], [])])[M.length]? = some (.obj cn [], []) := by simp
  have r : Rel ⟨[], []⟩ M (.pin M.length (.obj cn []) [] :: fr0 l (n - 1)) (startD n (.ref M.length :: l)) (M ++ [(.obj cn [], [])]) (fun _ => M.length) := by
    refine ⟨by unfold startD; simp [f1]; omega, by simp, fun k hk _ => List.getElem?_append_left hk, by simp, Chg.none _, fun i v hv => ?_, fun i j u v hn hu hv cu cv => ?_⟩
    · cases i with
      | zero => simp at hv; subst hv; exact ⟨rfl, rfl, Nat.le_refl _, g0⟩
      | succ i =>
        rcases f2 i v (by simpa using hv) with rfl | ⟨d, rfl, h2⟩
        · trivial
        · show (startD n (.ref M.length :: l))[i + 1]? = some (some d)
          unfold startD
          rw [List.getElem?_append_left (by have := (List.getElem?_eq_some_iff.mp h2).1; simpa using this), List.getElem?_map, List.getElem?_cons_succ, h2]
          rfl
    · have z : ∀ i u, (SV.pin M.length (.obj cn []) [] :: fr0 l (n - 1))[i]? = some u → u.cell = true → i = 0 := fun i u hu cu => by
        cases i with
        | zero => rfl
        | succ i =>
          rcases f2 i u (by simpa using hu) with rfl | ⟨d, rfl, h2⟩ <;> cases cu
      have a := z i u hu cu
      have b := z j v hv cv
      omega
  have key := (h M M.length).at_ r w
  unfold runF
  refine Sim.bnd ?_
  unfold Ev.nox
  cases e : g (startD n (.ref M.length :: l)) (M ++ [(.obj cn [], [])]) with
  | stuck => rw [e] at key; exact key.elim
  | exc c d M' => rw [e] at key; exact key.elim
  | ok fl M' =>
    rw [e] at key
    cases fl with
    | nx S' =>
      obtain ⟨o, q, ns, fs, os, vs, r', h1, h2⟩ := key
      have s := r'.sl 0 _ h1
      exact ⟨rfl, o, os, vs, q, r'.fram, s.2.2.2, h2⟩
    | rt d => obtain ⟨f, _, z⟩ := key; exact z.elim
    | bk S' => obtain ⟨f, _, z⟩ := key; exact z.elim
    | ct S' => obtain ⟨f, _, z⟩ := key; exact z.elim
    | xc c d S' => exact key
theorem rlts_obj {o : ω} {t : Tg} {vs : List D} (h : enc o = .nd t vs) (n : Nat) : rlts n vs = true := by
  have := Enc.nr o n
  rw [h] at this
  simpa [rlt] using this
/-- C(..., k=...) -/
theorem eo_make {cn : Str} {n i j : Nat} {F : List D → Ev D} {f g : Lo → Ev (List D)} {v : τ} {z : κ} {q : E ω} (ha : AP fs f v) (hk : AP fs g z) (hF : Ini cn F (encL v ++ encL z) q) (hi : (encL v).length = i) (hj : (encL z).length = j) : EO (m := m) fs (eFz (eMake cn n i j (fun d l z => d :: (l ++ z)) F f g)) (lft q) := fun pp M0 S M ns r Q X w => by
  have e0 : eMake cn n i j (fun d l z => d :: (l ++ z)) F f g S M = makeD cn F (fun d => d :: (encL v ++ encL z)) M := by
    unfold eMake
    rw [bok (ha _ M0 S M ns r), bok (hk _ M0 S M ns r), if_pos ⟨hi, hj⟩]
  refine sim_fz (cc := false) r ?_
  rw [e0]
  have key := hF M Q X (lft_wpE w)
  unfold makeD
  have r1 := r.re (Chg.refl M)
  cases e : F (.ref M.length :: (encL v ++ encL z)) (M ++ [(.obj cn [], [])]) with
  | stuck => rw [e] at key; exact key.elim
  | exc c d M' => rw [e] at key; exact ⟨key.1, r1.call key.2⟩
  | ok d M' =>
    rw [e] at key
    obtain ⟨rfl, o, os, vs, hq, fr, hm, he⟩ := key
    refine ⟨M, [], o, hq, ⟨fr, ?_, fun h => by cases h⟩, Nat.le_refl _, r1.call fr⟩
    rw [he]
    exact fz_cell (Nat.le_refl _) hm (rlts_obj he _)
end
end TL

set_option Elab.async false
set_option linter.all false
set_option maxRecDepth 100000
set_option maxHeartbeats 4000000
/-! TA: evaluation by hand, for links_of. -/
namespace DL
open PySem L2
theorem run_rt {N : Nat} {g : Lo → Ev Fl} {l : List D} {M M' : Store} {d : D} (h : g (startD N l) M = .ok (.rt d) M') : runF N g l M = .ok d M' := by
  simp only [runF, Ev.bnd, Ev.nox, h, Out.bnd, Ev.ret]
theorem seq_nx {f g : Lo → Ev Fl} {S S1 : Lo} {M M1 : Store} (h : f S M = .ok (.nx S1) M1) : sSeq f g S M = g S1 M1 := by
  simp only [sSeq, Ev.bnd, h, Out.bnd]
theorem asg_nm {f : Lo → Ev D} {i : Nat} {S : Lo} {M M1 : Store} {d : D} (h : f S M = .ok d M1) : sAsg f (gNm i) S M = .ok (.nx (S.set i (some d))) M1 := by
  simp only [sAsg, Ev.fl, h, gNm, Ev.bnd, Ev.ret, Out.bnd]
theorem exp_ok {f : Lo → Ev D} {S : Lo} {M M1 : Store} {d : D} (h : f S M = .ok d M1) : sExp f S M = .ok (.nx S) M1 := by
  simp only [sExp, Ev.fl, h, Ev.ret]
theorem ret_ok {f : Lo → Ev D} {S : Lo} {M M1 : Store} {d : D} (h : f S M = .ok d M1) : sRet f S M = .ok (.rt d) M1 := by
  simp only [sRet, Ev.fl, h, Ev.ret]
theorem bnd_ok {α β : Type} {m : Ev α} {k : α → Ev β} {M M1 : Store} {a : α} (h : m M = .ok a M1) : (m.bnd k) M = k a M1 := by
  simp only [Ev.bnd, h, Out.bnd]
/-- a walk: what holds of the part walked -/
theorem for_inv {α : Type} {enc : α → D} {tg : D → Lo → Ev Lo} {body : Lo → Ev Fl} {g : Gd} (J : List α → Lo → Store → Prop) (xs : List α) {S : Lo} {M : Store} (h0 : J [] S M) (hg : ∀ pre S M, J pre S M → grd g M)
    (step : ∀ pre x post S M, xs = pre ++ x :: post → J pre S M → ∃ S1 M1 S2 M2, tg (enc x) S M = .ok S1 M1 ∧ body S1 M1 = .ok (.nx S2) M2 ∧ J (pre ++ [x]) S2 M2) :
    ∃ S' M', forL tg body g (xs.map enc) S M = .ok (.nx S') M' ∧ J xs S' M' := by
  have gen : ∀ (post pre : List α) (S : Lo) (M : Store), xs = pre ++ post → J pre S M → ∃ S' M', forL tg body g (post.map enc) S M = .ok (.nx S') M' ∧ J xs S' M' := by
    intro post
    induction post with
    | nil =>
      intro pre S M e j
      rw [List.append_nil] at e
      subst e
      exact ⟨S, M, by rw [List.map_nil, forL, chk_ok (hg _ _ _ j)]; rfl, j⟩
    | cons x post ih =>
      intro pre S M e j
      obtain ⟨S1, M1, S2, M2, h1, h2, j2⟩ := step pre x post S M e j
      obtain ⟨S', M', h3, j3⟩ := ih (pre ++ [x]) S2 M2 (by rw [e]; simp) j2
      refine ⟨S', M', ?_, j3⟩
      rw [List.map_cons, forL, chk_ok (hg _ _ _ j), bnd_ok h1, bnd_ok h2]
      exact h3
  exact gen xs [] S M rfl h0
theorem sfor_ok {fi : Lo → Ev (List D × Gd)} {tg : D → Lo → Ev Lo} {body : Lo → Ev Fl} {S : Lo} {M M1 : Store} {r : List D × Gd} (h : fi S M = .ok r M1) : sFor fi tg body S M = forL tg body r.2 r.1 S M1 := by
  simp only [sFor, Ev.flG, h]
/-- a list built by walking, in general -/
theorem comp_inv {α : Type} {enc : α → D} {tg : D → Lo → Ev Lo} {tt : Lo → Ev Bool} {te : Lo → Ev D} {g : Gd} {S : Lo} (J : List α → List D → Store → Prop) (xs : List α) {M : Store} (h0 : J [] [] M) (hg : ∀ pre o M, J pre o M → grd g M)
    (step : ∀ pre x post o M, xs = pre ++ x :: post → J pre o M → ∃ S1 M1 b M2, tg (enc x) S M = .ok S1 M1 ∧ tt S1 M1 = .ok b M2 ∧ (b = true → ∃ y M3, te S1 M2 = .ok y M3 ∧ J (pre ++ [x]) (o ++ [y]) M3) ∧ (b = false → J (pre ++ [x]) o M2)) :
    ∃ ys M', compL tg tt te g S (xs.map enc) M = .ok ys M' ∧ J xs ys M' := by
  have gen : ∀ (post pre : List α) (o : List D) (M : Store), xs = pre ++ post → J pre o M → ∃ ys M', compL tg tt te g S (post.map enc) M = .ok ys M' ∧ J xs (o ++ ys) M' := by
    intro post
    induction post with
    | nil =>
      intro pre o M e j
      rw [List.append_nil] at e
      subst e
      exact ⟨[], M, by rw [List.map_nil, compL, chk_ok (hg _ _ _ j)]; rfl, by rw [List.append_nil]; exact j⟩
    | cons x post ih =>
      intro pre o M e j
      obtain ⟨S1, M1, b, M2, h1, h2, h3, h4⟩ := step pre x post o M e j
      cases b with
      | true =>
        obtain ⟨y, M3, h5, j3⟩ := h3 rfl
        obtain ⟨ys, M', h6, j4⟩ := ih (pre ++ [x]) (o ++ [y]) M3 (by rw [e]; simp) j3
        refine ⟨y :: ys, M', ?_, by rw [List.append_assoc] at j4; exact j4⟩
        rw [List.map_cons, compL, chk_ok (hg _ _ _ j), bnd_ok (nox_ok h1), bnd_ok (nox_ok h2), if_pos rfl, bnd_ok (nox_ok h5), bnd_ok h6]
        rfl
      | false =>
        obtain ⟨ys, M', h6, j4⟩ := ih (pre ++ [x]) o M2 (by rw [e]; simp) (h4 rfl)
        refine ⟨ys, M', ?_, j4⟩
        rw [List.map_cons, compL, chk_ok (hg _ _ _ j), bnd_ok (nox_ok h1), bnd_ok (nox_ok h2), if_neg (by decide)]
        exact h6
  obtain ⟨ys, M', h, j⟩ := gen xs [] [] M rfl h0
  exact ⟨ys, M', h, j⟩
theorem lc_ok {fi : Lo → Ev (List D × Gd)} {tg : D → Lo → Ev Lo} {tt : Lo → Ev Bool} {te : Lo → Ev D} {vs : List Nat} {S : Lo} {M M1 M2 : Store} {r : List D × Gd} {ys : List D} (h : fi S M = .ok r M1) (hl : r.1.length ≤ sizeLine) (h2 : compL tg tt te r.2 (wipeD S vs) r.1 M1 = .ok ys M2) : nLc fi tg tt te vs S M = .ok (.n .lst ys) M2 := by
  simp only [nLc]
  rw [bnd_ok h, if_pos hl, bnd_ok h2]
  rfl
theorem sl_le {n : Nat} (h : n ≤ 1000) : n ≤ sizeLine := Nat.le_trans h (by decide)
theorem lt_sl {n : Nat} (h : n < 1000) : n < sizeLine := Nat.lt_of_lt_of_le h (by decide)
def newK (t : Tg) (l : List D) : Ev NR := if l.length ≤ sizeLine then Ev.ret (.n t l) else Ev.no
theorem nNew_eq (t : Tg) (f : Lo → Ev (List D)) (S : Lo) : nNew t f S = (f S).bnd (newK t) := rfl
theorem newK_ok (t : Tg) (l : List D) (h : l.length ≤ 1000) : newK t l = Ev.ret (.n t l) := if_pos (sl_le h)
theorem new0 (t : Tg) : newK t [] = Ev.ret (.n t []) := newK_ok t _ (by simp)
theorem new1 (t : Tg) (a : D) : newK t [a] = Ev.ret (.n t [a]) := newK_ok t _ (by simp)
theorem new2 (t : Tg) (a b : D) : newK t [a, b] = Ev.ret (.n t [a, b]) := newK_ok t _ (by simp)
theorem new3 (t : Tg) (a b c : D) : newK t [a, b, c] = Ev.ret (.n t [a, b, c]) := newK_ok t _ (by simp)
theorem new4 (t : Tg) (a b c d : D) : newK t [a, b, c, d] = Ev.ret (.n t [a, b, c, d]) := newK_ok t _ (by simp)
theorem new8 (t : Tg) (a b c d e f g h : D) : newK t [a, b, c, d, e, f, g, h] = Ev.ret (.n t [a, b, c, d, e, f, g, h]) := newK_ok t _ (by simp)
theorem add_int (i j : Int) : addN (.int i) (.int j) = Ev.ret (.v (.int (i + j))) := rfl
theorem at_nat {α : Type} (xs : List α) (k : Nat) : atI xs (k : Int) = xs[k]? := by
  unfold atI ixN
  rw [if_pos (by omega)]
  by_cases h : k < xs.length
  · rw [if_pos (by omega)]; simp
  · rw [if_neg (by omega)]; simp; omega
theorem ix_nd {t : Tg} {l : List D} {k : Nat} {M : Store} {d : D} (ht : FC.isSeq t = true) (h : l[k]? = some d) : ixE (.nd t l) (.int (k : Int)) M = .ok d M := by
  simp only [ixE, sq, vw, Ev.bnd, Ev.ret, Out.bnd, ht, if_pos, at_nat, h, optE]
theorem mul_i {i j : Int} (h : CMul i j) : mulE (.int i) (.int j) = Ev.ret (.int (i * j)) := if_pos h
theorem mod_i {i j : Int} (h : 0 < j) : modE (.int i) (.int j) = Ev.ret (.int (i % j)) := if_pos h
theorem div_i {i j : Int} (h : CDivW i j) : divE (.int i) (.int j) = Ev.ret (.int (i / j)) := if_pos h
theorem a0_ok {S : Lo} {M : Store} : eA0 S M = .ok [] M := rfl
theorem e2_ret {op : D → D → Ev D} {fa fb : Lo → Ev D} {S : Lo} {M M1 M2 : Store} {x y z : D} (ha : fa S M = .ok x M1) (hb : fb S M1 = .ok y M2) (ho : op x y = Ev.ret z) : e2 op fa fb S M = .ok z M2 := by
  unfold e2
  rw [bnd_ok ha, bnd_ok hb, ho]
  rfl
theorem add_ret {fa fb : Lo → Ev D} {S : Lo} {M M1 M2 : Store} {x y : Int} (ha : fa S M = .ok (.int x) M1) (hb : fb S M1 = .ok (.int y) M2) : eF (n2 addN fa fb) S M = .ok (.int (x + y)) M2 := by
  have h : n2 addN fa fb S M = .ok (.v (.int (x + y))) M2 := by
    unfold n2
    rw [bnd_ok ha, bnd_ok hb, add_int]
    rfl
  unfold eF
  rw [bnd_ok h]
  rfl
theorem c_ok (d : D) (S : Lo) (M : Store) : eC d S M = .ok d M := rfl
theorem v_ok {i : Nat} {S : Lo} {M : Store} {d : D} (h : S[i]? = some (some d)) : eVar i S M = .ok d M := by
  unfold eVar
  rw [h]
  rfl

theorem ac_ok {f : Lo → Ev D} {g : Lo → Ev (List D)} {S : Lo} {M M1 M2 : Store} {x : D} {l : List D} (h : f S M = .ok x M1) (h2 : g S M1 = .ok l M2) : eAc f g S M = .ok (x :: l) M2 := by
  simp only [eAc, Ev.bnd, h, h2, Out.bnd, Ev.ret]
abbrev nI (k : Nat) : D := .int (k : Int)
def encE (e : Nat × Nat) : D := .tup [nI e.1, nI e.2]
theorem rg_nat (n : Nat) : rgD 0 (n : Int) = (List.range n).map nI := by
  unfold rgD
  simp
theorem rgi {n : Nat} (h : n ≤ 4096) : RgI 0 (n : Int) := ⟨by decide, by decide, Int.le_trans (by decide : -(2^62 : Int) ≤ 0) (Int.natCast_nonneg n), Int.lt_of_le_of_lt (Int.ofNat_le.mpr h) (by decide)⟩
theorem ir1_ok {f : Lo → Ev (List D)} {S : Lo} {M M1 : Store} {n : Nat} (h : f S M = .ok [.int (n : Int)] M1) (hn : n ≤ 4096) : iR1 f S M = .ok ((List.range n).map nI, none) M1 := by
  have e : op1 r1K [D.int (n : Int)] = Ev.ret ((List.range n).map nI, none) := by rw [← rg_nat]; exact rngE_ok (rgi hn)
  unfold iR1
  rw [bnd_ok h, e, Ev.ret]
theorem grd_none (M : Store) : grd none M := trivial
theorem append_ok {fo : Lo → Ev D} {fa : Lo → Ev (List D)} {S : Lo} {M M1 M2 : Store} {n : Nat} {l l2 : List D} {d : D} (h : fo S M = .ok (.ref n) M1) (hc : M1[n]? = some (.lst, l)) (ha : fa S M1 = .ok [d] M2) (hc2 : M2[n]? = some (.lst, l2)) (hl : l2.length < 1000) :
    eBm (cellM opAppend) fo fa S M = .ok .non (M2.set n (.lst, l2 ++ [d])) := by
  have : opAppend l2 [d] = some (.non, l2 ++ [d]) := by unfold opAppend; exact if_pos (lt_sl hl)
  simp only [eBm, Ev.bnd, h, Out.bnd, isCellL, hc, ha, cellM, hc2, this]
theorem cl_ok {f : Lo → Ev NR} {S : Lo} {M M1 : Store} {l : List D} (h : f S M = .ok (.n .lst l) M1) : eCl f S M = .ok (.ref M1.length) (M1 ++ [(.lst, l)]) := by
  simp only [eCl, Ev.bnd, h, Out.bnd, cel]
theorem tup_ok {f : Lo → Ev (List D)} {S : Lo} {M M1 : Store} {l : List D} (h : f S M = .ok l M1) (hl : l.length ≤ 1000) : eF (nNew .tup f) S M = .ok (.tup l) M1 := by
  simp only [eF, nNew_eq, Ev.bnd, h, Out.bnd, newK_ok _ l hl, frz, Ev.ret]
theorem ix_ret {t : Tg} {l : List D} {k : Nat} {d : D} (ht : FC.isSeq t = true) (h : l[k]? = some d) : ixE (.nd t l) (nI k) = Ev.ret d := by
  funext M
  exact ix_nd ht h
theorem iseq_nd {f : Lo → Ev D} {S : Lo} {M M1 : Store} {t : Tg} {l : List D} (h : f S M = .ok (.nd t l) M1) (ht : FC.isSeq t = true) : iSeq f S M = .ok (l, none) M1 := by
  unfold iSeq
  rw [bnd_ok h]
  simp only [itSq, vw, Ev.bnd, Ev.ret, Out.bnd, ht, if_pos]
theorem gtp2 {ga gb : D → Lo → Ev Lo} {S S1 S2 : Lo} {M : Store} {x y : D} (h1 : ga x S M = .ok S1 M) (h2 : gb y S1 M = .ok S2 M) : gTp 2 (gCn ga (gCn gb gNl)) (.tup [x, y]) S M = .ok S2 M := by
  simp only [gTp, vw, Ev.bnd, Ev.ret, Out.bnd, gCn, h1, h2, gNl, List.length_cons, List.length_nil, if_pos]
theorem g_nm (i : Nat) (d : D) (S : Lo) (M : Store) : gNm i d S M = .ok (S.set i (some d)) M := rfl
theorem asg_g {f : Lo → Ev D} {g : D → Lo → Ev Lo} {S S1 : Lo} {M M1 M2 : Store} {d : D} (h : f S M = .ok d M1) (hg : g d S M1 = .ok S1 M2) : sAsg f g S M = .ok (.nx S1) M2 := by
  simp only [sAsg, Ev.fl, h, Ev.bnd, hg, Ev.ret, Out.bnd]
theorem new_ok {t : Tg} {f : Lo → Ev (List D)} {S : Lo} {M M1 : Store} {l : List D} (h : f S M = .ok l M1) (hl : l.length ≤ 1000) : nNew t f S M = .ok (.n t l) M1 := by
  rw [nNew_eq, bnd_ok h, newK_ok _ _ hl]
  rfl
theorem fz_ref {M : Store} {n k m : Nat} {t : Tg} {l l' : List D} (hm : n ≤ m) (h : M[m]? = some (t, l)) (hl : fzs M n k l = some l') : fz M n (k + 1) (.ref m) = some (.nd t l') := by
  rw [fz]
  simp only [h, hl, Option.map_some]
  rw [if_neg (by omega)]
theorem fz_nd {M : Store} {n k : Nat} {t : Tg} {l l' : List D} (hl : fzs M n k l = some l') : fz M n k (.nd t l) = some (.nd t l') := by
  rw [fz, hl]
  rfl
theorem fzs_map {α : Type} {M : Store} {n k : Nat} (f g : α → D) : ∀ (xs : List α), (∀ x ∈ xs, fz M n k (f x) = some (g x)) → fzs M n k (xs.map f) = some (xs.map g)
  | [], _ => by rw [List.map_nil, List.map_nil, fzs]
  | x :: xs, h => by
    have a := h x (by simp)
    have b := fzs_map f g xs (fun y hy => h y (by simp [hy]))
    rw [List.map_cons, List.map_cons, fzs, a, b]
theorem get_app {M X : Store} {k : Nat} : (M ++ X)[M.length + k]? = X[k]? := by
  rw [List.getElem?_append_right (by omega)]
  congr 1
  omega
theorem set_app' {M X : Store} {k : Nat} {c : Tg × List D} : (M ++ X).set (M.length + k) c = M ++ X.set k c := by
  rw [List.set_append, if_neg (by omega)]
  congr 2
  omega
end DL
namespace Lw
open PySem L2 DL
def encK (x : Nat × Int × Nat) : D := .tup [nI x.1, .int x.2.1, nI x.2.2]
abbrev Rows := List (List (Nat × Int × Nat))
def rowD (r : List (Nat × Int × Nat)) : D := .lst (r.map encK)
def rowC (r : List (Nat × Int × Nat)) : Tg × List D := (.lst, r.map encK)
def lput (L : Rows) (k : Nat) (x : Nat × Int × Nat) : Rows := L.set k (L.getD k [] ++ [x])
def lstep (es : List (Nat × Nat)) (L : Rows) (i : Nat) : Rows := lput (lput L (es.getD i (0, 0)).1 (i, 1, (es.getD i (0, 0)).2)) (es.getD i (0, 0)).2 (i, -1, (es.getD i (0, 0)).1)
def linksA (n : Nat) (es : List (Nat × Nat)) (fs : List Nat) : Rows := fs.foldl (lstep es) (List.replicate n [])
theorem lput_len (L : Rows) (k : Nat) (x : Nat × Int × Nat) : (lput L k x).length = L.length := by simp [lput]
theorem lput_row {L : Rows} {k b : Nat} {x : Nat × Int × Nat} (h : ∀ r ∈ L, r.length ≤ b) : ∀ r ∈ lput L k x, r.length ≤ b + 1 := by
  intro r hr
  unfold lput at hr
  rcases List.mem_or_eq_of_mem_set hr with z | z
  · have := h r z; omega
  · subst z
    rw [List.length_append, List.length_singleton]
    have : (L.getD k []).length ≤ b := by
      rw [List.getD_eq_getElem?_getD]
      cases q : L[k]? with
      | none => simp
      | some r' => simpa using h r' (List.mem_of_getElem? q)
    omega
theorem linksA_ok (n : Nat) (es : List (Nat × Nat)) (fs : List Nat) : (linksA n es fs).length = n ∧ ∀ r ∈ linksA n es fs, r.length ≤ 2 * fs.length := by
  have gen : ∀ (fs : List Nat) (L : Rows) (b : Nat), (∀ r ∈ L, r.length ≤ b) → (fs.foldl (lstep es) L).length = L.length ∧ ∀ r ∈ fs.foldl (lstep es) L, r.length ≤ b + 2 * fs.length := by
    intro fs
    induction fs with
    | nil => intro L b h; exact ⟨rfl, by simpa using h⟩
    | cons i fs ih =>
      intro L b h
      obtain ⟨a, c⟩ := ih (lstep es L i) (b + 1 + 1) (lput_row (lput_row h))
      refine ⟨by rw [List.foldl_cons, a]; unfold lstep; rw [lput_len, lput_len], fun r hr => ?_⟩
      have := c r (by rw [List.foldl_cons] at hr; exact hr)
      rw [List.length_cons]
      omega
  have := gen fs (List.replicate n []) 0 (fun r hr => by rw [(List.mem_replicate.mp hr).2]; exact Nat.le_refl _)
  refine ⟨by rw [linksA, this.1]; simp, fun r hr => by have := this.2 r hr; omega⟩
theorem linksA_snoc (n : Nat) (es : List (Nat × Nat)) (fs : List Nat) (i : Nat) : linksA n es (fs ++ [i]) = lstep es (linksA n es fs) i := by
  unfold linksA
  rw [List.foldl_append]
  rfl
/-- one row longer -/
theorem put_ok {M : Store} {L : Rows} {k : Nat} {fo : Lo → Ev D} {fa : Lo → Ev (List D)} {S : Lo} {x : Nat × Int × Nat} (hk : k < L.length) (h1 : fo S (M ++ L.map rowC) = .ok (.ref (M.length + k)) (M ++ L.map rowC)) (h2 : fa S (M ++ L.map rowC) = .ok [encK x] (M ++ L.map rowC)) (hl : ∀ r ∈ L, r.length < 1000) :
    eBm (cellM opAppend) fo fa S (M ++ L.map rowC) = .ok .non (M ++ (lput L k x).map rowC) := by
  have g : (M ++ L.map rowC)[M.length + k]? = some (.lst, (L.getD k []).map encK) := by
    rw [get_app, List.getElem?_map, List.getElem?_eq_getElem hk, List.getD_eq_getElem?_getD, List.getElem?_eq_getElem hk]
    rfl
  have a := append_ok h1 g h2 g (by
    rw [List.length_map]
    have : (L.getD k []) ∈ L := by
      rw [List.getD_eq_getElem?_getD, List.getElem?_eq_getElem hk]
      exact List.getElem_mem hk
    exact hl _ this)
  rw [a, set_app']
  unfold lput
  rw [List.map_set]
  unfold rowC
  rw [List.map_append]
  rfl
def refsD (b n : Nat) : D := .lst ((List.range n).map fun i => .ref (b + i))
theorem links_body {n : Nat} {es : List (Nat × Nat)} {fl : D} {L : Rows} {i : Nat} {M : Store} {o5 o6 : Option D} (hL : L.length = n) (hi : i < es.length) (h : ∀ e ∈ es, e.1 < n ∧ e.2 < n) (hr : ∀ r ∈ L, r.length < 900) (S : Lo) (hS : S = [some (nI n), some (.lst (es.map encE)), some fl, some (refsD M.length n), some (nI i), o5, o6, none]) :
    sSeq (sAsg (e2 ixE (eVar 1) (eVar 4)) (gTp 2 (gCn (gNm 5) (gCn (gNm 6) gNl)))) (sSeq (sExp (eBm (cellM opAppend) (e2 ixE (eVar 3) (eVar 5)) (eAc (eF (nNew .tup (eAc (eVar 4) (eAc (eC (.int 1)) (eAc (eVar 6) eA0))))) eA0))) (sExp (eBm (cellM opAppend) (e2 ixE (eVar 3) (eVar 6)) (eAc (eF (nNew .tup (eAc (eVar 4) (eAc (e1 negE (eC (.int 1))) (eAc (eVar 5) eA0))))) eA0)))) S (M ++ L.map rowC) =
      .ok (.nx [some (nI n), some (.lst (es.map encE)), some fl, some (refsD M.length n), some (nI i), some (nI (es.getD i (0, 0)).1), some (nI (es.getD i (0, 0)).2), none]) (M ++ (lstep es L i).map rowC) := by
  subst hS
  have he : es[i]? = some (es.getD i (0, 0)) := by
    rw [List.getD_eq_getElem?_getD, List.getElem?_eq_getElem hi]
    rfl
  obtain ⟨h1, h2⟩ := h _ (List.mem_of_getElem? he)
  unfold lstep
  generalize es.getD i (0, 0) = e at he h1 h2 ⊢
  have ge : (es.map encE)[i]? = some (encE e) := by rw [List.getElem?_map, he]; rfl
  refine Eq.trans (seq_nx (asg_g (e2_ret (v_ok rfl) (v_ok rfl) (ix_ret rfl ge)) (gtp2 (g_nm _ _ _ _) (g_nm _ _ _ _)))) ?_
  have rf : ∀ k, k < n → ((List.range n).map fun i => D.ref (M.length + i))[k]? = some (.ref (M.length + k)) := fun k hk => by
    rw [List.getElem?_map, List.getElem?_range hk]
    rfl
  refine Eq.trans (seq_nx (exp_ok (put_ok (k := e.1) (x := (i, 1, e.2)) (by omega) (e2_ret (v_ok rfl) (v_ok rfl) (ix_ret rfl (rf _ h1))) (ac_ok (tup_ok (ac_ok (v_ok rfl) (ac_ok (c_ok _ _ _) (ac_ok (v_ok rfl) a0_ok))) (by simp)) a0_ok) (fun r z => by have := hr r z; omega)))) ?_
  have ng : e1 negE (eC (.int 1)) [some (nI n), some (.lst (es.map encE)), some fl, some (refsD M.length n), some (nI i), some (nI e.1), some (nI e.2), none] (M ++ (lput L e.1 (i, 1, e.2)).map rowC) = .ok (.int (-1)) (M ++ (lput L e.1 (i, 1, e.2)).map rowC) := rfl
  exact exp_ok (put_ok (k := e.2) (x := (i, -1, e.1)) (by rw [lput_len]; omega) (e2_ret (v_ok rfl) (v_ok rfl) (ix_ret rfl (rf _ h2))) (ac_ok (tup_ok (ac_ok (v_ok rfl) (ac_ok ng (ac_ok (v_ok rfl) a0_ok))) (by simp)) a0_ok) (fun r z => by have := lput_row (b := 900) (fun r z => by have := hr r z; omega) r z; omega))
theorem links_made {n : Nat} {es : List (Nat × Nat)} {fs : List Nat} (M : Store) (hn : n ≤ 900) (hf : fs.length ≤ 400) (hi : ∀ i ∈ fs, i < es.length) (h : ∀ e ∈ es, e.1 < n ∧ e.2 < n) : F_links_of [nI n, .lst (es.map encE), .lst (fs.map nI)] M = .ok (refsD M.length n) (M ++ (linksA n es fs).map rowC) := by
  have cm := comp_inv (enc := nI) (tg := gNm 7) (tt := tYesD) (te := eCl (nNew .lst eA0)) (g := none) (S := [some (nI n), some (.lst (es.map encE)), some (.lst (fs.map nI)), none, none, none, none, none])
    (fun pre o M' => M' = M ++ (List.replicate pre.length []).map rowC ∧ o = (List.range pre.length).map fun i => .ref (M.length + i)) (List.range n) (M := M) ⟨by simp, rfl⟩ (fun _ _ _ _ => grd_none _) (fun pre x post o M' e j => by
      obtain ⟨rfl, rfl⟩ := j
      refine ⟨_, _, _, _, g_nm _ _ _ _, rfl, fun _ => ⟨_, _, cl_ok (new_ok a0_ok (by simp)), ?_, ?_⟩, fun z => by cases z⟩
      · rw [List.append_assoc, List.length_append, List.length_singleton, List.replicate_succ', List.map_append]
        rfl
      · have e1 : (pre ++ [x]).length = pre.length + 1 := by simp
        rw [e1, List.range_succ, List.map_append, List.length_append, List.length_map, List.length_replicate]
        rfl)
  obtain ⟨ys, M', hc, rfl, rfl⟩ := cm
  rw [List.length_range] at hc
  have lp := for_inv (enc := nI) (g := none) (tg := gNm 4) (body := sSeq (sAsg (e2 ixE (eVar 1) (eVar 4)) (gTp 2 (gCn (gNm 5) (gCn (gNm 6) gNl)))) (sSeq (sExp (eBm (cellM opAppend) (e2 ixE (eVar 3) (eVar 5)) (eAc (eF (nNew .tup (eAc (eVar 4) (eAc (eC (.int 1)) (eAc (eVar 6) eA0))))) eA0))) (sExp (eBm (cellM opAppend) (e2 ixE (eVar 3) (eVar 6)) (eAc (eF (nNew .tup (eAc (eVar 4) (eAc (e1 negE (eC (.int 1))) (eAc (eVar 5) eA0))))) eA0)))))
    (fun pre S M' => ∃ o4 o5 o6, S = [some (nI n), some (.lst (es.map encE)), some (.lst (fs.map nI)), some (refsD M.length n), o4, o5, o6, none] ∧ M' = M ++ (linksA n es pre).map rowC) fs (S := [some (nI n), some (.lst (es.map encE)), some (.lst (fs.map nI)), some (refsD M.length n), none, none, none, none]) (M := M ++ (List.replicate n []).map rowC) ⟨none, none, none, rfl, rfl⟩ (fun _ _ _ _ => grd_none _) (fun pre x post S M' e j => by
      obtain ⟨o4, o5, o6, rfl, rfl⟩ := j
      have hx : x ∈ fs := by rw [e]; simp
      have hp : pre.length ≤ fs.length := by rw [e]; simp
      have lk := linksA_ok n es pre
      have b := links_body (fl := .lst (fs.map nI)) (o5 := o5) (o6 := o6) (M := M) lk.1 (hi x hx) h (fun r z => by have := lk.2 r z; omega) _ rfl
      refine ⟨_, _, _, _, g_nm _ _ _ _, b, some (nI x), some (nI (es.getD x (0, 0)).1), some (nI (es.getD x (0, 0)).2), rfl, ?_⟩
      rw [linksA_snoc])
  obtain ⟨S', M', hl, o4, o5, o6, rfl, rfl⟩ := lp
  refine run_rt ?_
  show g_links_of [some (nI n), some (.lst (es.map encE)), some (.lst (fs.map nI)), none, none, none, none, none] M = _
  unfold g_links_of
  have lc := lc_ok (vs := [7]) (ir1_ok (f := eAc (eVar 0) eA0) (S := [some (nI n), some (.lst (es.map encE)), some (.lst (fs.map nI)), none, none, none, none, none]) (M := M) (ac_ok (v_ok rfl) a0_ok) (by omega)) (sl_le (by rw [List.length_map, List.length_range]; omega)) hc
  refine Eq.trans (seq_nx (asg_nm (M1 := M ++ (List.replicate n []).map rowC) (d := refsD M.length n) (by rw [bnd_ok lc]; rfl))) ?_
  refine Eq.trans (seq_nx (Eq.trans (sfor_ok (iseq_nd (v_ok rfl) rfl)) hl)) ?_
  exact ret_ok (v_ok rfl)
theorem links_fz {n : Nat} {L : Rows} (M : Store) (hL : L.length = n) : fz (M ++ L.map rowC) M.length 9 (refsD M.length n) = some (.lst (L.map rowD)) := by
  have e : L.map rowD = (List.range n).map fun i => rowD (L.getD i []) := by
    apply List.ext_getElem?
    intro i
    rw [List.getElem?_map, List.getElem?_map]
    by_cases q : i < n
    · rw [List.getElem?_range q, Option.map_some, List.getD_eq_getElem?_getD, List.getElem?_eq_getElem (by omega)]
      rfl
    · rw [List.getElem?_eq_none (by omega), List.getElem?_eq_none (by rw [List.length_range]; omega)]
      rfl
  rw [e]
  refine fz_nd (fzs_map _ _ _ fun i hi => ?_)
  have hi : i < L.length := by rw [List.mem_range] at hi; omega
  refine fz_ref (by omega) (t := .lst) (l := (L.getD i []).map encK) ?_ (fzs_map _ _ _ fun x _ => fz_id _ _ _ _ ?_)
  · rw [get_app, List.getElem?_map, List.getD_eq_getElem?_getD, List.getElem?_eq_getElem hi]
    rfl
  · simp [encK, rlt, rlts]
end Lw

set_option Elab.async false
set_option linter.all false
set_option maxRecDepth 100000
set_option maxHeartbeats 1000000
/-! TL7: isinstance, parallel stores, pools made, walks over own cells, the law's end. -/
namespace TL
open PySem L2 DL
open Mo (pur bnd lft)
open Enc (enc)
open EncL (encL)
theorem fz_int {M : Store} {n k : Nat} {d : D} {b : Int} (h : fz M n k d = some (.int b)) : d = .int b := by
  cases d with
  | ref c =>
    unfold fz at h
    by_cases hc : c < n
    · rw [if_pos hc] at h; cases h
    · rw [if_neg hc] at h
      cases k with
      | zero => cases h
      | succ k =>
        dsimp only at h
        cases q : M[c]? with
        | none => rw [q] at h; cases h
        | some tl =>
          rw [q] at h
          dsimp only at h
          cases q2 : fzs M n k tl.2 with
          | none => rw [q2] at h; cases h
          | some l => rw [q2] at h; cases h
  | nd t l =>
    unfold fz at h
    cases q2 : fzs M n k l with
    | none => rw [q2] at h; cases h
    | some l => rw [q2] at h; cases h
  | int c => unfold fz at h; cases h; rfl
  | _ => unfold fz at h; cases h
section
variable {m : Type → Type} [Mo m] {pp : List Nat} {M0 : Store} {fs fs' fs'' : List SV} {α β γ τ κ φ ρ ω : Type} [Enc α] [Enc β] [Enc γ] [EncL τ] [Enc ρ] [Enc ω] {K : φ → Fl → Store → Prop}
theorem ep_isi {a : Lo → Ev D} {v : α} {t T : String} {b : Bool} (ha : EP fs a v) (ht : ∀ M, tyN (enc v) M = .ok t M) (hb : isiB t T = some b) : EP fs (eCall (op2 isiE) (eAc a (eAc (eC (.ty T)) eA0))) b := fun pp M0 S M ns r => by
  have h : eAc a (eAc (eC (.ty T)) eA0) S M = .ok [enc v, .ty T] M := by
    unfold eAc
    rw [bok (ha pp M0 S M ns r)]
    rfl
  unfold eCall
  rw [bok h]
  show isiE (enc v) (.ty T) M = _
  unfold isiE
  rw [bok (ht M)]
  dsimp only
  rw [hb]
  rfl
theorem tysOf_map (Ts : List String) : tysOf (Ts.map D.ty) = some Ts := by
  induction Ts with
  | nil => rfl
  | cons t l ih => rw [List.map_cons, tysOf, ih]; rfl
theorem ep_isiT {a : Lo → Ev D} {f : Lo → Ev (List D)} {v : α} {t : String} {Ts : List String} {b : Bool} (ha : EP fs a v) (ht : ∀ M, tyN (enc v) M = .ok t M) (hf : ∀ S M, f S M = .ok (Ts.map D.ty) M) (hl : Ts.length ≤ 1000) (hb : isiA t Ts = some b) :
    EP fs (eCall (op2 isiTE) (eAc a (eAc (eF (nNew .tup f)) eA0))) b := fun pp M0 S M ns r => by
  have h0 : eF (nNew .tup f) S M = .ok (.nd .tup (Ts.map D.ty)) M := by
    have : nNew .tup f S M = .ok (.n .tup (Ts.map D.ty)) M := by
      unfold nNew
      rw [bok (hf S M), if_pos (by rw [List.length_map]; exact Nat.le_trans hl (by decide))]
      rfl
    unfold eF
    rw [bok this]
    rfl
  have h1 : (eAc (eF (nNew .tup f)) eA0) S M = .ok [.nd .tup (Ts.map D.ty)] M := by
    unfold eAc
    rw [bok h0]
    rfl
  have h : eAc a (eAc (eF (nNew .tup f)) eA0) S M = .ok [enc v, .nd .tup (Ts.map D.ty)] M := by
    show ((a S).bnd _) M = _
    rw [bok (ha pp M0 S M ns r)]
    show ((eAc (eF (nNew .tup f)) eA0 S).bnd _) M = _
    rw [bok h1]
    rfl
  unfold eCall
  rw [bok h]
  show isiTE (enc v) (.nd .tup (Ts.map D.ty)) M = _
  unfold isiTE
  rw [bok (ht M), bok (show vw (D.nd .tup (Ts.map D.ty)) M = .ok (.tup, Ts.map D.ty) M from rfl)]
  dsimp only
  rw [tysOf_map]
  dsimp only
  rw [hb]
  rfl
noncomputable def lenG (n : Int) : E Int := if lenB n = true then .ok n else .bad
theorem eo_lenO {cc : Bool} {cn : Str} {F : List D → Ev D} {a : Lo → Ev D} {o : α} {os : List Str} {l : List D} {q : E Int} (ha : EP fs a o) (eo : enc o = .nd (.obj cn os) l) (hm : ("__len__" : Str) ∉ os) (hF : Ret cc [] (F [enc o]) q) : EO (m := m) fs (eCall (op1 (lenO cn F)) (eAc a eA0)) (bnd (lft q) fun n => lft (lenG n)) := fun pp M0 S M ns r Q X w => by
  have h0 : eAc a eA0 S M = .ok [enc o] M := by
    unfold eAc
    rw [bok (ha pp M0 S M ns r)]
    rfl
  have hi : DL.isObj cn "__len__" (enc o) M = .ok () M := by
    unfold DL.isObj
    rw [eo, bok (show vw (D.nd (.obj cn os) l) M = .ok (.obj cn os, l) M from rfl)]
    dsimp only
    rw [if_pos ⟨rfl, hm⟩]
    rfl
  refine Sim.bnd (Sim.ok h0 ?_)
  show Sim (lenO cn F (enc o) M) _ _
  refine Sim.bnd (Sim.ok hi (Sim.bnd ?_))
  show Sim (callD 1 F [enc o] M) _ _
  unfold callD
  rw [if_pos (show [enc o].length = 1 from rfl)]
  refine (hF M (by simp) _ _ (lft_wpE (Mo.bnd_wp w))).imp (fun d M' ⟨n, w, hres⟩ => ?_) (fun c d M' ⟨x, fr⟩ => ⟨x, r.call fr⟩)
  have := fz_int hres.2.1
  subst this
  have w := Mo.lft_wp w
  unfold lenG at w
  unfold lenK
  dsimp only
  by_cases hc : lenB n = true
  · rw [if_pos hc] at w ⊢
    exact ⟨n, rfl, w, r.call hres.1⟩
  · rw [if_neg hc] at w; exact w.elim
theorem ep_lenD {a : Lo → Ev D} {t : Tg} {l : List D} {n : Int} (ha : EV fs a t l) (ht : FC.isSeq t = true) (hn : (l.length : Int) = n) : EP fs (eCall (op1 lenE) (eAc a eA0)) n := ep_cv ha fun d M h => by
  rw [vw_len h ht, hn]
  rfl
def grdC (b : Bool) : E Unit := if b = true then .ok () else .bad
theorem b_newPoolG {n i : Nat} {b : Bool} {F : List D → Ev D} {f : Lo → Ev (List D)} {g : Lo → Ev Fl} {v : τ} {p : m φ} (ha : AP fs f v) (hF : b = true → PoolRet (F (encL v))) (hn : (encL v).length = n) (hr : Blk pp M0 (fs.set i .lpl) g p K) : Blk pp M0 fs (sSeq (sAsg (eCall (callD n F) f) (gNm i)) g) (bnd (lft (grdC b)) fun _ => p) K := Blk.of fun S M ns r Q X w => by
  have w := Mo.lft_wp (Mo.bnd_wp w)
  unfold grdC at w
  cases b with
  | false => exact w.elim
  | true => exact (b_newPool (i := i) ha (hF rfl) hn hr).at_ r w
/-! ### lists of the caller, read only -/
end
/-! ### the end -/
theorem fz_bl {M : Store} {n k : Nat} {d : D} {b : Bool} (h : fz M n k d = some (.bl b)) : d = .bl b := by
  cases d with
  | ref c =>
    unfold fz at h
    by_cases hc : c < n
    · rw [if_pos hc] at h; cases h
    · rw [if_neg hc] at h
      cases k with
      | zero => cases h
      | succ k =>
        dsimp only at h
        cases q : M[c]? with
        | none => rw [q] at h; cases h
        | some tl =>
          rw [q] at h
          dsimp only at h
          cases q2 : fzs M n k tl.2 with
          | none => rw [q2] at h; cases h
          | some l => rw [q2] at h; cases h
  | nd t l =>
    unfold fz at h
    cases q2 : fzs M n k l with
    | none => rw [q2] at h; cases h
    | some l => rw [q2] at h; cases h
  | bl c => unfold fz at h; cases h; rfl
  | _ => unfold fz at h; cases h
theorem law_end {f : Ev D} {p : W Bool} (h : Ret false [] f p) (w : p (fun v => v = true) (fun _ _ => False)) : ∃ M', f [] = .ok (.bl true) M' := by
  have key := h [] (by simp) (fun v => v = true) (fun _ _ => False) (by rw [wpW]; exact w)
  cases e : f [] with
  | stuck => rw [e] at key; exact key.elim
  | exc c d M' => rw [e] at key; exact key.1.elim
  | ok d M' =>
    rw [e] at key
    obtain ⟨r, rfl, _, hz, _⟩ := key
    have := fz_bl hz
    subst this
    exact ⟨M', rfl⟩
end TL

set_option Elab.async false
set_option linter.all false
set_option maxRecDepth 100000
set_option maxHeartbeats 4000000
/-! TT0: the pool. -/
namespace Lw
open PySem L2 DL TL
theorem take_ok {M : Store} {p : Nat} {s : Int} (hp : PoolAt M p) (hs : 0 < s) (hs2 : s < 2 ^ 128) : ∃ r c, F__law_take [.ref p, .int s] M = .ok (.int r) (M.set p (.lst, c)) ∧ Pl c ∧ 0 ≤ r ∧ r < s := by
  have hl : p < M.length := hp.lt
  obtain ⟨c, hc, a, b, rfl, hb0, hb1⟩ := hp
  have hdv := div_i (i := a) (j := s) ⟨hs, by
    have : s.natAbs < 2 ^ 128 := by omega
    rcases Nat.eq_zero_or_pos s.natAbs with z | z
    · rw [z]; decide
    · exact Nat.lt_trans ((Nat.log2_lt (by omega)).mpr this) (by decide)⟩
  have i0 : ∀ x y : D, atI [x, y] (0 : Int) = some x := fun _ _ => rfl
  have i1 : ∀ x y : D, atI [x, y] (1 : Int) = some y := fun _ _ => rfl
  by_cases h0 : 0 < a
  · refine ⟨a % s, [.int (a / s), .int b], ?_, ⟨a / s, b, rfl, hb0, hb1⟩, Int.emod_nonneg _ (by omega), Int.emod_lt_of_pos _ hs⟩
    refine run_rt ?_
    show g__law_take [some (.ref p), some (.int s), none] M = _
    have n0 : ixN 2 0 = some 0 := rfl
    unfold g__law_take
    simp only [sSeq, sAsg, sExp, sRet, sRetN, sIf, sNext, e1, e2, eVar, eC, eA0, eAc, asB, eB, eAnd, eOr, eNot, eAndV, eOrV, eNotV, eIf, eF, eCl, n2, nNew_eq, new0, new1, new2, new3, new4, new8, frz, cel, eCall, nCall, op1, op2, callD, iop, subE, mod_i, ltE, leE, gtE, geE, negE, eChain, minE, maxE, Ev.bnd, Out.bnd, Ev.ret, Ev.no, Ev.fl, Ev.flB, Ev.flG, Ev.nox, gNm, gTp, gCn, gNl, gSet, eBm, tYesD, oNo, oSo, asI, sFor, iR1, iSeq, iEn, itSq, lenE, sq, vw, FC.isSeq, add_int, List.set_cons_zero, List.set_cons_succ, List.getElem?_cons_zero, List.getElem?_cons_succ, List.length_cons, List.length_nil, Option.map_some, ite_true, ite_false, if_true, if_false, reduceIte, reduceCtorEq, decide_true, decide_false, Bool.false_eq_true, Nat.reduceAdd, Nat.reduceLeDiff, ixE, optE, hc, i0, h0, hs, hdv, setE, n0]
  · refine ⟨((b * 48271 + 11) % 2147483647 * ((b * 48271 + 11) % 2147483647)) % 2147483629 / 64 % s, [.int a, .int ((b * 48271 + 11) % 2147483647)], ?_, ⟨a, _, rfl, Int.emod_nonneg _ (by decide), Int.lt_of_lt_of_le (Int.emod_lt_of_pos _ (by decide)) (by decide)⟩, Int.emod_nonneg _ (by omega), Int.emod_lt_of_pos _ hs⟩
    refine run_rt ?_
    show g__law_take [some (.ref p), some (.int s), none] M = _
    have n1 : ixN 2 1 = some 1 := rfl
    have c1 : mulE (.int b) (.int 48271) = _ := mul_i (.inr (by decide))
    have u : 0 ≤ (b * 48271 + 11) % 2147483647 ∧ (b * 48271 + 11) % 2147483647 < 2147483647 := ⟨Int.emod_nonneg _ (by decide), Int.emod_lt_of_pos _ (by decide)⟩
    have c2 := mul_i (i := (b * 48271 + 11) % 2147483647) (j := (b * 48271 + 11) % 2147483647) (.inl (by omega))
    have c3 : ∀ z : Int, divE (.int z) (.int 64) = Ev.ret (.int (z / 64)) := fun z => div_i ⟨by decide, by decide⟩
    have g1 : (M.set p (Tg.lst, [D.int a, D.int ((b * 48271 + 11) % 2147483647)]))[p]? = some (Tg.lst, [D.int a, D.int ((b * 48271 + 11) % 2147483647)]) := List.getElem?_set_self hl
    unfold g__law_take
    simp only [sSeq, sAsg, sExp, sRet, sRetN, sIf, sNext, e1, e2, eVar, eC, eA0, eAc, asB, eB, eAnd, eOr, eNot, eAndV, eOrV, eNotV, eIf, eF, eCl, n2, nNew_eq, new0, new1, new2, new3, new4, new8, frz, cel, eCall, nCall, op1, op2, callD, iop, subE, mod_i, ltE, leE, gtE, geE, negE, eChain, minE, maxE, Ev.bnd, Out.bnd, Ev.ret, Ev.no, Ev.fl, Ev.flB, Ev.flG, Ev.nox, gNm, gTp, gCn, gNl, gSet, eBm, tYesD, oNo, oSo, asI, sFor, iR1, iSeq, iEn, itSq, lenE, sq, vw, FC.isSeq, add_int, List.set_cons_zero, List.set_cons_succ, List.getElem?_cons_zero, List.getElem?_cons_succ, List.length_cons, List.length_nil, Option.map_some, ite_true, ite_false, if_true, if_false, reduceIte, reduceCtorEq, decide_true, decide_false, Bool.false_eq_true, Nat.reduceAdd, Nat.reduceLeDiff, ixE, optE, hc, i0, i1, h0, hs, setE, n1, c1, c2, c3, g1, Int.reduceLT]
def takeW (s : Int) : W Int := fun Q _ => 0 < s ∧ s < 2 ^ 128 ∧ ∀ r : Int, 0 ≤ r → r < s → Q r
theorem t__law_take (c : Nat) (s : Int) : Ret false [c] (F__law_take (.ref c :: [Enc.enc s])) (takeW s) := fun M hp Q X w => by
  obtain ⟨h1, h2, h3⟩ : 0 < s ∧ s < 2 ^ 128 ∧ ∀ r : Int, 0 ≤ r → r < s → Q r := by rw [wpW] at w; exact w
  have hpc := hp c (by simp)
  obtain ⟨r, k, e, pl, r0, r1⟩ := take_ok hpc h1 h2
  refine Sim.ok e ⟨r, h3 r r0 r1, ⟨by simp, fun i hi hn => ?_, fun n hn => ?_⟩, fz_id _ _ _ _ rfl, fun h => by cases h⟩
  · rw [List.getElem?_set_ne (by simp at hn; exact fun z => hn z.symm)]
  · simp at hn; subst hn
    exact ⟨k, List.getElem?_set_self hpc.lt, pl⟩
/-- the script, as a type of its own -/
structure Scr where
  ns : List Int
instance : TL.Enc Scr := ⟨fun x => scr x.ns, fun x n => by
  show rlts n (x.ns.map D.int) = true
  exact TL.nrs (α := Int) n x.ns⟩
end Lw

set_option Elab.async false
set_option linter.all false
set_option maxRecDepth 100000
set_option maxHeartbeats 1000000
/-! TW: links_of and Web, typed. -/
namespace Lw
open PySem L2 DL TL
open Mo (pur bnd lft)
open Enc (enc)
def cE (e : Nat × Nat) : Int × Int := ((e.1 : Int), (e.2 : Int))
def cN (k : Nat) : Int := k
def cL (x : Nat × Int × Nat) : T3 Int Int Int := ⟨(x.1 : Int), x.2.1, (x.2.2 : Int)⟩
theorem enc_es (es : List (Nat × Nat)) : enc (es.map cE) = .lst (es.map encE) := by
  show D.nd .lst ((es.map cE).map enc) = _
  rw [List.map_map]
  rfl
theorem enc_ns (ks : List Nat) : enc (ks.map cN) = .lst (ks.map nI) := by
  show D.nd .lst ((ks.map cN).map enc) = _
  rw [List.map_map]
  rfl
structure LinkOk (n : Int) (es : List (Int × Int)) (fs : List Int) (x : Nat × List (Nat × Nat) × List Nat) : Prop where
  n : n = cN x.1
  es : es = x.2.1.map cE
  fs : fs = x.2.2.map cN
  h1 : x.1 ≤ 900
  h2 : x.2.2.length ≤ 400
  h3 : ∀ i ∈ x.2.2, i < x.2.1.length
  h4 : ∀ e ∈ x.2.1, e.1 < x.1 ∧ e.2 < x.1
def linksI (x : Nat × List (Nat × Nat) × List Nat) : List (List (T3 Int Int Int)) := (linksA x.1 x.2.1 x.2.2).map (·.map cL)
open Classical in
noncomputable def p_links_of (n : Int) (es : List (Int × Int)) (fs : List Int) : E (List (List (T3 Int Int Int))) := if h : ∃ x, LinkOk n es fs x then .ok (linksI h.choose) else .bad
theorem cE_inj : ∀ {a b : List (Nat × Nat)}, a.map cE = b.map cE → a = b := fun {a b} h => by
  refine (List.map_inj_right (fun x y h => ?_)).mp h
  unfold cE at h
  cases x; cases y
  simp at h
  simp; omega
theorem cN_inj : ∀ {a b : List Nat}, a.map cN = b.map cN → a = b := fun {a b} h => by
  refine (List.map_inj_right (fun x y h => ?_)).mp h
  unfold cN at h
  omega
theorem links_val {n : Nat} {es : List (Nat × Nat)} {fs : List Nat} (h : LinkOk (cN n) (es.map cE) (fs.map cN) (n, es, fs)) : p_links_of (cN n) (es.map cE) (fs.map cN) = .ok (linksI (n, es, fs)) := by
  unfold p_links_of
  have hx : ∃ x, LinkOk (cN n) (es.map cE) (fs.map cN) x := ⟨_, h⟩
  rw [dif_pos hx]
  have c := hx.choose_spec
  generalize hx.choose = x at c
  obtain ⟨k, ds, gs⟩ := x
  have e1 : k = n := by have := c.n; unfold cN at this; dsimp only at this; omega
  have e2 : ds = es := (cE_inj c.es).symm
  have e3 : gs = fs := (cN_inj c.fs).symm
  rw [e1, e2, e3]
theorem t_links_of (n : Int) (es : List (Int × Int)) (fs : List Int) : Ret false [] (F_links_of [enc n, enc es, enc fs]) (p_links_of n es fs) := fun M hp Q X w => by
  rw [wpE] at w
  unfold p_links_of at w
  by_cases hx : ∃ x, LinkOk n es fs x
  · rw [dif_pos hx] at w
    have c := hx.choose_spec
    generalize hx.choose = x at c w
    obtain ⟨k, ds, gs⟩ := x
    obtain ⟨rfl, rfl, rfl, h1, h2, h3, h4⟩ := c
    dsimp only at h1 h2 h3 h4 w ⊢
    have key := links_made (n := k) (es := ds) (fs := gs) M h1 h2 h3 h4
    rw [enc_es, enc_ns]
    refine Sim.ok key ⟨_, w, ⟨by simp, fun i hi _ => List.getElem?_append_left hi, by simp⟩, ?_, fun h => by cases h⟩
    rw [links_fz M (linksA_ok k ds gs).1]
    show some (D.nd .lst _) = some (D.nd .lst (((linksA k ds gs).map (·.map cL)).map enc))
    rw [List.map_map]
    congr 2
    apply List.map_congr_left
    intro r _
    show D.nd .lst _ = D.nd .lst ((r.map cL).map enc)
    rw [List.map_map]
    rfl
  · rw [dif_neg hx] at w; exact w.elim
structure OWeb where
  own_size : Int
  own_edges : List (Int × Int)
  own_modulus : Int
  own_forest : List Int
  links : List (List (T3 Int Int Int))
instance : TL.Enc OWeb := ⟨fun o => .nd (.obj "Web" ["own_size", "own_edges", "own_modulus", "own_forest", "links"]) [enc o.own_size, enc o.own_edges, enc o.own_modulus, enc o.own_forest, enc o.links], fun o n => by
  simp [rlt, rlts, TL.Enc.nr]⟩
end Lw

set_option Elab.async false
set_option linter.all false
set_option maxRecDepth 100000
set_option maxHeartbeats 1000000
/-! TL8: locked dicts, defaults, objects made by places, int, len(set). -/
namespace TL
open PySem L2 DL
open Mo (pur bnd lft)
open Enc (enc)
open EncL (encL)
/-- a locked dict by its pairs -/
structure Fd (α : Type) where
  kv : List (Int × α)
def Fd.dc {α : Type} (d : Fd α) : Dc α := ⟨d.kv⟩
def Dc.fd {α : Type} (d : Dc α) : Fd α := ⟨d.kv⟩
instance {α : Type} [Enc α] : Enc (Fd α) := ⟨fun d => .nd (.fdct (dks d.dc)) (dvs d.dc), fun d n => by simp [rlt, nrv]⟩
section
variable {m : Type → Type} [Mo m] {pp : List Nat} {M0 : Store} {fs fs' fs'' : List SV} {α β γ τ κ φ ρ ω : Type} [Enc α] [Enc β] [Enc γ] [EncL τ] [EncL κ] [Enc ρ] [Enc ω] {K : φ → Fl → Store → Prop}
/-! ### None or a value -/
end
end TL

set_option Elab.async false
set_option linter.all false
set_option maxRecDepth 100000
set_option maxHeartbeats 1000000
/-! TS: systems, typed. -/
namespace Lw
open PySem L2 DL TL
open Enc (enc)
structure OSystem where
  own_modulus : Int
  rows : List (T3 Int Int Int)
  links : List (List (T3 Int Int Int))
  groups : List (List Int)
instance : TL.Enc OSystem := ⟨fun o => .nd (.obj "System" ["own_modulus", "rows", "links", "groups"]) [enc o.own_modulus, enc o.rows, enc o.links, enc o.groups], fun o n => by
  simp [rlt, rlts, TL.Enc.nr]⟩
end Lw

set_option Elab.async false
set_option linter.all false
set_option maxRecDepth 100000
set_option maxHeartbeats 1000000
/-! TL9: what a system answers: a potential, or a walk. -/
namespace TL
open PySem L2 DL
open Mo (pur bnd lft)
open Enc (enc)
open EncL (encL)
inductive Ans where
  | pot (l : List Int) | cyc (l : List (Int × Int)) | fix (l : List (Int × Int))
instance : Enc Ans := ⟨fun a => match a with
  | .pot l => .nd .tup [.str "potential", enc l]
  | .cyc l => .nd .tup [.str "cycle", enc l]
  | .fix l => .nd .tup [.str "fixed", enc l], fun a n => by cases a <;> simp [rlt, rlts, Enc.nr]⟩
def Ans.word : Ans → Str
  | .pot _ => "potential"
  | .cyc _ => "cycle"
  | .fix _ => "fixed"
def Ans.lv : Ans → E (List Int)
  | .pot l => .ok l
  | _ => .bad
def Ans.wk : Ans → E (List (Int × Int))
  | .pot _ => .bad
  | .cyc l => .ok l
  | .fix l => .ok l
section
variable {m : Type → Type} [Mo m] {pp : List Nat} {M0 : Store} {fs fs' fs'' : List SV} {α β γ τ κ φ ρ ω : Type} [Enc α] [Enc β] [Enc γ] [EncL τ] [EncL κ] [Enc ρ] [Enc ω] {K : φ → Fl → Store → Prop}
end
end TL

set_option Elab.async false
set_option linter.all false
set_option maxRecDepth 100000
set_option maxHeartbeats 1000000
/-! TLZ: dict comprehensions, update, answers taken apart, words compared, what is given up. -/
namespace TL
open PySem L2 DL
open Mo (pur bnd lft)
open Enc (enc)
open EncL (encL)
section
variable {m : Type → Type} [Mo m] {pp : List Nat} {M0 : Store} {fs fs' fs'' : List SV} {α β γ τ κ φ ρ ω : Type} [Enc α] [Enc β] [Enc γ] [EncL τ] [EncL κ] [Enc ρ] [Enc ω] {K : φ → Fl → Store → Prop}
/-! ### given up -/
/-! ### a dict comprehension -/
/-! ### answers taken apart -/
def Ans.pay : Ans → List Int ⊕ List (Int × Int)
  | .pot l => .inl l
  | .cyc l => .inr l
  | .fix l => .inr l
def getR {α β : Type} : α ⊕ β → E β
  | .inr a => .ok a
  | .inl _ => .bad
/-! ### joins with exits; continue, break -/
/-! ### a list or a tuple of numbers -/
structure SqI where
  t : Bool
  xs : List Int
def SqI.tg (x : SqI) : Tg := if x.t = true then .tup else .lst
instance : Enc SqI := ⟨fun x => .nd x.tg (x.xs.map enc), fun x n => by simp [rlt, nrs]⟩
/-! ### words -/
def eqS (neg : Bool) (x y : Str) : E Bool := if (PyData.strOk x && PyData.strOk y) = true then .ok (neg ^^ decide (x = y)) else .bad
theorem o_eqS (neg : Bool) (x y : Str) : OpE (eqE neg (enc x) (enc y)) (eqS neg x y) := fun M => by
  unfold eqS
  by_cases h : (PyData.strOk x && PyData.strOk y) = true
  · rw [if_pos h]
    rw [Bool.and_eq_true] at h
    show eqE neg (.str x) (.str y) M = _
    unfold eqE
    have e1 : py M 14 (.str x) = some (.str x) := by rw [py]; exact if_pos h.1
    have e2 : py M 14 (.str y) = some (.str y) := by rw [py]; exact if_pos h.2
    rw [e1, e2]
    dsimp only
    have e : PyData.eqv (.str x) (.str y) = decide (x = y) := by rw [PyData.eqv]; rw [Bool.eq_iff_iff]; simp
    rw [e]
    rfl
  · rw [if_neg h]; trivial
end
end TL

set_option Elab.async false
set_option linter.all false
set_option maxRecDepth 100000
set_option maxHeartbeats 1000000
/-! TLY: keywords of own defs, zip of three, steps, tuple(x), or, lists of two kinds, in of any depth, casts. -/
namespace TL
open PySem L2 DL
open Mo (pur bnd lft)
open Enc (enc)
open EncL (encL)
open Classical in
/-- what an operation on data gives, if it is of the type -/
noncomputable def castE {α : Type} [Enc α] (f : Ev D) : E α := if h : ∃ v : α, ∀ M, f M = .ok (enc v) M then .ok h.choose else .bad
theorem op_cast {α : Type} [Enc α] (f : Ev D) : OpE (α := α) f (castE f) := fun M => by
  unfold castE
  by_cases h : ∃ v : α, ∀ M, f M = .ok (enc v) M
  · rw [dif_pos h]; exact h.choose_spec M
  · rw [dif_neg h]; trivial
theorem castE_ok {α : Type} [Enc α] {f : Ev D} {v : α} (h : ∀ M, f M = .ok (enc v) M) (inj : ∀ a b : α, enc a = enc b → a = b) : castE f = .ok v := by
  unfold castE
  have hx : ∃ v : α, ∀ M, f M = .ok (enc v) M := ⟨v, h⟩
  rw [dif_pos hx]
  have := hx.choose_spec []
  rw [h []] at this
  congr 1
  exact inj _ _ (Out.ok.inj this).1.symm
/-- a list of two things -/
structure Lp (α β : Type) where
  a : α
  b : β
instance {α β : Type} [Enc α] [Enc β] : Enc (Lp α β) := ⟨fun x => .nd .lst [enc x.a, enc x.b], fun x n => by simp [rlt, rlts, Enc.nr]⟩
section
variable {m : Type → Type} [Mo m] {pp : List Nat} {M0 : Store} {fs fs' fs'' : List SV} {α β γ τ κ φ ρ ω : Type} [Enc α] [Enc β] [Enc γ] [EncL τ] [EncL κ] [Enc ρ] [Enc ω] {K : φ → Fl → Store → Prop}
/-! ### zip of three -/
/-! ### a walk over a pair -/
/-! ### steps -/
/-! ### tuple(xs) -/
/-! ### xs or ys -/
/-! ### lists of two kinds -/
/-! ### in, any depth -/
/-! ### a name that a loop leaves behind -/
end
end TL

set_option Elab.async false
set_option linter.all false
set_option maxRecDepth 100000
set_option maxHeartbeats 1000000
/-! TLX: repr. -/
namespace TL
open PySem L2 DL
open Mo (pur bnd lft)
open Enc (enc)
open EncL (encL)
section
variable {m : Type → Type} [Mo m] {pp : List Nat} {M0 : Store} {fs fs' fs'' : List SV} {α β γ τ κ φ ρ ω : Type} [Enc α] [Enc β] [Enc γ] [EncL τ] [EncL κ] [Enc ρ] [Enc ω] {K : φ → Fl → Store → Prop}
/-- the text of data -/
def rprY [PyEq α] (x : α) : E Str := if RpOk (PyEq.pd x) then .ok (PyEq.pd x).shown else .bad
theorem eo_reprY [PyEq α] {a : Lo → Ev D} {x : α} (ha : EY fs a x) : EO (m := m) fs (eCall (op1 reprE) (eAc a eA0)) (lft (rprY x)) := fun pp M0 S M ns r Q X w => by
  obtain ⟨d1, h1, p1⟩ := ha pp M0 S M ns r
  have w := Mo.lft_wp w
  unfold rprY at w
  refine Sim.bnd (Sim.bnd (Sim.ok h1 (Sim.bnd (Sim.ok (a := []) rfl (Sim.ok (a := [d1]) (M := M) rfl ?_)))))
  by_cases c : RpOk (PyEq.pd x)
  · rw [if_pos c] at w
    refine Sim.ok (a := D.str (PyEq.pd x).shown) (M := M) ?_ ⟨_, rfl, w, r⟩
    show reprE d1 M = _
    unfold reprE
    rw [p1]
    dsimp only
    rw [if_pos c]
  · rw [if_neg c] at w; exact w.elim
theorem eo_reprC {a : Lo → Ev D} {p : m α} (ha : EO fs a p) : EO fs (eCall (op1 reprE) (eAc a eA0)) (bnd p fun v => lft (castE (reprE (enc v)) : E Str)) := fun pp M0 S M ns r Q X w => by
  refine Sim.bnd (Sim.bnd ((ha pp M0 S M ns r _ _ (Mo.bnd_wp w)).imp (fun d M1 ⟨x, e, w, r⟩ => ?_) (fun _ _ _ h => h)))
  subst e
  refine Sim.bnd (Sim.ok (a := []) rfl (Sim.ok (a := [enc x]) (M := M1) rfl ?_))
  exact ((op_cast (α := Str) (reprE (enc x))).sim (M := M1) (Mo.lft_wp w)).imp (fun d M' ⟨v, e, q, e2⟩ => ⟨v, e, q, e2 ▸ r⟩) (fun c d M' ⟨q, e2⟩ => ⟨q, e2 ▸ r⟩)
end
end TL

set_option Elab.async false
set_option linter.all false
set_option maxRecDepth 100000
set_option maxHeartbeats 1000000
/-! TLW: clear, a store at an index that is computed, two own lists from two calls. -/
namespace TL
open PySem L2 DL
open Mo (pur bnd lft)
open Enc (enc)
open EncL (encL)
section
variable {m : Type → Type} [Mo m] {pp : List Nat} {M0 : Store} {fs fs' fs'' : List SV} {α β γ τ κ φ ρ ω : Type} [Enc α] [Enc β] [Enc γ] [EncL τ] [EncL κ] [Enc ρ] [Enc ω] {K : φ → Fl → Store → Prop}
end
end TL

set_option Elab.async false
set_option linter.all false
set_option maxRecDepth 100000
set_option maxHeartbeats 1000000
/-! TLV: a dict filled by two statements, then a value. -/
namespace TL
open PySem L2 DL
open Mo (pur bnd lft)
open Enc (enc)
/-- the frame as a block of its own sees it: the pool is the caller's -/
inductive ParF (pc : Nat) : Bool → List SV → List SV → Prop
  | n : ParF pc false [] []
  | a {b x as bs} : ParF pc b as bs → ParF pc b (x :: as) (.any :: bs)
  | v {b d as bs} : ParF pc b as bs → ParF pc b (.val d :: as) (.val d :: bs)
  | p {as bs} : ParF pc false as bs → ParF pc true (.lpl :: as) (.par pc :: bs)
theorem ParF.len {pc : Nat} {b : Bool} {as bs : List SV} (h : ParF pc b as bs) : bs.length = as.length := by induction h <;> simp_all
theorem ParF.get {pc : Nat} {b : Bool} {as bs : List SV} (h : ParF pc b as bs) : ∀ (k : Nat) (v : SV), bs[k]? = some v → v = .any ∨ (∃ d, v = .val d ∧ as[k]? = some (.val d)) ∨ (v = .par pc ∧ as[k]? = some .lpl ∧ b = true) := by
  induction h with
  | n => intro k v h; simp at h
  | a _ ih =>
    intro k v h
    cases k with
    | zero => simp at h; exact .inl h.symm
    | succ k => simpa using ih k v (by simpa using h)
  | v _ ih =>
    intro k v h
    cases k with
    | zero => simp at h; exact .inr (.inl ⟨_, h.symm, rfl⟩)
    | succ k => simpa using ih k v (by simpa using h)
  | p _ ih =>
    intro k v h
    cases k with
    | zero => simp at h; exact .inr (.inr ⟨h.symm, rfl, rfl⟩)
    | succ k =>
      rcases ih k v (by simpa using h) with z | z | ⟨_, _, z⟩
      · exact .inl z
      · exact .inr (.inl (by simpa using z))
      · cases z
theorem ParF.none {pc : Nat} {as bs : List SV} (h : ParF pc false as bs) (k : Nat) : bs[k]? ≠ some (.par pc) := fun z => by
  rcases h.get k _ z with q | ⟨_, q, _⟩ | ⟨_, _, q⟩ <;> cases q
section
variable {α : Type} [Enc α]
/-- the frame behind it: the dict is a value -/
inductive FzF (pc : Nat) (d : Dc α) : Bool → List SV → List SV → Prop
  | n : FzF pc d false [] []
  | a {b x as bs} : FzF pc d b as bs → FzF pc d b (x :: as) (.any :: bs)
  | v {b} {β : Type} [Enc β] {x : β} {as bs} : FzF pc d b as bs → FzF pc d b (.v x :: as) (.v x :: bs)
  | p {b as bs} : FzF pc d b as bs → FzF pc d b (.par pc :: as) (.lpl :: bs)
  | d {as bs} : FzF pc d false as bs → FzF pc d true (.D d :: as) (.v d.fd :: bs)
theorem FzF.len {pc : Nat} {d : Dc α} {b : Bool} {as bs : List SV} (h : FzF pc d b as bs) : bs.length = as.length := by induction h <;> simp_all
theorem FzF.get {pc : Nat} {d : Dc α} {b : Bool} {as bs : List SV} (h : FzF pc d b as bs) : ∀ (k : Nat) (v : SV), bs[k]? = some v → v = .any ∨ (∃ x : D, v = .val x ∧ (∀ n, rlt n x = true) ∧ as[k]? = some (.val x)) ∨ (v = .lpl ∧ as[k]? = some (.par pc)) ∨ (v = .v d.fd ∧ as[k]? = some (.D d) ∧ b = true) := by
  induction h with
  | n => intro k v h; simp at h
  | a _ ih =>
    intro k v h
    cases k with
    | zero => simp at h; exact .inl h.symm
    | succ k => simpa using ih k v (by simpa using h)
  | v _ ih =>
    intro k v h
    cases k with
    | zero => simp at h; exact .inr (.inl ⟨_, h.symm, Enc.nr _, rfl⟩)
    | succ k => simpa using ih k v (by simpa using h)
  | p _ ih =>
    intro k v h
    cases k with
    | zero => simp at h; exact .inr (.inr (.inl ⟨h.symm, rfl⟩))
    | succ k => simpa using ih k v (by simpa using h)
  | d _ ih =>
    intro k v h
    cases k with
    | zero => simp at h; exact .inr (.inr (.inr ⟨h.symm, rfl, rfl⟩))
    | succ k =>
      rcases ih k v (by simpa using h) with z | z | z | ⟨_, _, z⟩
      · exact .inl z
      · exact .inr (.inl (by simpa using z))
      · exact .inr (.inr (.inl (by simpa using z)))
      · cases z
theorem FzF.none {pc : Nat} {d : Dc α} {as bs : List SV} (h : FzF pc d false as bs) {k : Nat} {x : D} (h1 : as[k]? = some (.D d)) (h2 : bs[k]? = some (.val x)) : False := by
  rcases h.get k _ h2 with q | ⟨y, _, _, q⟩ | ⟨q, _⟩ | ⟨_, _, q⟩
  · cases q
  · rw [h1] at q; cases q
  · cases q
  · cases q
end
section
variable {m : Type → Type} [Mo m] {pp : List Nat} {M0 : Store} {fs : List SV} {α φ : Type} [Enc α] {K : φ → Fl → Store → Prop}
end
end TL

set_option Elab.async false
set_option linter.all false
set_option maxRecDepth 100000
set_option maxHeartbeats 1000000
/-! TLU: dict(pairs), d.get, C(..) with effects in its arguments, lists of three kinds. -/
namespace TL
open PySem L2 DL
open Mo (pur bnd lft)
open Enc (enc)
open EncL (encL)
structure H3 (α β γ : Type) where
  a : α
  b : β
  c : γ
instance {α β γ : Type} [Enc α] [Enc β] [Enc γ] : Enc (H3 α β γ) := ⟨fun x => .nd .lst [enc x.a, enc x.b, enc x.c], fun x n => by simp [rlt, rlts, Enc.nr]⟩
section
variable {m : Type → Type} [Mo m] {pp : List Nat} {M0 : Store} {fs fs' fs'' fs3 : List SV} {α β γ τ κ φ ρ ω : Type} [Enc α] [Enc β] [Enc γ] [EncL τ] [EncL κ] [Enc ρ] [Enc ω] {K : φ → Fl → Store → Prop}
/-- C(..) by places and names, with effects -/
theorem eo_makeM {cn : Str} {n i j : Nat} {F : List D → Ev D} {f g : Lo → Ev (List D)} {p : m τ} {q : m κ} {s : τ → κ → E ω} (ha : AO fs f p) (hk : AO fs g q) (hF : ∀ v z, Ini cn F (encL v ++ encL z) (s v z)) (hi : ∀ v : τ, (encL v).length = i) (hj : ∀ z : κ, (encL z).length = j) :
    EO fs (eFz (eMake cn n i j (fun d l z => d :: (l ++ z)) F f g)) (bnd p fun v => bnd q fun z => lft (s v z)) := fun pp M0 S M ns r Q X w => by
  refine sim_fz (cc := false) r (Sim.bnd ((ha _ M0 S M ns (r.re (Chg.refl M)) _ _ (Mo.bnd_wp w)).imp (fun l M1 ⟨v, e, w, r1⟩ => ?_) (fun _ _ _ h => h)))
  subst e
  refine Sim.bnd ((hk _ M0 S M1 ns r1 _ _ (Mo.bnd_wp w)).imp (fun l M2 ⟨z, e, w, r2⟩ => ?_) (fun _ _ _ h => h))
  subst e
  rw [if_pos ⟨hi v, hj z⟩]
  have key := hF v z M2 Q X (lft_wpE w)
  unfold makeD
  cases e : F (.ref M2.length :: (encL v ++ encL z)) (M2 ++ [(.obj cn [], [])]) with
  | stuck => rw [e] at key; exact key.elim
  | exc c d M' => rw [e] at key; exact ⟨key.1, r2.call key.2⟩
  | ok d M' =>
    rw [e] at key
    obtain ⟨rfl, o, os, vs, hq, fr, hm, he⟩ := key
    refine ⟨M2, [], o, hq, ⟨fr, ?_, fun h => by cases h⟩, r2.cg.le, r2.call fr⟩
    rw [he]
    exact fz_cell (Nat.le_refl _) hm (rlts_obj he _)
end
end TL

set_option Elab.async false
set_option linter.all false
set_option maxRecDepth 100000
set_option maxHeartbeats 1000000
/-! TLT: data of any kind; raise; try. -/
namespace TL
open PySem L2 DL
open Mo (pur bnd lft)
open Enc (enc)
open EncL (encL)
/-- data without cells -/
theorem rlts_iff {n : Nat} : ∀ {l : List D}, rlts n l = true ↔ ∀ d ∈ l, rlt n d = true
  | [] => by simp [rlts]
  | x :: l => by simp [rlts, rlts_iff (l := l)]
mutual
theorem rlt_up {n : Nat} : ∀ (d : D), rlt 0 d = true → rlt n d = true
  | .non, _ => by simp [rlt]
  | .bl _, _ => by simp [rlt]
  | .int _, _ => by simp [rlt]
  | .str _, _ => by simp [rlt]
  | .ty _, _ => by simp [rlt]
  | .gl _, _ => by simp [rlt]
  | .ref _, h => by simp [rlt] at h
  | .nd _ l, h => by rw [rlt] at h ⊢; exact rlts_up l h
theorem rlts_up {n : Nat} : ∀ (l : List D), rlts 0 l = true → rlts n l = true
  | [], _ => by simp [rlts]
  | d :: l, h => by
    rw [rlts, Bool.and_eq_true] at h ⊢
    exact ⟨rlt_up d h.1, rlts_up l h.2⟩
end
structure Dt where
  d : D
  h : rlt 0 d = true
instance : Enc Dt := ⟨fun x => x.d, fun x _ => rlt_up x.d x.h⟩
def Dt.of {α : Type} [Enc α] (a : α) : Dt := ⟨enc a, Enc.nr a 0⟩
section
variable {m : Type → Type} [Mo m] {pp : List Nat} {M0 : Store} {fs fs' fs'' fs3 : List SV} {α β γ τ κ φ ρ ω : Type} [Enc α] [Enc β] [Enc γ] [EncL τ] [EncL κ] [Enc ρ] [Enc ω] {K : φ → Fl → Store → Prop}
theorem ep_dat {e : Lo → Ev D} {x : α} (h : EP fs e x) : EP fs e (Dt.of x) := h
theorem map_dat (xs : List α) : (xs.map Dt.of).map enc = xs.map enc := by rw [List.map_map]; rfl
theorem enc_dat (xs : List α) : enc (xs.map Dt.of) = enc xs := by show D.nd .lst _ = D.nd .lst _; rw [map_dat]
theorem eo_datL {e : Lo → Ev D} {p : m (List α)} (h : EO fs e p) : EO fs e (bnd p fun xs => pur (xs.map Dt.of)) := fun pp M0 S M ns r Q X w =>
  (h pp M0 S M ns r _ _ (Mo.bnd_wp w)).imp (fun d M1 ⟨x, e, w, r⟩ => ⟨x.map Dt.of, by rw [enc_dat]; exact e, Mo.pur_wp w, r⟩) (fun _ _ _ h => h)
/-- what is read without the store's help -/
theorem eo_castG {f : Lo → Ev D} {g : Ev D} (h : ∀ pp M0 S M ns, Rel pp M0 fs S M ns → f S M = g M) : EO (m := m) (α := α) fs f (lft (castE g)) := fun pp M0 S M ns r Q X w => by
  rw [h pp M0 S M ns r]
  exact ((op_cast (α := α) g).sim (M := M) (Mo.lft_wp w)).imp (fun d M' ⟨v, e, q, e2⟩ => ⟨v, e, q, e2 ▸ r⟩) (fun c d M' ⟨q, e2⟩ => ⟨q, e2 ▸ r⟩)
theorem eo_isiD {a : Lo → Ev D} {x : α} {T : String} (ha : EP fs a x) : EO (m := m) fs (eCall (op2 isiE) (eAc a (eAc (eC (.ty T)) eA0))) (lft (castE (isiE (enc x) (.ty T)) : E Bool)) := eo_castG fun pp M0 S M ns r => by
  unfold eCall eAc
  rw [bnd_bnd, bok (ha pp M0 S M ns r)]
  rfl
/-- an operation that leaves the store -/
def POp (o : D → D → Ev D) : Prop := ∀ x y M, match o x y M with
  | .ok _ M' => M' = M
  | _ => True
theorem pop_iop (k : Int → Int → D) : POp (iop fun i j => Ev.ret (k i j)) := fun x y M => by
  cases x <;> cases y <;> simp [iop, Ev.ret, Ev.no]
theorem eo_chainD {o o' : D → D → Ev D} {a b c : Lo → Ev D} {x : α} {y : β} {z : γ} (ho : POp o) (ha : EP fs a x) (hb : EP fs b y) (hc : EP fs c z) : EO (m := m) fs (eChain o o' a b c) (lft (castE (eChain o o' (eC (enc x)) (eC (enc y)) (eC (enc z)) []) : E Bool)) := eo_castG fun pp M0 S M ns r => by
  have h1 := ha pp M0 S M ns r
  have h2 := hb pp M0 S M ns r
  have h3 := hc pp M0 S M ns r
  have p := ho (enc x) (enc y) M
  unfold eChain
  rw [bok h1, bok h2]
  show ((o (enc x) (enc y)).bnd _) M = ((o (enc x) (enc y)).bnd _) M
  unfold Ev.bnd
  cases q : o (enc x) (enc y) M with
  | stuck => rfl
  | exc _ _ _ => rfl
  | ok k M' =>
    rw [q] at p
    have p : M' = M := p
    subst p
    show ((asB k).bnd _) M' = ((asB k).bnd _) M'
    unfold Ev.bnd
    cases q2 : asB k M' with
    | stuck => rfl
    | exc _ _ _ => rfl
    | ok t M2 =>
      have e2 : M2 = M' := by
        unfold asB at q2
        split at q2 <;> cases q2
        rfl
      subst e2
      cases t with
      | false => rfl
      | true =>
        have e3 : ∀ k : D → Ev D, Out.bnd (c S M2) k = k (enc z) M2 := fun k => by rw [h3]; rfl
        exact e3 _
/-! ### raise -/
theorem b_raiseS {c : Str} {e : Lo → Ev D} {g : Lo → Ev Fl} {p : m α} {q : α → m φ} (he : EO fs e p) (hq : ∀ v, q v = lft (.exc c (enc v))) : Blk pp M0 fs (sSeq (sRaise c e) g) (bnd p q) K := Blk.of fun S M ns r Q X w => by
  refine Sim.seq (Sim.fl ((he _ M0 S M ns r _ _ (Mo.bnd_wp w)).imp (fun d M1 ⟨x, e, w, r⟩ => ?_) (fun c d M1 ⟨x, r⟩ => ⟨x, r.fram⟩)))
  subst e
  rw [hq] at w
  exact ⟨Mo.lft_wp w, r.fram⟩
/-! ### try -/
/-- how a try's body ends: it stores at i, it is an expression alone, it returns -/
inductive TK where
  | asg (i : Nat) | exp | ret
def TK.fl (k : TK) (S : Lo) (d : D) : Fl := match k with
  | .asg i => .nx (S.set i (some d))
  | .exp => .nx S
  | .ret => .rt d
/-- a try's body: an exception leaves the frame as it is -/
def TB {α : Type} [Enc α] (pp : List Nat) (M0 : Store) (fs : List SV) (k : TK) (g : Lo → Ev Fl) (p : m α) : Prop := ∀ S M ns, Rel ⟨pp, []⟩ M0 fs S M ns → ∀ Q X, Mo.wp p Q X →
  Sim (g S M) (fun fl M' => (∃ c d, fl = .xc c d S ∧ X c d ∧ Rel ⟨pp, []⟩ M0 fs S M' ns) ∨ ∃ v, fl = k.fl S (enc v) ∧ Q v ∧ Rel ⟨pp, []⟩ M0 fs S M' ns) NoX
theorem tb_if {k : TK} {c : Lo → Ev Bool} {f g : Lo → Ev Fl} {pc : m Bool} {pf pg : m α} (hc : TO fs c pc) (hf : TB pp M0 fs k f pf) (hg : TB pp M0 fs k g pg) : TB pp M0 fs k (sIf c f g) (bnd pc fun b => if b = true then pf else pg) := fun S M ns r Q X w => by
  refine Sim.flB ((hc _ M0 S M ns r _ _ (Mo.bnd_wp w)).imp (fun b M1 ⟨w, r⟩ => ?_) (fun c d M1 ⟨x, r⟩ => .inl ⟨c, d, rfl, x, r⟩))
  cases b
  · exact hg S M1 ns r Q X w
  · exact hf S M1 ns r Q X w
/-- a clause: f by the field value, the name's slot oi free -/
def HB (pp : List Nat) (M0 : Store) (fs : List SV) (oi : Option Nat) (f : D → Lo → Ev Fl) (g : Lo → Ev Fl) (q : Dt → m φ) (K : φ → Fl → Store → Prop) : Prop := ∀ (x : Dt) S M ns, Rel ⟨pp, []⟩ M0 fs S M ns → ∀ Q X, Mo.wp (q x) Q X →
  Sim ((if fits oi S = true then (f x.d (offL oi S)).bnd (offE oi) else Ev.no) M) (fun fl M' => Sim ((match fl with
    | .nx S' => g S'
    | o => Ev.ret o) M') (BP pp M0 Q X K) NoX) NoX
theorem hn_exp {g : Lo → Ev Fl} {kn : α → m φ} (h : ∀ v, Blk pp M0 fs g (kn v) K) : ∀ v S M ns, Rel ⟨pp, []⟩ M0 fs S M ns → ∀ Q X, Mo.wp (kn v) Q X → Sim ((match TK.exp.fl S (enc v) with
    | .nx S' => g S'
    | o => Ev.ret o) M) (BP pp M0 Q X K) NoX := fun v S M ns r Q X w => (h v).at_ r w
theorem Rel.offA {pp : PX} {S : Lo} {M : Store} {ns : Nat → Nat} {i : Nat} (r : Rel pp M0 fs S M ns) (h : fs[i]? = some .any) (o : Option D) : Rel pp M0 fs (S.set i o) M ns := by
  refine ⟨by simp [r.len], r.le, r.fr, r.pl, r.cg, fun j v hv => ?_, r.dj⟩
  by_cases hj : i = j
  · subst hj
    rw [h] at hv
    cases hv
    trivial
  · have s := r.sl j v hv
    have e : (S.set i o)[j]? = S[j]? := List.getElem?_set_ne hj
    cases v <;> first | trivial | (unfold SlotOk at s ⊢; rw [e]; exact s)
inductive HBs (pp : List Nat) (M0 : Store) (fs : List SV) (g : Lo → Ev Fl) (K : φ → Fl → Store → Prop) : List HdF → List (Dt → m φ) → Prop
  | nil : HBs pp M0 fs g K [] []
  | cons {oi : Option Nat} {f : D → Lo → Ev Fl} {q : Dt → m φ} {l : List HdF} {r : List (Dt → m φ)} (h : HB pp M0 fs oi f g q K) (t : HBs pp M0 fs g K l r) : HBs pp M0 fs g K ((oi, f) :: l) (q :: r)
theorem HBs.get {g : Lo → Ev Fl} : ∀ {l : List HdF} {r : List (Dt → m φ)}, HBs pp M0 fs g K l r → ∀ (j : Nat) (oi : Option Nat) (f : D → Lo → Ev Fl), l[j]? = some (oi, f) → ∃ q, r[j]? = some q ∧ HB pp M0 fs oi f g q K
  | _, _, .nil, j, oi, f, e => by simp at e
  | _, _, .cons h t, 0, oi, f, e => by simp at e; obtain ⟨rfl, rfl⟩ := e; exact ⟨_, rfl, h⟩
  | _, _, .cons h t, j + 1, oi, f, e => by
    obtain ⟨q, h1, h2⟩ := t.get j oi f (by simpa using e)
    exact ⟨q, by simpa using h1, h2⟩
def hjB (T : List (Str × Option Nat)) (n : Nat) : Bool := T.all fun p => match p.2 with
  | some j => decide (j < n)
  | none => true
theorem ep_ev {x : Dt} : EP fs (fun _ => Ev.ret x.d) x := fun _ _ _ _ _ _ => rfl
end
end TL

set_option Elab.async false
set_option linter.all false
set_option maxRecDepth 100000
set_option maxHeartbeats 4000000
/-! TLS: list(zip(a, b)). -/
namespace TL
open PySem L2 DL
open Mo (pur bnd lft)
open Enc (enc)
open EncL (encL)
section
variable {m : Type → Type} [Mo m] {fs : List SV} {α β : Type} [Enc α] [Enc β]
end
end TL

set_option Elab.async false
set_option linter.all false
set_option maxRecDepth 100000
set_option maxHeartbeats 4000000
/-! TLP: data of any kind, used. -/
namespace TL
open PySem L2 DL
open Mo (pur bnd lft)
open Enc (enc)
open EncL (encL)
/-- data taken as of a type -/
noncomputable def asG {α : Type} [Enc α] (x : Dt) : E α := castE (Ev.ret x.d)
section
variable {m : Type → Type} [Mo m] {fs : List SV} {α β γ : Type} [Enc α] [Enc β] [Enc γ]
theorem asG_ok {α : Type} [Enc α] {x : Dt} {v : α} (h : enc v = x.d) (inj : ∀ a b : α, enc a = enc b → a = b) : asG x = .ok v := castE_ok (fun M => by rw [h]; rfl) inj
theorem eo_asG {e : Lo → Ev D} {p : m Dt} (h : EO fs e p) : EO fs e (bnd p fun x => lft (asG x : E α)) := fun pp M0 S M ns r Q X w =>
  (h pp M0 S M ns r _ _ (Mo.bnd_wp w)).imp (fun d M1 ⟨x, e, w, r⟩ => by
    have w := Mo.lft_wp w
    have := (op_cast (α := α) (Ev.ret x.d)).sim (M := M1) w
    obtain ⟨v, e2, q, _⟩ := this
    exact ⟨v, by rw [e]; exact e2, q, r⟩) (fun _ _ _ h => h)
end
end TL

set_option Elab.async false
set_option linter.all false
set_option maxRecDepth 100000
set_option maxHeartbeats 4000000
/-! TLO: sorted of an own dict; a slice up to a bound with effects. -/
namespace TL
open PySem L2 DL
open Mo (pur bnd lft)
open Enc (enc)
open EncL (encL)
section
variable {m : Type → Type} [Mo m] {fs : List SV} {α β γ : Type} [Enc α] [Enc β] [Enc γ]
theorem eo_reprF {a : Lo → Ev D} {p : m α} (ha : EO fs a p) : EO fs (eCall (op1 reprF) (eAc a eA0)) (bnd p fun v => lft (castE (reprF (enc v)) : E Str)) := fun pp M0 S M ns r Q X w => by
  refine Sim.bnd (Sim.bnd ((ha pp M0 S M ns r _ _ (Mo.bnd_wp w)).imp (fun d M1 ⟨x, e, w, r⟩ => ?_) (fun _ _ _ h => h)))
  subst e
  refine Sim.bnd (Sim.ok (a := []) rfl (Sim.ok (a := [enc x]) (M := M1) rfl ?_))
  exact ((op_cast (α := Str) (reprF (enc x))).sim (M := M1) (Mo.lft_wp w)).imp (fun d M' ⟨v, e, q, e2⟩ => ⟨v, e, q, e2 ▸ r⟩) (fun c d M' ⟨q, e2⟩ => ⟨q, e2 ▸ r⟩)
end
end TL

set_option Elab.async false
set_option linter.all false
set_option maxRecDepth 100000
set_option maxHeartbeats 4000000
namespace Lw
open PySem L2 DL TL
open Mo (pur bnd lft)
open Enc (enc)
open EncL (encL)
noncomputable def p_Web_size (self : OWeb) : E Int := bnd (pur self.own_size) fun r34 => pur (id r34)
theorem t_Web_size (self : OWeb) : Ret false [] (F_Web_size [enc self]) (p_Web_size self) := by
  refine ret_def (n := 1) (g := g_Web_size) (l := [enc self]) (by exact Nat.le_of_ble_eq_true rfl) (fun M0 => ?_)
  unfold g_Web_size p_Web_size
  exact b_ret kr_t rfl (EP.eo (ep_fld (v := self.own_size) (EP.ev (ep_var (v := self) 0 rfl) rfl) rfl))
noncomputable def p_is_integer (thing : Int) : E Bool := bnd (pur (true && (!false))) fun r44 => pur (id r44)
theorem t_is_integer (thing : Int) : Ret false [] (F_is_integer [enc thing]) (p_is_integer thing) := by
  refine ret_def (n := 1) (g := g_is_integer) (l := [enc thing]) (by exact Nat.le_of_ble_eq_true rfl) (fun M0 => ?_)
  unfold g_is_integer p_is_integer
  exact b_ret kr_t rfl (EP.eo (ep_and (ep_isi (b := true) (ep_var (v := thing) 0 rfl) (fun _ => rfl) (by decide +kernel)) (ep_not (ep_isi (b := false) (ep_var (v := thing) 0 rfl) (fun _ => rfl) (by decide +kernel)))))
noncomputable def p_is_within (thing : Int) (least : Int) (most : Int) : E Bool := bnd (bnd (lft (p_is_integer thing)) fun z45 => if z45 = true then (pur (decide (least ≤ thing) && decide (thing ≤ most))) else pur false) fun r46 => pur (id r46)
theorem t_is_within (thing : Int) (least : Int) (most : Int) : Ret false [] (F_is_within [enc thing, enc least, enc most]) (p_is_within thing least most) := by
  refine ret_def (n := 3) (g := g_is_within) (l := [enc thing, enc least, enc most]) (by exact Nat.le_of_ble_eq_true rfl) (fun M0 => ?_)
  unfold g_is_within p_is_within
  exact b_ret kr_t rfl (eo_and (eo_callp (ap_cons (ep_var (v := thing) 0 rfl) ap_nil) (t_is_integer thing) rfl) (EP.eo (ep_chain (ep_var (v := least) 1 rfl) (ep_var (v := thing) 0 rfl) (ep_var (v := most) 2 rfl) (o_le _ _) (o_le _ _))))
noncomputable def p_forest_of (size : Int) (pairs : (List (Int × Int))) : E (List Int) := bnd (bnd (pur size) fun n58 => lft (rgL 0 n58)) fun (groups57 : (List Int)) => bnd (pur ([] : List Int)) fun (found59 : (List Int)) => bnd (bnd (pur pairs) fun xs60 => pur (enI 0 xs60)) fun xs73 => bnd (forM (fun (b61 : ((List Int) × (List Int))) (x62 : (Int × (Int × Int))) => bnd (bnd (lft (ixL b61.1 x62.2.1)) fun x63 => bnd (lft (ixL b61.1 x62.2.2)) fun y64 => lft (.ok (true ^^ eqB x63 y64))) fun z => if z = true then (bnd (pur x62.1) fun v65 => bnd (lft (appL b61.2 v65)) fun found66 => bnd (bnd (pur b61.1) fun xs72 => lcM xs72 (fun (x68 : Int) => pur true) (fun (x68 : Int) => bnd (bnd (pur x68) fun x69 => bnd (lft (ixL b61.1 x62.2.2)) fun y70 => lft (.ok (false ^^ eqB x69 y70))) fun z71 => if z71 = true then (lft (ixL b61.1 x62.2.1)) else (pur x68))) fun (groups67 : (List Int)) => pur (groups67, found66)) else (pur (b61.1, b61.2))) xs73 (groups57, found59)) fun (b61 : ((List Int) × (List Int))) => pur (id b61.2)
theorem t_forest_of (size : Int) (pairs : (List (Int × Int))) : Ret true [] (F_forest_of [enc size, enc pairs]) (p_forest_of size pairs) := by
  refine ret_def (n := 8) (g := g_forest_of) (l := [enc size, enc pairs]) (by exact Nat.le_of_ble_eq_true rfl) (fun M0 => ?_)
  unfold g_forest_of p_forest_of
  exact b_asg (i := 2) (eo_lst (nl_range1 (EP.eo (ep_var (v := size) 0 rfl)))) (fun groups57 => b_cell (i := 3) (NP.nl (xs := ([] : List Int)) (np_new (n := 0) ap_nil rfl)) (fun found59 => b_for (b0 := (groups57, found59)) (fsL := fun (b61 : ((List Int) × (List Int))) => [.v size, .v pairs, .v b61.1, .L b61.2, .any, .any, .any, .any]) (io_enum (EP.eo (ep_var (v := pairs) 1 rfl))) (wk_s (wk_s (wk_s (wk_s (wk_a (wk_a (wk_a (wk_a wk_n)))))))) (fun b61 x62 => tg_2 (tg_nm 4 x62.1) (tg_2 (tg_nm 5 x62.2.1) (tg_nm 6 x62.2.2))) (fun b61 x62 => b_if (to_b (eo_2 (eo_ixp (EP.ls (ep_var (v := b61.1) 2 rfl)) (ep_var (v := x62.2.1) 5 rfl) rfl) (eo_ixp (EP.ls (ep_var (v := b61.1) 2 rfl)) (ep_var (v := x62.2.2) 6 rfl) rfl) (E1 fun x y => o_eqE (neg := true) (by decide) x y))) (b_app (i := 3) rfl (EP.eo (ep_var (v := x62.1) 4 rfl)) (fun found66 => b_last (b_asg (i := 2) (eo_lst (nl_lc (io_seq (EP.eo (ep_var (v := b61.1) 2 rfl))) (fun x68 => tg_nm 7 x68) (fun x68 => to_yes) (fun x68 => eo_if (to_b (eo_2 (EP.eo (ep_var (v := x68) 7 rfl)) (eo_ixp (EP.ls (ep_var (v := b61.1) 2 rfl)) (ep_var (v := x62.2.2) 6 rfl) rfl) (E1 fun x y => o_eqE (neg := false) (by decide) x y))) (eo_ixp (EP.ls (ep_var (v := b61.1) 2 rfl)) (ep_var (v := x62.2.1) 5 rfl) rfl) (EP.eo (ep_var (v := x68) 7 rfl))) (fun x68 => ci_v (ci_v (ci_v (ci_s (ci_v (ci_v (ci_v (ci_v ci_n)))))))))) (fun groups67 => b_end (groups67, found66) (wk_s (wk_s (wk_s (wk_s (wk_a (wk_a (wk_a (wk_a wk_n)))))))))))) (b_end (b61.1, b61.2) (wk_s (wk_s (wk_s (wk_s (wk_a (wk_a (wk_a (wk_a wk_n)))))))))) (fun b61 => b_retC 3 kr_t rfl)))
noncomputable def p_is_edge (thing : (Int × Int)) (size : Int) : E Bool := bnd (pur ((!true) || (true ^^ eqB (2 : Int) (2 : Int)))) fun z => if z = true then (bnd (pur false) fun r91 => pur (id r91)) else (bnd (bnd (lft (p_is_within thing.1 (0 : Int) (size - (1 : Int)))) fun z92 => if z92 = true then (lft (p_is_within thing.2 (0 : Int) (size - (1 : Int)))) else pur false) fun r93 => pur (id r93))
theorem t_is_edge (thing : (Int × Int)) (size : Int) : Ret false [] (F_is_edge [enc thing, enc size]) (p_is_edge thing size) := by
  refine ret_def (n := 2) (g := g_is_edge) (l := [enc thing, enc size]) (by exact Nat.le_of_ble_eq_true rfl) (fun M0 => ?_)
  unfold g_is_edge p_is_edge
  exact b_ifD (TP.to (tp_or (tp_not (tp_tru (ep_isi (b := true) (ep_var (v := thing) 0 rfl) (fun _ => rfl) (by decide +kernel)))) (tp_b (ep_eq (neg := true) (EP.ey (ep_lenD (n := (2 : Int)) (EP.ev (ep_var (v := thing) 0 rfl) rfl) rfl rfl)) (EP.ey (ep_c (v := (2 : Int)) rfl)))))) (b_retS kr_t rfl (EP.eo (ep_c (v := false) rfl))) (b_skip (b_ret kr_t rfl (eo_and (eo_callp (ap_cons (ep_tup (z := thing.1) (EP.ev (ep_var (v := thing) 0 rfl) rfl) rfl) (ap_cons (ep_c (v := (0 : Int)) rfl) (ap_cons (ep_2 (ep_var (v := size) 1 rfl) (ep_c (v := (1 : Int)) rfl) (o_sub _ _)) ap_nil))) (t_is_within thing.1 (0 : Int) (size - (1 : Int))) rfl) (eo_callp (ap_cons (ep_tup (z := thing.2) (EP.ev (ep_var (v := thing) 0 rfl) rfl) rfl) (ap_cons (ep_c (v := (0 : Int)) rfl) (ap_cons (ep_2 (ep_var (v := size) 1 rfl) (ep_c (v := (1 : Int)) rfl) (o_sub _ _)) ap_nil))) (t_is_within thing.2 (0 : Int) (size - (1 : Int))) rfl))))
noncomputable def p_check_edges (size : Int) (edges : (List (Int × Int))) : E Unit := bnd (pur (!true)) fun z => if z = true then (lft .bad) else (bnd (pur edges) fun xs95 => bnd (forM (fun (b89 : Unit) (x90 : (Int × Int)) => bnd (bnd (lft (p_is_edge x90 size)) fun z94 => pur (!z94)) fun z => if z = true then (lft .bad) else (pur ())) xs95 ()) fun (b89 : Unit) => bnd (pur (decide ((60 : Int) < ((edges).length : Int)))) fun z => if z = true then (lft .bad) else (pur ()))
theorem t_check_edges (size : Int) (edges : (List (Int × Int))) : Ret false [] (F_check_edges [enc size, enc edges]) (p_check_edges size edges) := by
  refine ret_def (n := 3) (g := g_check_edges) (l := [enc size, enc edges]) (by exact Nat.le_of_ble_eq_true rfl) (fun M0 => ?_)
  unfold g_check_edges p_check_edges
  exact b_ifD (TP.to (tp_not (tp_tru (ep_isiT (b := true) (Ts := ["list", "tuple"]) (ep_var (v := edges) 1 rfl) (fun _ => rfl) (fun _ _ => rfl) (by decide) (by decide +kernel))))) (b_bad bad_wp) (b_skip (b_for (b0 := ()) (fsL := fun (b89 : Unit) => [.v size, .v edges, .any]) (io_seq (EP.eo (ep_var (v := edges) 1 rfl))) (wk_s (wk_s (wk_a wk_n))) (fun b89 x90 => tg_nm 2 x90) (fun b89 x90 => b_if (to_not (to_tru (eo_callp (ap_cons (ep_var (v := x90) 2 rfl) (ap_cons (ep_var (v := size) 0 rfl) ap_nil)) (t_is_edge x90 size) rfl))) (b_last (b_bad bad_wp)) (b_end () (wk_s (wk_s (wk_a wk_n))))) (fun b89 => b_if (TP.to (tp_b (ep_2 (ep_len (EP.ls (ep_var (v := edges) 1 rfl)) rfl) (ep_c (v := (60 : Int)) rfl) (o_gt _ _)))) (b_last (b_bad bad_wp)) (b_endT rfl))))
noncomputable def p_is_modulus (thing : Int) : E Bool := bnd (bnd (lft (p_is_within thing (0 : Int) (60 : Int))) fun z97 => if z97 = true then (pur (true ^^ eqB thing (1 : Int))) else pur false) fun r98 => pur (id r98)
theorem t_is_modulus (thing : Int) : Ret false [] (F_is_modulus [enc thing]) (p_is_modulus thing) := by
  refine ret_def (n := 1) (g := g_is_modulus) (l := [enc thing]) (by exact Nat.le_of_ble_eq_true rfl) (fun M0 => ?_)
  unfold g_is_modulus p_is_modulus
  exact b_ret kr_t rfl (eo_and (eo_callp (ap_cons (ep_var (v := thing) 0 rfl) (ap_cons (ep_c (v := (0 : Int)) rfl) (ap_cons (ep_c (v := (60 : Int)) rfl) ap_nil))) (t_is_within thing (0 : Int) (60 : Int)) rfl) (EP.eo (ep_eq (neg := true) (EP.ey (ep_var (v := thing) 0 rfl)) (EP.ey (ep_c (v := (1 : Int)) rfl)))))
noncomputable def p_Web___init__ (size : Int) (edges : (List (Int × Int))) (modulus : Int) : E OWeb := bnd (bnd (lft (p_is_within size (1 : Int) (30 : Int))) fun z88 => pur (!z88)) fun z => if z = true then (lft .bad) else (bnd (lft (p_check_edges size edges)) fun u96 => bnd (bnd (lft (p_is_modulus modulus)) fun z99 => pur (!z99)) fun z => if z = true then (lft .bad) else (bnd (pur size) fun (own_size100 : Int) => bnd (pur edges) fun (own_edges101 : (List (Int × Int))) => bnd (pur modulus) fun (own_modulus102 : Int) => bnd (lft (p_forest_of size edges)) fun (own_forest103 : (List Int)) => bnd (lft (p_links_of size edges own_forest103)) fun (links104 : (List (List (T3 Int Int Int)))) => pur (OWeb.mk own_size100 own_edges101 own_modulus102 own_forest103 links104)))
theorem t_Web___init__ (size : Int) (edges : (List (Int × Int))) (modulus : Int) : Ini ("Web" : Str) F_Web___init__ [enc size, enc edges, enc modulus] (p_Web___init__ size edges modulus) := by
  refine ini_def (n := 4) (g := g_Web___init__) (by exact Nat.le_of_ble_eq_true rfl) (fun M0 cself => ?_)
  unfold g_Web___init__ p_Web___init__
  exact b_ifD (to_not (to_tru (eo_callp (ap_cons (ep_var (v := size) 1 rfl) (ap_cons (ep_c (v := (1 : Int)) rfl) (ap_cons (ep_c (v := (30 : Int)) rfl) ap_nil))) (t_is_within size (1 : Int) (30 : Int)) rfl))) (b_bad bad_wp) (b_skip (b_exp (eo_callp (ap_cons (ep_var (v := size) 1 rfl) (ap_cons (ep_var (v := edges) 2 rfl) ap_nil)) (t_check_edges size edges) rfl) (fun u96 => b_ifD (to_not (to_tru (eo_callp (ap_cons (ep_var (v := modulus) 3 rfl) ap_nil) (t_is_modulus modulus) rfl))) (b_bad bad_wp) (b_skip (b_fld (i := 0) rfl rfl (EP.eo (ep_var (v := size) 1 rfl)) (fun own_size100 => b_fld (i := 0) rfl rfl (eo_lst (NP.nl (xs := edges) (np_list (EP.ls (ep_var (v := edges) 2 rfl)) rfl))) (fun own_edges101 => b_fld (i := 0) rfl rfl (EP.eo (ep_var (v := modulus) 3 rfl)) (fun own_modulus102 => b_fld (i := 0) rfl rfl (eo_callp (ap_cons (ep_var (v := size) 1 rfl) (ap_cons (ep_var (v := edges) 2 rfl) ap_nil)) (t_forest_of size edges) rfl) (fun own_forest103 => b_last (b_fld (i := 0) rfl rfl (eo_callp (ap_cons (ep_var (v := size) 1 rfl) (ap_cons (ep_var (v := edges) 2 rfl) (ap_cons (ep_fld (v := own_forest103) (ev_pin 0 rfl) rfl) ap_nil))) (t_links_of size edges own_forest103) rfl) (fun links104 => b_endI (o := (OWeb.mk own_size100 own_edges101 own_modulus102 own_forest103 links104)) rfl rfl)))))))))))
noncomputable def p_Web___len__ (self : OWeb) : E Int := bnd (pur ((self.own_edges).length : Int)) fun r199 => pur (id r199)
theorem t_Web___len__ (self : OWeb) : Ret false [] (F_Web___len__ [enc self]) (p_Web___len__ self) := by
  refine ret_def (n := 1) (g := g_Web___len__) (l := [enc self]) (by exact Nat.le_of_ble_eq_true rfl) (fun M0 => ?_)
  unfold g_Web___len__ p_Web___len__
  exact b_ret kr_t rfl (EP.eo (ep_len (EP.ls (ep_fld (v := self.own_edges) (EP.ev (ep_var (v := self) 0 rfl) rfl) rfl)) rfl))
noncomputable def p_Web_modulus (self : OWeb) : E Int := bnd (pur self.own_modulus) fun r208 => pur (id r208)
theorem t_Web_modulus (self : OWeb) : Ret false [] (F_Web_modulus [enc self]) (p_Web_modulus self) := by
  refine ret_def (n := 1) (g := g_Web_modulus) (l := [enc self]) (by exact Nat.le_of_ble_eq_true rfl) (fun M0 => ?_)
  unfold g_Web_modulus p_Web_modulus
  exact b_ret kr_t rfl (EP.eo (ep_fld (v := self.own_modulus) (EP.ev (ep_var (v := self) 0 rfl) rfl) rfl))
noncomputable def p_is_residue (web : OWeb) (thing : Int) : E Bool := bnd (bnd (bnd (pur ()) fun v209 => lft (p_Web_modulus web )) fun x210 => bnd (pur (0 : Int)) fun y211 => lft (.ok (false ^^ eqB x210 y211))) fun z => if z = true then (bnd (lft (p_is_integer thing)) fun r212 => pur (id r212)) else (bnd (bnd (bnd (pur thing) fun x220 => bnd (bnd (pur (0 : Int)) fun x218 => bnd (bnd (bnd (bnd (pur ()) fun v213 => lft (p_Web_modulus web )) fun x214 => bnd (pur (1 : Int)) fun y215 => lft (.ok (x214 - y215))) fun x216 => bnd (pur ()) fun v217 => pur (x216, v217)) fun v219 => pur (x218, v219)) fun v221 => pur (x220, v221)) fun v222 => lft (p_is_within v222.1 v222.2.1 v222.2.2.1)) fun r223 => pur (id r223))
theorem t_is_residue (web : OWeb) (thing : Int) : Ret false [] (F_is_residue [enc web, enc thing]) (p_is_residue web thing) := by
  refine ret_def (n := 2) (g := g_is_residue) (l := [enc web, enc thing]) (by exact Nat.le_of_ble_eq_true rfl) (fun M0 => ?_)
  unfold g_is_residue p_is_residue
  exact b_ifD (to_b (eo_2 (eo_meth (o := web) (ep_var (v := web) 0 rfl) rfl (by decide) (AP.ao ap_nil) (fun v209 => t_Web_modulus web ) (fun _ => rfl)) (EP.eo (ep_c (v := (0 : Int)) rfl)) (E1 fun x y => o_eqE (neg := false) (by decide) x y))) (b_retS kr_t rfl (eo_callp (ap_cons (ep_var (v := thing) 1 rfl) ap_nil) (t_is_integer thing) rfl)) (b_skip (b_ret kr_t rfl (eo_call (ao_cons (EP.eo (ep_var (v := thing) 1 rfl)) (ao_cons (EP.eo (ep_c (v := (0 : Int)) rfl)) (ao_cons (eo_2 (eo_meth (o := web) (ep_var (v := web) 0 rfl) rfl (by decide) (AP.ao ap_nil) (fun v213 => t_Web_modulus web ) (fun _ => rfl)) (EP.eo (ep_c (v := (1 : Int)) rfl)) (E1 fun x y => o_sub x y)) (AP.ao ap_nil)))) (fun v222 => t_is_within v222.1 v222.2.1 v222.2.2.1) (fun _ => rfl))))
noncomputable def p_are_residues (web : OWeb) (thing : (List Int)) (count : Int) : E Bool := bnd (bnd (pur true) fun z229 => if z229 = true then (bnd (pur (false ^^ eqB ((thing).length : Int) count)) fun z228 => if z228 = true then (bnd (bnd (bnd (pur thing) fun xs224 => lcM xs224 (fun (x207 : Int) => pur true) (fun (x207 : Int) => lft (p_is_residue web x207))) fun x225 => bnd (pur ()) fun v226 => pur (x225, v226)) fun v227 => lft (.ok (v227.1.all id))) else pur false) else pur false) fun r230 => pur (id r230)
theorem t_are_residues (web : OWeb) (thing : (List Int)) (count : Int) : Ret false [] (F_are_residues [enc web, enc thing, enc count]) (p_are_residues web thing count) := by
  refine ret_def (n := 4) (g := g_are_residues) (l := [enc web, enc thing, enc count]) (by exact Nat.le_of_ble_eq_true rfl) (fun M0 => ?_)
  unfold g_are_residues p_are_residues
  exact b_ret kr_t rfl (eo_and (EP.eo (ep_isi (b := true) (ep_var (v := thing) 1 rfl) (fun _ => rfl) (by decide +kernel))) (eo_and (EP.eo (ep_eq (neg := false) (EP.ey (ep_len (EP.ls (ep_var (v := thing) 1 rfl)) rfl)) (EP.ey (ep_var (v := count) 2 rfl)))) (eo_c1 (ao_cons (eo_lst (nl_lc (io_seq (EP.eo (ep_var (v := thing) 1 rfl))) (fun x207 => tg_nm 3 x207) (fun x207 => to_yes) (fun x207 => eo_callp (ap_cons (ep_var (v := web) 0 rfl) (ap_cons (ep_var (v := x207) 3 rfl) ap_nil)) (t_is_residue web x207) rfl) (fun x207 => ci_v (ci_v (ci_v (ci_v ci_n)))))) (AP.ao ap_nil)) (E2 o_all))))
noncomputable def p_is_gains (web : OWeb) (thing : (List Int)) : E Bool := bnd (bnd (bnd (pur web) fun x205 => bnd (bnd (pur thing) fun x203 => bnd (bnd (bnd (lft (p_Web___len__ web)) fun n200 => lft (lenG n200)) fun x201 => bnd (pur ()) fun v202 => pur (x201, v202)) fun v204 => pur (x203, v204)) fun v206 => pur (x205, v206)) fun v231 => lft (p_are_residues v231.1 v231.2.1 v231.2.2.1)) fun r232 => pur (id r232)
theorem t_is_gains (web : OWeb) (thing : (List Int)) : Ret false [] (F_is_gains [enc web, enc thing]) (p_is_gains web thing) := by
  refine ret_def (n := 2) (g := g_is_gains) (l := [enc web, enc thing]) (by exact Nat.le_of_ble_eq_true rfl) (fun M0 => ?_)
  unfold g_is_gains p_is_gains
  exact b_ret kr_t rfl (eo_call (ao_cons (EP.eo (ep_var (v := web) 0 rfl)) (ao_cons (EP.eo (ep_var (v := thing) 1 rfl)) (ao_cons (eo_lenO (o := web) (ep_var (v := web) 0 rfl) rfl (by decide) (t_Web___len__ web)) (AP.ao ap_nil)))) (fun v231 => t_are_residues v231.1 v231.2.1 v231.2.2.1) (fun _ => rfl))
noncomputable def p_check_gains (web : OWeb) (gains : (List Int)) : E Unit := bnd (bnd (lft (p_is_gains web gains)) fun z233 => pur (!z233)) fun z => if z = true then (lft .bad) else (pur ())
theorem t_check_gains (web : OWeb) (gains : (List Int)) : Ret false [] (F_check_gains [enc web, enc gains]) (p_check_gains web gains) := by
  refine ret_def (n := 2) (g := g_check_gains) (l := [enc web, enc gains]) (by exact Nat.le_of_ble_eq_true rfl) (fun M0 => ?_)
  unfold g_check_gains p_check_gains
  exact b_if (to_not (to_tru (eo_callp (ap_cons (ep_var (v := web) 0 rfl) (ap_cons (ep_var (v := gains) 1 rfl) ap_nil)) (t_is_gains web gains) rfl))) (b_last (b_bad bad_wp)) (b_endT rfl)
noncomputable def p_Web_edges (self : OWeb) : E (List (Int × Int)) := bnd (pur self.own_edges) fun r250 => pur (id r250)
theorem t_Web_edges (self : OWeb) : Ret false [] (F_Web_edges [enc self]) (p_Web_edges self) := by
  refine ret_def (n := 1) (g := g_Web_edges) (l := [enc self]) (by exact Nat.le_of_ble_eq_true rfl) (fun M0 => ?_)
  unfold g_Web_edges p_Web_edges
  exact b_ret kr_t rfl (eo_lst (NP.nl (xs := self.own_edges) (np_list (EP.ls (ep_fld (v := self.own_edges) (EP.ev (ep_var (v := self) 0 rfl) rfl) rfl)) rfl)))
noncomputable def p_is_integer_2 (thing : Dt) : E Bool := bnd (bnd (lft (castE (isiE (enc thing) (.ty "int")) : E Bool)) fun z898 => if z898 = true then (bnd (lft (castE (isiE (enc thing) (.ty "bool")) : E Bool)) fun z897 => pur (!z897)) else pur false) fun r899 => pur (id r899)
theorem t_is_integer_2 (thing : Dt) : Ret false [] (F_is_integer [enc thing]) (p_is_integer_2 thing) := by
  refine ret_def (n := 1) (g := g_is_integer) (l := [enc thing]) (by exact Nat.le_of_ble_eq_true rfl) (fun M0 => ?_)
  unfold g_is_integer p_is_integer_2
  exact b_ret kr_t rfl (eo_and (eo_isiD (T := "int") (ep_var (v := thing) 0 rfl)) (eo_not (eo_isiD (T := "bool") (ep_var (v := thing) 0 rfl))))
noncomputable def p_is_within_2 (thing : Dt) (least : Int) (most : Int) : E Bool := bnd (bnd (lft (p_is_integer_2 thing)) fun z911 => if z911 = true then (lft (castE (eChain leE leE (eC (enc least)) (eC (enc thing)) (eC (enc most)) []) : E Bool)) else pur false) fun r912 => pur (id r912)
theorem t_is_within_2 (thing : Dt) (least : Int) (most : Int) : Ret false [] (F_is_within [enc thing, enc least, enc most]) (p_is_within_2 thing least most) := by
  refine ret_def (n := 3) (g := g_is_within) (l := [enc thing, enc least, enc most]) (by exact Nat.le_of_ble_eq_true rfl) (fun M0 => ?_)
  unfold g_is_within p_is_within_2
  exact b_ret kr_t rfl (eo_and (eo_callp (ap_cons (ep_var (v := thing) 0 rfl) ap_nil) (t_is_integer_2 thing) rfl) (eo_chainD (pop_iop _) (ep_var (v := least) 1 rfl) (ep_var (v := thing) 0 rfl) (ep_var (v := most) 2 rfl)))
noncomputable def p__law_base  : W Int := bnd (bnd (bnd (bnd (pur (0 : Int)) fun x1201 => bnd (bnd (pur (0 : Int)) fun x1199 => bnd (bnd (pur (2 : Int)) fun x1197 => bnd (bnd (pur (3 : Int)) fun x1195 => bnd (bnd (pur (4 : Int)) fun x1193 => bnd (bnd (pur (5 : Int)) fun x1191 => bnd (bnd (pur (12 : Int)) fun x1189 => bnd (bnd (bnd (pur (2 : Int)) fun x1185 => bnd (bnd (pur ((59 : Int), ())) fun v1184 => takeW v1184.1) fun y1186 => pur (x1185 + y1186)) fun x1187 => bnd (pur ()) fun v1188 => pur (x1187, v1188)) fun v1190 => pur (x1189, v1190)) fun v1192 => pur (x1191, v1192)) fun v1194 => pur (x1193, v1194)) fun v1196 => pur (x1195, v1196)) fun v1198 => pur (x1197, v1198)) fun v1200 => pur (x1199, v1200)) fun v1202 => pur (x1201, v1202)) fun v1203 => pur ([v1203.1, v1203.2.1, v1203.2.2.1, v1203.2.2.2.1, v1203.2.2.2.2.1, v1203.2.2.2.2.2.1, v1203.2.2.2.2.2.2.1, v1203.2.2.2.2.2.2.2.1] : List Int)) fun xs1205 => bnd (bnd (pur ((8 : Int), ())) fun v1204 => takeW v1204.1) fun i1206 => lft (ixL xs1205 i1206)) fun r1207 => pur (id r1207)
theorem t__law_base (pc : Nat)  : Ret false [pc] (F__law_base (.ref pc :: [])) (p__law_base ) := by
  refine ret_pool (n := 1) (g := g__law_base) (l := []) (by exact Nat.le_of_ble_eq_true rfl) (fun M0 => ?_)
  unfold g__law_base p__law_base
  exact b_ret kr_t rfl (eo_ix (eo_frz (f := fun v1203 => ([v1203.1, v1203.2.1, v1203.2.2.1, v1203.2.2.2.1, v1203.2.2.2.2.1, v1203.2.2.2.2.2.1, v1203.2.2.2.2.2.2.1, v1203.2.2.2.2.2.2.2.1] : List Int)) (no_new (n := 8) (ao_cons (EP.eo (ep_c (v := (0 : Int)) rfl)) (ao_cons (EP.eo (ep_c (v := (0 : Int)) rfl)) (ao_cons (EP.eo (ep_c (v := (2 : Int)) rfl)) (ao_cons (EP.eo (ep_c (v := (3 : Int)) rfl)) (ao_cons (EP.eo (ep_c (v := (4 : Int)) rfl)) (ao_cons (EP.eo (ep_c (v := (5 : Int)) rfl)) (ao_cons (EP.eo (ep_c (v := (12 : Int)) rfl)) (ao_cons (eo_add (EP.eo (ep_c (v := (2 : Int)) rfl)) (eo_pool (i := 0) rfl (.inr ⟨_, rfl⟩) (AP.ao (ap_cons (ep_c (v := (59 : Int)) rfl) ap_nil)) (fun pc v1184 => t__law_take pc v1184.1) (fun _ => rfl))) (AP.ao ap_nil))))))))) (fun _ => rfl)) (fun _ => rfl) (fun _ => .inl rfl)) (eo_pool (i := 0) rfl (.inr ⟨_, rfl⟩) (AP.ao (ap_cons (ep_c (v := (8 : Int)) rfl) ap_nil)) (fun pc v1204 => t__law_take pc v1204.1) (fun _ => rfl)))
noncomputable def p__law_pairs (law_many : Int) (law_most : Int) : W (List (Int × Int)) := bnd (pur ([] : List (Int × Int))) fun (law_found1208 : (List (Int × Int))) => bnd (bnd (bnd (pur ((law_most + (1 : Int)), ())) fun v1209 => takeW v1209.1) fun n1210 => lft (rgW 0 n1210)) fun xs1219 => bnd (forM (fun (b1211 : (List (Int × Int))) (x1212 : Int) => bnd (bnd (pur (law_many, ())) fun v1214 => takeW v1214.1) fun (law_tail1213 : Int) => bnd (bnd (pur (law_many, ())) fun v1216 => takeW v1216.1) fun (law_head1215 : Int) => bnd (pur (law_tail1213, law_head1215)) fun v1217 => bnd (lft (appL b1211 v1217)) fun law_found1218 => pur law_found1218) xs1219 law_found1208) fun (b1211 : (List (Int × Int))) => pur (id b1211)
theorem t__law_pairs (pc : Nat) (law_many : Int) (law_most : Int) : Ret true [pc] (F__law_pairs (.ref pc :: [enc law_many, enc law_most])) (p__law_pairs law_many law_most) := by
  refine ret_pool (n := 7) (g := g__law_pairs) (l := [enc law_many, enc law_most]) (by exact Nat.le_of_ble_eq_true rfl) (fun M0 => ?_)
  unfold g__law_pairs p__law_pairs
  exact b_cell (i := 3) (NP.nl (xs := ([] : List (Int × Int))) (np_new (n := 0) ap_nil rfl)) (fun law_found1208 => b_for (b0 := law_found1208) (fsL := fun (b1211 : (List (Int × Int))) => [.par pc, .v law_many, .v law_most, .L b1211, .any, .any, .any]) (io_range1 (eo_pool (i := 0) rfl (.inr ⟨_, rfl⟩) (AP.ao (ap_cons (ep_add (ep_var (v := law_most) 2 rfl) (ep_c (v := (1 : Int)) rfl)) ap_nil)) (fun pc v1209 => t__law_take pc v1209.1) (fun _ => rfl))) (wk_s (wk_s (wk_s (wk_s (wk_a (wk_a (wk_a wk_n))))))) (fun b1211 x1212 => tg_nm 4 x1212) (fun b1211 x1212 => b_asg (i := 5) (eo_pool (i := 0) rfl (.inr ⟨_, rfl⟩) (AP.ao (ap_cons (ep_var (v := law_many) 1 rfl) ap_nil)) (fun pc v1214 => t__law_take pc v1214.1) (fun _ => rfl)) (fun law_tail1213 => b_asg (i := 6) (eo_pool (i := 0) rfl (.inr ⟨_, rfl⟩) (AP.ao (ap_cons (ep_var (v := law_many) 1 rfl) ap_nil)) (fun pc v1216 => t__law_take pc v1216.1) (fun _ => rfl)) (fun law_head1215 => b_last (b_app (i := 3) rfl (EP.eo (ep_frt (v := (law_tail1213, law_head1215)) (np_new (n := 2) (ap_cons (ep_var (v := law_tail1213) 5 rfl) (ap_cons (ep_var (v := law_head1215) 6 rfl) ap_nil)) rfl) rfl)) (fun law_found1218 => b_end law_found1218 (wk_s (wk_s (wk_s (wk_s (wk_a (wk_a (wk_a wk_n)))))))))))) (fun b1211 => b_retC 3 kr_t rfl))
noncomputable def p__law_residue (law_base_here : Int) : W Int := bnd (pur (decide ((0 : Int) < law_base_here))) fun z => if z = true then (bnd (bnd (pur (law_base_here, ())) fun v1220 => takeW v1220.1) fun r1221 => pur (id r1221)) else (bnd (bnd (bnd (bnd (pur ((1000000000 : Int), ())) fun v1223 => takeW v1223.1) fun (x1224 : Int) => bnd (pur (1000000000 : Int)) fun (y1225 : Int) => lft (mulZ x1224 y1225)) fun x1226 => bnd (pur ((5 : Int) * (100000000000000000 : Int))) fun y1227 => lft (.ok (x1226 - y1227))) fun (law_far1222 : Int) => bnd (bnd (bnd (bnd (bnd (bnd (pur ((9 : Int), ())) fun v1228 => takeW v1228.1) fun x1229 => bnd (pur (4 : Int)) fun y1230 => lft (.ok (x1229 - y1230))) fun x1240 => bnd (bnd (bnd (bnd (pur ((9 : Int), ())) fun v1231 => takeW v1231.1) fun x1232 => bnd (pur (4 : Int)) fun y1233 => lft (.ok (x1232 - y1233))) fun x1238 => bnd (bnd (pur (0 : Int)) fun x1236 => bnd (bnd (pur law_far1222) fun x1234 => bnd (pur ()) fun v1235 => pur (x1234, v1235)) fun v1237 => pur (x1236, v1237)) fun v1239 => pur (x1238, v1239)) fun v1241 => pur (x1240, v1241)) fun v1242 => pur ([v1242.1, v1242.2.1, v1242.2.2.1, v1242.2.2.2.1] : List Int)) fun xs1244 => bnd (bnd (pur ((4 : Int), ())) fun v1243 => takeW v1243.1) fun i1245 => lft (ixL xs1244 i1245)) fun r1246 => pur (id r1246))
theorem t__law_residue (pc : Nat) (law_base_here : Int) : Ret false [pc] (F__law_residue (.ref pc :: [enc law_base_here])) (p__law_residue law_base_here) := by
  refine ret_pool (n := 3) (g := g__law_residue) (l := [enc law_base_here]) (by exact Nat.le_of_ble_eq_true rfl) (fun M0 => ?_)
  unfold g__law_residue p__law_residue
  exact b_ifD (TP.to (tp_b (ep_2 (ep_var (v := law_base_here) 1 rfl) (ep_c (v := (0 : Int)) rfl) (o_gt _ _)))) (b_retS kr_t rfl (eo_pool (i := 0) rfl (.inr ⟨_, rfl⟩) (AP.ao (ap_cons (ep_var (v := law_base_here) 1 rfl) ap_nil)) (fun pc v1220 => t__law_take pc v1220.1) (fun _ => rfl))) (b_skip (b_asg (i := 2) (eo_2 (eo_2 (eo_pool (i := 0) rfl (.inr ⟨_, rfl⟩) (AP.ao (ap_cons (ep_2 (ep_c (v := (10 : Int)) rfl) (ep_c (v := (9 : Int)) rfl) (o_pow _ _ (1000000000 : Int) ⟨by decide, by decide, by decide⟩ (by decide +kernel))) ap_nil)) (fun pc v1223 => t__law_take pc v1223.1) (fun _ => rfl)) (EP.eo (ep_2 (ep_c (v := (10 : Int)) rfl) (ep_c (v := (9 : Int)) rfl) (o_pow _ _ (1000000000 : Int) ⟨by decide, by decide, by decide⟩ (by decide +kernel)))) o_mul) (EP.eo (ep_2 (ep_c (v := (5 : Int)) rfl) (ep_2 (ep_c (v := (10 : Int)) rfl) (ep_c (v := (17 : Int)) rfl) (o_pow _ _ (100000000000000000 : Int) ⟨by decide, by decide, by decide⟩ (by decide +kernel))) (o_mulL _ _ (.inl (by decide))))) (E1 fun x y => o_sub x y)) (fun law_far1222 => b_ret kr_t rfl (eo_ix (eo_frz (f := fun v1242 => ([v1242.1, v1242.2.1, v1242.2.2.1, v1242.2.2.2.1] : List Int)) (no_new (n := 4) (ao_cons (eo_2 (eo_pool (i := 0) rfl (.inr ⟨_, rfl⟩) (AP.ao (ap_cons (ep_c (v := (9 : Int)) rfl) ap_nil)) (fun pc v1228 => t__law_take pc v1228.1) (fun _ => rfl)) (EP.eo (ep_c (v := (4 : Int)) rfl)) (E1 fun x y => o_sub x y)) (ao_cons (eo_2 (eo_pool (i := 0) rfl (.inr ⟨_, rfl⟩) (AP.ao (ap_cons (ep_c (v := (9 : Int)) rfl) ap_nil)) (fun pc v1231 => t__law_take pc v1231.1) (fun _ => rfl)) (EP.eo (ep_c (v := (4 : Int)) rfl)) (E1 fun x y => o_sub x y)) (ao_cons (EP.eo (ep_c (v := (0 : Int)) rfl)) (ao_cons (EP.eo (ep_var (v := law_far1222) 2 rfl)) (AP.ao ap_nil))))) (fun _ => rfl)) (fun _ => rfl) (fun _ => .inl rfl)) (eo_pool (i := 0) rfl (.inr ⟨_, rfl⟩) (AP.ao (ap_cons (ep_c (v := (4 : Int)) rfl) ap_nil)) (fun pc v1243 => t__law_take pc v1243.1) (fun _ => rfl))))))
end Lw

set_option Elab.async false
set_option linter.all false
set_option maxRecDepth 100000
set_option maxHeartbeats 4000000
/-! TP1: sorted(set(xs)), typed. -/
namespace TL
open PySem L2 DL
open Mo (pur bnd lft)
open Enc (enc)
open EncL (encL)
section
variable {m : Type → Type} [Mo m] {pp : List Nat} {M0 : Store} {fs : List SV}
end
end TL

set_option Elab.async false
set_option linter.all false
set_option maxRecDepth 100000
set_option maxHeartbeats 4000000
/-! DN1: lambdas handed on as values: heaps without some cells, the run of a lambda. -/
namespace DL
open PySem PySem.Spec PyProof.Rows L2 LamX NdefX
variable [Tb]
/-! ### a heap without some places -/
section
variable {H H' H2 : Hp} {ds : List Addr} {b : Addr} {o : HO}
/-- told by their objects alone -/
def Fzs (H : Hp) (ds : List Addr) : Prop := ∀ d ∈ ds, ∃ ob, H d = some (Fz ob)
theorem Fzs.no (f : Fzs H ds) (h : H b = some o) (ho : ∀ ob, o ≠ Fz ob) : b ∉ ds := fun hb => by
  obtain ⟨ob, z⟩ := f b hb
  rw [h] at z
  exact ho ob (Option.some.inj z)
variable {P : Program} {w : World} {h h' : Heap} {fs : List Addr}
theorem Fzs.obj (ok : HOk P w H h) (f : Fzs H ds) (hb : b ∈ ds) : ∃ ob, H b = some (Fz ob) ∧ h.get? b = some ob := by
  obtain ⟨ob, z⟩ := f b hb
  exact ⟨ob, z, (ok b _ z).1⟩
end
/-! ### the run of a lambda -/
section
variable {P : Program} {w : World} {K : PySem.W.Frag} {mg : Str → Option Value} {base : Heap} {CX : CXT} {r : LamR} {ps N : List Str} {cl : List (Str × Addr)} {c f : Addr} {pm ctv : Value} {A : Around} {outer : List Env} {s : Shared} {H : Hp} {us : List Value} {vs : List V} {ws : List (Option V)} {Q : VK} {E : XK} {k : Nat}
end
/-- the lambda r does F of its arguments and of what it captured, wherever the store is as told: Fr, B, as, M may be any part of what the caller knows -/
def LamP (P : Program) (w : World) (K : PySem.W.Frag) (mg : Str → Option Value) (base : Heap) (r : LamR) (j : Nat) (ps : List Str) (F : List D → Ev D) : Prop :=
  ∀ (cl : List (Str × Addr)) (c f : Addr) (pm ctv : Value) (A : Around) (outer : List Env) (s : Shared) (H : Hp) (us : List Value) (vs ws : List V) (l cs : List D) (Fr B : Hp) (as : List Addr) (M M' : Store) (a : D), Room (j + 1) A → Env0 P w K mg base A outer s H →
    s.heap.get? f = some (PySem.W.kla_obj "<lambda>" r.qual r.params r.body r.scope cl pm c ctv) → H c = some (CodeO c r.qual) → CellsAt cl r.fr (ws.map some) s.heap H → (∀ x d, cl.lookup x = some d → x ∈ r.fr) → Vals vs us → l.length = ps.length → Rep ⟨K, mg⟩ Fr B as H M →
    Rs ⟨K, mg⟩ B as vs l → Rs ⟨K, mg⟩ B as ws cs → F (l ++ cs) M = .ok a M' →
    codeAny (model P w) A (.call (.ref f) ⟨us, []⟩) (CR (L2.CX P w) outer P w H s (fun v H' => ∃ B' as', Same B B' ∧ as <+: as' ∧ Rep ⟨K, mg⟩ Fr B' as' H' M' ∧ R ⟨K, mg⟩ B' as' v a) (fun _ _ _ => False)) s
section
variable {P : Program} {w : World} {K : PySem.W.Frag} {mg : Str → Option Value} {base : Heap} {r : LamR} {j : Nat} {N ps : List Str} {g : Lo → Ev D}
end
end DL

set_option Elab.async false
set_option linter.all false
set_option maxRecDepth 100000
set_option maxHeartbeats 4000000
/-! DN2: a lambda that a name holds is called; a def is called with a lambda behind its arguments. -/
namespace DL
open PySem PySem.Spec PyProof.Rows L2 LamX NdefX
variable [Tb]
/-! ### the rest of a heap -/
/-- all but the tables and what is kept anyway -/
noncomputable def restH (B H : Hp) : Hp := fun b => match B b with
  | some _ => none
  | none => noTb H b
section
variable {B H : Hp} {b : Addr} {o : HO}
theorem restH_at (hB : B b = none) (h : H b = some o) (ho : ∀ ps, o ≠ .tbl ps) : restH B H b = some o := by
  unfold restH
  rw [hB]
  exact noTb_at h ho
theorem restH_inv (h : restH B H b = some o) : B b = none ∧ noTb H b = some o := by
  unfold restH at h
  cases q : B b with
  | none => rw [q] at h; exact ⟨rfl, h⟩
  | some u => rw [q] at h; cases h
theorem restH_sub : Same (restH B H) H := fun b o h => noTb_sub b o (restH_inv h).2
theorem restH_no : NoT (restH B H) := fun b ps h => noTb_no b ps (restH_inv h).2
end
section
variable {G : Gx} {Fr B B' : Hp} {as : List Addr} {H H2 : Hp} {M : Store}
theorem Rep.has (rp : Rep G Fr B as H M) {a : Addr} (ha : a ∈ as) : ∃ o, H a = some o ∧ ∀ ps, o ≠ .tbl ps := by
  cases e : H a with
  | none => exact absurd ha (rp.fresh e).2
  | some o => exact ⟨o, rfl, fun ps z => (rp.pln ha).1 ps (by rw [e, z])⟩
/-- behind a call that saw a part: all that was is still there, and more is kept -/
theorem Rep.back (rp : Rep G Fr B as H M) (eB : Same B B') (ext : ExtN H H2) (sub : Same B' H2) (dis : ∀ b o, H b = some o → (∀ ps, o ≠ .tbl ps) → B b = none → B' b = none) (nb : NoB B') (tb : Tabs (Tb.T G.K) H2) : Rep G Fr B' as H2 M := by
  have r2 := rp.extN ext tb
  refine ⟨sub, r2.frm, r2.fout, fun b o h => dis b o (rp.frm b o h) (fun ps z => rp.nF b ps (by rw [h, z])) (rp.dis b o h), r2.nd, fun a ha => ?_, r2.len, fun n a c ha hc => ?_, nb, r2.nF, tb⟩
  · obtain ⟨o, h, n⟩ := rp.has ha
    exact dis a o h n (rp.out a ha)
  · obtain ⟨vs, m, r⟩ := r2.cell n a c ha hc
    exact ⟨vs, m, r.mono eB (List.prefix_refl _)⟩
end
/-! ### the cells of a lambda -/
section
variable {P : Program} {w : World} {K : PySem.W.Frag} {mg : Str → Option Value} {base : Heap} {A : Around} {outer : List Env} {s : Shared} {H : Hp}
end
/-! ### y(..), y a name that holds a lambda -/
/-- the lambdas that may be held: how many arguments, what they do -/
abbrev LTab := Nat → Option (Nat × (List D → Ev D))
def isFn (d : D) : Ev Unit := fun M => match d with
  | .ref n => (match M[n]? with
    | some (.fn _, _) => .ok () M
    | _ => .stuck)
  | _ => .stuck
section
variable {X : Cx} {W : WX}
end
end DL

set_option Elab.async false
set_option linter.all false
set_option maxRecDepth 100000
set_option maxHeartbeats 4000000
/-! DN3: a def is called with a lambda behind its other arguments. -/
namespace DL
open PySem PySem.Spec PyProof.Rows L2 LamX NdefX
variable [Tb]
/-! ### a lambda is made -/
section
variable {X : Cx} {pins : List (Addr × Obj)} {σ : L2.St} {H : Hp} {s : Shared}
/-- the function that a lambda makes -/
abbrev lamO (X : Cx) (params : Arguments) (body : Expr) (scope : Scope) (pm : Value) (c : Addr) (ctv : Value) : Obj :=
  PySem.W.kla_obj "<lambda>" (X.env.qual ++ "<lambda>") params body scope (cloFrom X.env.cells scope.names []) pm c ctv
end
/-! ### lent -/
/-- some places are known from now on, by their objects -/
def lent (H : Hp) (h : Heap) (ds : List Addr) : Hp := fun b => if b ∈ ds then (h.get? b).map Fz else H b
section
variable {H H' : Hp} {ds : List Addr} {b : Addr} {o : HO} {h : Heap}
end
section
variable {P : Program} {w : World} {K : PySem.W.Frag} {mg : Str → Option Value} {base : Heap} {A : Around} {outer : List Env} {s : Shared} {H : Hp}
end
end DL

set_option Elab.async false
set_option linter.all false
set_option maxRecDepth 100000
set_option maxHeartbeats 4000000
/-! DN4: x(e, .., lambda ..: ..). -/
namespace DL
open PySem PySem.Spec PyProof.Rows L2 LamX NdefX
variable [Tb]
section
variable {X : Cx} {W : WX}
end
/-- what is captured is told -/
theorem clo_fr {cells : List (Str × Addr)} {names : List (Str × NameKind)} {fr : List Str} (h : ∀ y ∈ names, y.2 = .free → y.1 ∈ fr) : ∀ x d, (cloFrom cells names []).lookup x = some d → x ∈ fr := fun x d e => by
  rcases cloFrom_mem (PySem.mem_of_lookup e) with z | ⟨z, _⟩
  · cases z
  · exact h _ z rfl
section
variable {X : Cx} {W : WX}
end
end DL

set_option Elab.async false
set_option linter.all false
set_option maxRecDepth 100000
set_option maxHeartbeats 4000000
/-! DN5: min(xs, key = lambda x: ..), the key a tuple of numbers. -/
namespace DL
open PySem PySem.Spec PyProof.Rows L2 LamX NdefX
variable [Tb]
/-! ### by data -/
open Classical in
/-- the key of an item, numbers; nothing that was there may change -/
noncomputable def keyD (F : List D → Ev D) (cs : List D) (M : Store) (d : D) : Option (List Int) := match F (d :: cs) M with
  | .ok (.nd .tup l) M' => if M' = M then intsOf l else none
  | _ => none
theorem keyD_inv {F : List D → Ev D} {cs : List D} {M : Store} {d : D} {ns : List Int} (h : keyD F cs M d = some ns) : ∃ l, F (d :: cs) M = .ok (.nd .tup l) M ∧ intsOf l = some ns := by
  unfold keyD at h
  split at h
  · rename_i l M' e
    by_cases q : M' = M
    · rw [if_pos q] at h
      exact ⟨l, by rw [e, q], h⟩
    · rw [if_neg q] at h; cases h
  · cases h
/-! ### the machine -/
theorem env0_in1 {P : Program} {w : World} {K : PySem.W.Frag} {mg : Str → Option Value} {base : Heap} {A : Around} {outer : List Env} {s : Shared} {H : Hp} (e : Env0 P w K mg base A outer s H) : Env0 P w K mg base A.in1 outer s H :=
  ⟨e.frames, e.mod, e.bs, e.bsz, e.funs, e.frf, e.hok, e.bare⟩
/-- what stands while the least is sought: the lambda at f, the walk at it, the pair of the best at S -/
structure MinSt (X : Cx) (pins : List (Addr × Obj)) (σ : L2.St) (Fr B0 : Hp) (as : List Addr) (M : Store) (o : Obj) (f c : Addr) (it S : Addr) (H B : Hp) (s : Shared) : Prop where
  I : Inv X pins σ H s
  rp : Rep (gx X) Fr B as H M
  sB : Same B0 B
  fo : s.heap.get? f = some o
  nf : H f = none
  out : f ∉ frs X.stack
  co : H c = some (CodeO c (X.env.qual ++ "<lambda>"))
  it : FpOk X pins H it
  S : FpOk X pins H S
section
variable {X : Cx} {pins : List (Addr × Obj)} {σ : L2.St} {Fr B0 : Hp} {as : List Addr} {M : Store} {o : Obj} {f c it S : Addr} {H B : Hp} {s : Shared}
/-- an object of one's own is written -/
theorem MinSt.own (m : MinSt X pins σ Fr B0 as M o f c it S H B s) {b : Addr} {h' : Heap} (fb : FpOk X pins H b) (nb : b ≠ f) (k : ∀ d u, d ≠ b → s.heap.get? d = some u → h'.get? d = some u) : MinSt X pins σ Fr B0 as M o f c it S H B { s with heap := h' } :=
  ⟨m.I.turned (t' := s.toks) k fb.1 fb.2.1 fb.2.2.2.1 fb.2.2.2.2.1 fb.2.2.2.2.2, m.rp, m.sB, k f o nb.symm m.fo, m.nf, m.out, m.co, m.it, m.S⟩
/-- the key of an item -/
theorem MinSt.key {j : Nat} {ps : List Str} {F : List D → Ev D} {params : Arguments} {body : Expr} {scope : Scope} {fr : List Str} {js : List Nat} {pm ctv : Value} {ws : List V} {cs : List D} {v : V} {u : Value} {d : D} {ns : List Int} {E : Value → Shared → Prop} {Q : Value → Shared → Prop}
    (m : MinSt X pins σ Fr B0 as M (lamO X params body scope pm c ctv) f c it S H B s) (L : LamP X.prog X.w X.K X.mg X.base ⟨X.env.qual ++ "<lambda>", params, body, scope, fr⟩ j ps F) (h1 : ps.length = 1) (hr : Room (j + 1) X.A.in1)
    (hnd : ndefB X.env.scope scope fr = true) (hfr : ∀ y ∈ scope.names, y.2 = .free → y.1 ∈ fr) (hjs : js.map (fun j => X.N[j]?) = fr.map some) (hws : js.map (slotAt σ) = ws.map some) (rc : Rs (gx X) B as ws cs) (rd : R (gx X) B as v d) (ru : RelV v u) (hk : keyD F cs M d = some ns) (ei : ∃ x, s.heap.get? it = some x) (eS : ∃ x, s.heap.get? S = some x)
    (goal : ∀ H' B' s' T, MinSt X pins σ Fr B0 as M (lamO X params body scope pm c ctv) f c it S H' B' s' → Same B B' → (∀ b x, s.heap.get? b = some x → H b = none → b ∉ frs X.stack → s'.heap.get? b = some x) → SqT X.K B' T (ns.map V.int) → Q (.ref T) s') :
    wpAny (model X.prog X.w) X.A.in1 (call (.ref f) [u]) Q E s := by
  obtain ⟨l, hF, hl⟩ := keyD_inv hk
  have C := cells_of m.I (Caps.made (scope := scope) m.I.ok (ndef_free hnd) (ndef_fr hnd) hjs)
  rw [hws] at C
  obtain ⟨Fc, hFc⟩ : ∃ Fc : Hp, Fc = fun b => if b ∈ as then none else restH B H b := ⟨_, rfl⟩
  have Fc_in : ∀ {b x}, Fc b = some x → b ∉ as ∧ restH B H b = some x := fun {b x} q => by
    rw [hFc] at q
    dsimp only at q
    by_cases e : b ∈ as
    · rw [if_pos e] at q; cases q
    · rw [if_neg e] at q; exact ⟨e, q⟩
  have Fc_at : ∀ {b x}, b ∉ as → B b = none → H b = some x → (∀ ps, x ≠ .tbl ps) → Fc b = some x := fun {b x} e q1 q2 q3 => by
    rw [hFc]
    dsimp only
    rw [if_neg e]
    exact restH_at q1 q2 q3
  have rp0 : Rep (gx X) Fc B as H M := by
    refine ⟨m.rp.sub, fun b x q => restH_sub b x (Fc_in q).2, fun b q => ?_, fun b x q => (restH_inv (Fc_in q).2).1, m.rp.nd, m.rp.out, m.rp.len, m.rp.cell, m.rp.nB, fun b ps q => restH_no b ps (Fc_in q).2, m.rp.tb⟩
    cases e : Fc b with
    | none => rfl
    | some x => exact absurd q (Fc_in e).1
  have FrFc : ∀ b x, Fr b = some x → Fc b = some x := fun b x q => by
    refine Fc_at (fun z => ?_) (m.rp.dis b x q) (m.rp.frm b x q) fun ps z => m.rp.nF b ps (by rw [q, z])
    rw [m.rp.fout b z] at q
    cases q
  refine wpAny_call (codeAny_mono (L _ c f pm ctv _ _ _ _ [u] [v] ws [d] cs Fc B as M M _ hr (env0_in1 m.I.env0) m.fo m.co C (clo_fr hfr) (.cons ru .nil) (by simp [h1]) rp0 (.cons rd .nil) rc hF) fun res s' z => ?_)
  cases res with
  | error e =>
    obtain ⟨_, _, _, _, _, _, _, _, _, _, _, _, no⟩ := z
    exact no.elim
  | ok fl =>
    cases fl with
    | ret u' =>
      obtain ⟨v', H', os, bare, un, ok', rx, B', as', eB, pA, rpE, rE⟩ := z
      have las : as' = as := by
        obtain ⟨t, e⟩ := pA
        have n1 := rpE.len
        have n2 := m.rp.len
        rw [← e, List.length_append] at n1
        have : t = [] := List.eq_nil_of_length_eq_zero (by omega)
        rw [← e, this, List.append_nil]
      subst las
      cases rE with
      | nd fc rl =>
        rename_i T vl
        have e2 := intsOf_eq hl
        subst e2
        have e3 := rl.ints
        subst e3
        cases (show u' = Value.ref T from rx)
        have J : Inv X pins σ H' s' := m.I.call' (ch := []) os un ok' bare fun b q => absurd q (by simp)
        have fp : ∀ {b}, (∃ x, s.heap.get? b = some x) → FpOk X pins H b → FpOk X pins H' b := fun {b} ⟨x, q⟩ g => ⟨un.free b x q g.1 (by simp), g.2⟩
        refine goal H' B' s' T ⟨J, ⟨rpE.sub, fun b x q => rpE.frm b x (FrFc b x q), m.rp.fout, fun b x q => rpE.dis b x (FrFc b x q), rpE.nd, rpE.out, rpE.len, rpE.cell, rpE.nB, m.rp.nF, rpE.tb⟩, m.sB.trans eB, un.keep f _ m.fo m.nf m.out (by simp), un.free f _ m.fo m.nf (by simp), m.out, ?_, ?_, ?_⟩ eB (fun b x q n nb => un.keep b x q n nb (by simp)) fc
        · have nc : c ∉ as' := fun z => (m.rp.pln z).2.1 c _ m.co
          cases e : B c with
          | some x =>
            have : x = CodeO c (X.env.qual ++ "<lambda>") := Option.some.inj ((m.rp.sub c x e).symm.trans m.co)
            subst this
            exact rpE.sub c _ (eB c _ e)
          | none => exact rpE.frm c _ (Fc_at nc e m.co (by simp [CodeO]))
        · exact fp ei m.it
        · exact fp eS m.S
    | next => exact False.elim z
    | brk => exact False.elim z
    | cont => exact False.elim z
/-- one key is compared with the best -/
theorem MinSt.less {T T2 : Addr} {ns ms : List Int} {E : Value → Shared → Prop} {Q : Value → Shared → Prop} (m : MinSt X pins σ Fr B0 as M o f c it S H B s) (h1 : SqT X.K B T (ns.map V.int)) (h2 : SqT X.K B T2 (ms.map V.int)) (hu : X.A.in1.units < cLine) (q : Q (.bool (HT.lexLt ns ms)) s) :
    wpAny (model X.prog X.w) X.A.in1 (richCompare .Lt (.ref T) (.ref T2)) Q E s := by
  obtain ⟨xs, r1, p1, _⟩ := m.I.tuple (sqT_mono m.rp.sub h1)
  obtain ⟨ys, r2, p2, _⟩ := m.I.tuple (sqT_mono m.rp.sub h2)
  exact HT.lt_tupInts p1 p2 (intsAre_vals r1) (intsAre_vals r2) hu q
end
section
variable {X : Cx} {W : WX}
end
end DL

set_option Elab.async false
set_option linter.all false
set_option maxRecDepth 100000
set_option maxHeartbeats 4000000
/-! DLW: the tables of a law's lambdas: where they stand behind the top, defs that make lambdas, the law's end. -/
namespace DL
open PySem PySem.Spec PyProof.Rows L2 LamX
/-! ### where the tables stand -/
def refOf : Value → Option Addr
  | .ref a => some a
  | _ => none
def codeAt (K : PySem.W.Frag) (f : Addr) : Option Addr := (K.lookup f).bind fun o => match o.data with
  | .func fd => refOf fd.code
  | _ => none
/-- the code object of the def at f, and its table -/
def tabAt (K : PySem.W.Frag) (f : Addr) : Option (Addr × Addr) := (codeAt K f).bind fun c => (K.lookup c).bind fun o => match o.data with
  | .fields vs => (vs[11]?).bind fun v => (refOf v).map fun P => (c, P)
  | _ => none
/-- a def that makes lambdas: where it stands, its lambdas' name -/
abbrev Mkr := (Str × Option Str) × Str
def mkTabs (ms : List Mkr) (K : PySem.W.Frag) : List ((Addr × Addr) × Str) := ms.filterMap fun m => (tabAt K (He.fAd K m.1)).map fun p => (p, m.2)
/-- what is known of the tables -/
structure TabsK (ms : List Mkr) (K : PySem.W.Frag) (h : Heap) : Prop where
  ex : ∀ m ∈ ms, ∃ c P, tabAt K (He.fAd K m.1) = some (c, P)
  at_ : ∀ p ∈ mkTabs ms K, PySem.W.codeHdIn K p.1.1 p.1.2 = true ∧ K.lookup p.1.2 = none ∧ h.get? p.1.2 = some { cls := .none, data := .fields #[] }
  un : ∀ p ∈ mkTabs ms K, ∀ r ∈ mkTabs ms K, r.1.2 = p.1.2 → r.2 = p.2
/-! ### the observation -/
structure SaysT (ms : List Mkr) (fa : List He.Fa) (fn : List He.DefD) (ex : PySem.W.Frag → Bool) (K : PySem.W.Frag) (h : Heap) : Prop where
  d : He.SaysD fa fn K
  ex : ex K = true
  tb : TabsK ms K h
/-! ### defs that make lambdas -/
section
variable [Tb] {P : Program} {w : World} {K : PySem.W.Frag} {mg : Str → Option Value} {base : Heap} {x qual : Str} {params : Arguments} {body : List Stmt} {scope : Scope} {dvs : List V} {kws : List (Str × V)} {f c Pt : Addr} {fd : FuncData} {N ps : List Str} {k : Nat} {g : Lo → Ev Fl}
end
/-! ### the end of such a law -/
end DL

set_option Elab.async false
set_option linter.all false
set_option maxRecDepth 100000
set_option maxHeartbeats 4000000
/-! DN6: what the printed texts say of lambdas. -/
namespace DL
open PySem PySem.Spec PyProof.Rows L2 LamX NdefX
/-! ### where a lambda stands in a text -/
section
variable [Tb] {P : Program} {w : World} {K : PySem.W.Frag} {mg : Str → Option Value} {base : Heap} {x qual : Str} {params : Arguments} {body : List Stmt} {scope : Scope} {dvs : List V} {kws : List (Str × V)} {f c Pt : Addr} {fd : FuncData} {N ps : List Str} {k : Nat} {g : Lo → Ev Fl}
theorem LamP.mono {r : LamR} {i j : Nat} {F : List D → Ev D} (L : LamP P w K mg base r i ps F) (h : i ≤ j) : LamP P w K mg base r j ps F :=
  fun cl c f pm ctv A outer s H us vs ws l cs Fr B as M M' a hr => L cl c f pm ctv A outer s H us vs ws l cs Fr B as M M' a (hr.mono (by omega))
end
section
variable [Tb] {X : Cx} {W : WX}
end
end DL

set_option Elab.async false
set_option linter.all false
set_option maxRecDepth 100000
set_option maxHeartbeats 1000000
/-! TLL: x(lambda: e) where x calls what it gets inside try. -/
namespace TL
open PySem L2 DL
open Enc (enc)
open Mo (pur bnd lft)
section
variable {m : Type → Type} [Mo m] {α β : Type} [Enc α] [Enc β]
/-- the clauses: kept = e -/
inductive HDs {m : Type → Type} [Mo m] (n j : Nat) : List HdF → List (Dt → m Dt) → Prop
  | nil : HDs n j [] []
  | cons {α : Type} [Enc α] {ie : Nat} {fe : D → Lo → Ev D} {pe : Dt → m α} {l : List HdF} {r : List (Dt → m Dt)} (hi : ie < n) (hj : ie ≠ j) (he : ∀ x : Dt, EO (List.replicate n SV.any) (fe x.d) (pe x)) (t : HDs n j l r) :
      HDs n j ((some ie, fun d => sAsg (fe d) (gNm j)) :: l) ((fun x => bnd (nox (pe x)) fun (v : α) => pur (Dt.of v)) :: r)
theorem HDs.get {n j : Nat} : ∀ {l : List HdF} {r : List (Dt → m Dt)}, HDs n j l r → ∀ (k : Nat) (h : HdF), l[k]? = some h → ∃ (γ : Type) (_ : Enc γ) (ie : Nat) (fe : D → Lo → Ev D) (pe : Dt → m γ), h = (some ie, fun d => sAsg (fe d) (gNm j)) ∧ r[k]? = some (fun x => bnd (nox (pe x)) fun (v : γ) => pur (Dt.of v)) ∧ ie < n ∧ ie ≠ j ∧ ∀ x : Dt, EO (List.replicate n SV.any) (fe x.d) (pe x)
  | _, _, .nil, k, h, e => by simp at e
  | _, _, @HDs.cons _ _ _ _ γ ig ie fe pe l r hi hj he t, 0, h, e => by simp at e; subst e; exact ⟨_, _, _, _, _, rfl, rfl, hi, hj, he⟩
  | _, _, @HDs.cons _ _ _ _ γ0 ig ie fe pe l r hi hj he t, k + 1, h, e => by
    obtain ⟨γ, i, ie, fe, pe, a, b, c⟩ := t.get k h (by simpa using e)
    exact ⟨γ, i, ie, fe, pe, a, by simpa using b, c⟩
variable {fs : List SV}
end
section
variable {m : Type → Type} [Mo m] {pp : List Nat} {M0 : Store} {fs : List SV} {α τ φ : Type} [Enc α] [EncL τ] {K : φ → Fl → Store → Prop}
open EncL (encL)
end
end TL

set_option Elab.async false
set_option linter.all false
set_option maxRecDepth 100000
set_option maxHeartbeats 4000000
/-! TLN: a try's body whose value is dropped. -/
namespace TL
open PySem L2 DL
open Mo (pur bnd lft)
open Enc (enc)
section
variable [Tb] {α β φ ρ : Type} [Enc α] [Enc ρ] {m : Type → Type} [Mo m] {fs : List SV} {pp : List Nat} {M0 : Store} {K : φ → Fl → Store → Prop}
theorem tb_expU {e : Lo → Ev D} {p : m α} (h : EO fs e p) : TB pp M0 fs .exp (sExp e) (bnd p fun _ => pur ()) := fun S M ns r Q X w => by
  refine Sim.fl ((h _ M0 S M ns r _ _ (Mo.bnd_wp w)).imp (fun d M1 ⟨x, e, w, r⟩ => ?_) (fun c d M1 ⟨x, r⟩ => .inl ⟨c, d, rfl, x, r⟩))
  exact .inr ⟨(), rfl, Mo.pur_wp w, r⟩
end
end TL

set_option Elab.async false
set_option linter.all false
set_option maxRecDepth 100000
set_option maxHeartbeats 1000000
/-! TN1: lambdas handed on, by types. -/
namespace TL
open PySem L2 DL
open Mo (pur bnd lft)
open Enc (enc)
open EncL (encL)
/-- what is raised counts as failure -/
def E.nx {α : Type} (e : E α) : E α := match e with
  | .ok a => .ok a
  | _ => .bad
section
variable {m : Type → Type} [Mo m] {α β γ ρ τ κ : Type} [Enc α] [Enc β] [Enc γ] [Enc ρ] [EncL τ] {fs : List SV} {tab : LTab} {i c k n : Nat} {cs : List D}
/-! ### the least by a key -/
/-! ### keys: nothing changes -/
/-! ### (word, walk) or (word, potential, cost) -/
end
inductive Bst where
  | ans (a : Ans) | pot (l : List Int) (c : Int)
def Bst.parts : Bst → List D
  | .ans a => [.str a.word, enc a.pay]
  | .pot l c => [.str "potential", enc l, .int c]
instance : Enc Bst := ⟨fun b => match b with
  | .ans a => enc a
  | .pot l c => .nd .tup [.str "potential", enc l, .int c], fun b n => by
    cases b with
    | ans a => exact Enc.nr a n
    | pot l c => simp [rlt, rlts, Enc.nr]⟩
def Bst.word : Bst → Str
  | .ans a => a.word
  | .pot _ _ => "potential"
def Bst.pay : Bst → List Int ⊕ List (Int × Int)
  | .ans a => a.pay
  | .pot l _ => .inl l
def Bst.len : Bst → Int
  | .ans _ => 2
  | .pot _ _ => 3
section
variable {m : Type → Type} [Mo m] {fs : List SV}
end
end TL

set_option Elab.async false
set_option linter.all false
set_option maxRecDepth 100000
set_option maxHeartbeats 1000000
/-! TP2: (word, walk) or (word, left, right). -/
namespace TL
open PySem L2 DL
open Mo (pur bnd lft)
open Enc (enc)
open EncL (encL)
inductive Cmp where
  | two (w : Str) (p : List Int ⊕ List (Int × Int)) | cam (l r : List Int)
def Cmp.parts : Cmp → List D
  | .two w p => [.str w, enc p]
  | .cam l r => [.str "camps", enc l, enc r]
instance : Enc Cmp := ⟨fun b => .nd .tup b.parts, fun b n => by
    cases b with
    | two w p => simp [rlt, rlts, Enc.nr, Cmp.parts]
    | cam l r => simp [rlt, rlts, Enc.nr, Cmp.parts]⟩
def Cmp.word : Cmp → Str
  | .two w _ => w
  | .cam _ _ => "camps"
def Cmp.len : Cmp → Int
  | .two _ _ => 2
  | .cam _ _ => 3
section
variable {m : Type → Type} [Mo m] {fs : List SV}
end
end TL

set_option Elab.async false
set_option linter.all false
set_option maxRecDepth 100000
set_option maxHeartbeats 4000000
/-! TLQ: list.index; a list that two statements fill is a value from there on. -/
namespace TL
open PySem L2 DL
open Mo (pur bnd lft)
open Enc (enc)
section
variable [Tb] {α β φ : Type} [Enc α] [Enc β] {m : Type → Type} [Mo m] {fs : List SV} {pp : List Nat} {M0 : Store} {K : φ → Fl → Store → Prop}
/-- the frame behind a block of its own: the list is a value -/
inductive FzL (xs : List α) : List SV → List SV → Prop
  | n : FzL xs [] []
  | a {x as bs} : FzL xs as bs → FzL xs (x :: as) (.any :: bs)
  | v {β : Type} [Enc β] {x : β} {as bs} : FzL xs as bs → FzL xs (.v x :: as) (.v x :: bs)
  | d {as bs} : FzL xs as bs → FzL xs (.L xs :: as) (.v xs :: bs)
theorem FzL.len {xs : List α} {as bs : List SV} (h : FzL xs as bs) : bs.length = as.length := by induction h <;> simp_all
theorem FzL.get {xs : List α} {as bs : List SV} (h : FzL xs as bs) : ∀ (k : Nat) (v : SV), bs[k]? = some v → v = .any ∨ (∃ x : D, v = .val x ∧ (∀ n, rlt n x = true) ∧ as[k]? = some (.val x)) ∨ (v = .v xs ∧ as[k]? = some (.L xs)) := by
  induction h with
  | n => intro k v h; simp at h
  | a _ ih =>
    intro k v h
    cases k with
    | zero => simp at h; exact .inl h.symm
    | succ k => simpa using ih k v (by simpa using h)
  | v _ ih =>
    intro k v h
    cases k with
    | zero => simp at h; exact .inr (.inl ⟨_, h.symm, Enc.nr _, rfl⟩)
    | succ k => simpa using ih k v (by simpa using h)
  | d _ ih =>
    intro k v h
    cases k with
    | zero => simp at h; exact .inr (.inr ⟨h.symm, rfl⟩)
    | succ k => simpa using ih k v (by simpa using h)
end
end TL

set_option Elab.async false
set_option linter.all false
set_option maxRecDepth 100000
set_option maxHeartbeats 4000000
/-! TLK: a != b of objects with an own __eq__; isinstance of an own class. -/
namespace TL
open PySem L2 DL
open Mo (pur bnd lft)
open Enc (enc)
section
variable [Tb] {α β : Type} [Enc α] [Enc β] {m : Type → Type} [Mo m] {fs : List SV}
theorem isObj_nd {cn mm : Str} {os : List Str} {l : List D} {M : Store} (h : mm ∉ os) : DL.isObj cn mm (.nd (.obj cn os) l) M = .ok () M := by
  unfold DL.isObj
  rw [bok (show vw (D.nd (.obj cn os) l) M = .ok (.obj cn os, l) M from rfl)]
  dsimp only
  rw [if_pos ⟨rfl, h⟩]
  rfl
theorem ep_isO {cn : Str} {a : Lo → Ev D} {x : α} {os : List Str} {l : List D} (ha : EP fs a x) (eo : enc x = .nd (.obj cn os) l) (h : ("__eq__" : Str) ∉ os) : EP fs (eIsO cn a) true := fun pp M0 S M ns r => by
  unfold eIsO
  rw [bok (ha pp M0 S M ns r), eo, bok (isObj_nd h)]
  rfl
theorem eo_neO {cn : Str} {F : List D → Ev D} {a b : Lo → Ev D} {p : m α} {q : m β} {oa ob : List Str} {la : α → List D} {lb : β → List D} {e : α → β → E Bool} (ha : EO fs a p) (hb : EO fs b q) (ea : ∀ x : α, enc x = .nd (.obj cn oa) (la x)) (eb : ∀ x : β, enc x = .nd (.obj cn ob) (lb x)) (h1 : ("__eq__" : Str) ∉ oa) (h2 : ("__eq__" : Str) ∉ ob)
    (hF : ∀ x y, Ret false [] (F [enc x, enc y]) (e x y)) : EO fs (eFz (e2 (neO cn F) a b)) (bnd p fun x => bnd q fun y => bnd (lft (e x y)) fun t => pur (!t)) := fun pp M0 S M ns r Q X w => by
  refine sim_fz (cc := false) r (Sim.bnd ((ha _ M0 S M ns (r.re (Chg.refl M)) _ _ (Mo.bnd_wp w)).imp (fun d M1 ⟨x, e1, w, r1⟩ => ?_) (fun _ _ _ h => h)))
  subst e1
  refine Sim.bnd ((hb _ M0 S M1 ns r1 _ _ (Mo.bnd_wp w)).imp (fun d M2 ⟨y, e2, w, r2⟩ => ?_) (fun _ _ _ h => h))
  subst e2
  have i1 : DL.isObj cn "__eq__" (enc x) M2 = .ok () M2 := by rw [ea]; exact isObj_nd h1
  have i2 : DL.isObj cn "__eq__" (enc y) M2 = .ok () M2 := by rw [eb]; exact isObj_nd h2
  unfold neO
  refine Sim.bnd (Sim.ok i1 (Sim.bnd (Sim.ok i2 (Sim.bnd ?_))))
  unfold callD
  rw [if_pos (show [enc x, enc y].length = 2 from rfl)]
  refine (hF x y M2 (by simp) _ _ (lft_wpE (Mo.bnd_wp w))).imp (fun d M' ⟨t, hq, hres⟩ => ?_) (fun c d M' ⟨z, fr⟩ => ⟨z, r2.call fr⟩)
  have hd : d = .bl t := by
    have hz := hres.2.1
    have hz : fz M' M2.length 9 d = some (.bl t) := hz
    cases d with
    | nd t' l =>
      unfold fz at hz
      cases q : fzs M' M2.length 9 l with
      | none => rw [q] at hz; cases hz
      | some z => rw [q] at hz; cases hz
    | ref n =>
      unfold fz at hz
      split at hz
      · cases hz
      · dsimp only at hz
        cases qm : M'[n]? with
        | none => rw [qm] at hz; cases hz
        | some c =>
          rw [qm] at hz
          dsimp only at hz
          cases q : fzs M' M2.length 8 c.2 with
          | none => rw [q] at hz; cases hz
          | some z => rw [q] at hz; cases hz
    | bl b => unfold fz at hz; cases hz; rfl
    | _ => unfold fz at hz; cases hz
  subst hd
  exact Sim.ok (a := D.bl (!t)) (M := M') rfl ⟨M2, [], !t, Mo.pur_wp hq, ⟨hres.1, fz_id _ _ _ _ (Enc.nr (!t) _), fun h => by cases h⟩, r2.cg.le, r2.call hres.1⟩
end
end TL

set_option Elab.async false
set_option linter.all false
set_option maxRecDepth 100000
set_option maxHeartbeats 4000000
/-! TM1: zip(a, b, strict=True). -/
namespace TL
open PySem L2 DL
open Mo (pur bnd lft)
open Enc (enc)
open EncL (encL)
section
variable {pp : List Nat} {m : Type → Type} [Mo m] {α β : Type} [Enc α] [Enc β] {fs : List SV}
end
end TL

set_option Elab.async false
set_option linter.all false
set_option maxRecDepth 100000
set_option maxHeartbeats 4000000
/-! TM2: a block of statements, its lists frozen behind it; the pool is drawn from in the block. -/
namespace TL
open PySem L2 DL
open Mo (pur bnd lft)
open Enc (enc)
open EncL (encL)
section
variable {m : Type → Type} [Mo m] {pp : List Nat} {M0 : Store} {fs : List SV} {ρ φ : Type} {K : φ → Fl → Store → Prop}
/-- the frame behind the block: own lists are values -/
inductive FzP (pc : Nat) : List SV → List SV → Prop
  | n : FzP pc [] []
  | a {x as bs} : FzP pc as bs → FzP pc (x :: as) (.any :: bs)
  | v {β : Type} [Enc β] {x : β} {as bs} : FzP pc as bs → FzP pc (.v x :: as) (.v x :: bs)
  | p {as bs} : FzP pc as bs → FzP pc (.par pc :: as) (.lpl :: bs)
  | d {β : Type} [Enc β] {xs : List β} {as bs} : FzP pc as bs → FzP pc (.L xs :: as) (.v xs :: bs)
theorem FzP.len {pc : Nat} {as bs : List SV} (h : FzP pc as bs) : bs.length = as.length := by induction h <;> simp_all
theorem FzP.get {pc : Nat} {as bs : List SV} (h : FzP pc as bs) : ∀ (k : Nat) (v : SV), bs[k]? = some v → v = .any ∨ (∃ x : D, v = .val x ∧ (∀ n, rlt n x = true) ∧ as[k]? = some (.val x)) ∨ (v = .lpl ∧ as[k]? = some (.par pc)) ∨ (∃ l : List D, v = .val (.nd .lst l) ∧ (∀ n, rlts n l = true) ∧ as[k]? = some (.lc .lst l)) := by
  induction h with
  | n => intro k v h; simp at h
  | a _ ih =>
    intro k v h
    cases k with
    | zero => simp at h; exact .inl h.symm
    | succ k => simpa using ih k v (by simpa using h)
  | v _ ih =>
    intro k v h
    cases k with
    | zero => simp at h; exact .inr (.inl ⟨_, h.symm, Enc.nr _, rfl⟩)
    | succ k => simpa using ih k v (by simpa using h)
  | p _ ih =>
    intro k v h
    cases k with
    | zero => simp at h; exact .inr (.inr (.inl ⟨h.symm, rfl⟩))
    | succ k => simpa using ih k v (by simpa using h)
  | @d β _ xs as bs _ ih =>
    intro k v h
    cases k with
    | zero =>
      simp at h
      refine .inr (.inr (.inr ⟨xs.map enc, h.symm, fun n => rlts_iff.mpr fun d hd => ?_, rfl⟩))
      obtain ⟨x, _, rfl⟩ := List.mem_map.mp hd
      exact Enc.nr x _
    | succ k => simpa using ih k v (by simpa using h)
end
end TL

set_option Elab.async false
set_option linter.all false
set_option maxRecDepth 100000
set_option maxHeartbeats 4000000
/-! TM3: a[i] op= v. -/
namespace TL
open PySem L2 DL
open Mo (pur bnd lft)
open Enc (enc)
open EncL (encL)
section
variable {m : Type → Type} [Mo m] {pp : List Nat} {M0 : Store} {fs : List SV} {α β φ : Type} [Enc α] [Enc β] {K : φ → Fl → Store → Prop}
end
end TL

set_option Elab.async false
set_option linter.all false
set_option maxRecDepth 100000
set_option maxHeartbeats 4000000
/-! DN7: min of a list of numbers. -/
namespace DL
open PySem PySem.Spec PyProof.Rows L2
variable [Tb]
section
variable {X : Cx} {W : WX}
end
end DL

set_option Elab.async false
set_option linter.all false
set_option maxRecDepth 100000
set_option maxHeartbeats 4000000
/-! DN8: y(..), y a name that holds a def of the module. -/
namespace DL
open PySem PySem.Spec PyProof.Rows L2
variable [Tb]
section
variable {X : Cx} {W : WX}
end
end DL

set_option Elab.async false
set_option linter.all false
set_option maxRecDepth 100000
set_option maxHeartbeats 1000000
/-! TN2: min of a list of numbers, by types. -/
namespace TL
open PySem L2 DL
open Mo (pur bnd lft)
open Enc (enc)
end TL

set_option Elab.async false
set_option linter.all false
set_option maxRecDepth 100000
set_option maxHeartbeats 1000000
/-! TN3: defs of the module as values, by types. -/
namespace TL
open PySem L2 DL
open Mo (pur bnd lft)
open Enc (enc)
open EncL (encL)
inductive Gv (x : Str) where
  | mk
instance {x : Str} : Enc (Gv x) := ⟨fun _ => .gl x, fun _ _ => rfl⟩
section
variable {m : Type → Type} [Mo m] {ρ τ : Type} [Enc ρ] [EncL τ] {fs : List SV}
end
end TL

set_option Elab.async false
set_option linter.all false
set_option maxRecDepth 100000
set_option maxHeartbeats 1000000
/-! TN4: what lower_bound returns. -/
namespace TL
open PySem L2 DL
open Mo (pur bnd lft)
open Enc (enc)
open EncL (encL)
inductive Lbo where
  | ans (b : Bst) | low (s : List Int) (t : Int)
instance : Enc Lbo := ⟨fun x => match x with
  | .ans b => enc b
  | .low s t => .nd .tup [enc s, .int t], fun x n => by
    cases x with
    | ans b => exact Enc.nr b n
    | low s t => simp [rlt, rlts, Enc.nr]⟩
def Lbo.word : Lbo → E Str
  | .ans b => .ok b.word
  | .low _ _ => .bad
def Lbo.wk : Lbo → E (List (Int × Int))
  | .ans b => getR b.pay
  | .low _ _ => .bad
section
variable {m : Type → Type} [Mo m] {fs : List SV}
end
end TL

set_option Elab.async false
set_option linter.all false
set_option maxRecDepth 100000
set_option maxHeartbeats 1000000
/-! TN5: answers of two parts. -/
namespace TL
open PySem L2 DL
open Mo (pur bnd lft)
open Enc (enc)
open EncL (encL)
def Bst.two : Bst → E (Str × (List Int ⊕ List (Int × Int)))
  | .ans a => .ok (a.word, a.pay)
  | .pot _ _ => .bad
section
variable {m : Type → Type} [Mo m] {fs : List SV}
end
end TL

set_option Elab.async false
set_option linter.all false
set_option maxRecDepth 100000
set_option maxHeartbeats 4000000
namespace Lw
open PySem L2 DL TL
open Mo (pur bnd lft)
open Enc (enc)
open EncL (encL)
end Lw

set_option Elab.async false
set_option linter.all false
set_option maxRecDepth 100000
set_option maxHeartbeats 1000000
/-! TP5: comprehensions over an own list; C(..) whose places behind have (). -/
namespace TL
open PySem L2 DL
open Mo (pur bnd lft)
open Enc (enc)
open EncL (encL)
section
variable {m : Type → Type} [Mo m] {pp : List Nat} {M0 : Store} {fs fs' : List SV} {α β τ κ φ ω : Type} [Enc α] [Enc β] [EncL τ] [EncL κ] [Enc ω] {K : φ → Fl → Store → Prop}
end
end TL

set_option Elab.async false
set_option linter.all false
set_option maxRecDepth 100000
set_option maxHeartbeats 1000000
/-! TP6: a, b = two new lists; a new list that is made without a trace. -/
namespace TL
open PySem L2 DL
open Mo (pur bnd lft)
open Enc (enc)
open EncL (encL)
section
variable {m : Type → Type} [Mo m] {pp : List Nat} {M0 : Store} {fs fs' fs'' : List SV} {α β γ τ κ φ ρ ω : Type} [Enc α] [Enc β] [Enc γ] [EncL τ] [EncL κ] [Enc ρ] [Enc ω] {K : φ → Fl → Store → Prop}
/-- the frame before a block that is frozen behind: values and the caller's pool stay -/
inductive KpF (pc : Nat) : List SV → List SV → Prop
  | n : KpF pc [] []
  | a {x as bs} : KpF pc as bs → KpF pc (x :: as) (.any :: bs)
  | v {x : D} {as bs} : KpF pc as bs → KpF pc (.val x :: as) (.val x :: bs)
  | p {as bs} : KpF pc as bs → KpF pc (.par pc :: as) (.par pc :: bs)
theorem KpF.len {pc : Nat} {as bs : List SV} (h : KpF pc as bs) : bs.length = as.length := by induction h <;> simp_all
theorem KpF.get {pc : Nat} {as bs : List SV} (h : KpF pc as bs) : ∀ (k : Nat) (v : SV), bs[k]? = some v → v = .any ∨ ((∃ x, v = .val x) ∧ as[k]? = some v) ∨ (v = .par pc ∧ as[k]? = some v) := by
  induction h with
  | n => intro k v h; simp at h
  | a _ ih =>
    intro k v h
    match k with
    | 0 => simp at h; exact .inl h.symm
    | k + 1 => simpa using ih k v (by simpa using h)
  | v _ ih =>
    intro k v h
    match k with
    | 0 => simp at h; exact .inr (.inl ⟨⟨_, h.symm⟩, by simpa using h⟩)
    | k + 1 => simpa using ih k v (by simpa using h)
  | p _ ih =>
    intro k v h
    match k with
    | 0 => simp at h; exact .inr (.inr ⟨h.symm, by simpa using h⟩)
    | k + 1 => simpa using ih k v (by simpa using h)
/-- the frame behind it: own lists are values -/
inductive FzQ (pc : Nat) : List SV → List SV → Prop
  | n : FzQ pc [] []
  | a {x as bs} : FzQ pc as bs → FzQ pc (x :: as) (.any :: bs)
  | v {β : Type} [Enc β] {x : β} {as bs} : FzQ pc as bs → FzQ pc (.v x :: as) (.v x :: bs)
  | p {as bs} : FzQ pc as bs → FzQ pc (.par pc :: as) (.par pc :: bs)
  | d {β : Type} [Enc β] {xs : List β} {as bs} : FzQ pc as bs → FzQ pc (.L xs :: as) (.v xs :: bs)
theorem FzQ.len {pc : Nat} {as bs : List SV} (h : FzQ pc as bs) : bs.length = as.length := by induction h <;> simp_all
theorem FzQ.get {pc : Nat} {as bs : List SV} (h : FzQ pc as bs) : ∀ (k : Nat) (v : SV), bs[k]? = some v → v = .any ∨ (∃ x : D, v = .val x ∧ (∀ n, rlt n x = true) ∧ as[k]? = some (.val x)) ∨ (v = .par pc ∧ as[k]? = some (.par pc)) ∨ (∃ l : List D, v = .val (.nd .lst l) ∧ (∀ n, rlts n l = true) ∧ as[k]? = some (.lc .lst l)) := by
  induction h with
  | n => intro k v h; simp at h
  | a _ ih =>
    intro k v h
    match k with
    | 0 => simp at h; exact .inl h.symm
    | k + 1 => simpa using ih k v (by simpa using h)
  | v _ ih =>
    intro k v h
    match k with
    | 0 => simp at h; exact .inr (.inl ⟨_, h.symm, Enc.nr _, rfl⟩)
    | k + 1 => simpa using ih k v (by simpa using h)
  | p _ ih =>
    intro k v h
    match k with
    | 0 => simp at h; exact .inr (.inr (.inl ⟨h.symm, rfl⟩))
    | k + 1 => simpa using ih k v (by simpa using h)
  | @d β _ xs as bs _ ih =>
    intro k v h
    match k with
    | 0 =>
      simp at h
      refine .inr (.inr (.inr ⟨xs.map enc, h.symm, fun n => rlts_iff.mpr fun d hd => ?_, rfl⟩))
      obtain ⟨x, _, rfl⟩ := List.mem_map.mp hd
      exact Enc.nr x _
    | k + 1 => simpa using ih k v (by simpa using h)
end
end TL

set_option Elab.async false
set_option linter.all false
set_option maxRecDepth 100000
set_option maxHeartbeats 1000000
/-! TS6: a frozen block that may return. -/
namespace TL
open PySem L2 DL
open Mo (pur bnd lft)
open Enc (enc)
section
variable {m : Type → Type} [Mo m] {pp : List Nat} {M0 : Store} {fs fs' fs'' : List SV} {α β γ τ κ φ ρ ω : Type} [Enc α] [Enc γ] [Enc ρ] [Enc ω] {K : φ → Fl → Store → Prop}
end
end TL

set_option Elab.async false
set_option linter.all false
set_option maxRecDepth 100000
set_option maxHeartbeats 4000000
/-! DT4: xs.pop(i). -/
namespace DL
open PySem PySem.Spec PyProof.Rows L2
variable [Tb]
section
variable {X : Cx} {W : WX} {e o : Expr} {apos cpos : Pos}
end
end DL

set_option Elab.async false
set_option linter.all false
set_option maxRecDepth 100000
set_option maxHeartbeats 4000000
/-! DV2: zip(a, b, c, strict=True) of three lists of one length (begun). -/
namespace DL
open PySem PySem.Spec PyProof.Rows L2
variable [Tb]
/-- the six cells of a strict zip of three lists, and the lists -/
structure ZC3 where
  z : Addr
  ti : Addr
  to : Addr
  i : Addr
  j : Addr
  k : Addr
  a : Addr
  b : Addr
  c : Addr
def zrec3 (c : ZC3) (f : Value) : Obj := { cls := .type "zip", dict := none, data := .fields #[f, .bool false, .bool true, .ref c.ti, .ref c.to], slots := #[] }
structure ZS3 (c : ZC3) (h : Heap) (f : Value) (m n l : Nat) (u v t : Value) (xs ys zs : Array Value) : Prop where
  zip : h.get? c.z = some (zrec3 c f)
  its : IsTupOf3 h c.ti (.ref c.i) (.ref c.j) (.ref c.k)
  own : IsTupOf3 h c.to u v t
  one : h.IsListIter c.i c.a m
  two : h.IsListIter c.j c.b n
  tri : h.IsListIter c.k c.c l
  la : h.IsList c.a xs
  lb : h.IsList c.b ys
  lc : h.IsList c.c zs
structure ZC3.Ap (c : ZC3) : Prop where
  z_ti : c.z ≠ c.ti
  z_to : c.z ≠ c.to
  z_i : c.z ≠ c.i
  z_j : c.z ≠ c.j
  z_k : c.z ≠ c.k
  ti_z : c.ti ≠ c.z
  ti_to : c.ti ≠ c.to
  ti_i : c.ti ≠ c.i
  ti_j : c.ti ≠ c.j
  ti_k : c.ti ≠ c.k
  to_z : c.to ≠ c.z
  to_ti : c.to ≠ c.ti
  to_i : c.to ≠ c.i
  to_j : c.to ≠ c.j
  to_k : c.to ≠ c.k
  i_z : c.i ≠ c.z
  i_ti : c.i ≠ c.ti
  i_to : c.i ≠ c.to
  i_j : c.i ≠ c.j
  i_k : c.i ≠ c.k
  j_z : c.j ≠ c.z
  j_ti : c.j ≠ c.ti
  j_to : c.j ≠ c.to
  j_i : c.j ≠ c.i
  j_k : c.j ≠ c.k
  k_z : c.k ≠ c.z
  k_ti : c.k ≠ c.ti
  k_to : c.k ≠ c.to
  k_i : c.k ≠ c.i
  k_j : c.k ≠ c.j
  a_z : c.a ≠ c.z
  a_ti : c.a ≠ c.ti
  a_to : c.a ≠ c.to
  a_i : c.a ≠ c.i
  a_j : c.a ≠ c.j
  a_k : c.a ≠ c.k
  b_z : c.b ≠ c.z
  b_ti : c.b ≠ c.ti
  b_to : c.b ≠ c.to
  b_i : c.b ≠ c.i
  b_j : c.b ≠ c.j
  b_k : c.b ≠ c.k
  c_z : c.c ≠ c.z
  c_ti : c.c ≠ c.ti
  c_to : c.c ≠ c.to
  c_i : c.c ≠ c.i
  c_j : c.c ≠ c.j
  c_k : c.c ≠ c.k
def Far3 (c : ZC3) (h h' : Heap) : Prop := ∀ b o, b ≠ c.z → b ≠ c.to → b ≠ c.i → b ≠ c.j → b ≠ c.k → h.get? b = some o → h'.get? b = some o
section
variable {c : ZC3} {h h' h2 : Heap} {f f' : Value} {m n l : Nat} {u v t u' v' t' : Value} {xs ys zs : Array Value}
theorem Far3.refl : Far3 c h h := fun _ _ _ _ _ _ _ e => e
theorem ZS3.more (S : ZS3 c h f m n l u v t xs ys zs) (k : ∀ b o, h.get? b = some o → h'.get? b = some o) : ZS3 c h' f m n l u v t xs ys zs :=
  ⟨k _ _ S.zip, k _ _ S.its, k _ _ S.own, S.one.at fun o => k _ o, S.two.at fun o => k _ o, S.tri.at fun o => k _ o, S.la.at fun o => k _ o, S.lb.at fun o => k _ o, S.lc.at fun o => k _ o⟩
end
section
variable {P : Program} {w : World} {A : Around} {E : Value → Shared → Prop} {s : Shared} {c : ZC3} {m n l : Nat} {u v t x y a : Value} {xs ys zs : Array Value}
end
end DL

set_option Elab.async false
set_option linter.all false
set_option maxRecDepth 100000
set_option maxHeartbeats 4000000
/-! DV3: zip(a, b, c, strict=True): the end, the making, the turn, the rule over data. -/
namespace DL
open PySem PySem.Spec PyProof.Rows L2
variable [Tb]
section
variable {P : Program} {w : World} {A : Around} {E : Value → Shared → Prop} {s : Shared} {c : ZC3} {m n l : Nat} {u v t x y a : Value} {xs ys zs : Array Value}
end
/-! ### a strict zip made -/
end DL

set_option Elab.async false
set_option linter.all false
set_option maxRecDepth 100000
set_option maxHeartbeats 4000000
/-! DV4: zip(a, b, c, strict=True): the turn and the rule over data. -/
namespace DL
open PySem PySem.Spec PyProof.Rows L2
variable [Tb]
structure ZT3 (c : ZC3) (i : Nat) (h : Heap) : Prop where
  zip : h.get? c.z = some (zrec3 c .none)
  its : IsTupOf3 h c.ti (.ref c.i) (.ref c.j) (.ref c.k)
  own : ∃ u v t, IsTupOf3 h c.to u v t
  one : h.IsListIter c.i c.a i
  two : h.IsListIter c.j c.b i
  tri : h.IsListIter c.k c.c i
theorem ZT3.at {c : ZC3} {i : Nat} {h h' : Heap} (T : ZT3 c i h) (k : ∀ b ∈ [c.z, c.ti, c.to, c.i, c.j, c.k], ∀ o, h.get? b = some o → h'.get? b = some o) : ZT3 c i h' := by
  obtain ⟨u, v, t, e⟩ := T.own
  exact ⟨k _ (by simp) _ T.zip, k _ (by simp) _ T.its, ⟨u, v, t, k _ (by simp) _ e⟩, T.one.at fun o => k _ (by simp) o, T.two.at fun o => k _ (by simp) o, T.tri.at fun o => k _ (by simp) o⟩
theorem ZT3.lt {c : ZC3} {i : Nat} {h : Heap} (T : ZT3 c i h) {b : Addr} (hb : b ∈ [c.z, c.ti, c.to, c.i, c.j, c.k]) : ∃ o, h.get? b = some o ∧ ∀ v, o.data ≠ .cell v := by
  obtain ⟨u, v, t, e⟩ := T.own
  obtain ⟨o1, e1, _, d1⟩ := T.one
  obtain ⟨o2, e2, _, d2⟩ := T.two
  obtain ⟨o3, e3, _, d3⟩ := T.tri
  simp only [List.mem_cons, List.not_mem_nil, or_false] at hb
  rcases hb with rfl | rfl | rfl | rfl | rfl | rfl
  · exact ⟨_, T.zip, fun v => nofun⟩
  · exact ⟨_, T.its, fun v => nofun⟩
  · exact ⟨_, e, fun v => nofun⟩
  · exact ⟨_, e1, fun v z => by rw [d1] at z; cases z⟩
  · exact ⟨_, e2, fun v z => by rw [d2] at z; cases z⟩
  · exact ⟨_, e3, fun v z => by rw [d3] at z; cases z⟩
theorem Far3.out {c : ZC3} {h h' : Heap} (F : Far3 c h h') {b : Addr} {o : Obj} (hb : b ∉ [c.z, c.ti, c.to, c.i, c.j, c.k]) (e : h.get? b = some o) : h'.get? b = some o := by
  simp only [List.mem_cons, List.not_mem_nil, or_false, not_or] at hb
  exact F b o hb.1 hb.2.2.1 hb.2.2.2.1 hb.2.2.2.2.1 hb.2.2.2.2.2 e
end DL

set_option Elab.async false
set_option linter.all false
set_option maxRecDepth 100000
set_option maxHeartbeats 4000000
/-! DV5: zip(a, b, c, strict=True): the rule. -/
namespace DL
open PySem PySem.Spec PyProof.Rows L2
variable [Tb]
end DL

set_option Elab.async false
set_option linter.all false
set_option maxRecDepth 100000
set_option maxHeartbeats 4000000
/-! DV6: zip(a, b, c, strict=True) over data. -/
namespace DL
open PySem PySem.Spec PyProof.Rows L2
variable [Tb]
end DL

set_option Elab.async false
set_option linter.all false
set_option maxRecDepth 100000
set_option maxHeartbeats 4000000
/-! TX3: a frozen block that may return, the pool one's own; x.append(y.pop(i)); a strict zip of three. -/
namespace TL
open PySem L2 DL
open Mo (pur bnd lft)
open Enc (enc)
open EncL (encL)
section
variable {m : Type → Type} [Mo m] {pp : List Nat} {M0 : Store} {fs fs' fs'' : List SV} {α β γ τ κ φ ρ ω : Type} [Enc α] [Enc γ] [Enc ρ] [Enc ω] {K : φ → Fl → Store → Prop}
end
section
variable {m : Type → Type} [Mo m] {α β γ : Type} [Enc α] [Enc β] [Enc γ] {fs : List SV}
end
end TL

set_option Elab.async false
set_option linter.all false
set_option maxRecDepth 100000
set_option maxHeartbeats 4000000
/-! DT6: zip(a, b, strict=True), b a list or a tuple. The first part is DM1's, the second sequence a tuple. -/
namespace DL
open PySem PySem.Spec PyProof.Rows L2
variable [Tb]
namespace Zt
/-- the six cells of a strict zip of two lists: the zip, its two tuples, the two iterators, and how far they are -/
structure ZC where
  z : Addr
  ti : Addr
  to : Addr
  i : Addr
  j : Addr
  a : Addr
  b : Addr
def zrec (c : ZC) (f : Value) : Obj := { cls := .type "zip", dict := none, data := .fields #[f, .bool false, .bool true, .ref c.ti, .ref c.to], slots := #[] }
structure ZS (c : ZC) (h : Heap) (f : Value) (m n : Nat) (u v : Value) (xs ys : Array Value) : Prop where
  zip : h.get? c.z = some (zrec c f)
  its : IsPair h c.ti (.ref c.i) (.ref c.j)
  own : IsPair h c.to u v
  one : h.IsListIter c.i c.a m
  two : h.IsTupleIter c.j c.b n
  la : h.IsList c.a xs
  lb : h.IsTuple c.b ys
abbrev ZC.Ap (c : ZC) : Prop := ZipApart c.z c.ti c.to c.i c.j c.a c.b
/-- what a turn may not touch -/
def Far (c : ZC) (h h' : Heap) : Prop := ∀ b o, b ≠ c.z → b ≠ c.to → b ≠ c.i → b ≠ c.j → h.get? b = some o → h'.get? b = some o
section
variable {c : ZC} {h h' h2 : Heap} {f f' : Value} {m n : Nat} {u v u' v' : Value} {xs ys : Array Value}
theorem Far.refl : Far c h h := fun _ _ _ _ _ _ e => e
theorem ZS.more (S : ZS c h f m n u v xs ys) (k : ∀ b o, h.get? b = some o → h'.get? b = some o) : ZS c h' f m n u v xs ys :=
  ⟨k _ _ S.zip, k _ _ S.its, k _ _ S.own, S.one.at fun o => k _ o, S.two.at fun o => k _ o, S.la.at fun o => k _ o, S.lb.at fun o => k _ o⟩
end
section
variable {P : Program} {w : World} {A : Around} {E : Value → Shared → Prop} {s : Shared} {c : ZC} {m n : Nat} {u v x y : Value} {xs ys : Array Value}
end
/-! ### a strict zip made -/
/-- the zip at turn i, the lists left out -/
structure ZT (c : ZC) (i : Nat) (h : Heap) : Prop where
  zip : h.get? c.z = some (zrec c .none)
  its : IsPair h c.ti (.ref c.i) (.ref c.j)
  own : ∃ u v, IsPair h c.to u v
  one : h.IsListIter c.i c.a i
  two : h.IsTupleIter c.j c.b i
theorem ZT.at {c : ZC} {i : Nat} {h h' : Heap} (T : ZT c i h) (k : ∀ b ∈ [c.z, c.ti, c.to, c.i, c.j], ∀ o, h.get? b = some o → h'.get? b = some o) : ZT c i h' := by
  obtain ⟨u, v, e⟩ := T.own
  exact ⟨k _ (by simp) _ T.zip, k _ (by simp) _ T.its, ⟨u, v, k _ (by simp) _ e⟩, T.one.at fun o => k _ (by simp) o, T.two.at fun o => k _ (by simp) o⟩
theorem ZT.lt {c : ZC} {i : Nat} {h : Heap} (T : ZT c i h) {b : Addr} (hb : b ∈ [c.z, c.ti, c.to, c.i, c.j]) : ∃ o, h.get? b = some o ∧ ∀ v, o.data ≠ .cell v := by
  obtain ⟨u, v, e⟩ := T.own
  obtain ⟨o1, e1, _, d1⟩ := T.one
  obtain ⟨o2, e2, _, d2⟩ := T.two
  simp only [List.mem_cons, List.not_mem_nil, or_false] at hb
  rcases hb with rfl | rfl | rfl | rfl | rfl
  · exact ⟨_, T.zip, fun v => nofun⟩
  · exact ⟨_, T.its, fun v => nofun⟩
  · exact ⟨_, e, fun v => nofun⟩
  · exact ⟨_, e1, fun v z => by rw [d1] at z; cases z⟩
  · exact ⟨_, e2, fun v z => by rw [d2] at z; cases z⟩
theorem Far.out {c : ZC} {h h' : Heap} (F : Far c h h') {b : Addr} {o : Obj} (hb : b ∉ [c.z, c.ti, c.to, c.i, c.j]) (e : h.get? b = some o) : h'.get? b = some o := by
  simp only [List.mem_cons, List.not_mem_nil, or_false, not_or] at hb
  exact F b o hb.1 hb.2.2.1 hb.2.2.2.1 hb.2.2.2.2 e
end Zt
/-! ### over data -/
end DL

set_option Elab.async false
set_option linter.all false
set_option maxRecDepth 100000
set_option maxHeartbeats 4000000
/-! DT7: enumerate over a list, or over the empty tuple. -/
namespace DL
open PySem PySem.Spec PyProof.Rows L2
variable [Tb]
namespace En
section
variable {prog : Program} {w : World} {A : Around} {E : Value → Shared → Prop} {s : Shared}
end
end En
section
variable {X : Cx} {W : WX} {e : Expr} {pos : Pos}
end
end DL

set_option Elab.async false
set_option linter.all false
set_option maxRecDepth 100000
set_option maxHeartbeats 4000000
/-! TX4: enumerate over a list or the empty tuple, strict zip with data, list(()), links of a web without edges. -/
namespace TL
open PySem L2 DL
open Mo (pur bnd lft)
open Enc (enc)
open EncL (encL)
section
variable {pp : List Nat} {m : Type → Type} [Mo m] {α β : Type} [Enc α] [Enc β] {fs : List SV}
end
end TL
namespace Lw
open PySem L2 DL TL
open Mo (pur bnd lft)
open Enc (enc)
end Lw

set_option Elab.async false
set_option linter.all false
set_option maxRecDepth 100000
set_option maxHeartbeats 4000000
/-! TX5: repr of a list that holds webs. -/
namespace TL
open PySem L2 DL
open Mo (pur bnd lft)
open Enc (enc)
open EncL (encL)
section
variable {pp : List Nat} {m : Type → Type} [Mo m] {α β : Type} [Enc α] [Enc β] {fs : List SV}
theorem eo_reprO {a : Lo → Ev D} {p : m α} (ha : EO fs a p) : EO fs (eCall (op1 reprO) (eAc a eA0)) (bnd p fun v => lft (castE (reprO (enc v)) : E Str)) := fun pp M0 S M ns r Q X w => by
  refine Sim.bnd (Sim.bnd ((ha pp M0 S M ns r _ _ (Mo.bnd_wp w)).imp (fun d M1 ⟨x, e, w, r⟩ => ?_) (fun _ _ _ h => h)))
  subst e
  refine Sim.bnd (Sim.ok (a := []) rfl (Sim.ok (a := [enc x]) (M := M1) rfl ?_))
  exact ((op_cast (α := Str) (reprO (enc x))).sim (M := M1) (Mo.lft_wp w)).imp (fun d M' ⟨v, e, q, e2⟩ => ⟨v, e, q, e2 ▸ r⟩) (fun c d M' ⟨q, e2⟩ => ⟨q, e2 ▸ r⟩)
end
end TL

set_option Elab.async false
set_option linter.all false
set_option maxRecDepth 100000
set_option maxHeartbeats 4000000
/-! TS1: try whose suites know the class of what is caught, and are of several statements. -/
namespace TL
open PySem L2 DL
open Mo (pur bnd lft)
open Enc (enc)
open EncL (encL)
def catchTC (T : List (Str × Option Nat)) {m : Type → Type} [Mo m] {α : Type} (c : Str) (d : D) : m (α ⊕ (Nat × Str × Dt)) := match T.lookup c with
  | some (some j) => if h : rlt 0 d = true then pur (.inr (j, c, ⟨d, h⟩)) else lft .bad
  | some none => lft (.exc c d)
  | none => lft .bad
noncomputable def catchMC (T : List (Str × Option Nat)) {m : Type → Type} [Mo m] {α : Type} (p : m α) : m (α ⊕ (Nat × Str × Dt)) := Mo.tr (bnd p fun a => pur (Sum.inl a)) (catchTC T)
/-- a suite's end: it returns -/
def KR {ρ : Type} [Enc ρ] (cc : Bool) (pp : List Nat) (M0 : Store) : ρ → Fl → Store → Prop := fun r fl M' => match fl with
  | .rt d => Res cc pp M0 r d M'
  | _ => False
section
variable {m : Type → Type} [Mo m] {pp : List Nat} {M0 : Store} {fs fs3 : List SV} {α φ ρ : Type} [Enc α] [Enc ρ] {K : φ → Fl → Store → Prop}
theorem kr_r {cc : Bool} : KRet (ρ := ρ) cc pp M0 (KR cc pp M0) id := fun r d M' h => h
def HBC (pp : List Nat) (M0 : Store) (fs : List SV) (oi : Option Nat) (f : Str → D → Lo → Ev Fl) (g : Lo → Ev Fl) (q : Str → Dt → m φ) (K : φ → Fl → Store → Prop) : Prop := ∀ (c : Str) (x : Dt) S M ns, Rel ⟨pp, []⟩ M0 fs S M ns → ∀ Q X, Mo.wp (q c x) Q X →
  Sim ((if fits oi S = true then (f c x.d (offL oi S)).bnd (offE oi) else Ev.no) M) (fun fl M' => Sim ((match fl with
    | .nx S' => g S'
    | o => Ev.ret o) M') (BP pp M0 Q X K) NoX) NoX
theorem b_tryC0 {T : List (Str × Option Nat)} {fs' : List Xc.HdF} {k : TK} {fb g : Lo → Ev Fl} {p : m α} {kn : α → m φ} {kh : Nat → Str → Dt → m φ} (hb : TB pp M0 fs k fb p) (hn : ∀ v S M ns, Rel ⟨pp, []⟩ M0 fs S M ns → ∀ Q X, Mo.wp (kn v) Q X → Sim ((match k.fl S (enc v) with
      | .nx S' => g S'
      | o => Ev.ret o) M) (BP pp M0 Q X K) NoX)
    (hh : ∀ j oi f, fs'[j]? = some (oi, f) → HBC pp M0 fs oi f g (kh j) K) (hj : ∀ p ∈ T, ∀ j, p.2 = some j → j < fs'.length) :
    Blk pp M0 fs (sSeq (Xc.sTryC T fs' fb) g) (bnd (catchMC T p) fun o => match o with
      | .inl v => kn v
      | .inr z => kh z.1 z.2.1 z.2.2) K := Blk.of fun S M ns r Q X w => by
  refine Sim.seq ?_
  unfold Xc.sTryC
  have w0 := Mo.bnd_wp w
  unfold catchMC at w0
  refine Sim.bnd ((hb S M ns r _ _ (Mo.bnd_wp (Mo.tr_wp w0))).imp (fun fl M1 h1 => ?_) (fun _ _ _ h => h))
  rcases h1 with ⟨c, d, rfl, hx, r1⟩ | ⟨v, rfl, w1, r1⟩
  · show Sim (Xc.caughtC T fs' c d S M1) _ _
    unfold catchTC at hx
    unfold Xc.caughtC
    cases q : T.lookup c with
    | none => rw [q] at hx; exact (Mo.lft_wp hx).elim
    | some oj =>
      rw [q] at hx
      cases oj with
      | none => exact ⟨Mo.lft_wp hx, r1.fram⟩
      | some j =>
        dsimp only at hx
        by_cases hd : rlt 0 d = true
        case neg => rw [dif_neg hd] at hx; exact (Mo.lft_wp hx).elim
        rw [dif_pos hd] at hx
        have wq := Mo.pur_wp hx
        have jl : j < fs'.length := hj _ (lookup_mem q) j rfl
        have jg := List.getElem?_eq_getElem jl
        dsimp only
        rw [jg]
        dsimp only
        have key := hh j _ _ jg c ⟨d, hd⟩ S M1 ns r1 Q X wq
        refine key.imp (fun fl M2 h2 => ?_) (fun _ _ _ h => h)
        cases fl <;> exact h2
  · have w2 := Mo.pur_wp w1
    have key := hn v S M1 ns r1 Q X w2
    cases k <;> exact key
theorem hb_suite {cc : Bool} {ie : Nat} {f : Str → D → Lo → Ev Fl} {g : Lo → Ev Fl} {q : Str → Dt → m ρ} {inj : ρ → φ} (hk : KRet cc pp M0 K inj) (hi : fs[ie]? = some .any) (h : ∀ c x, Blk pp M0 fs (f c x.d) (q c x) (KR cc pp M0)) :
    HBC pp M0 fs (some ie) f g (fun c x => bnd (nox (q c x)) fun v => pur (inj v)) K := fun c x S M ns r Q X w => by
  have hl : fits (some ie) S = true := decide_eq_true (by rw [r.len]; exact (List.getElem?_eq_some_iff.mp hi).1)
  rw [if_pos hl]
  refine Sim.bnd (((h c x).at_ (S := S.set ie none) (r.offA hi none) (nox_wp (Mo.bnd_wp w))).imp (fun fl M1 hfl => ?_) (fun _ _ _ z => z))
  cases fl with
  | rt d => obtain ⟨v, hq, hr⟩ := hfl; exact ⟨inj v, Mo.pur_wp hq, hk v _ _ hr⟩
  | nx S' => obtain ⟨v, hq, hr⟩ := hfl; exact hr.elim
  | bk S' => obtain ⟨v, hq, hr⟩ := hfl; exact hr.elim
  | ct S' => obtain ⟨v, hq, hr⟩ := hfl; exact hr.elim
  | xc c' d' S' => exact (Mo.lft_wp hfl.1).elim
def tryKC {m : Type → Type} [Mo m] {α φ : Type} (kn : α → m φ) (kh : List (Str → Dt → m φ)) (o : α ⊕ (Nat × Str × Dt)) : m φ := match o with
  | .inl v => kn v
  | .inr z => (match kh[z.1]? with
    | some f => f z.2.1 z.2.2
    | none => lft .bad)
inductive HBsC (pp : List Nat) (M0 : Store) (fs : List SV) (g : Lo → Ev Fl) (K : φ → Fl → Store → Prop) : List Xc.HdF → List (Str → Dt → m φ) → Prop
  | nil : HBsC pp M0 fs g K [] []
  | cons {oi : Option Nat} {f : Str → D → Lo → Ev Fl} {q : Str → Dt → m φ} {l : List Xc.HdF} {r : List (Str → Dt → m φ)} (h : HBC pp M0 fs oi f g q K) (t : HBsC pp M0 fs g K l r) : HBsC pp M0 fs g K ((oi, f) :: l) (q :: r)
theorem HBsC.get {g : Lo → Ev Fl} : ∀ {l : List Xc.HdF} {r : List (Str → Dt → m φ)}, HBsC pp M0 fs g K l r → ∀ (j : Nat) (oi : Option Nat) (f : Str → D → Lo → Ev Fl), l[j]? = some (oi, f) → ∃ q, r[j]? = some q ∧ HBC pp M0 fs oi f g q K
  | _, _, .nil, j, oi, f, e => by simp at e
  | _, _, .cons h t, 0, oi, f, e => by simp at e; obtain ⟨rfl, rfl⟩ := e; exact ⟨_, rfl, h⟩
  | _, _, .cons h t, j + 1, oi, f, e => by
    obtain ⟨q, h1, h2⟩ := t.get j oi f (by simpa using e)
    exact ⟨q, by simpa using h1, h2⟩
theorem b_tryC {T : List (Str × Option Nat)} {fs' : List Xc.HdF} {k : TK} {fb g : Lo → Ev Fl} {p : m α} {kn : α → m φ} {kh : List (Str → Dt → m φ)} (hb : TB pp M0 fs k fb p) (hn : ∀ v S M ns, Rel ⟨pp, []⟩ M0 fs S M ns → ∀ Q X, Mo.wp (kn v) Q X → Sim ((match k.fl S (enc v) with
      | .nx S' => g S'
      | o => Ev.ret o) M) (BP pp M0 Q X K) NoX) (hh : HBsC pp M0 fs g K fs' kh) (hj : hjB T fs'.length = true) : Blk pp M0 fs (sSeq (Xc.sTryC T fs' fb) g) (bnd (catchMC T p) (tryKC kn kh)) K := by
  have e : (tryKC kn kh : α ⊕ (Nat × Str × Dt) → m φ) = fun o => match o with
      | .inl v => kn v
      | .inr z => (fun (j : Nat) (c : Str) (x : Dt) => (match kh[j]? with
        | some f => f c x
        | none => lft .bad : m φ)) z.1 z.2.1 z.2.2 := by
    funext o
    cases o <;> rfl
  rw [e]
  refine b_tryC0 (kh := fun (j : Nat) (c : Str) (x : Dt) => (match kh[j]? with
        | some f => f c x
        | none => lft .bad : m φ)) hb hn (fun j oi f q => ?_) (fun p hp j e => ?_)
  · obtain ⟨q', h1, h2⟩ := hh.get j oi f q
    have e2 : (fun (c : Str) (x : Dt) => (match kh[j]? with
        | some f => f c x
        | none => lft .bad : m φ)) = q' := by funext c x; rw [h1]
    show HBC pp M0 fs oi f g (fun (c : Str) (x : Dt) => (match kh[j]? with
        | some f => f c x
        | none => lft .bad : m φ)) K
    rw [e2]
    exact h2
  · have := List.all_eq_true.mp hj p hp
    rw [e] at this
    exact of_decide_eq_true this
theorem ep_rb {b : Bool} : EP fs (fun _ => Ev.ret (.bl b)) b := fun _ _ _ _ _ _ => rfl
end
end TL

set_option Elab.async false
set_option linter.all false
set_option maxRecDepth 100000
set_option maxHeartbeats 4000000
/-! TR6: a comprehension over an own list; append of another kind of thing. -/
namespace TL
open PySem L2 DL
open Mo (pur bnd lft)
open Enc (enc)
section
variable {m : Type → Type} [Mo m] {pp : List Nat} {M0 : Store} {fs : List SV} {α β φ : Type} [Enc α] [Enc β] {K : φ → Fl → Store → Prop}
/-- append of another kind of thing: the list is one of data from there on -/
theorem b_appD {i : Nat} {e : Lo → Ev D} {g : Lo → Ev Fl} {xs : List α} {pe : m Dt} {k : List Dt → m φ} (hi : fs[i]? = some (.L xs)) (he : EO fs e pe) (hr : ∀ x : List Dt, Blk pp M0 (fs.set i (.L x)) g (k x) K) :
    Blk pp M0 fs (sSeq (sExp (eBm (cellM opAppend) (eVar i) (eAc e eA0))) g) (bnd pe fun v => bnd (lft (appL (xs.map Dt.of) v)) k) K :=
  b_app (xs := xs.map Dt.of) (by rw [hi]; show some (SV.lc .lst _) = some (SV.lc .lst _); rw [map_dat]) he hr
end
end TL

set_option Elab.async false
set_option linter.all false
set_option maxRecDepth 100000
set_option maxHeartbeats 4000000
namespace Lw
open PySem L2 DL TL
theorem poolV_cell {M : Store} {ns : List Int} {k : Nat} : ∃ cell : Int, sIf (eB (e2 ltE (eVar 1) (eCall (op1 lenE) (eAc (eVar 0) eA0)))) (sAsg (e2 ixE (eVar 0) (eVar 1)) (gNm 2)) sNext [some (scr ns), some (.int k), some (.int 0), none, none] M = .ok (.nx [some (scr ns), some (.int k), some (.int cell), none, none]) M := by
  by_cases hk : (k : Int) < ns.length
  · have hk' : k < ns.length := by omega
    have hg : (ns.map D.int)[k]? = some (.int ns[k]) := by
      simp [List.getElem?_eq_getElem hk']
    exact ⟨ns[k], by simp only [sSeq, sAsg, sExp, sRet, sRetN, sIf, sNext, e1, e2, eVar, eC, eA0, eAc, asB, eB, eAnd, eOr, eNot, eAndV, eOrV, eNotV, eIf, eF, eCl, n2, nNew_eq, new0, new1, new2, new3, new4, new8, frz, cel, eCall, nCall, op1, op2, callD, iop, subE, mod_i, ltE, leE, gtE, geE, negE, eChain, minE, maxE, Ev.bnd, Out.bnd, Ev.ret, Ev.no, Ev.fl, Ev.flB, Ev.flG, Ev.nox, gNm, gTp, gCn, gNl, gSet, eBm, tYesD, oNo, oSo, asI, sFor, iR1, iSeq, iEn, itSq, lenE, sq, vw, FC.isSeq, add_int, List.set_cons_zero, List.set_cons_succ, List.getElem?_cons_zero, List.getElem?_cons_succ, List.length_cons, List.length_nil, Option.map_some, ite_true, ite_false, if_true, if_false, reduceIte, reduceCtorEq, decide_true, decide_false, Bool.false_eq_true, Nat.reduceAdd, Nat.reduceLeDiff, List.length_map, hk, ixE, at_nat, hg, optE]⟩
  · exact ⟨0, by simp only [sSeq, sAsg, sExp, sRet, sRetN, sIf, sNext, e1, e2, eVar, eC, eA0, eAc, asB, eB, eAnd, eOr, eNot, eAndV, eOrV, eNotV, eIf, eF, eCl, n2, nNew_eq, new0, new1, new2, new3, new4, new8, frz, cel, eCall, nCall, op1, op2, callD, iop, subE, mod_i, ltE, leE, gtE, geE, negE, eChain, minE, maxE, Ev.bnd, Out.bnd, Ev.ret, Ev.no, Ev.fl, Ev.flB, Ev.flG, Ev.nox, gNm, gTp, gCn, gNl, gSet, eBm, tYesD, oNo, oSo, asI, sFor, iR1, iSeq, iEn, itSq, lenE, sq, vw, FC.isSeq, add_int, List.set_cons_zero, List.set_cons_succ, List.getElem?_cons_zero, List.getElem?_cons_succ, List.length_cons, List.length_nil, Option.map_some, ite_true, ite_false, if_true, if_false, reduceIte, reduceCtorEq, decide_true, decide_false, Bool.false_eq_true, Nat.reduceAdd, Nat.reduceLeDiff, List.length_map, hk]⟩
theorem poolV_abs {M : Store} {a b : D} {cell : Int} : ∃ w : Int, sAsg (eCall (op1 absE) (eAc (eVar 2) eA0)) (gNm 3) [some a, some b, some (.int cell), none, none] M = .ok (.nx [some a, some b, some (.int cell), some (.int w), none]) M :=
  ⟨if cell < 0 then -cell else cell, by simp only [sSeq, sAsg, sExp, sRet, sRetN, sIf, sNext, e1, e2, eVar, eC, eA0, eAc, asB, eB, eAnd, eOr, eNot, eAndV, eOrV, eNotV, eIf, eF, eCl, n2, nNew_eq, new0, new1, new2, new3, new4, new8, frz, cel, eCall, nCall, op1, op2, callD, iop, subE, mod_i, ltE, leE, gtE, geE, negE, eChain, minE, maxE, Ev.bnd, Out.bnd, Ev.ret, Ev.no, Ev.fl, Ev.flB, Ev.flG, Ev.nox, gNm, gTp, gCn, gNl, gSet, eBm, tYesD, oNo, oSo, asI, sFor, iR1, iSeq, iEn, itSq, lenE, sq, vw, FC.isSeq, add_int, List.set_cons_zero, List.set_cons_succ, List.getElem?_cons_zero, List.getElem?_cons_succ, List.length_cons, List.length_nil, Option.map_some, ite_true, ite_false, if_true, if_false, reduceIte, reduceCtorEq, decide_true, decide_false, Bool.false_eq_true, Nat.reduceAdd, Nat.reduceLeDiff, absE]⟩
theorem poolV_seed {M : Store} {a : D} {k : Nat} {cell w : Int} (hk : k < 100) : ∃ seed : Int, 0 ≤ seed ∧ seed < 2147483647 ∧ sAsg (e2 modE (e2 mulE (eF (n2 addN (eF (n2 addN (e2 modE (eVar 3) (eC (.int 2147483629))) (e2 mulE (e2 mulE (eC (.int 7919)) (eVar 1)) (eVar 1)))) (eC (.int 13)))) (eC (.int 48271))) (eC (.int 2147483647))) (gNm 4) [some a, some (.int k), some (.int cell), some (.int w), none] M = .ok (.nx [some a, some (.int k), some (.int cell), some (.int w), some (.int seed)]) M := by
  have c1 := mul_i (i := 7919) (j := k) (.inl (by decide))
  have c2 := mul_i (i := 7919 * (k : Int)) (j := k) (.inr (by omega))
  have c3 : ∀ z : Int, mulE (.int z) (.int 48271) = Ev.ret (.int (z * 48271)) := fun z => mul_i (.inr (by decide))
  refine ⟨((w % 2147483629 + 7919 * (k : Int) * k + 13) * 48271) % 2147483647, Int.emod_nonneg _ (by decide), Int.emod_lt_of_pos _ (by decide), ?_⟩
  exact asg_nm (i := 4) (e2_ret (e2_ret (add_ret (add_ret (e2_ret (v_ok rfl) (c_ok _ _ _) (mod_i (by decide))) (e2_ret (e2_ret (c_ok _ _ _) (v_ok rfl) c1) (v_ok rfl) c2)) (c_ok _ _ _)) (c_ok _ _ _) (c3 _)) (c_ok _ _ _) (mod_i (by decide)))
theorem poolV_ret {M : Store} {a b : D} {cell w seed : Int} : ∃ r : Int, sRet (eCl (nNew .lst (eAc (e2 mulE (eVar 3) (eCall (op1 intE) (eAc (e2 geE (eVar 3) (e2 powE (eC (.int 10)) (eC (.int 18)))) eA0))) (eAc (eVar 4) eA0)))) [some a, some b, some (.int cell), some (.int w), some (.int seed)] M = .ok (.rt (.ref M.length)) (M ++ [(.lst, [.int r, .int seed])]) := by
  have c5 : powE (.int 10) (.int 18) = Ev.ret (.int (10 ^ (18 : Int).toNat)) := by unfold powE iop; exact if_pos ⟨by decide, by decide, by decide⟩
  generalize (10 : Int) ^ (18 : Int).toNat = z at c5
  have c0 : mulE (.int w) (.int 0) = Ev.ret (.int (w * 0)) := mul_i (.inr (by decide))
  have c1 : mulE (.int w) (.int 1) = Ev.ret (.int (w * 1)) := mul_i (.inr (by decide))
  by_cases q : z ≤ w
  · exact ⟨w * 1, by simp only [sSeq, sAsg, sExp, sRet, sRetN, sIf, sNext, e1, e2, eVar, eC, eA0, eAc, asB, eB, eAnd, eOr, eNot, eAndV, eOrV, eNotV, eIf, eF, eCl, n2, nNew_eq, new0, new1, new2, new3, new4, new8, frz, cel, eCall, nCall, op1, op2, callD, iop, subE, mod_i, ltE, leE, gtE, geE, negE, eChain, minE, maxE, Ev.bnd, Out.bnd, Ev.ret, Ev.no, Ev.fl, Ev.flB, Ev.flG, Ev.nox, gNm, gTp, gCn, gNl, gSet, eBm, tYesD, oNo, oSo, asI, sFor, iR1, iSeq, iEn, itSq, lenE, sq, vw, FC.isSeq, add_int, List.set_cons_zero, List.set_cons_succ, List.getElem?_cons_zero, List.getElem?_cons_succ, List.length_cons, List.length_nil, Option.map_some, ite_true, ite_false, if_true, if_false, reduceIte, reduceCtorEq, decide_true, decide_false, Bool.false_eq_true, Nat.reduceAdd, Nat.reduceLeDiff, c5, q, intE, c1]⟩
  · exact ⟨w * 0, by simp only [sSeq, sAsg, sExp, sRet, sRetN, sIf, sNext, e1, e2, eVar, eC, eA0, eAc, asB, eB, eAnd, eOr, eNot, eAndV, eOrV, eNotV, eIf, eF, eCl, n2, nNew_eq, new0, new1, new2, new3, new4, new8, frz, cel, eCall, nCall, op1, op2, callD, iop, subE, mod_i, ltE, leE, gtE, geE, negE, eChain, minE, maxE, Ev.bnd, Out.bnd, Ev.ret, Ev.no, Ev.fl, Ev.flB, Ev.flG, Ev.nox, gNm, gTp, gCn, gNl, gSet, eBm, tYesD, oNo, oSo, asI, sFor, iR1, iSeq, iEn, itSq, lenE, sq, vw, FC.isSeq, add_int, List.set_cons_zero, List.set_cons_succ, List.getElem?_cons_zero, List.getElem?_cons_succ, List.length_cons, List.length_nil, Option.map_some, ite_true, ite_false, if_true, if_false, reduceIte, reduceCtorEq, decide_true, decide_false, Bool.false_eq_true, Nat.reduceAdd, Nat.reduceLeDiff, c5, q, intE, c0]⟩
theorem poolV_ok {M : Store} {ns : List Int} {k : Nat} (hk : k < 100) : ∃ c, F__law_pool_v [scr ns, .int k] M = .ok (.ref M.length) (M ++ [(.lst, c)]) ∧ Pl c := by
  obtain ⟨cell, h1⟩ := poolV_cell (M := M) (ns := ns) (k := k)
  obtain ⟨w, h2⟩ := poolV_abs (M := M) (a := scr ns) (b := .int k) (cell := cell)
  obtain ⟨seed, s0, s1, h3⟩ := poolV_seed (M := M) (a := scr ns) (cell := cell) (w := w) hk
  obtain ⟨r, h4⟩ := poolV_ret (M := M) (a := scr ns) (b := .int k) (cell := cell) (w := w) (seed := seed)
  refine ⟨[.int r, .int seed], run_rt ?_, ⟨_, _, rfl, s0, Int.lt_trans s1 (by decide)⟩⟩
  show g__law_pool_v [some (scr ns), some (.int k), none, none, none] M = _
  unfold g__law_pool_v
  rw [seq_nx (S1 := [some (scr ns), some (.int k), some (.int 0), none, none]) (M1 := M) (by simp only [sSeq, sAsg, sExp, sRet, sRetN, sIf, sNext, e1, e2, eVar, eC, eA0, eAc, asB, eB, eAnd, eOr, eNot, eAndV, eOrV, eNotV, eIf, eF, eCl, n2, nNew_eq, new0, new1, new2, new3, new4, new8, frz, cel, eCall, nCall, op1, op2, callD, iop, subE, mod_i, ltE, leE, gtE, geE, negE, eChain, minE, maxE, Ev.bnd, Out.bnd, Ev.ret, Ev.no, Ev.fl, Ev.flB, Ev.flG, Ev.nox, gNm, gTp, gCn, gNl, gSet, eBm, tYesD, oNo, oSo, asI, sFor, iR1, iSeq, iEn, itSq, lenE, sq, vw, FC.isSeq, add_int, List.set_cons_zero, List.set_cons_succ, List.getElem?_cons_zero, List.getElem?_cons_succ, List.length_cons, List.length_nil, Option.map_some, ite_true, ite_false, if_true, if_false, reduceIte, reduceCtorEq, decide_true, decide_false, Bool.false_eq_true, Nat.reduceAdd, Nat.reduceLeDiff]), seq_nx h1, seq_nx h2, seq_nx h3]
  exact h4
theorem t__law_pool_v (s : Scr) (k : Nat) (hk : k < 100) : PoolRet (F__law_pool_v (TL.EncL.encL (s, ((k : Int), ())))) := fun M => by
  obtain ⟨c, h, pl⟩ := poolV_ok (M := M) (ns := s.ns) hk
  exact ⟨M.length, M ++ [(.lst, c)], h, Nat.le_refl _, ⟨c, by simp, pl⟩, by simp, fun i hi => List.getElem?_append_left hi⟩
theorem t__law_poolG_v (s : Scr) (k : Int) (h : (decide (0 ≤ k) && decide (k < 100)) = true) : PoolRet (F__law_pool_v (TL.EncL.encL (s, (k, ())))) := by
  have h := Bool.and_eq_true_iff.mp h
  have h1 := of_decide_eq_true h.1
  have h2 := of_decide_eq_true h.2
  obtain ⟨n, rfl⟩ := Int.eq_ofNat_of_zero_le h1
  exact t__law_pool_v s n (by omega)
end Lw

set_option Elab.async false
set_option linter.all false
set_option maxRecDepth 100000
set_option maxHeartbeats 4000000
namespace Lw
open PySem L2 DL TL
open Mo (pur bnd lft)
open Enc (enc)
open EncL (encL)
noncomputable def p__law_divisors (law_base_here : Int) : E (List Int) := bnd (bnd (bnd (pur (2 : Int)) fun n100021 => bnd (pur (61 : Int)) fun n100022 => lft (rgW n100021 n100022)) fun xs100026 => lcM xs100026 (fun (x100023 : Int) => bnd (lft (modZ law_base_here x100023)) fun x100024 => bnd (pur (0 : Int)) fun y100025 => lft (.ok (false ^^ eqB x100024 y100025))) (fun (x100023 : Int) => pur x100023)) fun r100027 => pur (id r100027)
theorem t__law_divisors (law_base_here : Int) : Ret false [] (F__law_divisors [enc law_base_here]) (p__law_divisors law_base_here) := by
  refine ret_def (n := 2) (g := g__law_divisors) (l := [enc law_base_here]) (by exact Nat.le_of_ble_eq_true rfl) (fun M0 => ?_)
  unfold g__law_divisors p__law_divisors
  exact b_ret kr_t rfl (eo_lst (nl_lc (io_range2 (EP.eo (ep_c (v := (2 : Int)) rfl)) (EP.eo (ep_c (v := (61 : Int)) rfl))) (fun x100023 => tg_nm 1 x100023) (fun x100023 => to_b (eo_2 (eo_2p (ep_var (v := law_base_here) 0 rfl) (ep_var (v := x100023) 1 rfl) (o_mod _ _)) (EP.eo (ep_c (v := (0 : Int)) rfl)) (E1 fun x y => o_eqE (neg := false) (by decide) x y))) (fun x100023 => EP.eo (ep_var (v := x100023) 1 rfl)) (fun x100023 => ci_v (ci_v ci_n))))
noncomputable def p_check_divisor (web : OWeb) (modulus : Int) : E Unit := bnd (bnd (bnd (lft (p_is_within modulus (2 : Int) (60 : Int))) fun z100031 => pur (!z100031)) fun z100037 => if z100037 = true then pur true else (bnd (bnd (bnd (pur ()) fun v100032 => lft (p_Web_modulus web )) fun (x100033 : Int) => bnd (pur modulus) fun (y100034 : Int) => lft (modZ x100033 y100034)) fun x100035 => bnd (pur (0 : Int)) fun y100036 => lft (.ok (true ^^ eqB x100035 y100036)))) fun z => if z = true then (bnd (pur modulus) fun v100038 => lft (.exc ("InvalidModulus" : Str) (enc v100038))) else (pur ())
theorem t_check_divisor (web : OWeb) (modulus : Int) : Ret false [] (F_check_divisor [enc web, enc modulus]) (p_check_divisor web modulus) := by
  refine ret_def (n := 2) (g := g_check_divisor) (l := [enc web, enc modulus]) (by exact Nat.le_of_ble_eq_true rfl) (fun M0 => ?_)
  unfold g_check_divisor p_check_divisor
  exact b_if (to_or (to_not (to_tru (eo_callp (ap_cons (ep_var (v := modulus) 1 rfl) (ap_cons (ep_c (v := (2 : Int)) rfl) (ap_cons (ep_c (v := (60 : Int)) rfl) ap_nil))) (t_is_within modulus (2 : Int) (60 : Int)) rfl))) (to_b (eo_2 (eo_2 (eo_meth (o := web) (ep_var (v := web) 0 rfl) rfl (by decide) (AP.ao ap_nil) (fun v100032 => t_Web_modulus web ) (fun _ => rfl)) (EP.eo (ep_var (v := modulus) 1 rfl)) o_mod) (EP.eo (ep_c (v := (0 : Int)) rfl)) (E1 fun x y => o_eqE (neg := true) (by decide) x y)))) (b_last (b_raiseS (EP.eo (ep_var (v := modulus) 1 rfl)) (fun _ => rfl))) (b_endT rfl)
noncomputable def p_reduced (web : OWeb) (modulus : Int) : E OWeb := bnd (lft (p_check_divisor web modulus)) fun u100039 => bnd (bnd (bnd (bnd (pur ()) fun v100040 => lft (p_Web_size web )) fun x100044 => bnd (bnd (bnd (pur ()) fun v100041 => lft (p_Web_edges web )) fun x100042 => bnd (pur ()) fun v100043 => pur (x100042, v100043)) fun v100045 => pur (x100044, v100045)) fun v100046 => bnd (pur (modulus, ())) fun z100047 => lft (p_Web___init__ v100046.1 v100046.2.1 z100047.1)) fun r100048 => pur (id r100048)
theorem t_reduced (web : OWeb) (modulus : Int) : Ret false [] (F_reduced [enc web, enc modulus]) (p_reduced web modulus) := by
  refine ret_def (n := 2) (g := g_reduced) (l := [enc web, enc modulus]) (by exact Nat.le_of_ble_eq_true rfl) (fun M0 => ?_)
  unfold g_reduced p_reduced
  exact b_exp (eo_callp (ap_cons (ep_var (v := web) 0 rfl) (ap_cons (ep_var (v := modulus) 1 rfl) ap_nil)) (t_check_divisor web modulus) rfl) (fun u100039 => b_ret kr_t rfl (eo_makeM (ao_cons (eo_meth (o := web) (ep_var (v := web) 0 rfl) rfl (by decide) (AP.ao ap_nil) (fun v100040 => t_Web_size web ) (fun _ => rfl)) (ao_cons (eo_meth (o := web) (ep_var (v := web) 0 rfl) rfl (by decide) (AP.ao ap_nil) (fun v100041 => t_Web_edges web ) (fun _ => rfl)) (AP.ao ap_nil))) (AP.ao (ap_cons (ep_var (v := modulus) 1 rfl) ap_nil)) (fun v100046 z100047 => t_Web___init__ v100046.1 v100046.2.1 z100047.1) (fun _ => rfl) (fun _ => rfl)))
noncomputable def p_Web___eq___v (self : OWeb) (other : OWeb) : E Bool := bnd (pur (!true)) fun z => if z = true then (bnd (pur false) fun r100049 => pur (id r100049)) else (bnd (pur (T3.mk self.own_size self.own_edges self.own_modulus)) fun (mine100050 : (T3 Int (List (Int × Int)) Int)) => bnd (pur (false ^^ eqB mine100050 (T3.mk other.own_size other.own_edges other.own_modulus))) fun r100051 => pur (id r100051))
theorem t_Web___eq___v (self : OWeb) (other : OWeb) : Ret false [] (F_Web___eq___v [enc self, enc other]) (p_Web___eq___v self other) := by
  refine ret_def (n := 3) (g := g_Web___eq___v) (l := [enc self, enc other]) (by exact Nat.le_of_ble_eq_true rfl) (fun M0 => ?_)
  unfold g_Web___eq___v p_Web___eq___v
  exact b_ifD (TP.to (tp_not (tp_tru (ep_isO (ep_var (v := other) 1 rfl) rfl (by decide))))) (b_retS kr_t rfl (EP.eo (ep_c (v := false) rfl))) (b_skip (b_asg (i := 2) (EP.eo (ep_frt (v := (T3.mk self.own_size self.own_edges self.own_modulus)) (np_new (n := 3) (ap_cons (ep_fld (v := self.own_size) (EP.ev (ep_var (v := self) 0 rfl) rfl) rfl) (ap_cons (ep_fld (v := self.own_edges) (EP.ev (ep_var (v := self) 0 rfl) rfl) rfl) (ap_cons (ep_fld (v := self.own_modulus) (EP.ev (ep_var (v := self) 0 rfl) rfl) rfl) ap_nil))) rfl) rfl)) (fun mine100050 => b_ret kr_t rfl (EP.eo (ep_eq (neg := false) (EP.ey (ep_var (v := mine100050) 2 rfl)) (EP.ey (ep_frt (v := (T3.mk other.own_size other.own_edges other.own_modulus)) (np_new (n := 3) (ap_cons (ep_fld (v := other.own_size) (EP.ev (ep_var (v := other) 1 rfl) rfl) rfl) (ap_cons (ep_fld (v := other.own_edges) (EP.ev (ep_var (v := other) 1 rfl) rfl) rfl) (ap_cons (ep_fld (v := other.own_modulus) (EP.ev (ep_var (v := other) 1 rfl) rfl) rfl) ap_nil))) rfl) rfl)))))))
noncomputable def p_reduced_gains_v (web : OWeb) (gains : (List Int)) (modulus : Int) : E (List Int) := bnd (lft (p_check_gains web gains)) fun u100058 => bnd (lft (p_check_divisor web modulus)) fun u100059 => bnd (bnd (pur gains) fun xs100061 => lcM xs100061 (fun (x100060 : Int) => pur true) (fun (x100060 : Int) => lft (modZ x100060 modulus))) fun r100062 => pur (id r100062)
theorem t_reduced_gains_v (web : OWeb) (gains : (List Int)) (modulus : Int) : Ret true [] (F_reduced_gains_v [enc web, enc gains, enc modulus]) (p_reduced_gains_v web gains modulus) := by
  refine ret_def (n := 4) (g := g_reduced_gains_v) (l := [enc web, enc gains, enc modulus]) (by exact Nat.le_of_ble_eq_true rfl) (fun M0 => ?_)
  unfold g_reduced_gains_v p_reduced_gains_v
  exact b_exp (eo_callp (ap_cons (ep_var (v := web) 0 rfl) (ap_cons (ep_var (v := gains) 1 rfl) ap_nil)) (t_check_gains web gains) rfl) (fun u100058 => b_exp (eo_callp (ap_cons (ep_var (v := web) 0 rfl) (ap_cons (ep_var (v := modulus) 2 rfl) ap_nil)) (t_check_divisor web modulus) rfl) (fun u100059 => b_retL kr_t (nl_lc (io_seq (EP.eo (ep_var (v := gains) 1 rfl))) (fun x100060 => tg_nm 3 x100060) (fun x100060 => to_yes) (fun x100060 => eo_2p (ep_var (v := x100060) 3 rfl) (ep_var (v := modulus) 2 rfl) (o_mod _ _)) (fun x100060 => ci_v (ci_v (ci_v (ci_v ci_n)))))))
noncomputable def p_check_divisor_2 (web : OWeb) (modulus : Dt) : E Unit := bnd (bnd (bnd (lft (p_is_within_2 modulus (2 : Int) (60 : Int))) fun z100082 => pur (!z100082)) fun z100089 => if z100089 = true then pur true else (bnd (bnd (bnd (pur ()) fun v100083 => lft (p_Web_modulus web )) fun (x100085 : Int) => bnd (bnd (pur modulus) fun v100084 => lft (asG v100084 : E Int)) fun (y100086 : Int) => lft (modZ x100085 y100086)) fun x100087 => bnd (pur (0 : Int)) fun y100088 => lft (.ok (true ^^ eqB x100087 y100088)))) fun z => if z = true then (bnd (pur modulus) fun v100090 => lft (.exc ("InvalidModulus" : Str) (enc v100090))) else (pur ())
theorem t_check_divisor_2 (web : OWeb) (modulus : Dt) : Ret false [] (F_check_divisor [enc web, enc modulus]) (p_check_divisor_2 web modulus) := by
  refine ret_def (n := 2) (g := g_check_divisor) (l := [enc web, enc modulus]) (by exact Nat.le_of_ble_eq_true rfl) (fun M0 => ?_)
  unfold g_check_divisor p_check_divisor_2
  exact b_if (to_or (to_not (to_tru (eo_callp (ap_cons (ep_var (v := modulus) 1 rfl) (ap_cons (ep_c (v := (2 : Int)) rfl) (ap_cons (ep_c (v := (60 : Int)) rfl) ap_nil))) (t_is_within_2 modulus (2 : Int) (60 : Int)) rfl))) (to_b (eo_2 (eo_2 (eo_meth (o := web) (ep_var (v := web) 0 rfl) rfl (by decide) (AP.ao ap_nil) (fun v100083 => t_Web_modulus web ) (fun _ => rfl)) (eo_asG (EP.eo (ep_var (v := modulus) 1 rfl))) o_mod) (EP.eo (ep_c (v := (0 : Int)) rfl)) (E1 fun x y => o_eqE (neg := true) (by decide) x y)))) (b_last (b_raiseS (EP.eo (ep_var (v := modulus) 1 rfl)) (fun _ => rfl))) (b_endT rfl)
noncomputable def p_is_modulus_L2 (thing : Dt) : E Bool := bnd (bnd (lft (p_is_within_2 thing (0 : Int) (60 : Int))) fun z100101 => if z100101 = true then (lft ((fun x y => (castE (eqE true (enc x) (enc y)) : E Bool)) thing (1 : Int))) else pur false) fun r100102 => pur (id r100102)
theorem t_is_modulus_L2 (thing : Dt) : Ret false [] (F_is_modulus [enc thing]) (p_is_modulus_L2 thing) := by
  refine ret_def (n := 1) (g := g_is_modulus) (l := [enc thing]) (by exact Nat.le_of_ble_eq_true rfl) (fun M0 => ?_)
  unfold g_is_modulus p_is_modulus_L2
  exact b_ret kr_t rfl (eo_and (eo_callp (ap_cons (ep_var (v := thing) 0 rfl) (ap_cons (ep_c (v := (0 : Int)) rfl) (ap_cons (ep_c (v := (60 : Int)) rfl) ap_nil))) (t_is_within_2 thing (0 : Int) (60 : Int)) rfl) (eo_2p (ep_var (v := thing) 0 rfl) (ep_c (v := (1 : Int)) rfl) (op_cast _)))
noncomputable def p_Web___init___L2 (size : Int) (edges : (List (Int × Int))) (modulus : Dt) : E OWeb := bnd (bnd (lft (p_is_within size (1 : Int) (30 : Int))) fun z100098 => pur (!z100098)) fun z => if z = true then (bnd (pur size) fun v100099 => lft (.exc ("InvalidSize" : Str) (enc v100099))) else (bnd (lft (p_check_edges size edges)) fun u100100 => bnd (bnd (lft (p_is_modulus_L2 modulus)) fun z100103 => pur (!z100103)) fun z => if z = true then (bnd (pur modulus) fun v100104 => lft (.exc ("InvalidModulus" : Str) (enc v100104))) else (bnd (pur size) fun (own_size100105 : Int) => bnd (pur edges) fun (own_edges100106 : (List (Int × Int))) => bnd (bnd (pur modulus) fun v100107 => lft (asG v100107 : E Int)) fun (own_modulus100108 : Int) => bnd (lft (p_forest_of size edges)) fun (own_forest100109 : (List Int)) => bnd (lft (p_links_of size edges own_forest100109)) fun (links100110 : (List (List (T3 Int Int Int)))) => pur (OWeb.mk own_size100105 own_edges100106 own_modulus100108 own_forest100109 links100110)))
theorem t_Web___init___L2 (size : Int) (edges : (List (Int × Int))) (modulus : Dt) : Ini ("Web" : Str) F_Web___init__ [enc size, enc edges, enc modulus] (p_Web___init___L2 size edges modulus) := by
  refine ini_def (n := 4) (g := g_Web___init__) (by exact Nat.le_of_ble_eq_true rfl) (fun M0 cself => ?_)
  unfold g_Web___init__ p_Web___init___L2
  exact b_ifD (to_not (to_tru (eo_callp (ap_cons (ep_var (v := size) 1 rfl) (ap_cons (ep_c (v := (1 : Int)) rfl) (ap_cons (ep_c (v := (30 : Int)) rfl) ap_nil))) (t_is_within size (1 : Int) (30 : Int)) rfl))) (b_raiseS (EP.eo (ep_var (v := size) 1 rfl)) (fun _ => rfl)) (b_skip (b_exp (eo_callp (ap_cons (ep_var (v := size) 1 rfl) (ap_cons (ep_var (v := edges) 2 rfl) ap_nil)) (t_check_edges size edges) rfl) (fun u100100 => b_ifD (to_not (to_tru (eo_callp (ap_cons (ep_var (v := modulus) 3 rfl) ap_nil) (t_is_modulus_L2 modulus) rfl))) (b_raiseS (EP.eo (ep_var (v := modulus) 3 rfl)) (fun _ => rfl)) (b_skip (b_fld (i := 0) rfl rfl (EP.eo (ep_var (v := size) 1 rfl)) (fun own_size100105 => b_fld (i := 0) rfl rfl (eo_lst (NP.nl (xs := edges) (np_list (EP.ls (ep_var (v := edges) 2 rfl)) rfl))) (fun own_edges100106 => b_fld (i := 0) rfl rfl (eo_asG (EP.eo (ep_var (v := modulus) 3 rfl))) (fun own_modulus100108 => b_fld (i := 0) rfl rfl (eo_callp (ap_cons (ep_var (v := size) 1 rfl) (ap_cons (ep_var (v := edges) 2 rfl) ap_nil)) (t_forest_of size edges) rfl) (fun own_forest100109 => b_last (b_fld (i := 0) rfl rfl (eo_callp (ap_cons (ep_var (v := size) 1 rfl) (ap_cons (ep_var (v := edges) 2 rfl) (ap_cons (ep_fld (v := own_forest100109) (ev_pin 0 rfl) rfl) ap_nil))) (t_links_of size edges own_forest100109) rfl) (fun links100110 => b_endI (o := (OWeb.mk own_size100105 own_edges100106 own_modulus100108 own_forest100109 links100110)) rfl rfl)))))))))))
noncomputable def p_reduced_2 (web : OWeb) (modulus : Dt) : E OWeb := bnd (lft (p_check_divisor_2 web modulus)) fun u100091 => bnd (bnd (bnd (bnd (pur ()) fun v100092 => lft (p_Web_size web )) fun x100096 => bnd (bnd (bnd (pur ()) fun v100093 => lft (p_Web_edges web )) fun x100094 => bnd (pur ()) fun v100095 => pur (x100094, v100095)) fun v100097 => pur (x100096, v100097)) fun v100111 => bnd (pur (modulus, ())) fun z100112 => lft (p_Web___init___L2 v100111.1 v100111.2.1 z100112.1)) fun r100113 => pur (id r100113)
theorem t_reduced_2 (web : OWeb) (modulus : Dt) : Ret false [] (F_reduced [enc web, enc modulus]) (p_reduced_2 web modulus) := by
  refine ret_def (n := 2) (g := g_reduced) (l := [enc web, enc modulus]) (by exact Nat.le_of_ble_eq_true rfl) (fun M0 => ?_)
  unfold g_reduced p_reduced_2
  exact b_exp (eo_callp (ap_cons (ep_var (v := web) 0 rfl) (ap_cons (ep_var (v := modulus) 1 rfl) ap_nil)) (t_check_divisor_2 web modulus) rfl) (fun u100091 => b_ret kr_t rfl (eo_makeM (ao_cons (eo_meth (o := web) (ep_var (v := web) 0 rfl) rfl (by decide) (AP.ao ap_nil) (fun v100092 => t_Web_size web ) (fun _ => rfl)) (ao_cons (eo_meth (o := web) (ep_var (v := web) 0 rfl) rfl (by decide) (AP.ao ap_nil) (fun v100093 => t_Web_edges web ) (fun _ => rfl)) (AP.ao ap_nil))) (AP.ao (ap_cons (ep_var (v := modulus) 1 rfl) ap_nil)) (fun v100111 z100112 => t_Web___init___L2 v100111.1 v100111.2.1 z100112.1) (fun _ => rfl) (fun _ => rfl)))
noncomputable def p_reduced_gains_v_2 (web : OWeb) (gains : (List Int)) (modulus : Dt) : E (List Int) := bnd (lft (p_check_gains web gains)) fun u100114 => bnd (lft (p_check_divisor_2 web modulus)) fun u100115 => bnd (bnd (pur gains) fun xs100120 => lcM xs100120 (fun (x100116 : Int) => pur true) (fun (x100116 : Int) => bnd (pur x100116) fun (x100118 : Int) => bnd (bnd (pur modulus) fun v100117 => lft (asG v100117 : E Int)) fun (y100119 : Int) => lft (modZ x100118 y100119))) fun r100121 => pur (id r100121)
theorem t_reduced_gains_v_2 (web : OWeb) (gains : (List Int)) (modulus : Dt) : Ret true [] (F_reduced_gains_v [enc web, enc gains, enc modulus]) (p_reduced_gains_v_2 web gains modulus) := by
  refine ret_def (n := 4) (g := g_reduced_gains_v) (l := [enc web, enc gains, enc modulus]) (by exact Nat.le_of_ble_eq_true rfl) (fun M0 => ?_)
  unfold g_reduced_gains_v p_reduced_gains_v_2
  exact b_exp (eo_callp (ap_cons (ep_var (v := web) 0 rfl) (ap_cons (ep_var (v := gains) 1 rfl) ap_nil)) (t_check_gains web gains) rfl) (fun u100114 => b_exp (eo_callp (ap_cons (ep_var (v := web) 0 rfl) (ap_cons (ep_var (v := modulus) 2 rfl) ap_nil)) (t_check_divisor_2 web modulus) rfl) (fun u100115 => b_retL kr_t (nl_lc (io_seq (EP.eo (ep_var (v := gains) 1 rfl))) (fun x100116 => tg_nm 3 x100116) (fun x100116 => to_yes) (fun x100116 => eo_2 (EP.eo (ep_var (v := x100116) 3 rfl)) (eo_asG (EP.eo (ep_var (v := modulus) 2 rfl))) o_mod) (fun x100116 => ci_v (ci_v (ci_v (ci_v ci_n)))))))
noncomputable def p__law_refused (law_door : Int) (law_web : OWeb) (law_old : (List Int)) (law_part : Dt) : E Bool := bnd (catchMC [(("InvalidEdge" : Str), none), (("InvalidGains" : Str), none), (("InvalidModulus" : Str), some 0), (("InvalidSize" : Str), none)] (bnd (pur (false ^^ eqB law_door (0 : Int))) fun z => if z = true then (bnd (lft (p_reduced_2 law_web law_part)) fun _ => pur ()) else (bnd (lft (p_reduced_gains_v_2 law_web law_old law_part)) fun _ => pur ()))) (tryKC (fun (v100122 : Unit) => bnd (pur false) fun r100123 => pur (id r100123)) [fun c x => bnd (nox (bnd (bnd (bnd (bnd (pur x) fun v100124 => lft (castE (reprF (enc v100124)) : E Str)) fun (x100126 : Str) => bnd (bnd (pur law_part) fun v100125 => lft (castE (reprF (enc v100125)) : E Str)) fun (y100127 : Str) => lft (eqS false x100126 y100127)) fun z100128 => if z100128 = true then (pur ((Xc.isIn [("InvalidEdge" : Str), ("InvalidGains" : Str), ("InvalidModulus" : Str), ("InvalidSize" : Str)]) c)) else pur false) fun r100129 => pur (id r100129))) fun (v100130 : Bool) => pur (id v100130)])
theorem t__law_refused (law_door : Int) (law_web : OWeb) (law_old : (List Int)) (law_part : Dt) : Ret false [] (F__law_refused [enc law_door, enc law_web, enc law_old, enc law_part]) (p__law_refused law_door law_web law_old law_part) := by
  refine ret_def (n := 5) (g := g__law_refused) (l := [enc law_door, enc law_web, enc law_old, enc law_part]) (by exact Nat.le_of_ble_eq_true rfl) (fun M0 => ?_)
  unfold g__law_refused p__law_refused
  exact b_tryC (T := [(("InvalidEdge" : Str), none), (("InvalidGains" : Str), none), (("InvalidModulus" : Str), some 0), (("InvalidSize" : Str), none)]) (tb_if (TP.to (tp_b (ep_eq (neg := false) (EP.ey (ep_var (v := law_door) 0 rfl)) (EP.ey (ep_c (v := (0 : Int)) rfl))))) (tb_expU (eo_callp (ap_cons (ep_var (v := law_web) 1 rfl) (ap_cons (ep_var (v := law_part) 3 rfl) ap_nil)) (t_reduced_2 law_web law_part) rfl)) (tb_expU (eo_callp (ap_cons (ep_var (v := law_web) 1 rfl) (ap_cons (ep_var (v := law_old) 2 rfl) (ap_cons (ep_var (v := law_part) 3 rfl) ap_nil))) (t_reduced_gains_v_2 law_web law_old law_part) rfl))) (hn_exp (fun v100122 => b_ret kr_t rfl (EP.eo (ep_c (v := false) rfl)))) (.cons (hb_suite (ie := 4) kr_t rfl (fun c x => b_ret kr_r rfl (eo_and (eo_2 (eo_reprF (EP.eo ep_ev)) (eo_reprF (EP.eo (ep_var (v := law_part) 3 rfl))) (o_eqS false)) (EP.eo ep_rb)))) (.nil)) (by decide)
noncomputable def p_law (law_script : Scr) : W Bool := bnd (bnd (pur (if (if (law_script.ns.length : Int) < (8 : Int) then (law_script.ns.length : Int) else (8 : Int)) > (1 : Int) then (if (law_script.ns.length : Int) < (8 : Int) then (law_script.ns.length : Int) else (8 : Int)) else (1 : Int))) fun n100001 => lft (rgW 0 n100001)) fun xs100143 => bnd (forF (ρ := Bool) (fun (b100002 : Unit) (x100003 : Int) => bnd (lft (grdC (decide (0 ≤ x100003) && decide (x100003 < 100)))) fun _ => bnd (bnd (pur (1 : Int)) fun x100006 => bnd (bnd (pur ((8 : Int), ())) fun v100005 => takeW v100005.1) fun y100007 => pur (x100006 + y100007)) fun (law_many100004 : Int) => bnd (bnd (pur ()) fun v100009 => p__law_base ) fun (law_base_here100008 : Int) => bnd (bnd (pur (law_many100004, ((12 : Int), ()))) fun v100011 => p__law_pairs v100011.1 v100011.2.1) fun (law_pairs_here100010 : (List (Int × Int))) => bnd (bnd (pur law_pairs_here100010) fun xs100015 => lcM xs100015 (fun (x100013 : (Int × Int)) => pur true) (fun (x100013 : (Int × Int)) => bnd (pur (law_base_here100008, ())) fun v100014 => p__law_residue v100014.1)) fun (law_old100012 : (List Int)) => bnd (lft (p_Web___init__ law_many100004 law_pairs_here100010 law_base_here100008)) fun (law_web100016 : OWeb) => bnd (bnd (bnd (pur ((Dt.of law_web100016), ((Dt.of law_old100012), ()))) fun v100018 => pur ([v100018.1, v100018.2.1] : List Dt)) fun v100019 => lft (castE (reprO (enc v100019)) : E Str)) fun (law_kept100017 : Str) => bnd (lft (p__law_divisors law_base_here100008)) fun (law_good100020 : (List Int)) => bnd (pur law_good100020) fun xs100141 => bnd (forF (ρ := Bool) (fun (b100028 : Unit) (x100029 : Int) => bnd (lft (p_reduced law_web100016 x100029)) fun (law_less100030 : OWeb) => bnd (bnd (pur (!true)) fun z100055 => if z100055 = true then pur true else (bnd (pur law_less100030) fun x100052 => bnd (lft (p_Web___init__ law_many100004 law_pairs_here100010 x100029)) fun y100053 => bnd (lft (p_Web___eq___v x100052 y100053)) fun t100054 => pur (!t100054))) fun z => if z = true then (bnd (pur false) fun r100056 => pur (Fw.rt r100056)) else (bnd (bnd (pur (law_web100016, (law_old100012, (x100029, ())))) fun v100071 => lft (p_reduced_gains_v v100071.1 v100071.2.1 v100071.2.2.1)) fun (law_found100057 : (List Int)) => bnd (bnd (lft (rprY law_found100057)) fun (x100066 : Str) => bnd (bnd (bnd (pur law_old100012) fun xs100064 => lcM xs100064 (fun (x100063 : Int) => pur true) (fun (x100063 : Int) => lft (modZ x100063 x100029))) fun v100065 => lft (castE (reprE (enc v100065)) : E Str)) fun (y100067 : Str) => lft (eqS true x100066 y100067)) fun z => if z = true then (bnd (pur false) fun r100068 => pur (Fw.rt r100068)) else (bnd (pur (Dt.of ())) fun v100069 => bnd (lft (appL (List.map Dt.of law_found100057) v100069)) fun law_found100070 => pur (Fw.nx ())))) xs100141 ()) (outF (fun (b100028 : Unit) => bnd (bnd (bnd (bnd (bnd (pur (-(2 : Int))) fun n100073 => bnd (pur (64 : Int)) fun n100074 => lft (rgW n100073 n100074)) fun xs100076 => lcM xs100076 (fun (x100075 : Int) => pur (true ^^ inI x100075 law_good100020)) (fun (x100075 : Int) => pur x100075)) fun v100077 => pur (List.map Dt.of v100077)) fun xs100078 => bnd (pur ([(Dt.of ()), (Dt.of true), (Dt.of false), (Dt.of ("2" : Str)), (Dt.of ([(2 : Int)] : List Int)), (Dt.of (T1.mk (3 : Int))), (Dt.of (1000000000000000000000000000000 : Int))] : List Dt)) fun ys100079 => lft (catL xs100078 ys100079)) fun (law_odd100072 : (List Dt)) => bnd (pur law_odd100072) fun xs100140 => bnd (forF (ρ := Bool) (fun (b100080 : Unit) (x100081 : Dt) => bnd (bnd (bnd (lft (p__law_refused (0 : Int) law_web100016 law_old100012 x100081)) fun z100131 => pur (!z100131)) fun z100133 => if z100133 = true then pur true else (bnd (lft (p__law_refused (1 : Int) law_web100016 law_old100012 x100081)) fun z100132 => pur (!z100132))) fun z => if z = true then (bnd (pur false) fun r100134 => pur (Fw.rt r100134)) else (pur (Fw.nx ()))) xs100140 ()) (outF (fun (b100080 : Unit) => bnd (bnd (bnd (bnd (pur ((Dt.of law_web100016), ((Dt.of law_old100012), ()))) fun v100135 => pur ([v100135.1, v100135.2.1] : List Dt)) fun v100136 => lft (castE (reprO (enc v100136)) : E Str)) fun (x100137 : Str) => bnd (pur law_kept100017) fun (y100138 : Str) => lft (eqS true x100137 y100138)) fun z => if z = true then (bnd (pur false) fun r100139 => pur (Fw.rt r100139)) else (pur (Fw.nx ()))) (fun xs100140r => pur (Fw.rt xs100140r)))) (fun xs100141r => pur (Fw.rt xs100141r)))) xs100143 ()) (outF (fun (b100002 : Unit) => bnd (pur true) fun r100142 => pur (id r100142)) (fun xs100143r => pur (id xs100143r)))
theorem t_law (law_script : Scr) : Ret false [] (F_law [enc law_script]) (p_law law_script) := by
  refine ret_def (n := 16) (g := g_law) (l := [enc law_script]) (by exact Nat.le_of_ble_eq_true rfl) (fun M0 => ?_)
  unfold g_law p_law
  exact b_wk (fs' := [.v law_script, .any, .any, .any, .any, .any, .any, .any, .any, .any, .any, .any, .any, .any, .any, .any]) (wk_s (wk_a (wk_a (wk_a (wk_a (wk_a (wk_a (wk_a (wk_a (wk_a (wk_a (wk_a (wk_a (wk_a (wk_a (wk_a wk_n)))))))))))))))) (b_forF (b0 := ()) (fsL := fun (b100002 : Unit) => [.v law_script, .any, .any, .any, .any, .any, .any, .any, .any, .any, .any, .any, .any, .any, .any, .any]) kr_t (io_range1 (EP.eo (ep_c2 (ap_cons (ep_c (v := (1 : Int)) rfl) (ap_cons (ep_c2 (ap_cons (ep_c (v := (8 : Int)) rfl) (ap_cons (ep_len (xs := law_script.ns) (EP.ev (ep_var (v := law_script) 0 rfl) rfl) rfl) ap_nil)) (o_min _ _)) ap_nil)) (o_max _ _)))) (wk_s (wk_a (wk_a (wk_a (wk_a (wk_a (wk_a (wk_a (wk_a (wk_a (wk_a (wk_a (wk_a (wk_a (wk_a (wk_a wk_n)))))))))))))))) (fun b100002 x100003 => tg_nm 1 x100003) (fun b100002 x100003 => b_wk (fs' := [.v law_script, .v x100003, .any, .any, .any, .any, .any, .any, .any, .any, .any, .any, .any, .any, .any, .any]) (wk_s (wk_s (wk_a (wk_a (wk_a (wk_a (wk_a (wk_a (wk_a (wk_a (wk_a (wk_a (wk_a (wk_a (wk_a (wk_a wk_n)))))))))))))))) (b_newPoolG (i := 2) (b := (decide (0 ≤ x100003) && decide (x100003 < 100))) (ap_cons (ep_var (v := law_script) 0 rfl) (ap_cons (ep_var (v := x100003) 1 rfl) ap_nil)) (t__law_poolG_v law_script x100003) rfl (b_wk (fs' := [.v law_script, .v x100003, .lpl, .any, .any, .any, .any, .any, .any, .any, .any, .any, .any, .any, .any, .any]) (wk_s (wk_s (wk_s (wk_a (wk_a (wk_a (wk_a (wk_a (wk_a (wk_a (wk_a (wk_a (wk_a (wk_a (wk_a (wk_a wk_n)))))))))))))))) (b_asg (i := 3) (eo_add (EP.eo (ep_c (v := (1 : Int)) rfl)) (eo_pool (i := 2) rfl (.inl rfl) (AP.ao (ap_cons (ep_c (v := (8 : Int)) rfl) ap_nil)) (fun pc v100005 => t__law_take pc v100005.1) (fun _ => rfl))) (fun law_many100004 => b_wk (fs' := [.v law_script, .v x100003, .lpl, .v law_many100004, .any, .any, .any, .any, .any, .any, .any, .any, .any, .any, .any, .any]) (wk_s (wk_s (wk_s (wk_s (wk_a (wk_a (wk_a (wk_a (wk_a (wk_a (wk_a (wk_a (wk_a (wk_a (wk_a (wk_a wk_n)))))))))))))))) (b_asg (i := 4) (eo_pool (i := 2) rfl (.inl rfl) (AP.ao ap_nil) (fun pc v100009 => t__law_base pc ) (fun _ => rfl)) (fun law_base_here100008 => b_wk (fs' := [.v law_script, .v x100003, .lpl, .v law_many100004, .v law_base_here100008, .any, .any, .any, .any, .any, .any, .any, .any, .any, .any, .any]) (wk_s (wk_s (wk_s (wk_s (wk_s (wk_a (wk_a (wk_a (wk_a (wk_a (wk_a (wk_a (wk_a (wk_a (wk_a (wk_a wk_n)))))))))))))))) (b_asg (i := 5) (eo_pool (i := 2) rfl (.inl rfl) (AP.ao (ap_cons (ep_var (v := law_many100004) 3 rfl) (ap_cons (ep_c (v := (12 : Int)) rfl) ap_nil))) (fun pc v100011 => t__law_pairs pc v100011.1 v100011.2.1) (fun _ => rfl)) (fun law_pairs_here100010 => b_wk (fs' := [.v law_script, .v x100003, .lpl, .v law_many100004, .v law_base_here100008, .v law_pairs_here100010, .any, .any, .any, .any, .any, .any, .any, .any, .any, .any]) (wk_s (wk_s (wk_s (wk_s (wk_s (wk_s (wk_a (wk_a (wk_a (wk_a (wk_a (wk_a (wk_a (wk_a (wk_a (wk_a wk_n)))))))))))))))) (b_val' (i := 6) (nl_lc (io_seq (EP.eo (ep_var (v := law_pairs_here100010) 5 rfl))) (fun x100013 => tg_nm 14 x100013) (fun x100013 => to_yes) (fun x100013 => eo_pool (i := 2) rfl (.inl rfl) (AP.ao (ap_cons (ep_var (v := law_base_here100008) 4 rfl) ap_nil)) (fun pc v100014 => t__law_residue pc v100014.1) (fun _ => rfl)) (fun x100013 => ci_v (ci_v (ci_s (ci_v (ci_v (ci_v (ci_v (ci_v (ci_v (ci_v (ci_v (ci_v (ci_v (ci_v (ci_v (ci_v ci_n))))))))))))))))) (fun law_old100012 => b_wk (fs' := [.v law_script, .v x100003, .lpl, .v law_many100004, .v law_base_here100008, .v law_pairs_here100010, .v law_old100012, .any, .any, .any, .any, .any, .any, .any, .any, .any]) (wk_s (wk_s (wk_s (wk_s (wk_s (wk_s (wk_s (wk_a (wk_a (wk_a (wk_a (wk_a (wk_a (wk_a (wk_a (wk_a wk_n)))))))))))))))) (b_asg (i := 7) (eo_make (ap_cons (ep_var (v := law_many100004) 3 rfl) (ap_cons (ep_var (v := law_pairs_here100010) 5 rfl) ap_nil)) (ap_cons (ep_var (v := law_base_here100008) 4 rfl) ap_nil) (t_Web___init__ law_many100004 law_pairs_here100010 law_base_here100008) rfl rfl) (fun law_web100016 => b_wk (fs' := [.v law_script, .v x100003, .lpl, .v law_many100004, .v law_base_here100008, .v law_pairs_here100010, .v law_old100012, .v law_web100016, .any, .any, .any, .any, .any, .any, .any, .any]) (wk_s (wk_s (wk_s (wk_s (wk_s (wk_s (wk_s (wk_s (wk_a (wk_a (wk_a (wk_a (wk_a (wk_a (wk_a (wk_a wk_n)))))))))))))))) (b_asg (i := 8) (eo_reprO (eo_frz (f := fun v100018 => ([v100018.1, v100018.2.1] : List Dt)) (no_new (n := 2) (AP.ao (ap_cons (ep_dat (ep_var (v := law_web100016) 7 rfl)) (ap_cons (ep_dat (ep_var (v := law_old100012) 6 rfl)) ap_nil))) (fun _ => rfl)) (fun _ => rfl) (fun _ => .inl rfl))) (fun law_kept100017 => b_wk (fs' := [.v law_script, .v x100003, .lpl, .v law_many100004, .v law_base_here100008, .v law_pairs_here100010, .v law_old100012, .v law_web100016, .v law_kept100017, .any, .any, .any, .any, .any, .any, .any]) (wk_s (wk_s (wk_s (wk_s (wk_s (wk_s (wk_s (wk_s (wk_s (wk_a (wk_a (wk_a (wk_a (wk_a (wk_a (wk_a wk_n)))))))))))))))) (b_asg (i := 9) (eo_callp (ap_cons (ep_var (v := law_base_here100008) 4 rfl) ap_nil) (t__law_divisors law_base_here100008) rfl) (fun law_good100020 => b_wk (fs' := [.v law_script, .v x100003, .lpl, .v law_many100004, .v law_base_here100008, .v law_pairs_here100010, .v law_old100012, .v law_web100016, .v law_kept100017, .v law_good100020, .any, .any, .any, .any, .any, .any]) (wk_s (wk_s (wk_s (wk_s (wk_s (wk_s (wk_s (wk_s (wk_s (wk_s (wk_a (wk_a (wk_a (wk_a (wk_a (wk_a wk_n)))))))))))))))) (b_forF (b0 := ()) (fsL := fun (b100028 : Unit) => [.v law_script, .v x100003, .lpl, .v law_many100004, .v law_base_here100008, .v law_pairs_here100010, .v law_old100012, .v law_web100016, .v law_kept100017, .v law_good100020, .any, .any, .any, .any, .any, .any]) kr_f (io_seq (EP.eo (ep_var (v := law_good100020) 9 rfl))) (wk_s (wk_s (wk_s (wk_s (wk_s (wk_s (wk_s (wk_s (wk_s (wk_s (wk_a (wk_a (wk_a (wk_a (wk_a (wk_a wk_n)))))))))))))))) (fun b100028 x100029 => tg_nm 10 x100029) (fun b100028 x100029 => b_wk (fs' := [.v law_script, .v x100003, .lpl, .v law_many100004, .v law_base_here100008, .v law_pairs_here100010, .v law_old100012, .v law_web100016, .v law_kept100017, .v law_good100020, .v x100029, .any, .any, .any, .any, .any]) (wk_s (wk_s (wk_s (wk_s (wk_s (wk_s (wk_s (wk_s (wk_s (wk_s (wk_s (wk_a (wk_a (wk_a (wk_a (wk_a wk_n)))))))))))))))) (b_asg (i := 11) (eo_callp (ap_cons (ep_var (v := law_web100016) 7 rfl) (ap_cons (ep_var (v := x100029) 10 rfl) ap_nil)) (t_reduced law_web100016 x100029) rfl) (fun law_less100030 => b_wk (fs' := [.v law_script, .v x100003, .lpl, .v law_many100004, .v law_base_here100008, .v law_pairs_here100010, .v law_old100012, .v law_web100016, .v law_kept100017, .v law_good100020, .v x100029, .v law_less100030, .any, .any, .any, .any]) (wk_s (wk_s (wk_s (wk_s (wk_s (wk_s (wk_s (wk_s (wk_s (wk_s (wk_s (wk_s (wk_a (wk_a (wk_a (wk_a wk_n)))))))))))))))) (b_ifD (to_or (TP.to (tp_not (tp_tru (ep_isO (ep_var (v := law_less100030) 11 rfl) rfl (by decide))))) (to_b (eo_neO (EP.eo (ep_var (v := law_less100030) 11 rfl)) (eo_make (ap_cons (ep_var (v := law_many100004) 3 rfl) (ap_cons (ep_var (v := law_pairs_here100010) 5 rfl) ap_nil)) (ap_cons (ep_var (v := x100029) 10 rfl) ap_nil) (t_Web___init__ law_many100004 law_pairs_here100010 x100029) rfl rfl) (fun _ => rfl) (fun _ => rfl) (by decide) (by decide) (fun x100052 y100053 => t_Web___eq___v x100052 y100053)))) (b_wk (fs' := [.v law_script, .v x100003, .lpl, .v law_many100004, .v law_base_here100008, .v law_pairs_here100010, .v law_old100012, .v law_web100016, .v law_kept100017, .v law_good100020, .v x100029, .v law_less100030, .any, .any, .any, .any]) (wk_s (wk_s (wk_s (wk_s (wk_s (wk_s (wk_s (wk_s (wk_s (wk_s (wk_s (wk_s (wk_a (wk_a (wk_a (wk_a wk_n)))))))))))))))) (b_retS kr_f rfl (EP.eo (ep_c (v := false) rfl)))) (b_skip (b_wk (fs' := [.v law_script, .v x100003, .lpl, .v law_many100004, .v law_base_here100008, .v law_pairs_here100010, .v law_old100012, .v law_web100016, .v law_kept100017, .v law_good100020, .v x100029, .v law_less100030, .any, .any, .any, .any]) (wk_s (wk_s (wk_s (wk_s (wk_s (wk_s (wk_s (wk_s (wk_s (wk_s (wk_s (wk_s (wk_a (wk_a (wk_a (wk_a wk_n)))))))))))))))) (b_callC (i := 12) (AP.ao (ap_cons (ep_var (v := law_web100016) 7 rfl) (ap_cons (ep_var (v := law_old100012) 6 rfl) (ap_cons (ep_var (v := x100029) 10 rfl) ap_nil)))) (fun v100071 => t_reduced_gains_v v100071.1 v100071.2.1 v100071.2.2.1) (fun _ => rfl) (fun law_found100057 => b_wk (fs' := [.v law_script, .v x100003, .lpl, .v law_many100004, .v law_base_here100008, .v law_pairs_here100010, .v law_old100012, .v law_web100016, .v law_kept100017, .v law_good100020, .v x100029, .v law_less100030, .L law_found100057, .any, .any, .any]) (wk_s (wk_s (wk_s (wk_s (wk_s (wk_s (wk_s (wk_s (wk_s (wk_s (wk_s (wk_s (wk_s (wk_a (wk_a (wk_a wk_n)))))))))))))))) (b_ifD (to_b (eo_2 (eo_reprY (ey_cell 12 rfl)) (eo_reprC (eo_lst (nl_lc (io_seq (EP.eo (ep_var (v := law_old100012) 6 rfl))) (fun x100063 => tg_nm 15 x100063) (fun x100063 => to_yes) (fun x100063 => eo_2p (ep_var (v := x100063) 15 rfl) (ep_var (v := x100029) 10 rfl) (o_mod _ _)) (fun x100063 => ci_v (ci_v (ci_s (ci_v (ci_v (ci_v (ci_v (ci_v (ci_v (ci_v (ci_v (ci_v (ci_s (ci_v (ci_v (ci_v ci_n))))))))))))))))))) (o_eqS true))) (b_wk (fs' := [.v law_script, .v x100003, .lpl, .v law_many100004, .v law_base_here100008, .v law_pairs_here100010, .v law_old100012, .v law_web100016, .v law_kept100017, .v law_good100020, .v x100029, .v law_less100030, .L law_found100057, .any, .any, .any]) (wk_s (wk_s (wk_s (wk_s (wk_s (wk_s (wk_s (wk_s (wk_s (wk_s (wk_s (wk_s (wk_s (wk_a (wk_a (wk_a wk_n)))))))))))))))) (b_retS kr_f rfl (EP.eo (ep_c (v := false) rfl)))) (b_skip (b_wk (fs' := [.v law_script, .v x100003, .lpl, .v law_many100004, .v law_base_here100008, .v law_pairs_here100010, .v law_old100012, .v law_web100016, .v law_kept100017, .v law_good100020, .v x100029, .v law_less100030, .L law_found100057, .any, .any, .any]) (wk_s (wk_s (wk_s (wk_s (wk_s (wk_s (wk_s (wk_s (wk_s (wk_s (wk_s (wk_s (wk_s (wk_a (wk_a (wk_a wk_n)))))))))))))))) (b_last (b_appD (i := 12) rfl (EP.eo (ep_dat (ep_c (v := ()) rfl))) (fun law_found100070 => b_endF () (wk_s (wk_s (wk_s (wk_s (wk_s (wk_s (wk_s (wk_s (wk_s (wk_s (wk_a (wk_a (wk_a (wk_a (wk_a (wk_a wk_n)))))))))))))))))))))))))))))) (fun b100028 => b_wk (fs' := [.v law_script, .v x100003, .lpl, .v law_many100004, .v law_base_here100008, .v law_pairs_here100010, .v law_old100012, .v law_web100016, .v law_kept100017, .v law_good100020, .any, .any, .any, .any, .any, .any]) (wk_s (wk_s (wk_s (wk_s (wk_s (wk_s (wk_s (wk_s (wk_s (wk_s (wk_a (wk_a (wk_a (wk_a (wk_a (wk_a wk_n)))))))))))))))) (b_asg (i := 13) (eo_lst (nl_cat (eo_datL (eo_lst (nl_lc (io_range2 (EP.eo (ep_1 (ep_c (v := (2 : Int)) rfl) (o_neg _))) (EP.eo (ep_c (v := (64 : Int)) rfl))) (fun x100075 => tg_nm 10 x100075) (fun x100075 => TP.to (tp_b (ep_in (neg := true) (ep_var (v := x100075) 10 rfl) (EP.ls (ep_var (v := law_good100020) 9 rfl)) rfl))) (fun x100075 => EP.eo (ep_var (v := x100075) 10 rfl)) (fun x100075 => ci_v (ci_v (ci_s (ci_v (ci_v (ci_v (ci_v (ci_v (ci_v (ci_v (ci_v (ci_v (ci_v (ci_v (ci_v (ci_v ci_n))))))))))))))))))) (EP.eo (ep_lst (xs := ([(Dt.of ()), (Dt.of true), (Dt.of false), (Dt.of ("2" : Str)), (Dt.of ([(2 : Int)] : List Int)), (Dt.of (T1.mk (3 : Int))), (Dt.of (1000000000000000000000000000000 : Int))] : List Dt)) (np_new (n := 7) (ap_cons (ep_dat (ep_c (v := ()) rfl)) (ap_cons (ep_dat (ep_c (v := true) rfl)) (ap_cons (ep_dat (ep_c (v := false) rfl)) (ap_cons (ep_dat (ep_c (v := ("2" : Str)) rfl)) (ap_cons (ep_dat (ep_lst (xs := ([(2 : Int)] : List Int)) (np_new (n := 1) (ap_cons (ep_c (v := (2 : Int)) rfl) ap_nil) rfl))) (ap_cons (ep_dat (ep_frt (v := (T1.mk (3 : Int))) (np_new (n := 1) (ap_cons (ep_c (v := (3 : Int)) rfl) ap_nil) rfl) rfl)) (ap_cons (ep_dat (ep_2 (ep_c (v := (10 : Int)) rfl) (ep_c (v := (30 : Int)) rfl) (o_pow _ _ (1000000000000000000000000000000 : Int) ⟨by decide, by decide, by decide⟩ (by decide +kernel)))) ap_nil))))))) rfl))))) (fun law_odd100072 => b_wk (fs' := [.v law_script, .v x100003, .lpl, .v law_many100004, .v law_base_here100008, .v law_pairs_here100010, .v law_old100012, .v law_web100016, .v law_kept100017, .v law_good100020, .any, .any, .any, .v law_odd100072, .any, .any]) (wk_s (wk_s (wk_s (wk_s (wk_s (wk_s (wk_s (wk_s (wk_s (wk_s (wk_a (wk_a (wk_a (wk_s (wk_a (wk_a wk_n)))))))))))))))) (b_forF (b0 := ()) (fsL := fun (b100080 : Unit) => [.v law_script, .v x100003, .lpl, .v law_many100004, .v law_base_here100008, .v law_pairs_here100010, .v law_old100012, .v law_web100016, .v law_kept100017, .v law_good100020, .any, .any, .any, .v law_odd100072, .any, .any]) kr_f (io_seq (EP.eo (ep_var (v := law_odd100072) 13 rfl))) (wk_s (wk_s (wk_s (wk_s (wk_s (wk_s (wk_s (wk_s (wk_s (wk_s (wk_a (wk_a (wk_a (wk_s (wk_a (wk_a wk_n)))))))))))))))) (fun b100080 x100081 => tg_nm 10 x100081) (fun b100080 x100081 => b_wk (fs' := [.v law_script, .v x100003, .lpl, .v law_many100004, .v law_base_here100008, .v law_pairs_here100010, .v law_old100012, .v law_web100016, .v law_kept100017, .v law_good100020, .v x100081, .any, .any, .v law_odd100072, .any, .any]) (wk_s (wk_s (wk_s (wk_s (wk_s (wk_s (wk_s (wk_s (wk_s (wk_s (wk_s (wk_a (wk_a (wk_s (wk_a (wk_a wk_n)))))))))))))))) (b_if (to_or (to_not (to_tru (eo_callp (ap_cons (ep_c (v := (0 : Int)) rfl) (ap_cons (ep_var (v := law_web100016) 7 rfl) (ap_cons (ep_var (v := law_old100012) 6 rfl) (ap_cons (ep_var (v := x100081) 10 rfl) ap_nil)))) (t__law_refused (0 : Int) law_web100016 law_old100012 x100081) rfl))) (to_not (to_tru (eo_callp (ap_cons (ep_c (v := (1 : Int)) rfl) (ap_cons (ep_var (v := law_web100016) 7 rfl) (ap_cons (ep_var (v := law_old100012) 6 rfl) (ap_cons (ep_var (v := x100081) 10 rfl) ap_nil)))) (t__law_refused (1 : Int) law_web100016 law_old100012 x100081) rfl)))) (b_wk (fs' := [.v law_script, .v x100003, .lpl, .v law_many100004, .v law_base_here100008, .v law_pairs_here100010, .v law_old100012, .v law_web100016, .v law_kept100017, .v law_good100020, .v x100081, .any, .any, .v law_odd100072, .any, .any]) (wk_s (wk_s (wk_s (wk_s (wk_s (wk_s (wk_s (wk_s (wk_s (wk_s (wk_s (wk_a (wk_a (wk_s (wk_a (wk_a wk_n)))))))))))))))) (b_ret kr_f rfl (EP.eo (ep_c (v := false) rfl)))) (b_endF () (wk_s (wk_s (wk_s (wk_s (wk_s (wk_s (wk_s (wk_s (wk_s (wk_s (wk_a (wk_a (wk_a (wk_s (wk_a (wk_a wk_n))))))))))))))))))) (fun b100080 => b_wk (fs' := [.v law_script, .v x100003, .lpl, .v law_many100004, .v law_base_here100008, .v law_pairs_here100010, .v law_old100012, .v law_web100016, .v law_kept100017, .v law_good100020, .any, .any, .any, .v law_odd100072, .any, .any]) (wk_s (wk_s (wk_s (wk_s (wk_s (wk_s (wk_s (wk_s (wk_s (wk_s (wk_a (wk_a (wk_a (wk_s (wk_a (wk_a wk_n)))))))))))))))) (b_if (to_b (eo_2 (eo_reprO (eo_frz (f := fun v100135 => ([v100135.1, v100135.2.1] : List Dt)) (no_new (n := 2) (AP.ao (ap_cons (ep_dat (ep_var (v := law_web100016) 7 rfl)) (ap_cons (ep_dat (ep_var (v := law_old100012) 6 rfl)) ap_nil))) (fun _ => rfl)) (fun _ => rfl) (fun _ => .inl rfl))) (EP.eo (ep_var (v := law_kept100017) 8 rfl)) (o_eqS true))) (b_wk (fs' := [.v law_script, .v x100003, .lpl, .v law_many100004, .v law_base_here100008, .v law_pairs_here100010, .v law_old100012, .v law_web100016, .v law_kept100017, .v law_good100020, .any, .any, .any, .v law_odd100072, .any, .any]) (wk_s (wk_s (wk_s (wk_s (wk_s (wk_s (wk_s (wk_s (wk_s (wk_s (wk_a (wk_a (wk_a (wk_s (wk_a (wk_a wk_n)))))))))))))))) (b_ret kr_f rfl (EP.eo (ep_c (v := false) rfl)))) (b_endF () (wk_s (wk_a (wk_a (wk_a (wk_a (wk_a (wk_a (wk_a (wk_a (wk_a (wk_a (wk_a (wk_a (wk_a (wk_a (wk_a wk_n))))))))))))))))))))))))))))))))))))))))) (fun b100002 => b_wk (fs' := [.v law_script, .any, .any, .any, .any, .any, .any, .any, .any, .any, .any, .any, .any, .any, .any, .any]) (wk_s (wk_a (wk_a (wk_a (wk_a (wk_a (wk_a (wk_a (wk_a (wk_a (wk_a (wk_a (wk_a (wk_a (wk_a (wk_a wk_n)))))))))))))))) (b_ret kr_t rfl (EP.eo (ep_c (v := true) rfl)))))
end Lw

set_option Elab.async false
set_option linter.all false
set_option maxRecDepth 100000
set_option maxHeartbeats 1000000
/-! YA: working out typed pieces. -/
namespace TL
open PySem L2 DL
open Mo (pur bnd lft)
theorem bndWa {α β : Type} (x : W α) (k : α → W β) (Q : β → Prop) (X : Str → D → Prop) : bnd x k Q X = x (fun a => k a Q X) X := by rw [bndW]
theorem purWa {α : Type} (a : α) (Q : α → Prop) (X : Str → D → Prop) : (pur a : W α) Q X = Q a := by rw [purW]
theorem lftWa {α : Type} (x : E α) (Q : α → Prop) (X : Str → D → Prop) : (lft x : W α) Q X = x.wp Q X := by rw [lftW]
theorem trWa {α : Type} (x : W α) (k : Str → D → W α) (Q : α → Prop) (X : Str → D → Prop) : Mo.tr x k Q X = x Q (fun c d => k c d Q X) := by rw [trW]
theorem pur_bnd {α β : Type} (a : α) (k : α → E β) : bnd (pur a) k = k a := by rw [bndE, purE]; rfl
theorem lok_bnd {α β : Type} (a : α) (k : α → E β) : bnd (lft (E.ok a)) k = k a := by rw [bndE, lftE]; rfl
theorem ok_bndE {α β : Type} (a : α) (k : α → E β) : bnd (E.ok a) k = k a := by rw [bndE]; rfl
theorem pur_bndW {α β : Type} (a : α) (k : α → W β) : bnd (pur a) k = k a := by rw [bndW, purW]
theorem lok_bndW {α β : Type} (a : α) (k : α → W β) : bnd (lft (E.ok a)) k = k a := by rw [bndW, lftW]; rfl
theorem bnd_assoc {α β γ : Type} (x : E α) (k : α → E β) (j : β → E γ) : bnd (bnd x k) j = bnd x fun a => bnd (k a) j := by
  simp only [bndE]; cases x <;> rfl
theorem bnd_assocW {α β γ : Type} (x : W α) (k : α → W β) (j : β → W γ) : bnd (bnd x k) j = bnd x fun a => bnd (k a) j := by
  simp only [bndW]
theorem sl_small {n : Nat} (h : n ≤ 10000) : n ≤ sizeLine := Nat.le_trans h (by decide)
theorem at_nat' {α : Type} (xs : List α) (k : Nat) : atI xs (k : Int) = xs[k]? := by
  unfold atI ixN
  rw [if_pos (by omega)]
  by_cases h : k < xs.length
  · rw [if_pos (by omega)]; simp
  · rw [if_neg (by omega)]; simp; omega
theorem ixL_nat {α : Type} {xs : List α} {k : Nat} {a : α} (h : xs[k]? = some a) : ixL xs (k : Int) = .ok a := by
  unfold ixL
  rw [at_nat', h]
theorem ixL_lt {α : Type} [Inhabited α] {xs : List α} {i : Int} (h0 : 0 ≤ i) (h1 : i < xs.length) : ixL xs i = .ok (xs.getD i.toNat default) := by
  obtain ⟨k, rfl⟩ := Int.eq_ofNat_of_zero_le h0
  have hk : k < xs.length := by omega
  refine (ixL_nat (a := xs[k]) (List.getElem?_eq_getElem hk)).trans ?_
  simp [hk]
theorem appL_ok {α : Type} {xs : List α} {x : α} (h : xs.length < 10000) : appL xs x = .ok (xs ++ [x]) := by
  unfold appL
  exact if_pos (Nat.lt_of_lt_of_le h (by decide))
theorem catL_ok {α : Type} {xs ys : List α} (h : xs.length + ys.length ≤ 10000) : catL xs ys = .ok (xs ++ ys) := by
  unfold catL
  exact if_pos (sl_small h)
theorem rgI_small {a b : Int} (h0 : -1000000 ≤ a) (h1 : a ≤ 1000000) (h2 : -1000000 ≤ b) (h3 : b ≤ 1000000) : RgI a b :=
  ⟨Int.le_trans (by decide) h0, Int.lt_of_le_of_lt h1 (by decide), Int.le_trans (by decide) h2, Int.lt_of_le_of_lt h3 (by decide)⟩
theorem rgW_ok {a b : Int} (h0 : -1000000 ≤ a) (h1 : a ≤ 1000000) (h2 : -1000000 ≤ b) (h3 : b ≤ 1000000) : rgW a b = .ok (rg a b) := by
  unfold rgW
  exact @if_pos _ (Classical.propDecidable _) (rgI_small h0 h1 h2 h3) _ _ _
theorem rgL_ok {n : Int} (h2 : 0 ≤ n) (h3 : n ≤ 4096) : rgL 0 n = .ok (rg 0 n) := by
  unfold rgL
  exact @if_pos _ (Classical.propDecidable _) (RgOk.of_le (Int.le_refl 0) (Int.le_trans h3 (by decide)) (by decide) h2) _ _ _
theorem rg_len (n : Int) : (rg 0 n).length = n.toNat := by unfold rg; simp
theorem rg_mem {n i : Int} : i ∈ rg 0 n ↔ 0 ≤ i ∧ i < n := by
  unfold rg
  simp only [List.mem_map, List.mem_range]
  constructor
  · rintro ⟨k, hk, rfl⟩; omega
  · rintro ⟨h0, h1⟩; exact ⟨i.toNat, by omega, by omega⟩
theorem lenG_ok {n : Nat} (h : n ≤ 10000) : lenG (n : Int) = .ok (n : Int) := by
  unfold lenG
  rw [if_pos (lenB_iff.mpr ⟨by omega, by omega⟩)]
theorem modZ_eq {x m : Int} (h : 0 < m) : modZ x m = .ok (x % m) := if_pos h
theorem ex_then {α β : Type} {x : E α} {k : α → E β} {J : α → Prop} {P : β → Prop} (h : ∃ r, x = .ok r ∧ J r) (h2 : ∀ r, J r → ∃ p, k r = .ok p ∧ P p) : ∃ p, bnd x k = .ok p ∧ P p := by
  obtain ⟨r, e, j⟩ := h
  rw [e, ok_bndE]
  exact h2 r j
/-! ### loops -/
/-- with an invariant that goes along -/
theorem forM_inv {α β : Type} {st : β → α → E β} (J : List α → β → Prop) {xs : List α} {b : β} (h0 : J [] b) (h : ∀ pre x post b, xs = pre ++ x :: post → J pre b → ∃ b', st b x = .ok b' ∧ J (pre ++ [x]) b') : ∃ b', forM st xs b = .ok b' ∧ J xs b' := by
  have gen : ∀ (post pre : List α) (b : β), xs = pre ++ post → J pre b → ∃ b', forM st post b = .ok b' ∧ J xs b' := by
    intro post
    induction post with
    | nil => intro pre b e j; rw [List.append_nil] at e; subst e; exact ⟨b, by rw [forM, purE], j⟩
    | cons x post ih =>
      intro pre b e j
      obtain ⟨b', h1, j'⟩ := h pre x post b e j
      obtain ⟨b'', h2, j''⟩ := ih (pre ++ [x]) b' (by rw [e]; simp) j'
      exact ⟨b'', by rw [forM, h1, ok_bndE]; exact h2, j''⟩
  exact gen xs [] b rfl h0
theorem forM_W {α β : Type} {st : β → α → W β} {Q : β → Prop} {X : Str → D → Prop} (J : List α → β → Prop) {xs : List α} {b : β} (h0 : J [] b) (h : ∀ pre x post b, xs = pre ++ x :: post → J pre b → ∀ Q' : β → Prop, (∀ b', J (pre ++ [x]) b' → Q' b') → st b x Q' X) (hq : ∀ b, J xs b → Q b) : forM st xs b Q X := by
  have gen : ∀ (post pre : List α) (b : β), xs = pre ++ post → J pre b → forM st post b Q X := by
    intro post
    induction post with
    | nil => intro pre b e j; rw [List.append_nil] at e; subst e; rw [forM, purWa]; exact hq b j
    | cons x post ih =>
      intro pre b e j
      rw [forM, bndWa]
      exact h pre x post b e j _ (fun b' j' => ih (pre ++ [x]) b' (by rw [e]; simp) j')
  exact gen xs [] b rfl h0
theorem forF_W {α β ρ : Type} {st : β → α → W (Fw β ρ)} {Q : β ⊕ ρ → Prop} {X : Str → D → Prop} (J : β → Prop) {xs : List α} {b : β} (h0 : J b) (h : ∀ b x, x ∈ xs → J b → ∀ Q' : Fw β ρ → Prop, (∀ b', J b' → Q' (.nx b')) → st b x Q' X) (hq : ∀ b, J b → Q (.inl b)) : forF st xs b Q X := by
  induction xs generalizing b with
  | nil => rw [forF, purWa]; exact hq b h0
  | cons x xs ih =>
    rw [forF, bndWa]
    exact h b x (by simp) h0 _ (fun b' j' => ih j' (fun b y hy => h b y (by simp [hy])))
/-! ### lists made -/
theorem nox_ok {α : Type} (a : α) : nox (E.ok a) = E.ok a := by unfold nox; rw [trE]; rfl
theorem comp_ok {α β : Type} {c : α → E Bool} {f : α → E β} (p : α → Bool) (g : α → β) : ∀ xs : List α, (∀ x ∈ xs, c x = .ok (p x) ∧ (p x = true → f x = .ok (g x))) → compM c f xs = .ok ((xs.filter p).map g)
  | [], _ => by rw [compM, purE]; rfl
  | x :: xs, h => by
    obtain ⟨h1, h2⟩ := h x (by simp)
    have ih := comp_ok p g xs (fun y hy => h y (by simp [hy]))
    rw [compM, h1, nox_ok, ok_bndE]
    cases q : p x with
    | true => rw [if_pos rfl, h2 q, nox_ok, ok_bndE, ih, ok_bndE, purE]; simp [q]
    | false => rw [if_neg (by decide), ih]; simp [q]
theorem lc_ok {α β : Type} {c : α → E Bool} {f : α → E β} (p : α → Bool) (g : α → β) {xs : List α} (hl : xs.length ≤ 10000) (h : ∀ x ∈ xs, c x = .ok (p x) ∧ (p x = true → f x = .ok (g x))) : lcM xs c f = .ok ((xs.filter p).map g) := by
  unfold lcM szL
  rw [if_pos (sl_small hl), lok_bnd, comp_ok p g xs h]
theorem lc_map {α β : Type} {f : α → E β} (g : α → β) {xs : List α} (hl : xs.length ≤ 10000) (h : ∀ x ∈ xs, f x = .ok (g x)) : lcM xs (fun _ => pur true) f = .ok (xs.map g) := by
  rw [lc_ok (fun _ => true) g hl (fun x hx => ⟨purE _, fun _ => h x hx⟩)]
  congr 2
  exact List.filter_eq_self.mpr (fun _ _ => rfl)
theorem comp_W {α β : Type} {f : α → W β} {Q : List β → Prop} {X : Str → D → Prop} (P : β → Prop) : ∀ (xs : List α), (∀ x ∈ xs, ∀ Q' : β → Prop, (∀ y, P y → Q' y) → f x Q' (fun _ _ => False)) → (∀ ys : List β, ys.length = xs.length → (∀ y ∈ ys, P y) → Q ys) → compM (fun _ => pur true) f xs Q X
  | [], _, hq => by rw [compM, purWa]; exact hq [] rfl (by simp)
  | x :: xs, h, hq => by
    have e : ∀ (Q : Bool → Prop) (X : Str → D → Prop), nox (pur true : W Bool) Q X = Q true := fun Q X => by unfold nox; rw [trWa, purWa]
    rw [compM, bndWa, e, if_pos rfl, bndWa]
    unfold nox
    rw [trWa]
    have hb : ∀ Q' : β → Prop, (fun (c : Str) (d : D) => (lft E.bad : W β) Q' X) = fun _ _ => False := fun Q' => by
      funext c d; rw [lftWa]; rfl
    rw [hb]
    refine h x (by simp) _ (fun y hy => ?_)
    rw [bndWa]
    refine comp_W P xs (fun z hz => h z (by simp [hz])) (fun ys hl hys => ?_)
    rw [purWa]
    exact hq (y :: ys) (by simp [hl]) (fun z hz => by
      rcases List.mem_cons.mp hz with rfl | hz
      · exact hy
      · exact hys z hz)
theorem lc_W {α β : Type} {f : α → W β} {Q : List β → Prop} {X : Str → D → Prop} (P : β → Prop) {xs : List α} (hl : xs.length ≤ 10000) (h : ∀ x ∈ xs, ∀ Q' : β → Prop, (∀ y, P y → Q' y) → f x Q' (fun _ _ => False)) (hq : ∀ ys : List β, ys.length = xs.length → (∀ y ∈ ys, P y) → Q ys) : lcM xs (fun _ => pur true) f Q X := by
  unfold lcM szL
  rw [if_pos (sl_small hl), lok_bndW]
  exact comp_W P xs h hq
theorem bndW_ok {α β : Type} {e : E α} {a : α} {k : α → W β} {Q : β → Prop} {X : Str → D → Prop} (h : e = .ok a) (hq : k a Q X) : bnd (lft e : W α) k Q X := by rw [h, lok_bndW]; exact hq

theorem ok_then {α β : Type} {x : E α} {r : α} {k : α → E β} {e : E β} (h : x = .ok r) (h2 : k r = e) : bnd x k = e := by rw [h, ok_bndE, h2]
theorem lokW {α : Type} (a : α) : (lft (E.ok a) : W α) = pur a := by rw [lftW, purW]; rfl
theorem noxW {α : Type} (a : α) : nox (pur a : W α) = pur a := by unfold nox; rw [trW, purW]
theorem comp_Wok {α β : Type} {c : α → W Bool} {f : α → W β} (p : α → Bool) (g : α → β) : ∀ xs : List α, (∀ x ∈ xs, c x = pur (p x) ∧ (p x = true → f x = pur (g x))) → compM c f xs = pur ((xs.filter p).map g)
  | [], _ => by rw [compM]; rfl
  | x :: xs, h => by
    obtain ⟨h1, h2⟩ := h x (by simp)
    have ih := comp_Wok p g xs (fun y hy => h y (by simp [hy]))
    rw [compM, h1, noxW, pur_bndW]
    cases q : p x with
    | true => rw [if_pos rfl, h2 q, noxW, pur_bndW, ih, pur_bndW]; simp [q]
    | false => rw [if_neg (by decide), ih]; simp [q]
theorem lc_Wok {α β : Type} {c : α → W Bool} {f : α → W β} (p : α → Bool) (g : α → β) {xs : List α} (hl : xs.length ≤ 10000) (h : ∀ x ∈ xs, c x = pur (p x) ∧ (p x = true → f x = pur (g x))) : lcM xs c f = pur ((xs.filter p).map g) := by
  unfold lcM szL
  rw [if_pos (sl_small hl), lok_bndW, comp_Wok p g xs h]
theorem lc_Wmap {α β : Type} {f : α → W β} (g : α → β) {xs : List α} (hl : xs.length ≤ 10000) (h : ∀ x ∈ xs, f x = pur (g x)) : lcM xs (fun _ => pur true) f = pur (xs.map g) := by
  rw [lc_Wok (fun _ => true) g hl (fun x hx => ⟨rfl, fun _ => h x hx⟩)]
  congr 2
  exact List.filter_eq_self.mpr (fun _ _ => rfl)
end TL

set_option Elab.async false
set_option linter.all false
set_option maxRecDepth 100000
set_option maxHeartbeats 1000000
/-! YB: congruence, walks, connection, components: no program in it. -/
namespace Lw
open PySem L2 DL TL
open Mo (pur bnd lft)
def isres (m t : Int) : Bool := if m = 0 then true else decide (0 ≤ t) && decide (t ≤ m - 1)
theorem cg_iff {m x y : Int} : x % m = y % m ↔ m ∣ x - y := by
  rw [Int.emod_eq_emod_iff_emod_sub_eq_zero]
  exact ⟨Int.dvd_of_emod_eq_zero, Int.emod_eq_zero_of_dvd⟩
theorem cg_mod (m x : Int) : m ∣ x % m - x := by
  rw [← cg_iff, Int.emod_emod_of_dvd _ (Int.dvd_refl m)]
theorem cg_trans {m x y z : Int} (h : m ∣ x - y) (k : m ∣ y - z) : m ∣ x - z := by
  have := Int.dvd_add h k
  rwa [show x - y + (y - z) = x - z by omega] at this
theorem cg_symm {m x y : Int} (h : m ∣ x - y) : m ∣ y - x := by
  have := Int.dvd_neg.mpr h
  rwa [show -(x - y) = y - x by omega] at this
theorem cg_refl (m x : Int) : m ∣ x - x := by rw [Int.sub_self]; exact Int.dvd_zero m
theorem isres_mod {m x : Int} (h0 : 0 ≤ m) : isres m (x % m) = true := by
  unfold isres
  by_cases h : m = 0
  · rw [if_pos h]
  · rw [if_neg h]
    have h1 := Int.emod_nonneg x h
    have h2 := Int.emod_lt_of_pos x (by omega : 0 < m)
    simp; omega
theorem mod_of_isres {m x : Int} (h0 : 0 ≤ m) (h : isres m x = true) : x % m = x := by
  unfold isres at h
  by_cases hm : m = 0
  · subst hm; exact Int.emod_zero x
  · rw [if_neg hm] at h
    simp at h
    exact Int.emod_eq_of_lt h.1 (by omega)
theorem isres0 (m : Int) (h : 0 ≤ m) : isres m 0 = true := by
  unfold isres
  by_cases e : m = 0
  · rw [if_pos e]
  · rw [if_neg e]; simp; omega
abbrev Edge := Int × Int
def edg (es : List Edge) (k : Int) : Edge := es.getD k.toNat (0, 0)
def ends (es : List Edge) (s : Int × Int) : Edge := if s.2 = 1 then edg es s.1 else ((edg es s.1).2, (edg es s.1).1)
structure StepOk (es : List Edge) (s : Int × Int) : Prop where
  k0 : 0 ≤ s.1
  k1 : s.1 < es.length
  way : s.2 = 1 ∨ s.2 = -1
def Leads (es : List Edge) : Int → List (Int × Int) → Int → Prop
  | a, [], b => a = b
  | a, s :: w, b => StepOk es s ∧ (ends es s).1 = a ∧ Leads es (ends es s).2 w b
theorem Leads.app {es : List Edge} : ∀ {w v : List (Int × Int)} {a b c : Int}, Leads es a w b → Leads es b v c → Leads es a (w ++ v) c
  | [], v, a, b, c, h, k => by unfold Leads at h; subst h; exact k
  | s :: w, v, a, b, c, h, k => ⟨h.1, h.2.1, Leads.app h.2.2 k⟩
theorem Leads.one {es : List Edge} {s : Int × Int} (h : StepOk es s) : Leads es (ends es s).1 [s] (ends es s).2 := ⟨h, rfl, rfl⟩
theorem step_rev {es : List Edge} {s : Int × Int} (h : StepOk es s) : StepOk es (s.1, 0 - s.2) ∧ ends es (s.1, 0 - s.2) = ((ends es s).2, (ends es s).1) := by
  refine ⟨⟨h.k0, h.k1, by rcases h.way with e | e <;> simp [e]⟩, ?_⟩
  unfold ends
  rcases h.way with e | e <;> simp [e]
theorem Leads.rev {es : List Edge} : ∀ {w : List (Int × Int)} {a b : Int}, Leads es a w b → Leads es b (w.reverse.map fun s => (s.1, 0 - s.2)) a
  | [], a, b, h => by unfold Leads at h; subst h; rfl
  | s :: w, a, b, h => by
    rw [List.reverse_cons, List.map_append]
    refine (Leads.rev h.2.2).app ?_
    obtain ⟨h1, h2⟩ := step_rev h.1
    have := Leads.one h1
    rw [h2] at this
    rw [← h.2.1]
    exact this
theorem Leads.all {es : List Edge} : ∀ {w : List (Int × Int)} {a b : Int}, Leads es a w b → ∀ s ∈ w, StepOk es s
  | [], _, _, _, s, hs => by simp at hs
  | t :: w, _, _, h, s, hs => by
    rcases List.mem_cons.mp hs with rfl | hs
    · exact h.1
    · exact h.2.2.all s hs
/-- the value at a place -/
def pv (p : List Int) (i : Int) : Int := p.getD i.toNat 0
theorem pv_rep (n : Nat) (i : Int) : pv (List.replicate n 0) i = 0 := by
  unfold pv
  rw [List.getD_eq_getElem?_getD, List.getElem?_replicate]
  split <;> rfl
def swL (m : Int) (es : List (Int × Int)) (g p : List Int) : List Int := (g.zip es).map fun x => (x.1 + pv p x.2.1 - pv p x.2.2) % m
def wsum (g : List Int) (l : List (Int × Int)) : Int := (l.map fun s => s.2 * pv g s.1).sum
/-- what switching does to the sum of a walk -/
theorem sw_len {m : Int} {es : List Edge} {g p : List Int} (h : g.length = es.length) : (swL m es g p).length = es.length := by unfold swL; simp [h]
theorem sw_pv {m : Int} {es : List Edge} {g p : List Int} {k : Int} (h : g.length = es.length) (h0 : 0 ≤ k) (h1 : k < es.length) : pv (swL m es g p) k = (pv g k + pv p (edg es k).1 - pv p (edg es k).2) % m := by
  obtain ⟨n, rfl⟩ := Int.eq_ofNat_of_zero_le h0
  have hn : n < es.length := by omega
  have hg : n < g.length := by omega
  have hz : (g.zip es)[n]? = some (g[n], es[n]) := by
    rw [List.getElem?_eq_getElem (by simp; omega), List.getElem_zip]
  unfold pv swL edg
  simp only [List.getD_eq_getElem?_getD, Int.toNat_natCast, List.getElem?_map, hz, Option.map_some, Option.getD_some, List.getElem?_eq_getElem hn, List.getElem?_eq_getElem hg]
  rfl
theorem edg_mem {es : List Edge} {k : Nat} (h : k < es.length) : edg es k ∈ es := by
  unfold edg
  rw [List.getD_eq_getElem?_getD, Int.toNat_natCast, List.getElem?_eq_getElem h]
  exact List.getElem_mem h
theorem pigeon : ∀ (n : Nat) (l : List Int), l.Nodup → (∀ x ∈ l, 0 ≤ x ∧ x < n) → l.length ≤ n
  | 0, l, _, h => by
    cases l with
    | nil => simp
    | cons x l => have := h x (by simp); omega
  | n + 1, l, hn, h => by
    by_cases hm : (n : Int) ∈ l
    · have p := List.perm_cons_erase hm
      have e := p.length_eq
      have := pigeon n (l.erase n) (hn.erase _) (fun x hx => by
        have h1 := h x (List.mem_of_mem_erase hx)
        have h2 : x ≠ n := fun z => by
          subst z
          exact (List.Nodup.mem_erase_iff hn).mp hx |>.1 rfl
        omega)
      simp at e
      omega
    · have := pigeon n l hn (fun x hx => by
        have h1 := h x hx
        have h2 : x ≠ n := fun z => hm (z ▸ hx)
        omega)
      omega
structure EOk (n : Int) (es : List Edge) : Prop where
  len : es.length ≤ 60
  ed : ∀ e ∈ es, 0 ≤ e.1 ∧ e.1 < n ∧ 0 ≤ e.2 ∧ e.2 < n
/-! ### connection -/
def Conn (es : List Edge) (a b : Int) : Prop := ∃ w, Leads es a w b
theorem Conn.refl {es : List Edge} (a : Int) : Conn es a a := ⟨[], rfl⟩
theorem Conn.trans {es : List Edge} {a b c : Int} (h : Conn es a b) (k : Conn es b c) : Conn es a c := let ⟨w, hw⟩ := h; let ⟨v, hv⟩ := k; ⟨w ++ v, hw.app hv⟩
theorem Conn.symm {es : List Edge} {a b : Int} (h : Conn es a b) : Conn es b a := let ⟨_, hw⟩ := h; ⟨_, hw.rev⟩
theorem edge_step {es : List Edge} {k : Nat} (h : k < es.length) : StepOk es ((k : Int), 1) ∧ ends es ((k : Int), 1) = es[k] := by
  refine ⟨⟨by dsimp only; omega, by dsimp only; omega, .inl rfl⟩, ?_⟩
  unfold ends edg
  simp [h]
theorem Conn.edge {es : List Edge} {e : Edge} (h : e ∈ es) : Conn es e.1 e.2 := by
  obtain ⟨k, hk, rfl⟩ := List.mem_iff_getElem.mp h
  obtain ⟨h1, h2⟩ := edge_step hk
  have := Leads.one h1
  rw [h2] at this
  exact ⟨_, this⟩
theorem step_mem {es : List Edge} {s : Int × Int} (h : StepOk es s) : edg es s.1 ∈ es := by
  obtain ⟨k, hk⟩ := Int.eq_ofNat_of_zero_le h.k0
  have := h.k1
  rw [hk] at this ⊢
  exact edg_mem (by omega)
theorem Leads.closed {es : List Edge} {S : Int → Prop} (h : ∀ e ∈ es, S e.1 ↔ S e.2) : ∀ {w : List (Int × Int)} {a b : Int}, Leads es a w b → (S a ↔ S b)
  | [], a, b, l => by unfold Leads at l; rw [l]
  | s :: w, a, b, l => by
    have ih := Leads.closed h l.2.2
    have he := h _ (step_mem l.1)
    rw [← ih, ← l.2.1]
    unfold ends
    by_cases q : s.2 = 1
    · rw [if_pos q]; exact he
    · rw [if_neg q]; exact he.symm
theorem Conn.closed {es : List Edge} {S : Int → Prop} (h : ∀ e ∈ es, S e.1 ↔ S e.2) {a b : Int} (c : Conn es a b) : S a ↔ S b := let ⟨_, hw⟩ := c; hw.closed h
/-- a potential along a walk -/
theorem tele {m : Int} {es : List Edge} {ds : List Int} {q : Int → Int} : ∀ {w : List (Int × Int)} {a b : Int}, Leads es a w b → (∀ s ∈ w, m ∣ pv ds s.1 - (q (edg es s.1).1 - q (edg es s.1).2)) → m ∣ wsum ds w - (q a - q b)
  | [], a, b, l, _ => by
    unfold Leads at l
    subst l
    rw [show wsum ds [] - (q a - q a) = 0 by unfold wsum; simp]
    exact Int.dvd_zero m
  | s :: w, a, b, l, h => by
    have ih := tele (m := m) (ds := ds) (q := q) l.2.2 (fun s hs => h s (by simp [hs]))
    have hs := h s (by simp)
    have e : wsum ds (s :: w) = s.2 * pv ds s.1 + wsum ds w := by unfold wsum; simp
    have d : m ∣ s.2 * (pv ds s.1 - (q (edg es s.1).1 - q (edg es s.1).2)) := Int.dvd_mul_of_dvd_right hs
    have t := Int.dvd_add d ih
    rw [e]
    have key : s.2 * (pv ds s.1 - (q (edg es s.1).1 - q (edg es s.1).2)) + (wsum ds w - (q (ends es s).2 - q b)) = s.2 * pv ds s.1 + wsum ds w - (q a - q b) := ?_
    · rw [key] at t; exact t
    have ha := l.2.1
    rcases l.1.way with z | z
    · unfold ends at ha ⊢
      rw [if_pos z] at ha ⊢
      rw [← ha, z]
      omega
    · have ne : ¬ s.2 = 1 := by omega
      unfold ends at ha ⊢
      rw [if_neg ne] at ha ⊢
      dsimp only at ha ⊢
      rw [← ha, z]
      omega
/-! ### ascending lists -/
/-! ### components -/
open Classical in
noncomputable def compOf (n : Int) (es : List Edge) (a : Int) : List Int := (rg 0 n).filter fun b => decide (Conn es a b)
open Classical in
noncomputable def isFst (es : List Edge) (a : Int) : Bool := decide (∀ b : Int, 0 ≤ b → b < a → ¬ Conn es b a)
noncomputable def firsts (n : Int) (es : List Edge) : List Int := (rg 0 n).filter (isFst es)
noncomputable def comps (n : Int) (es : List Edge) : List (List Int) := (firsts n es).map (compOf n es)
theorem isFst_iff {es : List Edge} {a : Int} : isFst es a = true ↔ ∀ b : Int, 0 ≤ b → b < a → ¬ Conn es b a := by unfold isFst; exact @decide_eq_true_iff _ (Classical.propDecidable _)
theorem mem_firsts {n : Int} {es : List Edge} {a : Int} : a ∈ firsts n es ↔ (0 ≤ a ∧ a < n) ∧ ∀ b : Int, 0 ≤ b → b < a → ¬ Conn es b a := by
  unfold firsts
  rw [List.mem_filter, rg_mem, isFst_iff]
theorem fst_uniq {n : Int} {es : List Edge} {f g : Int} (hf : f ∈ firsts n es) (hg : g ∈ firsts n es) (c : Conn es f g) : f = g := by
  obtain ⟨⟨f0, f1⟩, f2⟩ := mem_firsts.mp hf
  obtain ⟨⟨g0, g1⟩, g2⟩ := mem_firsts.mp hg
  by_cases h : f < g
  · exact (g2 f f0 h c).elim
  · by_cases h2 : g < f
    · exact (f2 g g0 h2 c.symm).elim
    · omega
/-! ### dicts by their keys -/
def dkeys {α : Type} (d : Dc α) : List Int := d.kv.map (·.1)
theorem dkeys_put {α : Type} {d : Dc α} {k : Int} {a : α} : dkeys (dputV d k a) = if k ∈ dkeys d then dkeys d else dkeys d ++ [k] := by
  unfold dputV dkeys
  by_cases h : k ∈ d.kv.map (·.1)
  · rw [if_pos h]
    obtain ⟨p, hp, e⟩ := List.mem_map.mp h
    have : (d.kv.any fun p => decide (p.1 = k)) = true := List.any_eq_true.mpr ⟨p, hp, decide_eq_true e⟩
    rw [if_pos this]
    rw [List.map_map]
    apply List.map_congr_left
    intro q _
    simp only [Function.comp]
    split <;> rfl
  · rw [if_neg h]
    have : (d.kv.any fun p => decide (p.1 = k)) = false := by
      cases q : d.kv.any fun p => decide (p.1 = k) with
      | false => rfl
      | true =>
        obtain ⟨p, h1, h2⟩ := List.any_eq_true.mp q
        exact (h (List.mem_map.mpr ⟨p, h1, of_decide_eq_true h2⟩)).elim
    rw [this, if_neg (by decide), List.map_append]
    rfl
theorem dget_mem {α : Type} {d : Dc α} {k : Int} {v : α} (n : (dkeys d).Nodup) (h : (k, v) ∈ d.kv) : dget d k = .ok v := by
  unfold dget dfind
  have : d.kv.find? (fun p => decide (p.1 = k)) = some (k, v) := by
    have gen : ∀ l : List (Int × α), (l.map (·.1)).Nodup → (k, v) ∈ l → l.find? (fun p => decide (p.1 = k)) = some (k, v) := by
      intro l
      induction l with
      | nil => intro _ h; simp at h
      | cons p l ih =>
        intro n h
        rw [List.map_cons, List.nodup_cons] at n
        by_cases e : p.1 = k
        · rw [List.find?_cons_of_pos (by simpa using e)]
          rcases List.mem_cons.mp h with z | z
          · rw [z]
          · exact (n.1 (by rw [e]; exact List.mem_map.mpr ⟨_, z, rfl⟩)).elim
        · rw [List.find?_cons_of_neg (by simpa using e)]
          rcases List.mem_cons.mp h with z | z
          · rw [← z] at e; exact (e rfl).elim
          · exact ih n.2 z
    exact gen d.kv n h
  rw [this]
  rfl
end Lw

set_option Elab.async false
set_option linter.all false
set_option maxRecDepth 100000
set_option maxHeartbeats 1000000
/-! YC: the program's defs at valid arguments. -/
namespace Lw
open PySem L2 DL TL
open Mo (pur bnd lft)
structure WOk (w : OWeb) : Prop where
  s0 : 1 ≤ w.own_size
  s1 : w.own_size ≤ 30
  len : w.own_edges.length ≤ 60
  ed : ∀ e ∈ w.own_edges, 0 ≤ e.1 ∧ e.1 < w.own_size ∧ 0 ≤ e.2 ∧ e.2 < w.own_size
  m0 : 0 ≤ w.own_modulus
  m1 : w.own_modulus ≤ 60
theorem is_integer_eq (t : Int) : p_is_integer t = .ok true := by simp [p_is_integer, bndE, purE, E.bind]
theorem is_within_eq (t a b : Int) : p_is_within t a b = .ok (decide (a ≤ t) && decide (t ≤ b)) := by simp [p_is_within, is_integer_eq, bndE, purE, lftE, E.bind]
theorem modulus_eq (w : OWeb) : p_Web_modulus w = .ok w.own_modulus := by simp [p_Web_modulus, bndE, purE, E.bind]
theorem size_eq (w : OWeb) : p_Web_size w = .ok w.own_size := by simp [p_Web_size, bndE, purE, E.bind]
theorem edges_eq (w : OWeb) : p_Web_edges w = .ok w.own_edges := by simp [p_Web_edges, bndE, purE, E.bind]
theorem len_eq (w : OWeb) : p_Web___len__ w = .ok (w.own_edges.length : Int) := by simp [p_Web___len__, bndE, purE, E.bind]
theorem is_residue_eq (w : OWeb) (t : Int) : p_is_residue w t = .ok (isres w.own_modulus t) := by
  unfold p_is_residue isres
  by_cases h : w.own_modulus = 0
  · simp [modulus_eq, is_integer_eq, bndE, purE, lftE, E.bind, eqB, h]
  · simp [modulus_eq, is_within_eq, bndE, purE, lftE, E.bind, eqB, h]
theorem are_residues_eq (w : OWeb) (l : List Int) (n : Int) (h : l.length ≤ 10000) : p_are_residues w l n = .ok (decide ((l.length : Int) = n) && l.all (isres w.own_modulus)) := by
  unfold p_are_residues
  have e := lc_map (f := fun x => lft (p_is_residue w x)) (isres w.own_modulus) h (fun x _ => by rw [lftE, is_residue_eq])
  by_cases hn : (l.length : Int) = n
  · simp [bndE, purE, lftE, E.bind, eqB, hn] at e ⊢
    rw [e]
    simp [List.all_map]
  · simp [bndE, purE, lftE, E.bind, eqB, hn]
/-- gains and potentials that are valid -/
structure Gd (w : OWeb) (g : List Int) : Prop where
  len : g.length = w.own_edges.length
  res : ∀ x ∈ g, isres w.own_modulus x = true
structure Pt (w : OWeb) (p : List Int) : Prop where
  len : (p.length : Int) = w.own_size
  res : ∀ x ∈ p, isres w.own_modulus x = true
theorem is_gains_eq {w : OWeb} {g : List Int} (hw : WOk w) (h : Gd w g) : p_is_gains w g = .ok true := by
  have h1 := hw.len
  have h2 := h.len
  simp [p_is_gains, len_eq, lenG_ok (n := w.own_edges.length) (by omega), are_residues_eq w g _ (by omega), bndE, purE, lftE, E.bind, h.len]
  exact h.res
theorem check_gains_eq {w : OWeb} {g : List Int} (hw : WOk w) (h : Gd w g) : p_check_gains w g = .ok () := by
  simp [p_check_gains, is_gains_eq hw h, bndE, purE, lftE, E.bind]
/-- gains by their places -/
theorem gains_ext {w : OWeb} {g g' : List Int} (hw : WOk w) (h : Gd w g) (h' : Gd w g') (e : ∀ k : Nat, k < w.own_edges.length → w.own_modulus ∣ pv g k - pv g' k) : g = g' := by
  apply List.ext_getElem
  · rw [h.len, h'.len]
  · intro k h1 h2
    have hk : k < w.own_edges.length := by rw [← h.len]; exact h1
    have c := e k hk
    have p1 : pv g (k : Int) = g[k] := by unfold pv; simp [h1]
    have p2 : pv g' (k : Int) = g'[k] := by unfold pv; simp [h2]
    rw [p1, p2, ← cg_iff, mod_of_isres hw.m0 (h.res _ (List.getElem_mem h1)), mod_of_isres hw.m0 (h'.res _ (List.getElem_mem h2))] at c
    exact c
theorem sw_gd {w : OWeb} {g p : List Int} (hw : WOk w) (h : Gd w g) : Gd w (swL w.own_modulus w.own_edges g p) := ⟨sw_len h.len, fun x hx => by
  unfold swL at hx
  obtain ⟨y, _, rfl⟩ := List.mem_map.mp hx
  exact isres_mod hw.m0⟩
/-- gains to which rows of switches have led -/
structure Led (w : OWeb) (g0 : List Int) (A : Int → Int) (g : List Int) : Prop where
  gd : Gd w g
  eq : ∀ k : Nat, k < w.own_edges.length → w.own_modulus ∣ pv g k - (pv g0 k + A (edg w.own_edges k).1 - A (edg w.own_edges k).2)
theorem led_sw {w : OWeb} {g0 g p : List Int} {A B : Int → Int} (hw : WOk w) (h : Led w g0 A g) (hp : ∀ i, 0 ≤ i → w.own_modulus ∣ pv p i - B i) : Led w g0 (fun i => A i + B i) (swL w.own_modulus w.own_edges g p) := by
  refine ⟨sw_gd hw h.gd, fun k hk => ?_⟩
  rw [sw_pv h.gd.len (by omega) (by omega)]
  refine cg_trans (cg_mod _ _) ?_
  have he := hw.ed _ (edg_mem hk)
  have c1 := h.eq k hk
  have c2 := hp _ he.1
  have c3 := cg_symm (hp _ he.2.2.1)
  have := Int.dvd_add (Int.dvd_add c1 c2) c3
  have key : ∀ a b c d e f g i : Int, a - (b + c - d) + (e - f) + (g - i) = a + e - i - (b + (c + f) - (d + g)) := by intros; omega
  rw [key] at this
  exact this
theorem led_0 {w : OWeb} {g : List Int} (h : Gd w g) : Led w g (fun _ => 0) g := ⟨h, fun k _ => by
  rw [show pv g k - (pv g k + 0 - 0) = 0 by omega]; exact Int.dvd_zero _⟩
theorem is_edge_eq {n : Int} {e : Edge} (h : 0 ≤ e.1 ∧ e.1 < n ∧ 0 ≤ e.2 ∧ e.2 < n) : p_is_edge e n = .ok true := by
  have e1 : decide (e.1 ≤ n - 1) = true := decide_eq_true (by omega)
  have e2 : decide (e.2 ≤ n - 1) = true := decide_eq_true (by omega)
  simp [p_is_edge, is_within_eq, bndE, purE, lftE, E.bind, eqB, h.1, h.2.2.1, e1, e2]
theorem check_edges_eq {n : Int} {es : List Edge} (h : EOk n es) : p_check_edges n es = .ok () := by
  unfold p_check_edges
  have hl := h.len
  simp only [Bool.not_true, pur_bnd, Bool.false_eq_true, if_false]
  refine ok_then (r := ()) ?_ ?_
  · obtain ⟨b, h1, _⟩ := forM_inv (st := fun (b49 : Unit) (x50 : (Int × Int)) => bnd (bnd (lft (p_is_edge x50 n)) fun z54 => pur (!z54)) fun z => if z = true then (lft .bad) else (pur ())) (fun _ _ => True) (xs := es) (b := ()) trivial (fun pre x post b e _ => by
      refine ⟨(), ?_, trivial⟩
      rw [is_edge_eq (h.ed x (by rw [e]; simp)), lok_bnd, Bool.not_true, pur_bnd, if_neg (by decide), purE])
    exact h1
  · have : decide ((60 : Int) < (es.length : Int)) = false := decide_eq_false (by omega)
    rw [this, if_neg (by decide), purE]
theorem takeW_ok {s : Int} {Q : Int → Prop} {X : Str → D → Prop} (h0 : 0 < s) (h1 : s ≤ 10 ^ 30) (h : ∀ r, 0 ≤ r → r < s → Q r) : takeW s Q X := ⟨h0, by omega, h⟩
structure ForestOk (n : Int) (es : List Edge) (F : List Int) : Prop where
  rng : ∀ i ∈ F, 0 ≤ i ∧ i < es.length
  asc : F.Pairwise (· < ·)
  pot : ∀ ds : List Int, ∃ q : Int → Int, ∀ i ∈ F, q (edg es i).1 - q (edg es i).2 = pv ds i
  cl : ∀ S : Int → Prop, (∀ i ∈ F, S (edg es i).1 ↔ S (edg es i).2) → ∀ e ∈ es, (S e.1 ↔ S e.2)
  ex : ∀ i : Nat, i < es.length → ((i : Int) ∈ F ↔ ¬ Conn (es.take i) (edg es i).1 (edg es i).2)
structure FJ (n : Int) (es : List Edge) (k : Nat) (G F : List Int) : Prop where
  glen : (G.length : Int) = n
  flen : F.length ≤ k
  rng : ∀ i ∈ F, 0 ≤ i ∧ i < k
  asc : F.Pairwise (· < ·)
  same : ∀ e ∈ es.take k, pv G e.1 = pv G e.2
  cl : ∀ S : Int → Prop, (∀ i ∈ F, S (edg es i).1 ↔ S (edg es i).2) → ∀ a b : Int, 0 ≤ a → a < n → 0 ≤ b → b < n → pv G a = pv G b → (S a ↔ S b)
  pot : ∀ ds : List Int, ∃ q : Int → Int, ∀ i ∈ F, q (edg es i).1 - q (edg es i).2 = pv ds i
  ex : ∀ i : Nat, i < k → ((i : Int) ∈ F ↔ ¬ Conn (es.take i) (edg es i).1 (edg es i).2)
theorem take_edge {es : List Edge} {i : Int} {k : Nat} (h0 : 0 ≤ i) (h1 : i < k) (h2 : k ≤ es.length) : edg es i ∈ es.take k := by
  obtain ⟨j, rfl⟩ := Int.eq_ofNat_of_zero_le h0
  have hj : j < k := by omega
  have : edg es (j : Int) = (es.take k)[j]'(by simp; omega) := by unfold edg; simp [show j < es.length by omega]
  rw [this]
  exact List.getElem_mem _
theorem edg_nat {es : List Edge} {k : Nat} (h : k < es.length) : edg es (k : Int) = es[k] := by unfold edg; simp [h]
theorem pv_map {G : List Int} {f : Int → Int} {a : Int} (h0 : 0 ≤ a) (h1 : a < G.length) : pv (G.map f) a = f (pv G a) := by
  obtain ⟨j, rfl⟩ := Int.eq_ofNat_of_zero_le h0
  unfold pv
  have : j < G.length := by omega
  simp [this]
theorem take_succ_mem {es : List Edge} {k : Nat} (h : k < es.length) {e : Edge} : e ∈ es.take (k + 1) ↔ e ∈ es.take k ∨ e = es[k] := by
  rw [List.take_succ, List.mem_append]
  simp [h, eq_comm]
theorem fj_same {n : Int} {es : List Edge} {k : Nat} {G F : List Int} (he : EOk n es) (hk : k < es.length) (j : FJ n es k G F) (q : pv G (edg es k).1 = pv G (edg es k).2) : FJ n es (k + 1) G F := by
  have hm := he.ed _ (edg_mem hk)
  refine ⟨j.glen, by have := j.flen; omega, fun i hi => by have := j.rng i hi; omega, j.asc, fun e h => ?_, j.cl, j.pot, fun i hi => ?_⟩
  · rcases (take_succ_mem hk).mp h with z | z
    · exact j.same e z
    · rw [z, ← edg_nat hk]; exact q
  · by_cases e : i < k
    · exact j.ex i e
    · have e2 : i = k := by omega
      subst e2
      constructor
      · intro h; have := j.rng _ h; omega
      · intro h
        refine (h ?_).elim
        have := j.cl (fun x => Conn (es.take i) (edg es i).1 x) (fun f hf => ?_) _ _ hm.1 hm.2.1 hm.2.2.1 hm.2.2.2 q
        · exact this.mp (Conn.refl _)
        · have := j.rng f hf
          have c := Conn.edge (take_edge (es := es) (k := i) this.1 (by omega) (by omega))
          exact ⟨fun z => z.trans c, fun z => z.trans c.symm⟩
theorem fj_new {n : Int} {es : List Edge} {k : Nat} {G F : List Int} (he : EOk n es) (hk : k < es.length) (j : FJ n es k G F) (q : pv G (edg es k).1 ≠ pv G (edg es k).2) : FJ n es (k + 1) (G.map fun y => if y = pv G (edg es k).2 then pv G (edg es k).1 else y) (F ++ [(k : Int)]) := by
  have hm := he.ed _ (edg_mem hk)
  have pg : ∀ a : Int, 0 ≤ a → a < n → pv (G.map fun y => if y = pv G (edg es k).2 then pv G (edg es k).1 else y) a = if pv G a = pv G (edg es k).2 then pv G (edg es k).1 else pv G a := fun a a0 a1 => pv_map a0 (by rw [j.glen]; exact a1)
  refine ⟨by simpa using j.glen, by have := j.flen; simp; omega, fun i hi => ?_, ?_, fun e h => ?_, fun S hS a b a0 a1 b0 b1 e => ?_, fun ds => ?_, fun i hi => ?_⟩
  · rcases List.mem_append.mp hi with z | z
    · have := j.rng i z; omega
    · simp at z; subst z; omega
  · rw [List.pairwise_append]
    refine ⟨j.asc, by simp, fun a ha b hb => ?_⟩
    simp at hb
    have := j.rng a ha
    omega
  · have hne : ∀ a : Int, 0 ≤ a → a < n → pv (G.map fun y => if y = pv G (edg es k).2 then pv G (edg es k).1 else y) a = if pv G a = pv G (edg es k).2 then pv G (edg es k).1 else pv G a := pg
    rcases (take_succ_mem hk).mp h with z | z
    · have h1 := he.ed e (List.mem_of_mem_take z)
      rw [pg _ h1.1 h1.2.1, pg _ h1.2.2.1 h1.2.2.2, j.same e z]
    · rw [z, ← edg_nat hk, pg _ hm.1 hm.2.1, pg _ hm.2.2.1 hm.2.2.2, if_neg q, if_pos rfl]
  · have hS0 : ∀ i ∈ F, S (edg es i).1 ↔ S (edg es i).2 := fun i hi => hS i (by simp [hi])
    have hk2 : S (edg es k).1 ↔ S (edg es k).2 := hS k (by simp)
    rw [pg a a0 a1, pg b b0 b1] at e
    by_cases ha : pv G a = pv G (edg es k).2
    · have sa := j.cl S hS0 a _ a0 a1 hm.2.2.1 hm.2.2.2 ha
      by_cases hb : pv G b = pv G (edg es k).2
      · have sb := j.cl S hS0 b _ b0 b1 hm.2.2.1 hm.2.2.2 hb
        rw [sa, sb]
      · rw [if_pos ha, if_neg hb] at e
        have sb := j.cl S hS0 _ b hm.1 hm.2.1 b0 b1 e
        rw [sa, ← sb, hk2]
    · by_cases hb : pv G b = pv G (edg es k).2
      · have sb := j.cl S hS0 b _ b0 b1 hm.2.2.1 hm.2.2.2 hb
        rw [if_neg ha, if_pos hb] at e
        have sa := j.cl S hS0 a _ a0 a1 hm.1 hm.2.1 e
        rw [sa, sb, hk2]
      · rw [if_neg ha, if_neg hb] at e
        exact j.cl S hS0 a b a0 a1 b0 b1 e
  · obtain ⟨p, hp⟩ := j.pot ds
    refine ⟨fun x => if pv G x = pv G (edg es k).2 then p x + (p (edg es k).1 - pv ds k - p (edg es k).2) else p x, fun i hi => ?_⟩
    rcases List.mem_append.mp hi with z | z
    · have hr := j.rng i z
      have hs := j.same _ (take_edge (k := k) hr.1 hr.2 (by omega))
      have := hp i z
      dsimp only
      rw [hs]
      split <;> omega
    · simp at z
      subst z
      dsimp only
      rw [if_neg q, if_pos rfl]
      omega
  · by_cases e : i < k
    · rw [← j.ex i e, List.mem_append, List.mem_singleton]
      constructor
      · rintro (z | z)
        · exact z
        · omega
      · exact .inl
    · have e2 : i = k := by omega
      subst e2
      refine ⟨fun _ c => q ?_, fun _ => by simp⟩
      have := c.closed (S := fun x => pv G x = pv G (edg es i).1) (fun e he2 => by rw [j.same e he2])
      exact (this.mp rfl).symm
theorem forest_eq {n : Int} {es : List Edge} (h0 : 1 ≤ n) (h1 : n ≤ 30) (h : EOk n es) : ∃ fs, p_forest_of n es = .ok fs ∧ fs.length ≤ es.length ∧ ForestOk n es fs := by
  unfold p_forest_of
  have hl := h.len
  simp only [pur_bnd, rgL_ok (n := n) (by omega) (by omega), lok_bnd]
  have el : (enI 0 es).length = es.length := by unfold enI; simp
  refine ex_then (forM_inv (fun (pre : List (Int × Edge)) (b : List Int × List Int) => FJ n es pre.length b.1 b.2) ⟨by rw [rg_len]; omega, by simp, by simp, by simp, by simp, ?_, fun ds => ⟨fun _ => 0, by simp⟩, by simp⟩ (fun pre x post b e j => ?_)) (fun p hp => ⟨p.2, purE _, by rw [el] at hp; exact hp.flen, ?_⟩)
  · intro S _ a b a0 a1 b0 b1 e
    have pr : ∀ c : Int, 0 ≤ c → c < n → pv (rg 0 n) c = c := fun c c0 c1 => by
      obtain ⟨k, rfl⟩ := Int.eq_ofNat_of_zero_le c0
      unfold pv rg
      simp
      rw [List.getElem?_range (by omega)]
      simp
    have e' : pv (rg 0 n) a = pv (rg 0 n) b := e
    rw [pr a a0 a1, pr b b0 b1] at e'
    rw [e']
  · have hpl : pre.length < es.length := by have := congrArg List.length e; rw [el] at this; simp at this; omega
    have hx : x = ((pre.length : Int), es[pre.length]) := by
      have e1 : (enI 0 es)[pre.length]? = some x := by rw [e]; simp
      unfold enI at e1
      simp [hpl] at e1
      exact e1.symm
    have hg := j.glen
    subst hx
    have he := h.ed _ (List.getElem_mem hpl)
    have i1 : ixL b.1 es[pre.length].1 = .ok (pv b.1 es[pre.length].1) := ixL_lt he.1 (by rw [j.glen]; exact he.2.1)
    have i2 : ixL b.1 es[pre.length].2 = .ok (pv b.1 es[pre.length].2) := ixL_lt he.2.2.1 (by rw [j.glen]; exact he.2.2.2)
    have bl : b.1.length ≤ 10000 := by omega
    have ap : appL b.2 (pre.length : Int) = .ok (b.2 ++ [(pre.length : Int)]) := appL_ok (by have := j.flen; omega)
    dsimp only
    rw [i1, lok_bnd, i2, lok_bnd, lok_bnd]
    have ee := edg_nat hpl
    by_cases q : pv b.1 es[pre.length].1 = pv b.1 es[pre.length].2
    · have : (true ^^ eqB (pv b.1 es[pre.length].1) (pv b.1 es[pre.length].2)) = false := by simp [eqB, q]
      rw [this, if_neg (by decide)]
      refine ⟨_, purE _, ?_⟩
      rw [List.length_append, List.length_singleton]
      exact fj_same h hpl j (by rw [ee]; exact q)
    · have : (true ^^ eqB (pv b.1 es[pre.length].1) (pv b.1 es[pre.length].2)) = true := by simp [eqB, q]
      rw [this, if_pos rfl]
      refine ⟨(b.1.map fun y => if y = pv b.1 es[pre.length].2 then pv b.1 es[pre.length].1 else y, b.2 ++ [(pre.length : Int)]), ?_, ?_⟩
      · rw [ap, lok_bnd]
        refine ok_then (lc_map (fun y => if y = pv b.1 es[pre.length].2 then pv b.1 es[pre.length].1 else y) bl (fun y hy => ?_)) (purE _)
        rw [lok_bnd, lok_bnd]
        by_cases z : y = pv b.1 es[pre.length].2
        · rw [if_pos z, if_pos (by simp [eqB, z]), lftE]
        · rw [if_neg z, if_neg (by simp [eqB, z]), purE]
      · rw [List.length_append, List.length_singleton]
        have := fj_new h hpl j (by rw [ee]; exact q)
        rw [ee] at this
        exact this
  · rw [el] at hp
    refine ⟨hp.rng, hp.asc, hp.pot, fun S hS e he => ?_, hp.ex⟩
    have h1 := h.ed e he
    exact hp.cl S hS _ _ h1.1 h1.2.1 h1.2.2.1 h1.2.2.2 (hp.same e (by simpa using he))
end Lw

set_option Elab.async false
set_option linter.all false
set_option maxRecDepth 100000
set_option maxHeartbeats 1000000
/-! YD: links, paths along the forest, components. -/
namespace Lw
open PySem L2 DL TL
open Mo (pur bnd lft)
structure LinksOk (n : Int) (es : List Edge) (F : List Int) (L : List (List (T3 Int Int Int))) : Prop where
  len : (L.length : Int) = n
  st : ∀ (a : Nat), ∀ x ∈ L.getD a [], StepOk es (x.a, x.b) ∧ ends es (x.a, x.b) = ((a : Int), x.c) ∧ x.a ∈ F
  cl : ∀ S : Int → Prop, (∀ a : Nat, S a → ∀ x ∈ L.getD a [], S x.c) → ∀ e ∈ es, (S e.1 ↔ S e.2)
theorem lput_get {L : Rows} {k a : Nat} {y : Nat × Int × Nat} (hk : k < L.length) : (lput L k y).getD a [] = if a = k then L.getD k [] ++ [y] else L.getD a [] := by
  unfold lput
  rw [List.getD_eq_getElem?_getD]
  by_cases e : a = k
  · subst e; rw [List.getElem?_set_self hk, if_pos rfl]; rfl
  · rw [List.getElem?_set_ne (Ne.symm e), if_neg e, List.getD_eq_getElem?_getD]
def LkM (es : List (Nat × Nat)) (i a : Nat) (x : Nat × Int × Nat) : Prop := (x = (i, 1, (es.getD i (0, 0)).2) ∧ a = (es.getD i (0, 0)).1) ∨ (x = (i, -1, (es.getD i (0, 0)).1) ∧ a = (es.getD i (0, 0)).2)
theorem lstep_mem {es : List (Nat × Nat)} {L : Rows} {i a : Nat} {x : Nat × Int × Nat} (h1 : (es.getD i (0, 0)).1 < L.length) (h2 : (es.getD i (0, 0)).2 < L.length) : x ∈ (lstep es L i).getD a [] ↔ x ∈ L.getD a [] ∨ LkM es i a x := by
  unfold lstep LkM
  rw [lput_get (by rw [lput_len]; exact h2), lput_get h1, lput_get h1]
  by_cases e2 : a = (es.getD i (0, 0)).2
  · rw [if_pos e2]
    by_cases e1 : (es.getD i (0, 0)).2 = (es.getD i (0, 0)).1
    · have e3 : a = (es.getD i (0, 0)).1 := e2.trans e1
      rw [if_pos e1, List.mem_append, List.mem_append, List.mem_singleton, List.mem_singleton, e3, ← e1, or_assoc]
      simp only [and_true]
    · rw [if_neg e1, List.mem_append, List.mem_singleton, ← e2]
      have e3 : ¬ a = (es.getD i (0, 0)).1 := fun z => e1 (e2.symm.trans z)
      simp only [e3, and_false, false_or, and_true]
  · rw [if_neg e2]
    by_cases e1 : a = (es.getD i (0, 0)).1
    · rw [if_pos e1, List.mem_append, List.mem_singleton, ← e1]
      simp only [and_true, e2, and_false, or_false]
    · rw [if_neg e1]
      simp only [e1, e2, and_false, or_false]
theorem links_fold {es : List (Nat × Nat)} {n : Nat} (he : ∀ e ∈ es, e.1 < n ∧ e.2 < n) {a : Nat} {x : Nat × Int × Nat} : ∀ (fs : List Nat) (L : Rows), L.length = n → (∀ i ∈ fs, i < es.length) → (x ∈ (fs.foldl (lstep es) L).getD a [] ↔ x ∈ L.getD a [] ∨ ∃ i ∈ fs, LkM es i a x)
  | [], L, _, _ => by simp
  | i :: fs, L, hl, hf => by
    have hi := hf i (by simp)
    have hm : es.getD i (0, 0) ∈ es := by
      rw [List.getD_eq_getElem?_getD, List.getElem?_eq_getElem hi]; exact List.getElem_mem hi
    have h1 := he _ hm
    rw [List.foldl_cons, links_fold he fs (lstep es L i) (by unfold lstep; rw [lput_len, lput_len]; exact hl) (fun j hj => hf j (by simp [hj])), lstep_mem (by rw [hl]; exact h1.1) (by rw [hl]; exact h1.2), or_assoc]
    simp
theorem linksA_mem {es : List (Nat × Nat)} {n : Nat} {fs : List Nat} (he : ∀ e ∈ es, e.1 < n ∧ e.2 < n) (hf : ∀ i ∈ fs, i < es.length) {a : Nat} {x : Nat × Int × Nat} : x ∈ (linksA n es fs).getD a [] ↔ ∃ i ∈ fs, LkM es i a x := by
  unfold linksA
  rw [links_fold he fs _ (by simp) hf]
  have : (List.replicate n ([] : List (Nat × Int × Nat))).getD a [] = [] := by
    rw [List.getD_eq_getElem?_getD, List.getElem?_replicate]
    split <;> rfl
  rw [this]
  simp
theorem links_eq {n : Int} {es : List Edge} {fs : List Int} (h0 : 1 ≤ n) (h1 : n ≤ 30) (h : EOk n es) (hl : fs.length ≤ es.length) (hF : ForestOk n es fs) : ∃ L, p_links_of n es fs = .ok L ∧ LinksOk n es fs L := by
  have hle := h.len
  have hf := hF.rng
  have e1 : n = cN n.toNat := by unfold cN; omega
  have e2 : es = (es.map fun e => (e.1.toNat, e.2.toNat)).map cE := by
    rw [List.map_map]
    conv => lhs; rw [← List.map_id es]
    apply List.map_congr_left
    intro e he
    have := h.ed e he
    unfold cE
    simp only [Function.comp, id]
    cases e
    simp at this ⊢
    omega
  have e3 : fs = (fs.map Int.toNat).map cN := by
    rw [List.map_map]
    conv => lhs; rw [← List.map_id fs]
    apply List.map_congr_left
    intro i hi
    have := hf i hi
    unfold cN
    simp only [Function.comp, id]
    omega
  have hes : ∀ e ∈ es.map fun e => (e.1.toNat, e.2.toNat), e.1 < n.toNat ∧ e.2 < n.toNat := by
    intro e he
    obtain ⟨d, hd, rfl⟩ := List.mem_map.mp he
    have := h.ed d hd
    dsimp only
    omega
  have hfs : ∀ i ∈ fs.map Int.toNat, i < (es.map fun e => (e.1.toNat, e.2.toNat)).length := by
    intro i hi
    obtain ⟨j, hj, rfl⟩ := List.mem_map.mp hi
    have := hf j hj
    simp; omega
  have ok : LinkOk (cN n.toNat) ((es.map fun e => (e.1.toNat, e.2.toNat)).map cE) ((fs.map Int.toNat).map cN) (n.toNat, es.map fun e => (e.1.toNat, e.2.toNat), fs.map Int.toNat) :=
    ⟨rfl, rfl, rfl, by dsimp only; omega, by simp; omega, hfs, hes⟩
  have := links_val ok
  rw [← e1, ← e2, ← e3] at this
  refine ⟨_, this, ?_⟩
  unfold linksI
  dsimp only
  have gd : ∀ a : Nat, ((linksA n.toNat (es.map fun e => (e.1.toNat, e.2.toNat)) (fs.map Int.toNat)).map (·.map cL)).getD a [] = ((linksA n.toNat (es.map fun e => (e.1.toNat, e.2.toNat)) (fs.map Int.toNat)).getD a []).map cL := fun a => by
    rw [List.getD_eq_getElem?_getD, List.getD_eq_getElem?_getD, List.getElem?_map]
    cases (linksA n.toNat (es.map fun e => (e.1.toNat, e.2.toNat)) (fs.map Int.toNat))[a]? <;> rfl
  have ge : ∀ i : Int, 0 ≤ i → i < es.length → (es.map fun e => (e.1.toNat, e.2.toNat)).getD i.toNat (0, 0) = ((edg es i).1.toNat, (edg es i).2.toNat) := fun i i0 i1 => by
    obtain ⟨k, rfl⟩ := Int.eq_ofNat_of_zero_le i0
    unfold edg
    have : k < es.length := by omega
    simp [this]
  refine ⟨?_, fun a x hx => ?_, fun S hS => hF.cl S fun i hi => ?_⟩
  · rw [List.length_map, (linksA_ok _ _ _).1]; omega
  · rw [gd] at hx
    obtain ⟨y, hy, rfl⟩ := List.mem_map.mp hx
    obtain ⟨j, hj, hm⟩ := (linksA_mem hes hfs).mp hy
    obtain ⟨i, hi, rfl⟩ := List.mem_map.mp hj
    have hr := hf i hi
    have hed := h.ed (edg es i) (by obtain ⟨k, hk⟩ := Int.eq_ofNat_of_zero_le hr.1; rw [hk]; exact edg_mem (by omega))
    unfold LkM at hm
    rw [ge i hr.1 hr.2] at hm
    have hz : ((i.toNat : Nat) : Int) = i := by omega
    rcases hm with ⟨rfl, e⟩ | ⟨rfl, e⟩
    · unfold cL
      dsimp only
      rw [hz]
      refine ⟨⟨hr.1, hr.2, .inl rfl⟩, ?_, hi⟩
      unfold ends
      rw [if_pos rfl]
      apply Prod.ext
      · dsimp only at e ⊢; omega
      · dsimp only; omega
    · unfold cL
      dsimp only
      rw [hz]
      refine ⟨⟨hr.1, hr.2, .inr rfl⟩, ?_, hi⟩
      unfold ends
      rw [if_neg (show ¬ ((-1 : Int) = 1) by decide)]
      apply Prod.ext
      · dsimp only at e ⊢; omega
      · dsimp only; omega
  · have hr := hf i hi
    have hed := h.ed (edg es i) (by obtain ⟨k, hk⟩ := Int.eq_ofNat_of_zero_le hr.1; rw [hk]; exact edg_mem (by omega))
    have m1 : ((i.toNat, (1 : Int), (edg es i).2.toNat) : Nat × Int × Nat) ∈ (linksA n.toNat (es.map fun e => (e.1.toNat, e.2.toNat)) (fs.map Int.toNat)).getD (edg es i).1.toNat [] := (linksA_mem hes hfs).mpr ⟨i.toNat, List.mem_map.mpr ⟨i, hi, rfl⟩, .inl (by rw [ge i hr.1 hr.2]; exact ⟨rfl, rfl⟩)⟩
    have m2 : ((i.toNat, (-1 : Int), (edg es i).1.toNat) : Nat × Int × Nat) ∈ (linksA n.toNat (es.map fun e => (e.1.toNat, e.2.toNat)) (fs.map Int.toNat)).getD (edg es i).2.toNat [] := (linksA_mem hes hfs).mpr ⟨i.toNat, List.mem_map.mpr ⟨i, hi, rfl⟩, .inr (by rw [ge i hr.1 hr.2]; exact ⟨rfl, rfl⟩)⟩
    have c1 : (((edg es i).1.toNat : Nat) : Int) = (edg es i).1 := by omega
    have c2 : (((edg es i).2.toNat : Nat) : Int) = (edg es i).2 := by omega
    constructor
    · intro s
      have := hS (edg es i).1.toNat (by rw [c1]; exact s) (cL (i.toNat, 1, (edg es i).2.toNat)) (by rw [gd]; exact List.mem_map.mpr ⟨_, m1, rfl⟩)
      unfold cL at this
      dsimp only at this
      rw [c2] at this
      exact this
    · intro s
      have := hS (edg es i).2.toNat (by rw [c2]; exact s) (cL (i.toNat, -1, (edg es i).1.toNat)) (by rw [gd]; exact List.mem_map.mpr ⟨_, m2, rfl⟩)
      unfold cL at this
      dsimp only at this
      rw [c1] at this
      exact this
/-! ### paths -/
abbrev PD := Dc (List (Int × Int))
structure WJ (n : Nat) (es : List Edge) (F : List Int) (s : Int) (d : PD) : Prop where
  lead : ∀ p ∈ d.kv, Leads es s p.2 p.1
  inF : ∀ p ∈ d.kv, ∀ t ∈ p.2, t.1 ∈ F
  len : ∀ p ∈ d.kv, p.2.length < d.kv.length
  nd : (dkeys d).Nodup
  rng : ∀ p ∈ d.kv, 0 ≤ p.1 ∧ p.1 < n
  st : (s, []) ∈ d.kv
theorem WJ.sz {n : Nat} {es : List Edge} {F : List Int} {s : Int} {d : PD} (h : WJ n es F s d) : d.kv.length ≤ n := by
  have := pigeon n (dkeys d) h.nd (fun x hx => by
    obtain ⟨p, hp, rfl⟩ := List.mem_map.mp hx
    exact h.rng p hp)
  unfold dkeys at this
  simpa using this
structure IJ (n : Nat) (es : List Edge) (F : List Int) (s : Int) (d0 d : PD) (ll : List Int) : Prop where
  wj : WJ n es F s d
  ext : ∀ k ∈ dkeys d0, k ∈ dkeys d
  new : ∀ k ∈ dkeys d, k ∈ dkeys d0 ∨ k ∈ ll
  lat : ∀ k ∈ ll, k ∈ dkeys d
  len : d.kv.length = d0.kv.length + ll.length
structure WpOk (n : Nat) (es : List Edge) (F : List Int) (s : Int) (d : Fd (List (Int × Int))) : Prop where
  wj : WJ n es F s d.dc
  key : ∀ b, b ∈ dkeys d.dc ↔ Conn es s b
/-! ### components -/
structure CJ (n : Nat) (es : List Edge) (pre : List Int) (b : List (List Int) × Dc Bool) : Prop where
  fd : b.1 = (pre.filter (isFst es)).map (compOf n es)
  nd : (dkeys b.2).Nodup
  rng : ∀ k ∈ dkeys b.2, 0 ≤ k ∧ k < n
  key : ∀ k : Int, 0 ≤ k → k < n → (k ∈ dkeys b.2 ↔ ∃ a ∈ pre, Conn es a k)
end Lw

set_option Elab.async false
set_option linter.all false
set_option maxRecDepth 100000
set_option maxHeartbeats 1000000
/-! YE: systems: levels, bad cycles, what is solved. -/
namespace Lw
open PySem L2 DL TL
open Mo (pur bnd lft)
def prs (rows : List (T3 Int Int Int)) : List Edge := rows.map fun r => (r.a, r.b)
def dfs (rows : List (T3 Int Int Int)) : List Int := rows.map (·.c)
structure SOk (n : Nat) (F : List Int) (s : OSystem) : Prop where
  n1 : 1 ≤ n
  n2 : n ≤ 30
  m0 : 0 ≤ s.own_modulus
  ed : EOk n (prs s.rows)
  fo : ForestOk n (prs s.rows) F
  lk : LinksOk n (prs s.rows) F s.links
  gr : s.groups = comps n (prs s.rows)
theorem SOk.rl {n : Nat} {F : List Int} {s : OSystem} (h : SOk n F s) : s.rows.length ≤ 60 := by have := h.ed.len; unfold prs at this; simpa using this
section
variable {n : Nat} {F : List Int} {s : OSystem}
structure LvG (n : Nat) (F : List Int) (s : OSystem) (a x : Int) : Prop where
  ex : ∃ f ∈ firsts n (prs s.rows), ∃ w, Leads (prs s.rows) f w a ∧ (∀ t ∈ w, t.1 ∈ F) ∧ x = (0 - wsum (dfs s.rows) w) % s.own_modulus ∧ (a = f → w = [])
structure LvOk (n : Nat) (F : List Int) (s : OSystem) (lv : List Int) : Prop where
  len : (lv.length : Int) = n
  res : ∀ x ∈ lv, isres s.own_modulus x = true
  lev : ∀ a : Int, 0 ≤ a → a < n → LvG n F s a (pv lv a)
theorem pv_mem {p : List Int} {a : Int} (h0 : 0 ≤ a) (h1 : a < p.length) : pv p a ∈ p := by
  obtain ⟨k, rfl⟩ := Int.eq_ofNat_of_zero_le h0
  have : k < p.length := by omega
  unfold pv
  simp [this]
/-- levels by a potential of the forest -/
theorem LvOk.pot {lv : List Int} (h : SOk n F s) (hl : LvOk n F s lv) {q : Int → Int} (hq : ∀ i ∈ F, q (edg (prs s.rows) i).1 - q (edg (prs s.rows) i).2 = pv (dfs s.rows) i) {a b : Int} (a0 : 0 ≤ a) (a1 : a < n) (b0 : 0 ≤ b) (b1 : b < n) (c : Conn (prs s.rows) a b) : s.own_modulus ∣ (pv lv a - pv lv b) - (q a - q b) := by
  obtain ⟨f, f1, w, w1, w2, w3, _⟩ := (hl.lev a a0 a1).ex
  obtain ⟨g, g1, v, v1, v2, v3, _⟩ := (hl.lev b b0 b1).ex
  have efg : f = g := fst_uniq f1 g1 (Conn.trans ⟨w, w1⟩ (c.trans (Conn.symm ⟨v, v1⟩)))
  subst efg
  have t1 := tele (m := 0) (ds := dfs s.rows) (q := q) w1 (fun t ht => by rw [hq _ (w2 t ht)]; simp)
  have t2 := tele (m := 0) (ds := dfs s.rows) (q := q) v1 (fun t ht => by rw [hq _ (v2 t ht)]; simp)
  have t1 := Int.zero_dvd.mp t1
  have t2 := Int.zero_dvd.mp t2
  have c1 := cg_mod s.own_modulus (0 - wsum (dfs s.rows) w)
  have c2 := cg_symm (cg_mod s.own_modulus (0 - wsum (dfs s.rows) v))
  rw [← w3] at c1
  rw [← v3] at c2
  have := Int.dvd_add c1 c2
  rw [show pv lv a - (0 - wsum (dfs s.rows) w) + (0 - wsum (dfs s.rows) v - pv lv b) = (pv lv a - pv lv b) - (q a - q b) by omega] at this
  exact this
theorem LvOk.fst {lv : List Int} (h : SOk n F s) (hl : LvOk n F s lv) {f : Int} (hf : f ∈ firsts n (prs s.rows)) : pv lv f = 0 := by
  have hr := (mem_firsts.mp hf).1
  obtain ⟨g, g1, w, w1, _, w3, w4⟩ := (hl.lev f hr.1 hr.2).ex
  have : f = g := (fst_uniq g1 hf ⟨w, w1⟩).symm
  rw [w4 this] at w3
  rw [w3]
  unfold wsum
  simp
/-- a potential fits the rows -/
def Fits (s : OSystem) (p : List Int) : Prop := ∀ r ∈ s.rows, s.own_modulus ∣ pv p r.a - pv p r.b - r.c
structure BadC (s : OSystem) (w : List (Int × Int)) : Prop where
  ne : w ≠ []
  len : w.length ≤ 31
  lead : ∃ a, Leads (prs s.rows) a w a
  sum : ¬ s.own_modulus ∣ wsum (dfs s.rows) w
/-! ### solved -/
structure FixB (s : OSystem) (fx : List Int) (w : List (Int × Int)) : Prop where
  ne : w ≠ []
  len : w.length ≤ 31
  lead : ∃ a b, a ∈ fx ∧ b ∈ fx ∧ a ≠ b ∧ Leads (prs s.rows) a w b
  sum : ¬ s.own_modulus ∣ wsum (dfs s.rows) w
structure PotOk (n : Nat) (s : OSystem) (fx : List Int) (p : List Int) : Prop where
  len : (p.length : Int) = n
  res : ∀ x ∈ p, isres s.own_modulus x = true
  fit : Fits s p
  fix : ∀ x ∈ fx, pv p x = 0
  fst : ∀ f ∈ firsts n (prs s.rows), (∀ x ∈ fx, ¬ Conn (prs s.rows) f x) → pv p f = 0
structure GrG (n : Nat) (s : OSystem) (fx lv b : List Int) (f : Int) : Prop where
  ex : ∃ c, (∀ a ∈ compOf n (prs s.rows) f, pv b a = (pv lv a - c) % s.own_modulus) ∧ (∀ x ∈ fx, x ∈ compOf n (prs s.rows) f → pv b x = 0) ∧ ((∀ x ∈ fx, x ∉ compOf n (prs s.rows) f) → c = 0)
structure GJ (n : Nat) (s : OSystem) (fx lv : List Int) (pre b : List Int) : Prop where
  len : (b.length : Int) = n
  res : ∀ x ∈ b, isres s.own_modulus x = true
  old : ∀ f ∈ pre, GrG n s fx lv b f
  new : ∀ f ∈ firsts n (prs s.rows), f ∉ pre → ∀ a ∈ compOf n (prs s.rows) f, pv b a = pv lv a
end
end Lw

set_option Elab.async false
set_option linter.all false
set_option maxRecDepth 100000
set_option maxHeartbeats 1000000
/-! YF: a Web made; transform. -/
namespace Lw
open PySem L2 DL TL
open Mo (pur bnd lft)
structure WebOk (w : OWeb) : Prop extends WOk w where
  fo : ForestOk w.own_size w.own_edges w.own_forest
  lk : LinksOk w.own_size w.own_edges w.own_forest w.links
  m2 : w.own_modulus ≠ 1
theorem WOk.eok {w : OWeb} (h : WOk w) : EOk w.own_size w.own_edges := ⟨h.len, h.ed⟩
/-! ### fixed nodes -/
structure FxOk (w : OWeb) (fx : SqI) : Prop where
  rng : ∀ x ∈ fx.xs, 0 ≤ x ∧ x < w.own_size
  nd : fx.xs.Nodup
theorem FxOk.len {w : OWeb} {fx : SqI} (hw : WOk w) (h : FxOk w fx) : fx.xs.length ≤ 30 := by
  have s0 := hw.s0
  have s1 := hw.s1
  have := pigeon w.own_size.toNat fx.xs h.nd (fun x hx => by have := h.rng x hx; omega)
  omega
/-! ### rows of differences -/
/-! ### transform -/
structure CycW (w : OWeb) (b a : List Int) (l : List (Int × Int)) : Prop where
  ne : l ≠ []
  len : l.length ≤ 31
  lead : ∃ x, Leads w.own_edges x l x
  sum : ¬ w.own_modulus ∣ wsum a l - wsum b l
structure FixW (w : OWeb) (b a : List Int) (fx : List Int) (l : List (Int × Int)) : Prop where
  ne : l ≠ []
  len : l.length ≤ 31
  lead : ∃ x y, x ∈ fx ∧ y ∈ fx ∧ x ≠ y ∧ Leads w.own_edges x l y
  sum : ¬ w.own_modulus ∣ wsum a l - wsum b l
structure PotW (w : OWeb) (b a : List Int) (fx : List Int) (p : List Int) : Prop where
  pt : Pt w p
  sw : swL w.own_modulus w.own_edges b p = a
  fix : ∀ x ∈ fx, pv p x = 0
  fst : ∀ f ∈ firsts w.own_size w.own_edges, (∀ x ∈ fx, ¬ Conn w.own_edges f x) → pv p f = 0
/-! ### what can be reached -/
def Rch (w : OWeb) (b a : List Int) : Prop := ∃ p, Pt w p ∧ swL w.own_modulus w.own_edges b p = a
theorem led_uniq' {w : OWeb} {g0 g g' : List Int} {A B : Int → Int} (hw : WOk w) (h : Led w g0 A g) (h' : Led w g0 B g') (e : ∀ i, 0 ≤ i → i < w.own_size → w.own_modulus ∣ A i - B i) : g = g' := by
  refine gains_ext hw h.gd h'.gd (fun k hk => ?_)
  have he := hw.ed _ (edg_mem hk)
  have c1 := h.eq k hk
  have c2 := cg_symm (h'.eq k hk)
  have c3 := e _ he.1 he.2.1
  have c4 := cg_symm (e _ he.2.2.1 he.2.2.2)
  have := Int.dvd_add (Int.dvd_add c1 c2) (Int.dvd_add c3 c4)
  have key : ∀ x y z a b c d : Int, x - (y + a - b) + (y + c - d - z) + (a - c + (d - b)) = x - z + 2 * (d - b) - 2 * (d - b) := by intros; omega
  rw [show pv g ↑k - (pv g0 ↑k + A (edg w.own_edges ↑k).1 - A (edg w.own_edges ↑k).2) + (pv g0 ↑k + B (edg w.own_edges ↑k).1 - B (edg w.own_edges ↑k).2 - pv g' ↑k) + (A (edg w.own_edges ↑k).1 - B (edg w.own_edges ↑k).1 + (B (edg w.own_edges ↑k).2 - A (edg w.own_edges ↑k).2)) = pv g ↑k - pv g' ↑k by omega] at this
  exact this
theorem led_1 {w : OWeb} {g p : List Int} (hw : WOk w) (h : Gd w g) : Led w g (pv p) (swL w.own_modulus w.own_edges g p) := by
  have := led_sw (B := pv p) hw (led_0 h) (p := p) (fun i _ => cg_refl _ _)
  have e : (fun i => 0 + pv p i) = pv p := by funext i; omega
  rw [e] at this
  exact this
def negP (m : Int) (p : List Int) : List Int := p.map fun x => (0 - x) % m
def addP (m : Int) (p q : List Int) : List Int := (p.zip q).map fun x => (x.1 + x.2) % m
theorem neg_pt {w : OWeb} {p : List Int} (hw : WOk w) (h : Pt w p) : Pt w (negP w.own_modulus p) := ⟨by unfold negP; simpa using h.len, fun x hx => by
  unfold negP at hx
  obtain ⟨y, _, rfl⟩ := List.mem_map.mp hx
  exact isres_mod hw.m0⟩
theorem neg_pv {w : OWeb} {p : List Int} (h : Pt w p) {i : Int} (h0 : 0 ≤ i) (h1 : i < w.own_size) : pv (negP w.own_modulus p) i = (0 - pv p i) % w.own_modulus := pv_map h0 (by rw [h.len]; exact h1)
theorem add_pt {w : OWeb} {p q : List Int} (hw : WOk w) (h : Pt w p) (k : Pt w q) : Pt w (addP w.own_modulus p q) := ⟨by
  have h1 := h.len
  have h2 := k.len
  unfold addP
  rw [List.length_map, List.length_zip]
  omega, fun x hx => by
  unfold addP at hx
  obtain ⟨y, _, rfl⟩ := List.mem_map.mp hx
  exact isres_mod hw.m0⟩
theorem add_pv {w : OWeb} {p q : List Int} (h : Pt w p) (k : Pt w q) {i : Int} (h0 : 0 ≤ i) (h1 : i < w.own_size) : pv (addP w.own_modulus p q) i = (pv p i + pv q i) % w.own_modulus := by
  have l1 := h.len
  have l2 := k.len
  obtain ⟨j, rfl⟩ := Int.eq_ofNat_of_zero_le h0
  have a : j < p.length := by omega
  have b : j < q.length := by omega
  have hz : (p.zip q)[j]? = some (p[j], q[j]) := by rw [List.getElem?_eq_getElem (by simp; omega), List.getElem_zip]
  unfold addP pv
  rw [List.getD_eq_getElem?_getD, Int.toNat_natCast, List.getElem?_map, hz]
  simp [a, b]
theorem sw_neg {w : OWeb} {b p : List Int} (hw : WOk w) (hb : Gd w b) (hp : Pt w p) : swL w.own_modulus w.own_edges (swL w.own_modulus w.own_edges b p) (negP w.own_modulus p) = b := by
  refine led_uniq' hw (led_sw (B := pv (negP w.own_modulus p)) hw (led_1 hw hb) (fun i _ => cg_refl _ _)) (led_0 hb) (fun i i0 i1 => ?_)
  rw [neg_pv hp i0 i1]
  have := cg_mod w.own_modulus (0 - pv p i)
  rw [show pv p i + (0 - pv p i) % w.own_modulus - 0 = (0 - pv p i) % w.own_modulus - (0 - pv p i) by omega]
  exact this
theorem sw_add {w : OWeb} {b p q : List Int} (hw : WOk w) (hb : Gd w b) (hp : Pt w p) (hq : Pt w q) : swL w.own_modulus w.own_edges (swL w.own_modulus w.own_edges b p) q = swL w.own_modulus w.own_edges b (addP w.own_modulus p q) := by
  refine led_uniq' hw (led_sw (B := pv q) hw (led_1 hw hb) (fun i _ => cg_refl _ _)) (led_1 hw hb) (fun i i0 i1 => ?_)
  rw [add_pv hp hq i0 i1]
  exact cg_symm (cg_mod w.own_modulus _)
theorem Rch.symm {w : OWeb} {b a : List Int} (hw : WOk w) (hb : Gd w b) (h : Rch w b a) : Rch w a b := by
  obtain ⟨p, hp, rfl⟩ := h
  exact ⟨_, neg_pt hw hp, sw_neg hw hb hp⟩
theorem Rch.trans {w : OWeb} {a b c : List Int} (hw : WOk w) (ha : Gd w a) (h : Rch w a b) (k : Rch w b c) : Rch w a c := by
  obtain ⟨p, hp, rfl⟩ := h
  obtain ⟨q, hq, rfl⟩ := k
  exact ⟨_, add_pt hw hp hq, (sw_add hw ha hp hq).symm⟩
/-! ### is_transform at a potential -/
theorem strOk_cyc : PyData.strOk ("cycle" : Str) = true := by decide +kernel
theorem strOk_fix : PyData.strOk ("fixed" : Str) = true := by decide +kernel
theorem eqS_ok {neg : Bool} {x y : Str} (hx : PyData.strOk x = true) (hy : PyData.strOk y = true) : eqS neg x y = .ok (neg ^^ decide (x = y)) := by unfold eqS; rw [hx, hy]; rfl
end Lw

set_option Elab.async false
set_option linter.all false
set_option maxRecDepth 100000
set_option maxHeartbeats 1000000
/-! YG: what laws draw. -/
namespace Lw
open PySem L2 DL TL
open Mo (pur bnd lft)
end Lw

set_option Elab.async false
set_option linter.all false
set_option maxRecDepth 100000
set_option maxHeartbeats 1000000
/-! YH: walks looked at, results judged. -/
namespace Lw
open PySem L2 DL TL
open Mo (pur bnd lft)
theorem Leads.head {es : List Edge} {l : List (Int × Int)} {a b : Int} (h : Leads es a l b) {s : Int × Int} (hs : l[0]? = some s) : (ends es s).1 = a := by
  cases l with
  | nil => simp at hs
  | cons t l => simp at hs; subst hs; exact h.2.1
theorem Leads.last {es : List Edge} : ∀ {l : List (Int × Int)} {a b : Int}, Leads es a l b → ∀ {s : Int × Int}, l.getLast? = some s → (ends es s).2 = b
  | [], _, _, _, _, hs => by simp at hs
  | [t], a, b, h, s, hs => by simp at hs; subst hs; exact h.2.2
  | t :: u :: l, a, b, h, s, hs => Leads.last (l := u :: l) h.2.2 (by simpa using hs)
/-- the two words of walks -/
def WdOk (x : Str) : Prop := x = ("cycle" : Str) ∨ x = ("fixed" : Str)
theorem WdOk.str {x : Str} (h : WdOk x) : PyData.strOk x = true := by rcases h with rfl | rfl; exact strOk_cyc; exact strOk_fix
end Lw

set_option Elab.async false
set_option linter.all false
set_option maxRecDepth 100000
set_option maxHeartbeats 1000000
/-! YM: targets: reach, is_reach, unmet. -/
namespace Lw
open PySem L2 DL TL
open Mo (pur bnd lft)
def tks (t : Fd Int) : List Int := srt (t.kv.map (Prod.fst : Int × Int → Int))
def tv (t : Fd Int) (k : Int) : Int := match dfind t.dc k with
  | some v => v
  | none => 0
structure TgOk (w : OWeb) (t : Fd Int) : Prop where
  nd : (dkeys t.dc).Nodup
  rng : ∀ p ∈ t.kv, 0 ≤ p.1 ∧ p.1 < w.own_edges.length
  res : ∀ p ∈ t.kv, isres w.own_modulus p.2 = true
section
variable {w : OWeb} {t : Fd Int}
theorem TgOk.keys (h : TgOk w t) {k : Int} (hk : k ∈ dkeys t.dc) : 0 ≤ k ∧ k < w.own_edges.length := by
  obtain ⟨p, hp, rfl⟩ := List.mem_map.mp hk
  exact h.rng p hp
/-! ### the web of the target -/
def tEs (w : OWeb) (t : Fd Int) : List Edge := (tks t).map (edg w.own_edges)
/-! ### sums along target edges -/
def tsum (t : Fd Int) (g : List Int) (l : List (Int × Int)) : Int := (l.map fun s => s.2 * (tv t s.1 - pv g s.1)).sum
/-- a potential meets the target -/
def MeetP (w : OWeb) (g : List Int) (t : Fd Int) (p : List Int) : Prop := ∀ k ∈ dkeys t.dc, pv (swL w.own_modulus w.own_edges g p) k = tv t k
/-! ### the functions -/
/-! ### reach -/
structure TCyc (w : OWeb) (g : List Int) (t : Fd Int) (l : List (Int × Int)) : Prop where
  ne : l ≠ []
  len : l.length ≤ 31
  lead : ∃ x, Leads w.own_edges x l x
  ks : ∀ s ∈ l, s.1 ∈ dkeys t.dc
  sum : ¬ w.own_modulus ∣ tsum t g l
structure TFix (w : OWeb) (g : List Int) (t : Fd Int) (fx : List Int) (l : List (Int × Int)) : Prop where
  ne : l ≠ []
  len : l.length ≤ 31
  lead : ∃ x y, x ∈ fx ∧ y ∈ fx ∧ x ≠ y ∧ Leads w.own_edges x l y
  ks : ∀ s ∈ l, s.1 ∈ dkeys t.dc
  sum : ¬ w.own_modulus ∣ tsum t g l
structure TPot (w : OWeb) (g : List Int) (t : Fd Int) (fx : List Int) (p : List Int) : Prop where
  pt : Pt w p
  meet : MeetP w g t p
  fix : ∀ x ∈ fx, pv p x = 0
  fst : ∀ f ∈ firsts w.own_size (tEs w t), (∀ x ∈ fx, ¬ Conn (tEs w t) f x) → pv p f = 0
end
end Lw

set_option Elab.async false
set_option linter.all false
set_option maxRecDepth 100000
set_option maxHeartbeats 2000000
/-! YI: marks spread along edges, n times: levels and groups as the laws find them. -/
namespace Lw
open PySem L2 DL TL
open Mo (pur bnd lft)
/-! ### bounds -/
def BB (B x : Int) : Prop := -B ≤ x ∧ x ≤ B
theorem bb_mono {B C x : Int} (h : BB B x) (k : B ≤ C) : BB C x := by unfold BB at *; omega
/-! ### spreading -/
/-! ### levels -/
def PotF (m : Int) (es : List Edge) (old new : List Int) (q : Int → Int) : Prop := ∀ k : Nat, k < es.length → m ∣ pv new k - (pv old k + q (edg es k).1 - q (edg es k).2)
structure LJ (n : Nat) (m : Int) (es : List Edge) (old new P : List Int) (d : Dc Int) : Prop where
  nd : (dkeys d).Nodup
  rg : ∀ a ∈ dkeys d, 0 ≤ a ∧ a < (n : Int)
  co : ∀ a ∈ dkeys d, ∃ b ∈ P, Conn es b a
  vl : ∀ p ∈ d.kv, isres m p.2 = true ∧ (p.1 ∈ firsts n es → p.2 = 0) ∧ ∃ f ∈ firsts n es, f ∈ dkeys d ∧ Conn es f p.1 ∧ ∀ q, PotF m es old new q → m ∣ p.2 - (q p.1 - q f)
  bb : ∀ B : Int, 60 ≤ B → m ≤ 60 → (∀ x ∈ old, BB B x) → (∀ x ∈ new, BB B x) → ∀ p ∈ d.kv, BB (2 * B * d.kv.length) p.2
theorem LJ.sz {n : Nat} {m : Int} {es : List Edge} {old new P : List Int} {d : Dc Int} (h : LJ n m es old new P d) : d.kv.length ≤ n := by
  have := pigeon n (dkeys d) h.nd h.rg
  unfold dkeys at this
  simpa using this
structure LvL (n : Nat) (m : Int) (es : List Edge) (old new lv : List Int) : Prop where
  len : (lv.length : Int) = n
  res : ∀ x ∈ lv, isres m x = true
  fst : ∀ f ∈ firsts n es, pv lv f = 0
  dif : ∀ a : Int, 0 ≤ a → a < n → ∃ f ∈ firsts n es, Conn es f a ∧ ∀ q, PotF m es old new q → m ∣ pv lv a - (q a - q f)
  bb : ∀ B : Int, 60 ≤ B → m ≤ 60 → (∀ x ∈ old, BB B x) → (∀ x ∈ new, BB B x) → ∀ x ∈ lv, BB (2 * B * n) x
theorem potF_of {w : OWeb} {b a p : List Int} (hb : Gd w b) (h : swL w.own_modulus w.own_edges b p = a) : PotF w.own_modulus w.own_edges b a (pv p) := fun k hk => by
  rw [← h, sw_pv hb.len (by omega) (by omega)]
  exact cg_mod _ _
theorem LvL.pt {w : OWeb} {n : Nat} {b a lv : List Int} (hn : (n : Int) = w.own_size) (h : LvL n w.own_modulus w.own_edges b a lv) : Pt w lv := ⟨by rw [← hn]; exact h.len, h.res⟩
theorem LvL.iff {w : OWeb} {n : Nat} {b a lv : List Int} (hw : WOk w) (hn : (n : Int) = w.own_size) (hb : Gd w b) (ha : Gd w a) (h : LvL n w.own_modulus w.own_edges b a lv) : swL w.own_modulus w.own_edges b lv = a ↔ Rch w b a := by
  constructor
  · intro e
    exact ⟨lv, h.pt hn, e⟩
  · rintro ⟨p, hp, e⟩
    refine gains_ext hw (sw_gd hw hb) ha fun k hk => ?_
    rw [sw_pv hb.len (by omega) (by omega)]
    have hr := hw.ed _ (edg_mem hk)
    obtain ⟨f, hf, cf, h1⟩ := h.dif (edg w.own_edges k).1 hr.1 (by omega)
    obtain ⟨g, hg, cg, h2⟩ := h.dif (edg w.own_edges k).2 hr.2.2.1 (by omega)
    have := fst_uniq hf hg ((cf.trans (Conn.edge (edg_mem hk))).trans cg.symm)
    subst this
    have q := potF_of hb e
    have h1 := h1 _ q
    have h2 := h2 _ q
    have h3 := q k hk
    have c := cg_mod w.own_modulus (pv b k + pv lv (edg w.own_edges k).1 - pv lv (edg w.own_edges k).2)
    have := Int.dvd_sub (Int.dvd_add c (Int.dvd_sub h1 h2)) h3
    refine (Int.dvd_iff_emod_eq_zero ..).mpr ?_
    have e := (Int.dvd_iff_emod_eq_zero ..).mp this
    rw [← e]
    congr 1
    omega
end Lw

set_option Elab.async false
set_option linter.all false
set_option maxRecDepth 100000
set_option maxHeartbeats 2000000
/-! YJ: walks and sums as the laws look at them; groups. -/
namespace Lw
open PySem L2 DL TL
open Mo (pur bnd lft)
theorem outF_inl {β ρ φ : Type} {k : β → W φ} {j : ρ → W φ} {b : β} {Q : φ → Prop} {X : Str → D → Prop} (h : k b Q X) : outF k j (.inl b) Q X := h
theorem Leads.split {es : List Edge} : ∀ {w v : List (Int × Int)} {a b : Int}, Leads es a (w ++ v) b → ∃ c, Leads es a w c ∧ Leads es c v b
  | [], v, a, b, h => ⟨a, rfl, h⟩
  | s :: w, v, a, b, h => by
    obtain ⟨c, h1, h2⟩ := Leads.split (w := w) h.2.2
    exact ⟨c, ⟨h.1, h.2.1, h1⟩, h2⟩
/-! ### groups by least names -/
structure GN (n : Nat) (es : List Edge) (g : List Int) : Prop where
  len : (g.length : Int) = n
  co : ∀ a : Int, 0 ≤ a → a < n → 0 ≤ pv g a ∧ pv g a ≤ a ∧ Conn es (pv g a) a
theorem GN.fst {n : Nat} {es : List Edge} {g : List Int} (h : GN n es g) {f : Int} (hf : f ∈ firsts n es) : pv g f = f := by
  have hr := (mem_firsts.mp hf).1
  have c := h.co f hr.1 hr.2
  by_cases e : pv g f = f
  · exact e
  · exact ((mem_firsts.mp hf).2 _ c.1 (by omega) c.2.2).elim
end Lw

set_option Elab.async false
set_option linter.all false
set_option maxRecDepth 100000
set_option maxHeartbeats 1000000
/-! YN: one potential; a target as a web of its own; dicts filled; answers compared. -/
namespace Lw
open PySem L2 DL TL
open Mo (pur bnd lft)
open Enc (enc)
/-! ### dicts filled -/
structure DK (n : Nat) (m : Int) (b : Dc Int) : Prop where
  nd : (dkeys b).Nodup
  rng : ∀ p ∈ b.kv, 0 ≤ p.1 ∧ p.1 < (n : Int)
  res : ∀ p ∈ b.kv, isres m p.2 = true
theorem DK.nil {n : Nat} {m : Int} : DK n m ⟨[]⟩ := ⟨by simp [dkeys], by simp, by simp⟩
theorem DK.len {n : Nat} {m : Int} {b : Dc Int} (h : DK n m b) : b.kv.length ≤ n := by
  have := pigeon n (dkeys b) h.nd (fun x hx => by
    obtain ⟨p, hp, rfl⟩ := List.mem_map.mp hx
    exact h.rng p hp)
  unfold dkeys at this
  rwa [List.length_map] at this
theorem putV_mem {α : Type} {b : Dc α} {k : Int} {v : α} {p : Int × α} (h : p ∈ (dputV b k v).kv) : p ∈ b.kv ∨ p = (k, v) := by
  unfold dputV at h
  dsimp only at h
  split at h
  · obtain ⟨q, hq, e⟩ := List.mem_map.mp h
    split at e
    · rename_i z
      right; rw [← e, z]
    · left; rw [← e]; exact hq
  · rcases List.mem_append.mp h with z | z
    · exact .inl z
    · right; simpa using z
theorem putV_self {α : Type} {b : Dc α} {k : Int} {v : α} : (k, v) ∈ (dputV b k v).kv := by
  unfold dputV
  dsimp only
  split
  · rename_i z
    obtain ⟨q, hq, e⟩ := List.any_eq_true.mp z
    have e : q.1 = k := of_decide_eq_true e
    exact List.mem_map.mpr ⟨q, hq, by rw [if_pos e, e]⟩
  · simp
theorem DK.put {n : Nat} {m : Int} {b : Dc Int} {x v : Int} (h : DK n m b) (hn : n ≤ 1000) (x0 : 0 ≤ x) (x1 : x < n) (hv : isres m v = true) : dput b x v = .ok (dputV b x v) ∧ DK n m (dputV b x v) ∧ dget (dputV b x v) x = .ok v := by
  have hl := h.len
  have nd : (dkeys (dputV b x v)).Nodup := by
    rw [dkeys_put]
    split
    · exact h.nd
    · rename_i z
      rw [List.nodup_append]
      refine ⟨h.nd, by simp, fun y hy w hw e => ?_⟩
      simp at hw
      rw [e, hw] at hy
      exact z hy
  refine ⟨?_, ⟨nd, fun p hp => ?_, fun p hp => ?_⟩, dget_mem nd putV_self⟩
  · unfold dput
    rw [if_pos (Nat.lt_of_le_of_lt hl (Nat.lt_of_le_of_lt hn (by decide)))]
  · rcases putV_mem hp with z | z
    · exact h.rng p z
    · rw [z]; exact ⟨x0, x1⟩
  · rcases putV_mem hp with z | z
    · exact h.res p z
    · rw [z]; exact hv
theorem DK.tg {w : OWeb} {b : Dc Int} (h : DK w.own_edges.length w.own_modulus b) : TgOk w b.fd := ⟨h.nd, h.rng, h.res⟩
/-! ### a target as a web of its own -/
structure Alone (w : OWeb) (t : Fd Int) (w' : OWeb) : Prop where
  s : w'.own_size = w.own_size
  e : w'.own_edges = tEs w t
  m : w'.own_modulus = w.own_modulus
section
variable {w w' : OWeb} {t : Fd Int} {g : List Int}
end
end Lw

set_option Elab.async false
set_option linter.all false
set_option maxRecDepth 100000
set_option maxHeartbeats 2000000
/-! YO: plain data. -/
namespace Lw
open PySem L2 DL TL
open Mo (pur bnd lft)
open Enc (enc)
mutual
/-- numbers, truths, texts, None, lists and tuples of these -/
def plD : D → Bool
  | .non => true
  | .bl _ => true
  | .int _ => true
  | .str _ => true
  | .nd t l => (match t with | .lst => true | .tup => true | _ => false) && plDs l
  | _ => false
def plDs : List D → Bool
  | [] => true
  | d :: l => plD d && plDs l
end
theorem bool_inj : ∀ a b : Bool, enc a = enc b → a = b := fun a b h => by cases h; rfl
theorem int_inj : ∀ a b : Int, enc a = enc b → a = b := fun a b h => by cases h; rfl
/-- which kind -/
def isI : D → Bool
  | .int _ => true
  | .bl _ => true
  | _ => false
def isBo : D → Bool
  | .bl _ => true
  | _ => false
theorem pl_cases {d : D} (h : plD d = true) : d = .non ∨ (∃ b, d = .bl b) ∨ (∃ i, d = .int i) ∨ (∃ s, d = .str s) ∨ (∃ l, d = .nd .lst l ∧ plDs l = true) ∨ ∃ l, d = .nd .tup l ∧ plDs l = true := by
  cases d with
  | non => exact .inl rfl
  | bl b => exact .inr (.inl ⟨b, rfl⟩)
  | int i => exact .inr (.inr (.inl ⟨i, rfl⟩))
  | str s => exact .inr (.inr (.inr (.inl ⟨s, rfl⟩)))
  | nd t l =>
    cases t with
    | lst => exact .inr (.inr (.inr (.inr (.inl ⟨l, rfl, by simpa [plD] using h⟩))))
    | tup => exact .inr (.inr (.inr (.inr (.inr ⟨l, rfl, by simpa [plD] using h⟩))))
    | _ => simp [plD] at h
  | _ => exact absurd h (by simp [plD])
theorem isi_int {x : Dt} (h : plD x.d = true) : (castE (isiE (enc x) (.ty "int")) : E Bool) = .ok (isI x.d) := castE_ok (fun M => by
  show isiE x.d (.ty "int") M = .ok (.bl (isI x.d)) M
  rcases pl_cases h with e | ⟨_, e⟩ | ⟨_, e⟩ | ⟨_, e⟩ | ⟨_, e, _⟩ | ⟨_, e, _⟩ <;> rw [e] <;> rfl) bool_inj
theorem isi_bool {x : Dt} (h : plD x.d = true) : (castE (isiE (enc x) (.ty "bool")) : E Bool) = .ok (isBo x.d) := castE_ok (fun M => by
  show isiE x.d (.ty "bool") M = .ok (.bl (isBo x.d)) M
  rcases pl_cases h with e | ⟨_, e⟩ | ⟨_, e⟩ | ⟨_, e⟩ | ⟨_, e, _⟩ | ⟨_, e, _⟩ <;> rw [e] <;> rfl) bool_inj
/-- a whole number, no truth -/
def isN : D → Bool
  | .int _ => true
  | _ => false
theorem isN_iff {d : D} : isN d = (isI d && !isBo d) := by cases d <;> rfl
theorem is_integer_dat {x : Dt} (h : plD x.d = true) : p_is_integer_2 x = .ok (isN x.d) := by
  unfold p_is_integer_2
  rw [isi_int h, isi_bool h, isN_iff]
  cases isI x.d <;> simp [lok_bnd, lftE, ok_bndE, purE, pur_bnd]
def inR (a b : Int) : D → Bool
  | .int i => decide (a ≤ i) && decide (i ≤ b)
  | _ => false
theorem is_within_dat {x : Dt} {a b : Int} (h : plD x.d = true) : p_is_within_2 x a b = .ok (inR a b x.d) := by
  unfold p_is_within_2
  rw [is_integer_dat h]
  by_cases q : isN x.d = true
  · obtain ⟨i, hi⟩ : ∃ i, x.d = .int i := by
      cases e : x.d <;> rw [e] at q <;> first | exact ⟨_, rfl⟩ | cases q
    have e1 : (castE (eChain leE leE (eC (enc a)) (eC (enc x)) (eC (enc b)) []) : E Bool) = .ok (inR a b x.d) := castE_ok (fun M => by
      show eChain leE leE (eC (.int a)) (eC x.d) (eC (.int b)) [] M = _
      rw [hi]
      by_cases z : a ≤ i
      · by_cases y : i ≤ b <;> simp [eChain, eC, Ev.bnd, Ev.ret, Out.bnd, leE, iop, asB, inR, z, y, enc]
      · simp [eChain, eC, Ev.bnd, Ev.ret, Out.bnd, leE, iop, asB, inR, z, enc]) bool_inj
    rw [q, e1]
    simp [lok_bnd, lftE, ok_bndE, purE, pur_bnd]
  · have e2 : inR a b x.d = false := by
      cases e : x.d <;> first | rfl | (rw [e] at q; exact absurd rfl q)
    rw [e2, Bool.eq_false_iff.mpr q]
    simp [lok_bnd, lftE, ok_bndE, purE, pur_bnd]
end Lw

set_option Elab.async false
set_option linter.all false
set_option maxRecDepth 100000
set_option maxHeartbeats 2000000
/-! YP: steps and walks as data. -/
namespace Lw
open PySem L2 DL TL
open Mo (pur bnd lft)
open Enc (enc)
end Lw

set_option Elab.async false
set_option linter.all false
set_option maxRecDepth 100000
set_option maxHeartbeats 2000000
/-! YQ: is_transform at data. -/
namespace Lw
open PySem L2 DL TL
open Mo (pur bnd lft)
open Enc (enc)
end Lw

set_option Elab.async false
set_option linter.all false
set_option maxRecDepth 100000
set_option maxHeartbeats 2000000
/-! YK: the cycles of a web, their sums, normal gains. -/
namespace Lw
open PySem L2 DL TL
open Mo (pur bnd lft)
end Lw

set_option Elab.async false
set_option linter.all false
set_option maxRecDepth 100000
set_option maxHeartbeats 2000000
/-! YL: how large the drawn numbers are; texts of lists of numbers. -/
namespace Lw
open PySem L2 DL TL
open Mo (pur bnd lft)
open Enc (enc)
/-! ### texts -/
theorem strOk_of (s : String) : PyData.strOk (Str.ofString s) = true := by
  rw [Str.ofString_eq_toList]
  unfold PyData.strOk
  simp
  intro c hc
  have := c.valid
  unfold UInt32.isValidChar Nat.isValidChar at this
  show c.val.toNat < 1114112
  omega
theorem strOk_app {a b : Str} (ha : PyData.strOk a = true) (hb : PyData.strOk b = true) : PyData.strOk (a ++ b) = true := by
  unfold PyData.strOk at *
  show (a.cps ++ b.cps).all _ = true
  rw [Array.all_append, ha, hb]
  rfl
theorem strOk_from : ∀ (ts : List Str) (k : Nat) (acc : Str), PyData.strOk acc = true → (∀ t ∈ ts, PyData.strOk t = true) → PyData.strOk (textFrom k acc ts) = true
  | [], k, acc, h, _ => h
  | t :: ts, k, acc, h, ht => by
    unfold textFrom
    exact strOk_from ts _ _ (strOk_app (strOk_app h (strOk_of _)) (ht t (by simp))) (fun u hu => ht u (by simp [hu]))
theorem strOk_list {ts : List Str} (h : ∀ t ∈ ts, PyData.strOk t = true) : PyData.strOk (listText ts) = true := strOk_app (strOk_from ts 0 _ (strOk_of _) h) (strOk_of _)
def rpS (l : List Int) : Str := (PyEq.pd l).shown
theorem shownAll_ints : ∀ l : List Int, PyData.shownAll (l.map PyData.int) = l.map fun i => Str.ofString (toString i)
  | [] => rfl
  | x :: l => by rw [List.map_cons, PyData.shownAll, shownAll_ints l]; rfl
theorem rpS_eq (l : List Int) : rpS l = listText (l.map fun i => Str.ofString (toString i)) := by
  show PyData.shown (.list (l.map PyData.int)) = _
  rw [PyData.shown, shownAll_ints]
theorem strOk_rp (l : List Int) : PyData.strOk (rpS l) = true := by
  rw [rpS_eq]
  refine strOk_list fun t ht => ?_
  obtain ⟨i, _, rfl⟩ := List.mem_map.mp ht
  exact strOk_of _
theorem log2_bb {i : Int} (h : BB (10 ^ 30) i) : i.natAbs.log2 < 1920 := by
  by_cases z : i.natAbs = 0
  · rw [z]; decide
  · rw [Nat.log2_lt z]
    have h1 : i.natAbs ≤ 10 ^ 30 := by unfold BB at h; omega
    refine Nat.lt_of_le_of_lt h1 (Nat.lt_of_lt_of_le (show 10 ^ 30 < 2 ^ 100 by decide) (Nat.pow_le_pow_right (by decide) (by decide)))
theorem showable_ints : ∀ {l : List Int}, (∀ x ∈ l, BB (10 ^ 30) x) → PyData.showableAll (l.map PyData.int) = true
  | [], _ => rfl
  | x :: l, h => by
    rw [List.map_cons, PyData.showableAll, showable_ints fun y hy => h y (by simp [hy]), PyData.showable, decide_eq_true (log2_bb (h x (by simp)))]
    rfl
theorem noDict_ints : ∀ l : List Int, PyData.hasDictAll (l.map PyData.int) = false
  | [] => rfl
  | x :: l => by rw [List.map_cons, PyData.hasDictAll, noDict_ints l]; rfl
theorem sum_le {k : Nat} : ∀ {l : List Nat}, (∀ x ∈ l, x ≤ k) → l.sum ≤ l.length * k
  | [], _ => by simp
  | x :: l, h => by
    have := sum_le (k := k) (l := l) fun y hy => h y (by simp [hy])
    have := h x (by simp)
    rw [List.sum_cons, List.length_cons, Nat.add_mul]
    omega
theorem rpOk_ints {l : List Int} (hl : l.length ≤ 1000) (h : ∀ x ∈ l, BB (10 ^ 30) x) : RpOk (PyEq.pd l) := by
  refine ⟨?_, ?_, ?_⟩
  · show PyData.showable (.list (l.map PyData.int)) = true
    rw [PyData.showable]; exact showable_ints h
  · show PyData.hasDict (.list (l.map PyData.int)) = false
    rw [PyData.hasDict]; exact noDict_ints l
  · have := listText_len_le (l.map fun i => Str.ofString (toString i))
    rw [← rpS_eq] at this
    have e := sum_le (k := 1921) (l := (l.map fun i => Str.ofString (toString i)).map (·.length)) (fun x hx => by
      obtain ⟨t, ht, rfl⟩ := List.mem_map.mp hx
      obtain ⟨i, hi, rfl⟩ := List.mem_map.mp ht
      exact PyProof.Rows.int_text_len_1921 (log2_bb (h i hi)))
    simp only [List.length_map] at e this
    show (rpS l).length ≤ sizeLine
    have : sizeLine = 16777216 := by decide
    omega
theorem rprY_ints {l : List Int} (hl : l.length ≤ 1000) (h : ∀ x ∈ l, BB (10 ^ 30) x) : rprY l = .ok (rpS l) := by
  unfold rprY
  rw [if_pos (rpOk_ints hl h)]
  rfl
theorem castE_ints {l : List Int} (hl : l.length ≤ 1000) (h : ∀ x ∈ l, BB (10 ^ 30) x) : (castE (reprE (enc l)) : E Str) = .ok (rpS l) := by
  refine castE_ok (fun M => ?_) (fun x y h => by cases h; rfl)
  unfold reprE
  rw [PyEq.ok M 14 l (by decide)]
  dsimp only
  rw [if_pos (rpOk_ints hl h)]
  rfl
end Lw

set_option Elab.async false
set_option linter.all false
set_option maxRecDepth 100000
set_option maxHeartbeats 2000000
/-! YR: what can be shown, and its text. -/
namespace Lw
open PySem L2 DL TL
open Mo (pur bnd lft)
open Enc (enc)
/-- depth at most e, bulk at most n, whole numbers of 30 digits -/
structure Shw (e n : Nat) (d : PyData) : Prop where
  sh : d.showable = true
  de : d.depth ≤ e
  lv : d.leavesShort 1921 = true
  bk : d.bulk ≤ n
  ok : PyData.strOk d.shown = true
theorem Shw.mono {e n e' n' : Nat} {d : PyData} (h : Shw e n d) (he : e ≤ e') (hn : n ≤ n') : Shw e' n' d := ⟨h.sh, Nat.le_trans h.de he, h.lv, Nat.le_trans h.bk hn, h.ok⟩
theorem Shw.int {i : Int} (h : BB (10 ^ 30) i) : Shw 0 0 (.int i) := ⟨by rw [PyData.showable, decide_eq_true (log2_bb h)], by rw [PyData.depth]; omega, by
  rw [PyData.leavesShort]; exact decide_eq_true (PyProof.Rows.int_text_len_1921 (log2_bb h)), by rw [PyData.bulk]; omega, strOk_of _⟩
theorem Shw.bool (b : Bool) : Shw 0 0 (.bool b) := ⟨rfl, by rw [PyData.depth]; omega, rfl, by rw [PyData.bulk]; omega, by cases b <;> decide +kernel⟩
theorem Shw.none : Shw 0 0 .none := ⟨rfl, by rw [PyData.depth]; omega, rfl, by rw [PyData.bulk]; omega, by decide +kernel⟩
theorem shw_all {e n : Nat} : ∀ {ds : List PyData}, (∀ d ∈ ds, Shw e n d) → PyData.showableAll ds = true ∧ PyData.depthAll ds ≤ e ∧ PyData.leavesShortAll 1921 ds = true ∧ PyData.bulkAll ds ≤ ds.length * (n + 1) ∧ ∀ t ∈ PyData.shownAll ds, PyData.strOk t = true
  | [], _ => ⟨rfl, by rw [PyData.depthAll]; omega, rfl, by rw [PyData.bulkAll]; omega, by rw [PyData.shownAll]; simp⟩
  | d :: ds, h => by
    obtain ⟨h1, h2, h3, h4, h5⟩ := shw_all (ds := ds) fun x hx => h x (by simp [hx])
    have k := h d (by simp)
    refine ⟨by rw [PyData.showableAll, k.sh, h1]; rfl, by rw [PyData.depthAll]; exact Nat.max_le.mpr ⟨k.de, h2⟩, by rw [PyData.leavesShortAll, k.lv, h3]; rfl, ?_, ?_⟩
    · rw [PyData.bulkAll, List.length_cons, Nat.add_mul]
      have := k.bk
      omega
    · rw [PyData.shownAll]
      intro t ht
      rcases List.mem_cons.mp ht with rfl | z
      · exact k.ok
      · exact h5 t z
theorem Shw.list {e n c : Nat} {ds : List PyData} (h : ∀ d ∈ ds, Shw e n d) (hc : ds.length * (n + 1) ≤ c) : Shw (e + 1) c (.list ds) := by
  obtain ⟨h1, h2, h3, h4, h5⟩ := shw_all h
  exact ⟨by rw [PyData.showable]; exact h1, by rw [PyData.depth]; omega, by rw [PyData.leavesShort]; exact h3, by rw [PyData.bulk]; omega, by rw [PyData.shown]; exact strOk_list h5⟩
theorem strOk_join : ∀ {ts : List Str}, (∀ t ∈ ts, PyData.strOk t = true) → PyData.strOk (Str.join ", " ts) = true
  | [], _ => by decide +kernel
  | [x], h => h x (by simp)
  | x :: y :: r, h => by
    have e : Str.join ", " (x :: y :: r) = x ++ ", " ++ Str.join ", " (y :: r) := rfl
    rw [e]
    exact strOk_app (strOk_app (h x (by simp)) (strOk_of _)) (strOk_join fun t ht => h t (by simp [List.mem_cons.mp ht]))
theorem strOk_tuple {ts : List Str} (h : ∀ t ∈ ts, PyData.strOk t = true) : PyData.strOk (tupleText ts) = true := by
  unfold tupleText
  refine strOk_app (strOk_app (strOk_of _) (strOk_join h)) ?_
  split <;> exact strOk_of _
theorem strOk_dict {ts : List Str} (h : ∀ t ∈ ts, PyData.strOk t = true) : PyData.strOk (dictText ts) = true :=
  strOk_app (strOk_app (strOk_of _) (strOk_join h)) (strOk_of _)
theorem Shw.tuple {e n c : Nat} {ds : List PyData} (h : ∀ d ∈ ds, Shw e n d) (hc : ds.length * (n + 1) ≤ c) : Shw (e + 1) c (.tuple ds) := by
  obtain ⟨h1, h2, h3, h4, h5⟩ := shw_all h
  exact ⟨by rw [PyData.showable]; exact h1, by rw [PyData.depth]; omega, by rw [PyData.leavesShort]; exact h3, by rw [PyData.bulk]; omega, by rw [PyData.shown]; exact strOk_tuple h5⟩
theorem shw_kv {e n : Nat} : ∀ {ds : List (PyData × PyData)}, (∀ d ∈ ds, Shw e n d.1 ∧ Shw e n d.2) → PyData.showableKv ds = true ∧ PyData.depthKv ds ≤ e ∧ PyData.leavesShortKv 1921 ds = true ∧ PyData.bulkKv ds ≤ ds.length * (2 * n + 2) ∧ ∀ t ∈ PyData.shownKv ds, PyData.strOk t = true
  | [], _ => ⟨rfl, by rw [PyData.depthKv]; omega, rfl, by rw [PyData.bulkKv]; omega, by rw [PyData.shownKv]; simp⟩
  | (a, b) :: ds, h => by
    obtain ⟨h1, h2, h3, h4, h5⟩ := shw_kv (ds := ds) fun x hx => h x (by simp [hx])
    obtain ⟨k, l⟩ := h (a, b) (by simp)
    refine ⟨by rw [PyData.showableKv, k.sh, l.sh, h1]; rfl, by rw [PyData.depthKv]; exact Nat.max_le.mpr ⟨Nat.max_le.mpr ⟨k.de, l.de⟩, h2⟩, by rw [PyData.leavesShortKv, k.lv, l.lv, h3]; rfl, ?_, ?_⟩
    · rw [PyData.bulkKv, List.length_cons, Nat.add_mul]
      have := k.bk
      have := l.bk
      dsimp only at *
      omega
    · rw [PyData.shownKv]
      intro t ht
      rcases List.mem_cons.mp ht with rfl | z
      · exact strOk_app (strOk_app k.ok (strOk_of _)) l.ok
      · exact h5 t z
theorem Shw.dict {e n c : Nat} {ds : List (PyData × PyData)} (h : ∀ d ∈ ds, Shw e n d.1 ∧ Shw e n d.2) (hc : ds.length * (2 * n + 2) ≤ c) : Shw (e + 1) c (.dict ds) := by
  obtain ⟨h1, h2, h3, h4, h5⟩ := shw_kv h
  exact ⟨by rw [PyData.showable]; exact h1, by rw [PyData.depth]; omega, by rw [PyData.leavesShort]; exact h3, by rw [PyData.bulk]; omega, by rw [PyData.shown]; exact strOk_dict h5⟩
theorem Shw.rpF {e n : Nat} {d : PyData} (h : Shw e n d) (he : e ≤ 14) (hn : n ≤ 8000) : RpF d := ⟨h.sh, Nat.le_trans h.de he, by
  have q := PyData.shown_le_bulk 1921 (by decide) d h.lv
  have := h.bk
  have : sizeLine = 16777216 := by decide
  have : (1921 + 2) * d.bulk ≤ 1923 * 8000 := Nat.mul_le_mul (by omega) (by omega)
  omega⟩
theorem castF {α : Type} [Enc α] {a : PyData} {x : α} (hp : ∀ M, pyR M 14 (enc x) = some a) (h : RpF a) : (castE (reprF (enc x)) : E Str) = .ok a.shown := by
  refine castE_ok (fun M => ?_) (fun x y h => by cases h; rfl)
  unfold reprF
  rw [hp M]
  dsimp only
  rw [if_pos h]
  rfl
/-! ### reading of data of a type -/
mutual
theorem pyR_of_py {M : Store} : ∀ (k : Nat) (d : D) (a : PyData), py M k d = some a → pyR M k d = some a
  | 0, d, a, h => by unfold py at h; cases h
  | k + 1, d, a, h => by
    cases d with
    | non => unfold py at h; cases h; unfold pyR; rfl
    | bl b => unfold py at h; cases h; unfold pyR; rfl
    | int i => unfold py at h; cases h; unfold pyR; rfl
    | str x =>
      unfold py at h; dsimp only at h
      by_cases c : PyData.strOk x = true
      · rw [if_pos c] at h; cases h; unfold pyR; rfl
      · rw [if_neg c] at h; cases h
    | ty n => unfold py at h; cases h
    | gl x => unfold py at h; cases h
    | ref n =>
      unfold py at h; dsimp only at h
      unfold pyR; dsimp only
      cases q : M[n]? with
      | none => rw [q] at h; cases h
      | some c =>
        obtain ⟨t, l⟩ := c
        rw [q] at h
        cases t <;> first | (cases h; done) | skip
        dsimp only at h ⊢
        cases q2 : pys M k l with
        | none => rw [q2] at h; cases h
        | some ds => rw [q2] at h; rw [pyRs_of_py k l ds q2]; exact h
    | nd t l =>
      unfold py at h
      unfold pyR
      cases t with
      | lst =>
        dsimp only at h ⊢
        cases q2 : pys M k l with
        | none => rw [q2] at h; cases h
        | some ds => rw [q2] at h; rw [pyRs_of_py k l ds q2]; exact h
      | slst =>
        dsimp only at h ⊢
        cases q2 : pys M k l with
        | none => rw [q2] at h; cases h
        | some ds => rw [q2] at h; rw [pyRs_of_py k l ds q2]; exact h
      | tup =>
        dsimp only at h ⊢
        cases q2 : pys M k l with
        | none => rw [q2] at h; cases h
        | some ds => rw [q2] at h; rw [pyRs_of_py k l ds q2]; exact h
      | dct ks => cases h
      | fdct ks => cases h
      | obj c ns => cases h
      | fn k => cases h
      | iset => cases h
  termination_by k _ => (k, 0)
theorem pyRs_of_py {M : Store} : ∀ (k : Nat) (l : List D) (ds : List PyData), pys M k l = some ds → pyRs M k l = some ds
  | k, [], ds, h => by unfold pys at h; cases h; unfold pyRs; rfl
  | k, d :: l, ds, h => by
    unfold pys at h
    cases q1 : py M k d with
    | none => simp only [q1] at h; cases h
    | some a =>
      cases q2 : pys M k l with
      | none => simp only [q1, q2] at h; cases h
      | some as' =>
        simp only [q1, q2] at h
        cases h
        unfold pyRs
        rw [pyR_of_py k d a q1, pyRs_of_py k l as' q2]
  termination_by k l => (k, l.length + 1)
end
end Lw

set_option Elab.async false
set_option linter.all false
set_option maxRecDepth 100000
set_option maxHeartbeats 2000000
/-! YS: how large potentials are; what reach returns is accepted. -/
namespace Lw
open PySem L2 DL TL
open Mo (pur bnd lft)
open Enc (enc)
end Lw

set_option Elab.async false
set_option linter.all false
set_option maxRecDepth 100000
set_option maxHeartbeats 2000000
/-! YT: the laws' own look at walks, as data; values of any kind, shown. -/
namespace Lw
open PySem L2 DL TL
open Mo (pur bnd lft)
open Enc (enc)
theorem as_int (i : Int) : (asG (Dt.of i) : E Int) = .ok i := asG_ok rfl int_inj
/-! ### shown -/
structure Sh (k e n : Nat) (d : D) : Prop where
  ex : ∃ a, (∀ M, pyR M k d = some a) ∧ Shw e n a
theorem Sh.mono {k e n e' n' : Nat} {d : D} (h : Sh k e n d) (he : e ≤ e') (hn : n ≤ n') : Sh k e' n' d := let ⟨a, h1, h2⟩ := h.ex; ⟨a, h1, h2.mono he hn⟩
theorem Sh.int {k : Nat} {i : Int} (h : BB (10 ^ 30) i) : Sh (k + 1) 0 0 (.int i) := ⟨.int i, fun M => by unfold pyR; rfl, .int h⟩
theorem Sh.bl {k : Nat} {b : Bool} : Sh (k + 1) 0 0 (.bl b) := ⟨.bool b, fun M => by unfold pyR; rfl, .bool b⟩
theorem Sh.non {k : Nat} : Sh (k + 1) 0 0 .non := ⟨.none, fun M => by unfold pyR; rfl, .none⟩
def okW (x : Str) : Bool := PyData.strOk (reprText x) && x.cps.toList.all (fun c => decide (c < 16 ^ 8)) && decide (x.cps.size ≤ 10)
theorem Sh.str {k : Nat} {x : Str} (h : okW x = true) : Sh (k + 1) 0 10 (.str x) := ⟨.str x, fun M => by unfold pyR; rfl, by
  unfold okW at h
  rw [Bool.and_eq_true, Bool.and_eq_true] at h
  exact ⟨rfl, by rw [PyData.depth]; omega, by rw [PyData.leavesShort]; exact h.1.2, by rw [PyData.bulk]; exact of_decide_eq_true h.2, by rw [PyData.shown]; exact h.1.1⟩⟩
theorem shs {k e n : Nat} : ∀ (l : List D), (∀ d ∈ l, Sh k e n d) → ∃ ds, (∀ M, pyRs M k l = some ds) ∧ ds.length = l.length ∧ ∀ d ∈ ds, Shw e n d
  | [], _ => ⟨[], fun M => by unfold pyRs; rfl, rfl, by simp⟩
  | d :: l, h => by
    obtain ⟨a, h1, h2⟩ := (h d (by simp)).ex
    obtain ⟨ds, q1, q2, q3⟩ := shs l fun x hx => h x (by simp [hx])
    exact ⟨a :: ds, fun M => by unfold pyRs; rw [h1 M, q1 M], by simp [q2], fun x hx => by
      rcases List.mem_cons.mp hx with rfl | z
      · exact h2
      · exact q3 x z⟩
theorem Sh.lst {k e n c : Nat} {l : List D} (h : ∀ d ∈ l, Sh k e n d) (hc : l.length * (n + 1) ≤ c) : Sh (k + 1) (e + 1) c (.nd .lst l) := by
  obtain ⟨ds, q1, q2, q3⟩ := shs l h
  exact ⟨.list ds, fun M => by unfold pyR; dsimp only; rw [q1 M]; rfl, .list q3 (by rw [q2]; exact hc)⟩
theorem Sh.tup {k e n c : Nat} {l : List D} (h : ∀ d ∈ l, Sh k e n d) (hc : l.length * (n + 1) ≤ c) : Sh (k + 1) (e + 1) c (.nd .tup l) := by
  obtain ⟨ds, q1, q2, q3⟩ := shs l h
  exact ⟨.tuple ds, fun M => by unfold pyR; dsimp only; rw [q1 M]; rfl, .tuple q3 (by rw [q2]; exact hc)⟩
theorem Sh.rp {e n : Nat} {x : Dt} (h : Sh 14 e n x.d) (he : e ≤ 14) (hn : n ≤ 8000) : ∃ s, (castE (reprF (enc x)) : E Str) = .ok s ∧ PyData.strOk s = true := by
  obtain ⟨a, h1, h2⟩ := h.ex
  exact ⟨_, castF (x := x) (a := a) h1 (h2.rpF he hn), h2.ok⟩
theorem Sh.ints {k c : Nat} {l : List Int} (hl : l.length ≤ c) (h : ∀ x ∈ l, BB (10 ^ 30) x) : Sh (k + 2) 1 c (enc l) := by
  refine Sh.lst (e := 0) (n := 0) (l := l.map enc) (fun d hd => ?_) (by rw [List.length_map]; omega)
  obtain ⟨x, hx, rfl⟩ := List.mem_map.mp hd
  exact .int (h x hx)
theorem Sh.intsT {k c : Nat} {l : List Int} (hl : l.length ≤ c) (h : ∀ x ∈ l, BB (10 ^ 30) x) : Sh (k + 2) 1 c (.nd .tup (l.map enc)) := by
  refine Sh.tup (e := 0) (n := 0) (l := l.map enc) (fun d hd => ?_) (by rw [List.length_map]; omega)
  obtain ⟨x, hx, rfl⟩ := List.mem_map.mp hd
  exact .int (h x hx)
/-- numbers of edges and ways -/
def StB (s : Int × Int) : Prop := (-100 ≤ s.1 ∧ s.1 ≤ 100) ∧ (-1 ≤ s.2 ∧ s.2 ≤ 1)
theorem Sh.step {k : Nat} {s : Int × Int} (h : StB s) : Sh (k + 2) 1 2 (enc s) := by
  refine Sh.tup (e := 0) (n := 0) (l := [.int s.1, .int s.2]) (fun d hd => ?_) (by simp)
  obtain ⟨h1, h2⟩ := h
  simp only [List.mem_cons, List.not_mem_nil, or_false] at hd
  rcases hd with rfl | rfl
  · exact .int (by unfold BB; omega)
  · exact .int (by unfold BB; omega)
theorem Sh.steps {k : Nat} {l : List (Int × Int)} (hl : l.length ≤ 100) (h : ∀ s ∈ l, StB s) : Sh (k + 3) 2 300 (enc l) := by
  refine Sh.lst (e := 1) (n := 2) (l := l.map enc) (fun d hd => ?_) (by rw [List.length_map]; omega)
  obtain ⟨x, hx, rfl⟩ := List.mem_map.mp hd
  exact .step (h x hx)
theorem Sh.two {k e n : Nat} {a b : D} {t : Tg} (ht : t = .tup ∨ t = .lst) (ha : Sh k e n a) (hb : Sh k e n b) : Sh (k + 1) (e + 1) (2 * (n + 1)) (.nd t [a, b]) := by
  have h : ∀ d ∈ [a, b], Sh k e n d := fun d hd => by
    simp only [List.mem_cons, List.not_mem_nil, or_false] at hd
    rcases hd with rfl | rfl
    · exact ha
    · exact hb
  rcases ht with rfl | rfl
  · exact .tup h (by simp)
  · exact .lst h (by simp)
theorem Sh.three {k e n : Nat} {a b c : D} (ha : Sh k e n a) (hb : Sh k e n b) (hc : Sh k e n c) : Sh (k + 1) (e + 1) (3 * (n + 1)) (.nd .tup [a, b, c]) := .tup (fun d hd => by
    simp only [List.mem_cons, List.not_mem_nil, or_false] at hd
    rcases hd with rfl | rfl | rfl
    · exact ha
    · exact hb
    · exact hc) (by simp)
theorem StB.of {es : List Edge} {s : Int × Int} (h : StepOk es s) (hl : es.length ≤ 60) : StB s := by
  have := h.k0
  have := h.k1
  unfold StB
  rcases h.way with z | z <;> omega
/-! ### numbers, one by one -/
/-- the items that are no residues -/
noncomputable def offD (m : Int) (y : Dt) : Bool := match y.d with
  | .int i => !decide (i % m = i)
  | _ => false
end Lw

set_option Elab.async false
set_option linter.all false
set_option maxRecDepth 100000
set_option maxHeartbeats 2000000
/-! YU: what laws with lambdas share: plain data with the empty dict, exceptions and their texts, loops. -/
namespace Lw
open PySem L2 DL TL
open Mo (pur bnd lft)
open Enc (enc)
instance inhDt : Inhabited Dt := ⟨Dt.of ()⟩
/-! ### plain data with the empty dict -/
mutual
def plE : D → Bool
  | .non => true
  | .bl _ => true
  | .int _ => true
  | .str _ => true
  | .nd t l => (match t with | .lst => true | .tup => true | .dct ks => ks.isEmpty && l.isEmpty | _ => false) && plEs l
  | _ => false
def plEs : List D → Bool
  | [] => true
  | d :: l => plE d && plEs l
end
theorem plE_cases {d : D} (h : plE d = true) : d = .non ∨ (∃ b, d = .bl b) ∨ (∃ i, d = .int i) ∨ (∃ s, d = .str s) ∨ (∃ l, d = .nd .lst l ∧ plEs l = true) ∨ (∃ l, d = .nd .tup l ∧ plEs l = true) ∨ d = .nd (.dct []) [] := by
  cases d with
  | non => exact .inl rfl
  | bl b => exact .inr (.inl ⟨b, rfl⟩)
  | int i => exact .inr (.inr (.inl ⟨i, rfl⟩))
  | str s => exact .inr (.inr (.inr (.inl ⟨s, rfl⟩)))
  | nd t l =>
    cases t with
    | lst => exact .inr (.inr (.inr (.inr (.inl ⟨l, rfl, by simpa [plE] using h⟩))))
    | tup => exact .inr (.inr (.inr (.inr (.inr (.inl ⟨l, rfl, by simpa [plE] using h⟩)))))
    | dct ks =>
      simp [plE] at h
      obtain ⟨⟨h1, h2⟩, _⟩ := h
      subst h1 h2
      exact .inr (.inr (.inr (.inr (.inr (.inr rfl)))))
    | _ => simp [plE] at h
  | _ => exact absurd h (by simp [plE])
theorem isE_int {x : Dt} (h : plE x.d = true) : (castE (isiE (enc x) (.ty "int")) : E Bool) = .ok (isI x.d) := castE_ok (fun M => by
  show isiE x.d (.ty "int") M = .ok (.bl (isI x.d)) M
  rcases plE_cases h with e | ⟨_, e⟩ | ⟨_, e⟩ | ⟨_, e⟩ | ⟨_, e, _⟩ | ⟨_, e, _⟩ | e <;> rw [e] <;> rfl) bool_inj
theorem isE_bool {x : Dt} (h : plE x.d = true) : (castE (isiE (enc x) (.ty "bool")) : E Bool) = .ok (isBo x.d) := castE_ok (fun M => by
  show isiE x.d (.ty "bool") M = .ok (.bl (isBo x.d)) M
  rcases plE_cases h with e | ⟨_, e⟩ | ⟨_, e⟩ | ⟨_, e⟩ | ⟨_, e, _⟩ | ⟨_, e, _⟩ | e <;> rw [e] <;> rfl) bool_inj
theorem is_integerE {x : Dt} (h : plE x.d = true) : p_is_integer_2 x = .ok (isN x.d) := by
  unfold p_is_integer_2
  rw [isE_int h, isE_bool h, isN_iff]
  cases isI x.d <;> simp [lok_bnd, lftE, ok_bndE, purE, pur_bnd]
theorem is_withinE {x : Dt} {a b : Int} (h : plE x.d = true) : p_is_within_2 x a b = .ok (inR a b x.d) := by
  by_cases q : isN x.d = true
  · obtain ⟨i, hi⟩ : ∃ i, x.d = .int i := by
      cases e : x.d <;> rw [e] at q <;> first | exact ⟨_, rfl⟩ | cases q
    exact is_within_dat (by rw [hi]; rfl)
  · unfold p_is_within_2
    rw [is_integerE h]
    have e2 : inR a b x.d = false := by
      cases e : x.d <;> first | rfl | (rw [e] at q; exact absurd rfl q)
    rw [e2, Bool.eq_false_iff.mpr q]
    simp [lok_bnd, lftE, ok_bndE, purE, pur_bnd]
/-! ### exceptions -/
theorem lexc_bnd {α β : Type} (c : Str) (d : D) (k : α → E β) : bnd (lft (E.exc c d : E α)) k = .exc c d := by rw [bndE, lftE]; rfl
def ShD (x : Dt) : Prop := ∃ s, (castE (reprF (enc x)) : E Str) = .ok s ∧ PyData.strOk s = true
theorem shD {e n : Nat} {x : Dt} (h : Sh 14 e n x.d) (he : e ≤ 14) (hn : n ≤ 8000) : ShD x := h.rp he hn
structure Okd (x : Dt) : Prop where
  pl : plE x.d = true
  sh : Sh 13 1 10 x.d
structure Bent (x : Dt) : Prop where
  pl : plE x.d = true
  sh : ShD x
theorem getD_in {α : Type} {l : List α} {k : Nat} {d : α} (h : k < l.length) : l.getD k d ∈ l := by
  rw [List.getD_eq_getElem?_getD, List.getElem?_eq_getElem h]; exact List.getElem_mem h
theorem loopW {α ρ : Type} {k : Unit → W ρ} {r : Bool → W ρ} {st : Unit → α → W (Fw Unit Bool)} {xs : List α} {Q : ρ → Prop} {X : Str → D → Prop} (h : ∀ x ∈ xs, ∀ b, st b x = pur (Fw.nx ())) (hk : k () Q X) : bnd (forF st xs ()) (outF k r) Q X := by
  rw [bndWa]
  exact forF_W (fun _ => True) trivial (fun b x hx _ Q' hq => by rw [h x hx b, purWa]; exact hq () trivial) (fun b _ => hk)
theorem mulZ_bb {x y : Int} (h : BB (10 ^ 18) x) : mulZ x y = .ok (x * y) := by
  unfold mulZ
  unfold BB at h
  exact if_pos (.inl ⟨by omega, by omega⟩)
end Lw

set_option Elab.async false
set_option linter.all false
set_option maxRecDepth 100000
set_option maxHeartbeats 2000000
/-! YV: the draws of the later laws: base, pairs, residue; values led. -/
namespace Lw
open PySem L2 DL TL
open Mo (pur bnd lft)
open Enc (enc)
theorem base_W {Q : Int → Prop} {X : Str → D → Prop} (h : ∀ m, 0 ≤ m → m ≤ 60 → m ≠ 1 → Q m) : p__law_base Q X := by
  unfold p__law_base
  simp only [pur_bndW, bnd_assocW]
  rw [bndWa]
  refine takeW_ok (by decide) (by decide) (fun x x0 x1 => ?_)
  rw [bndWa]
  refine takeW_ok (by decide) (by decide) (fun i i0 i1 => ?_)
  have e : ixL ([0, 0, 2, 3, 4, 5, 12, 2 + x] : List Int) i = .ok (([0, 0, 2, 3, 4, 5, 12, 2 + x] : List Int).getD i.toNat default) := ixL_lt i0 (by simpa using i1)
  refine bndW_ok e ?_
  rw [purWa]
  have hm : ([0, 0, 2, 3, 4, 5, 12, 2 + x] : List Int).getD i.toNat default ∈ ([0, 0, 2, 3, 4, 5, 12, 2 + x] : List Int) := getD_in (by simp; omega)
  revert hm
  generalize ([0, 0, 2, 3, 4, 5, 12, 2 + x] : List Int).getD i.toNat default = m
  intro hm
  simp only [List.mem_cons, List.not_mem_nil, or_false] at hm
  exact h m (by omega) (by omega) (by omega)
theorem pairs_W {n most : Int} {Q : List Edge → Prop} {X : Str → D → Prop} (hn : 0 < n) (hn2 : n ≤ 1000) (hm : 0 ≤ most) (hm2 : most ≤ 1000) (h : ∀ es : List Edge, (es.length : Int) ≤ most → (∀ e ∈ es, 0 ≤ e.1 ∧ e.1 < n ∧ 0 ≤ e.2 ∧ e.2 < n) → Q es) : p__law_pairs n most Q X := by
  unfold p__law_pairs
  simp only [pur_bndW, bnd_assocW]
  rw [bndWa]
  refine takeW_ok (by omega) (by omega) (fun r r0 r1 => ?_)
  refine bndW_ok (rgW_ok (by omega) (by omega) (by omega) (by omega)) ?_
  rw [bndWa]
  refine forM_W (fun pre b => b.length = pre.length ∧ ∀ e ∈ b, 0 ≤ e.1 ∧ e.1 < n ∧ 0 ≤ e.2 ∧ e.2 < n) ⟨rfl, by simp⟩ (fun pre x post b e j Q' hq => ?_) (fun b j => ?_)
  · rw [bndWa]
    refine takeW_ok (by omega) (by omega) (fun u u0 u1 => ?_)
    rw [bndWa]
    refine takeW_ok (by omega) (by omega) (fun v v0 v1 => ?_)
    have hp : pre.length < (rg 0 r).length := by rw [e]; simp
    rw [rg_len] at hp
    refine bndW_ok (appL_ok (by rw [j.1]; omega)) ?_
    rw [purWa]
    refine hq _ ⟨by simp [j.1], fun d hd => ?_⟩
    rcases List.mem_append.mp hd with z | z
    · exact j.2 d z
    · simp at z; subst z; exact ⟨u0, u1, v0, v1⟩
  · rw [purWa]
    exact h b (by rw [j.1, rg_len]; omega) j.2
theorem residue_W {m : Int} {Q : Int → Prop} {X : Str → D → Prop} (m0 : 0 ≤ m) (m1 : m ≤ 60) (h : ∀ x, isres m x = true → BB (10 ^ 18) x → Q x) : p__law_residue m Q X := by
  unfold p__law_residue
  simp only [pur_bndW, bnd_assocW]
  by_cases z : 0 < m
  · rw [if_pos (by simpa using z), bndWa]
    refine takeW_ok z (by omega) (fun x x0 x1 => ?_)
    rw [purWa]
    refine h _ ?_ (show BB (10 ^ 18) x by unfold BB; omega)
    show isres m x = true
    unfold isres
    rw [if_neg (by omega)]
    simp; omega
  · rw [if_neg (by simpa using z), bndWa]
    have hm : m = 0 := by omega
    subst hm
    refine takeW_ok (by decide) (by decide) (fun x x0 x1 => ?_)
    have e1 : mulZ x 1000000000 = .ok (x * 1000000000) := mulZ_bb (by unfold BB; omega)
    refine bndW_ok e1 ?_
    simp only [lokW, pur_bndW, bnd_assocW]
    rw [bndWa]
    refine takeW_ok (by decide) (by decide) (fun a a0 a1 => ?_)
    rw [bndWa]
    refine takeW_ok (by decide) (by decide) (fun b b0 b1 => ?_)
    rw [bndWa]
    refine takeW_ok (by decide) (by decide) (fun i i0 i1 => ?_)
    have e : ixL ([a - 4, b - 4, 0, x * 1000000000 - 5 * 100000000000000000] : List Int) i = .ok (([a - 4, b - 4, 0, x * 1000000000 - 5 * 100000000000000000] : List Int).getD i.toNat default) := ixL_lt i0 (by simpa using i1)
    refine bndW_ok e ?_
    rw [purWa]
    have hm : ([a - 4, b - 4, 0, x * 1000000000 - 5 * 100000000000000000] : List Int).getD i.toNat default ∈ ([a - 4, b - 4, 0, x * 1000000000 - 5 * 100000000000000000] : List Int) := getD_in (by simp; omega)
    revert hm
    generalize ([a - 4, b - 4, 0, x * 1000000000 - 5 * 100000000000000000] : List Int).getD i.toNat default = y
    intro hm
    simp only [List.mem_cons, List.not_mem_nil, or_false] at hm
    refine h _ (by unfold isres; rfl) ?_
    show BB (10 ^ 18) y
    unfold BB
    omega
theorem residues_W {α : Type} {m : Int} {xs : List α} {Q : List Int → Prop} {X : Str → D → Prop} (m0 : 0 ≤ m) (m1 : m ≤ 60) (hl : xs.length ≤ 10000) (h : ∀ l : List Int, l.length = xs.length → (∀ x ∈ l, isres m x = true ∧ BB (10 ^ 18) x) → Q l) : (lcM xs (fun _ => pur true) (fun _ => p__law_residue m) : W (List Int)) Q X :=
  lc_W (fun x => isres m x = true ∧ BB (10 ^ 18) x) hl (fun x hx Q' hq => residue_W m0 m1 fun y y1 y2 => hq y ⟨y1, y2⟩) h
end Lw

set_option Elab.async false
set_option linter.all false
set_option maxRecDepth 100000
set_option maxHeartbeats 2000000
/-! YW: webs by their moduli; moduli without a common divisor. -/
namespace Lw
open PySem L2 DL TL
open Mo (pur bnd lft)
open Enc (enc)
/-- the webs over the same edges, by their moduli -/
def wb (n : Int) (es : List Edge) (F : List Int) (L : List (List (T3 Int Int Int))) (m : Int) : OWeb := ⟨n, es, m, F, L⟩
theorem web_fam {n : Int} {es : List Edge} (h0 : 1 ≤ n) (h1 : n ≤ 30) (h : EOk n es) : ∃ F L, ∀ m : Int, 0 ≤ m → m ≤ 60 → m ≠ 1 → p_Web___init__ n es m = .ok (wb n es F L m) ∧ WebOk (wb n es F L m) := by
  obtain ⟨fs, f1, f2, f3⟩ := forest_eq h0 h1 h
  obtain ⟨L, l1, l2⟩ := links_eq h0 h1 h f2 f3
  refine ⟨fs, L, fun m m0 m1 m2 => ⟨?_, ⟨⟨h0, h1, h.len, h.ed, m0, m1⟩, f3, l2, m2⟩⟩⟩
  unfold p_Web___init__ p_is_modulus wb
  simp [is_within_eq, check_edges_eq h, f1, l1, bndE, purE, lftE, E.bind, eqB, h0, h1, m0, m1, m2]
def mdL (d : Int) (l : List Int) : List Int := l.map fun x => x % d
section
variable {n : Int} {es : List Edge} {F : List Int} {L : List (List (T3 Int Int Int))} {m d : Int} {b a p : List Int}
end

/-! ### powers of primes, by going through -/
def nxF (x : Int) : Nat → Int × Int → Option (Int × Int)
  | 0, _ => none
  | n + 1, b => if b.1 % x = 0 then (if 0 ≤ b.1 ∧ b.1 ≤ 1000 ∧ 0 ≤ b.2 ∧ b.2 ≤ 1000 then nxF x n (b.1 / x, b.2 * x) else none) else some b
def stF (b : Int × List Int) (x : Int) : Option (Int × List Int) := match nxF x 1000 (b.1, 1) with
  | none => none
  | some r => if 1 < r.2 then (if b.2.length < 60 then some (r.1, b.2 ++ [r.2]) else none) else some (r.1, b.2)
def foF : List Int → Int × List Int → Option (Int × List Int)
  | [], b => some b
  | x :: xs, b => match stF b x with
    | none => none
    | some b' => foF xs b'
def fcL (m : Int) : List Int := match foF (rg 2 (m + 1)) (m, []) with
  | some r => r.2
  | none => []
def insS (x : Int) : List Int → List Int
  | [] => [x]
  | y :: l => if x ≤ y then x :: y :: l else y :: insS x l
/-- the factors, ascending -/
def fc (m : Int) : List Int := (fcL m).foldr insS []
def allT : List Int → List (List Int)
  | [] => [[]]
  | d :: l => (rg 0 d).flatMap fun r => (allT l).map (r :: ·)
structure FcOk (m : Int) : Prop where
  some : ∃ r, foF (rg 2 (m + 1)) (m, []) = some r ∧ r.2 = fcL m
  srt : srt (fcL m) = fc m
  len : (fc m).length < 10
  len2 : (fcL m).length < 10
  mem : ∀ d ∈ fc m, 2 ≤ d ∧ d ≤ 60 ∧ d ∣ m
  ne : fc m ≠ []
  ex : ∀ t ∈ allT (fc m), ∃ x, 0 ≤ x ∧ x < m ∧ (fc m).map (fun d => x % d) = t
  dvd : ∀ y, (∀ d ∈ fc m, d ∣ y) → m ∣ y
/-! ### two moduli without a common divisor -/
end Lw

set_option Elab.async false
set_option linter.all false
set_option maxRecDepth 100000
set_option maxHeartbeats 1000000
/-! YXp: the costs, by types (printed by wip/mkcs.py). -/
namespace Lw
namespace Cs
open PySem L2 DL TL
open Mo (pur bnd lft)
open Enc (enc)
open EncL (encL)
end Cs
end Lw

set_option Elab.async false
set_option linter.all false
set_option maxRecDepth 100000
set_option maxHeartbeats 4000000
/-! YX: costs: the best constant of each component. -/
namespace Lw
open PySem L2 DL TL
open Mo (pur bnd lft)
open Enc (enc)
open EncL (encL)
/-! ### pairs in order -/
def lexLe (a b c d : Int) : Prop := a < c ∨ (a = c ∧ b ≤ d)
theorem lexLe_refl (a b : Int) : lexLe a b a b := .inr ⟨rfl, Int.le_refl _⟩
/-! ### the least by a key -/
/-! ### weighted sums of distances -/
def absI (x : Int) : Int := if x < 0 then -x else x
def dsum (L : List (Int × Int)) (c : Int) : Int := (L.map fun p => p.1 * absI (p.2 + c)).sum
/-- the weight above minus the weight below -/
def slope (L : List (Int × Int)) (c : Int) : Int := (L.map fun p => if 0 < p.2 + c then p.1 else if p.2 + c < 0 then -p.1 else 0).sum
/-- a step of t towards no zero being passed -/
theorem dsum_step (c t : Int) (t0 : 0 ≤ t) : ∀ {L : List (Int × Int)}, (∀ p ∈ L, (0 < p.2 + c ∧ t ≤ p.2 + c) ∨ p.2 + c < 0) → dsum L (c - t) = dsum L c - t * slope L c
  | [], _ => by simp [dsum, slope]
  | p :: L, h => by
    have ih := dsum_step c t t0 (L := L) fun q hq => h q (by simp [hq])
    have key : p.1 * absI (p.2 + (c - t)) = p.1 * absI (p.2 + c) - t * (if 0 < p.2 + c then p.1 else if p.2 + c < 0 then -p.1 else 0) := by
      rcases h p (by simp) with ⟨a, b⟩ | b
      · rw [if_pos a, show absI (p.2 + (c - t)) = absI (p.2 + c) - t by unfold absI; split <;> split <;> omega, Int.mul_sub, Int.mul_comm t]
      · rw [if_neg (by omega), if_pos b, show absI (p.2 + (c - t)) = absI (p.2 + c) + t by unfold absI; rw [if_pos b, if_pos (by omega)]; omega, Int.mul_add, Int.mul_neg, Int.sub_neg, Int.mul_comm t]
    simp only [dsum, slope, List.map_cons, List.sum_cons] at ih ⊢
    rw [key, ih, Int.mul_add]
    omega
theorem dsum_neg (c : Int) : ∀ L : List (Int × Int), dsum (L.map fun p => (p.1, -p.2)) (-c) = dsum L c
  | [] => rfl
  | p :: L => by
    have ih := dsum_neg c L
    simp only [dsum, List.map_cons, List.sum_cons] at ih ⊢
    rw [ih, show absI (-p.2 + -c) = absI (p.2 + c) by unfold absI; split <;> split <;> omega]
theorem slope_neg (c : Int) : ∀ L : List (Int × Int), slope (L.map fun p => (p.1, -p.2)) (-c) = - slope L c
  | [] => rfl
  | p :: L => by
    have ih := slope_neg c L
    simp only [slope, List.map_cons, List.sum_cons] at ih ⊢
    rw [ih]
    have : (if 0 < -p.2 + -c then p.1 else if -p.2 + -c < 0 then -p.1 else 0) = -(if 0 < p.2 + c then p.1 else if p.2 + c < 0 then -p.1 else 0) := by
      by_cases a : 0 < p.2 + c
      · rw [if_neg (by omega), if_pos (by omega), if_pos a]
      · by_cases b : p.2 + c < 0
        · rw [if_pos (by omega), if_neg a, if_pos b, Int.neg_neg]
        · rw [if_neg (by omega), if_neg (by omega), if_neg a, if_neg b]
          rfl
    rw [this]
    omega
theorem least_pos {L : List (Int × Int)} {c : Int} (h : ∃ p ∈ L, 0 < p.2 + c) : ∃ p ∈ L, 0 < p.2 + c ∧ ∀ q ∈ L, 0 < q.2 + c → p.2 ≤ q.2 := by
  induction L with
  | nil => obtain ⟨p, hp, _⟩ := h; simp at hp
  | cons a L ih =>
    by_cases z : ∃ p ∈ L, 0 < p.2 + c
    · obtain ⟨p, h1, h2, h3⟩ := ih z
      by_cases y : 0 < a.2 + c ∧ a.2 ≤ p.2
      · refine ⟨a, by simp, y.1, fun q hq hq2 => ?_⟩
        rcases List.mem_cons.mp hq with rfl | hq
        · exact Int.le_refl _
        · have := h3 q hq hq2; omega
      · refine ⟨p, by simp [h1], h2, fun q hq hq2 => ?_⟩
        rcases List.mem_cons.mp hq with rfl | hq
        · omega
        · exact h3 q hq hq2
    · obtain ⟨p, hp, hp2⟩ := h
      rcases List.mem_cons.mp hp with rfl | hp
      · refine ⟨p, by simp, hp2, fun q hq hq2 => ?_⟩
        rcases List.mem_cons.mp hq with rfl | hq
        · exact Int.le_refl _
        · exact (z ⟨q, hq, hq2⟩).elim
      · exact (z ⟨p, hp, hp2⟩).elim
theorem slope_all_neg {c : Int} : ∀ {L : List (Int × Int)}, (∀ p ∈ L, 1 ≤ p.1 ∧ p.2 + c < 0) → slope L c ≤ -(L.length : Int)
  | [], _ => by simp [slope]
  | p :: L, h => by
    have ih := slope_all_neg (c := c) (L := L) fun q hq => h q (by simp [hq])
    have := h p (by simp)
    simp only [slope, List.map_cons, List.sum_cons, List.length_cons] at ih ⊢
    rw [if_neg (by omega), if_pos this.2]
    omega
theorem med_up {L : List (Int × Int)} {c : Int} (hn : L ≠ []) (hw : ∀ p ∈ L, 1 ≤ p.1) (nz : ∀ p ∈ L, p.2 + c ≠ 0) (s : 0 ≤ slope L c) : ∃ p ∈ L, dsum L (-p.2) ≤ dsum L c ∧ -p.2 < c ∧ (0 < slope L c → dsum L (-p.2) < dsum L c) := by
  have ex : ∃ p ∈ L, 0 < p.2 + c := Classical.byContradiction fun z => by
    have := slope_all_neg (c := c) (L := L) fun p hp => ⟨hw p hp, by
      have := nz p hp
      have : ¬ 0 < p.2 + c := fun y => z ⟨p, hp, y⟩
      omega⟩
    have : 0 < L.length := List.length_pos_iff.mpr hn
    omega
  obtain ⟨p, h1, h2, h3⟩ := least_pos ex
  have st := dsum_step c (p.2 + c) (by omega) (L := L) fun q hq => by
    have := nz q hq
    by_cases z : 0 < q.2 + c
    · exact .inl ⟨z, by have := h3 q hq z; omega⟩
    · exact .inr (by omega)
  rw [show c - (p.2 + c) = -p.2 by omega] at st
  have m : 0 ≤ (p.2 + c) * slope L c := Int.mul_nonneg (by omega) s
  refine ⟨p, h1, by omega, by omega, fun y => ?_⟩
  have : 0 < (p.2 + c) * slope L c := Int.mul_pos h2 y
  omega
/-- the best constant is one at which some level is 0; the least of the best ones, too -/
theorem med {L : List (Int × Int)} (hn : L ≠ []) (hw : ∀ p ∈ L, 1 ≤ p.1) (c : Int) : ∃ p ∈ L, lexLe (dsum L (-p.2)) (-p.2) (dsum L c) c := by
  by_cases z : ∃ p ∈ L, p.2 + c = 0
  · obtain ⟨p, hp, e⟩ := z
    refine ⟨p, hp, ?_⟩
    rw [show -p.2 = c by omega]
    exact lexLe_refl _ _
  · have nz : ∀ p ∈ L, p.2 + c ≠ 0 := fun p hp e => z ⟨p, hp, e⟩
    by_cases s : 0 ≤ slope L c
    · obtain ⟨p, hp, h1, h2, h3⟩ := med_up hn hw nz s
      exact ⟨p, hp, by unfold lexLe; omega⟩
    · obtain ⟨p, hp, h1, h2, h3⟩ := med_up (L := L.map fun p => (p.1, -p.2)) (c := -c) (by simpa using hn) (fun p hp => by
        obtain ⟨q, hq, rfl⟩ := List.mem_map.mp hp
        exact hw q hq) (fun p hp => by
        obtain ⟨q, hq, rfl⟩ := List.mem_map.mp hp
        have := nz q hq
        show -q.2 + -c ≠ 0
        omega) (by rw [slope_neg]; omega)
      obtain ⟨q, hq, rfl⟩ := List.mem_map.mp hp
      have h3 := h3 (by rw [slope_neg]; omega)
      rw [dsum_neg, dsum_neg] at h3
      exact ⟨q, hq, .inl h3⟩
end Lw

set_option Elab.async false
set_option linter.all false
set_option maxRecDepth 100000
set_option maxHeartbeats 4000000
/-! YY: the potentials that best_of returns. -/
namespace Lw
namespace Cs
open PySem L2 DL TL
open Mo (pur bnd lft)
open Enc (enc)
open EncL (encL)
noncomputable def shL (w : OWeb) (lv g : List Int) (c : Int) : List Int := (rg 0 w.own_size).map fun a => if a ∈ g then (pv lv a + c) % w.own_modulus else pv lv a
section
variable {w : OWeb} {lv g : List Int} {c : Int}
theorem shL_len (hw : WOk w) : ((shL w lv g c).length : Int) = w.own_size := by
  have := hw.s0
  unfold shL
  rw [List.length_map, rg_len]
  omega
end
/-- what is asked of a score: it is worked out, looks at the group alone, and (with modulus 0) some level that becomes 0 is best -/
structure ScOk (w : OWeb) (score : List Int → List Int → E Int) (sc : List Int → List Int → Int) : Prop where
  ok : ∀ o g, Pt w o → g.length ≤ 30 → (∀ a ∈ g, 0 ≤ a ∧ a < w.own_size) → score o g = .ok (sc o g)
  loc : ∀ o o' g, (∀ a ∈ g, pv o a = pv o' a) → sc o g = sc o' g
  med : w.own_modulus = 0 → ∀ lv g f, Pt w lv → f ∈ g → (∀ a ∈ g, 0 ≤ a ∧ a < w.own_size) → ∀ c, ∃ a ∈ g, lexLe (sc (shL w lv g (0 - pv lv a)) g) (pv (shL w lv g (0 - pv lv a)) f) (sc (shL w lv g c) g) (pv (shL w lv g c) f)
/-- the best of all potentials that lead there -/
structure BestW (w : OWeb) (b a fx : List Int) (sc : List Int → List Int → Int) (q : List Int) : Prop where
  pt : Pt w q
  sw : swL w.own_modulus w.own_edges b q = a
  fix : ∀ x ∈ fx, pv q x = 0
  best : ∀ p, Pt w p → swL w.own_modulus w.own_edges b p = a → (∀ x ∈ fx, pv p x = 0) → ∀ f ∈ firsts w.own_size w.own_edges, lexLe (sc q (compOf w.own_size w.own_edges f)) (pv q f) (sc p (compOf w.own_size w.own_edges f)) (pv p f)
structure BJ (w : OWeb) (lv : List Int) (sc : List Int → List Int → Int) (pre b : List Int) : Prop where
  pt : Pt w b
  old : ∀ i, 0 ≤ i → i < w.own_size → (∀ f ∈ pre, i ∉ compOf w.own_size w.own_edges f) → pv b i = pv lv i
  ex : ∀ f ∈ pre, ∃ c, ∀ i ∈ compOf w.own_size w.own_edges f, pv b i = (pv lv i + c) % w.own_modulus
  bst : ∀ f ∈ pre, ∀ q, Pt w q → (∃ c, ∀ i ∈ compOf w.own_size w.own_edges f, pv q i = (pv lv i + c) % w.own_modulus) → lexLe (sc b (compOf w.own_size w.own_edges f)) (pv b f) (sc q (compOf w.own_size w.own_edges f)) (pv q f)
end Cs
end Lw

set_option Elab.async false
set_option linter.all false
set_option maxRecDepth 100000
set_option maxHeartbeats 4000000
/-! YZ: best_of, cheapest, fewest. -/
namespace Lw
namespace Cs
open PySem L2 DL TL
open Mo (pur bnd lft)
open Enc (enc)
open EncL (encL)
/-! ### costs -/
structure HvOk (w : OWeb) (hv : List Int) : Prop where
  len : (hv.length : Int) = w.own_size
  one : ∀ x ∈ hv, 1 ≤ x
  bb : ∀ x ∈ hv, BB (10 ^ 18) x
/-! ### sums over components -/
theorem sum_add {α : Type} (f g : α → Int) : ∀ l : List α, (l.map fun x => f x + g x).sum = (l.map f).sum + (l.map g).sum
  | [] => rfl
  | x :: l => by simp only [List.map_cons, List.sum_cons, sum_add f g l]; omega
theorem sum_le {α : Type} {f g : α → Int} : ∀ {l : List α}, (∀ x ∈ l, f x ≤ g x) → (l.map f).sum ≤ (l.map g).sum
  | [], _ => Int.le_refl _
  | x :: l, h => by
    have := sum_le (l := l) fun y hy => h y (by simp [hy])
    have := h x (by simp)
    simp only [List.map_cons, List.sum_cons]
    omega
theorem sum_lt {α : Type} {f g : α → Int} : ∀ {l : List α}, (∀ x ∈ l, f x ≤ g x) → (∃ x ∈ l, f x < g x) → (l.map f).sum < (l.map g).sum
  | [], _, h => by obtain ⟨_, h, _⟩ := h; simp at h
  | x :: l, h, ⟨y, hy, hl⟩ => by
    have h1 := h x (by simp)
    have hs := sum_le (l := l) fun y hy => h y (by simp [hy])
    simp only [List.map_cons, List.sum_cons]
    rcases List.mem_cons.mp hy with rfl | hy
    · omega
    · have := sum_lt (l := l) (fun y hy => h y (by simp [hy])) ⟨y, hy, hl⟩
      omega
end Cs
end Lw

set_option Elab.async false
set_option linter.all false
set_option maxRecDepth 100000
set_option maxHeartbeats 4000000
/-! YZa: is_cheapest, fewest, sums. -/
namespace Lw
namespace Cs
open PySem L2 DL TL
open Mo (pur bnd lft)
open Enc (enc)
open EncL (encL)
/-! ### fewest -/
/-! ### texts of truth values -/
end Cs
end Lw

set_option Elab.async false
set_option linter.all false
set_option maxRecDepth 100000
set_option maxHeartbeats 4000000
/-! YZb: sizes of potentials: the lowest cost is a distance. -/
namespace Lw
namespace Cs
open PySem L2 DL TL
open Mo (pur bnd lft)
open Enc (enc)
/-- sizes of residues, node by node -/
structure NormF (w : OWeb) (F : Int → Int → Int) : Prop where
  nn : ∀ a x, 0 ≤ a → a < w.own_size → isres w.own_modulus x = true → 0 ≤ F a x
  z : ∀ a x, 0 ≤ a → a < w.own_size → isres w.own_modulus x = true → (F a x = 0 ↔ x = 0)
  ng : ∀ a x, 0 ≤ a → a < w.own_size → isres w.own_modulus x = true → F a ((0 - x) % w.own_modulus) = F a x
  tri : ∀ a x y, 0 ≤ a → a < w.own_size → isres w.own_modulus x = true → isres w.own_modulus y = true → F a ((x + y) % w.own_modulus) ≤ F a x + F a y
def TT (w : OWeb) (F : Int → Int → Int) (p : List Int) : Int := ((rg 0 w.own_size).map fun a => F a (pv p a)).sum
section
variable {w : OWeb} {F : Int → Int → Int} {p q : List Int}
theorem res_at (hp : Pt w p) {a : Int} (a0 : 0 ≤ a) (a1 : a < w.own_size) : isres w.own_modulus (pv p a) = true := hp.res _ (pv_mem a0 (by have := hp.len; omega))
theorem TT_nn (N : NormF w F) (hp : Pt w p) : 0 ≤ TT w F p := by
  have := Cs.sum_le (f := fun _ => (0 : Int)) (g := fun a => F a (pv p a)) (l := rg 0 w.own_size) fun a ha => N.nn a _ (rg_mem.mp ha).1 (rg_mem.mp ha).2 (res_at hp (rg_mem.mp ha).1 (rg_mem.mp ha).2)
  have z : ∀ l' : List Int, (l'.map fun _ => (0 : Int)).sum = 0 := fun l' => by induction l' <;> simp_all
  rw [z] at this
  exact this
theorem TT_zero (N : NormF w F) (hp : Pt w p) : TT w F p = 0 ↔ ∀ a, 0 ≤ a → a < w.own_size → pv p a = 0 := by
  constructor
  · intro h a a0 a1
    apply Classical.byContradiction
    intro hne
    have r := res_at hp a0 a1
    have n0 : F a (pv p a) ≠ 0 := fun z => hne ((N.z a _ a0 a1 r).mp z)
    have nn := N.nn a _ a0 a1 r
    have := Cs.sum_lt (f := fun _ => (0 : Int)) (g := fun a => F a (pv p a)) (l := rg 0 w.own_size) (fun a ha => N.nn a _ (rg_mem.mp ha).1 (rg_mem.mp ha).2 (res_at hp (rg_mem.mp ha).1 (rg_mem.mp ha).2)) ⟨a, rg_mem.mpr ⟨a0, a1⟩, by omega⟩
    have z : ∀ l' : List Int, (l'.map fun _ => (0 : Int)).sum = 0 := fun l' => by induction l' <;> simp_all
    rw [z] at this
    unfold TT at h
    omega
  · intro h
    unfold TT
    have e : (rg 0 w.own_size).map (fun a => F a (pv p a)) = (rg 0 w.own_size).map fun _ => (0 : Int) := List.map_congr_left fun a ha => by
      have ha := rg_mem.mp ha
      exact (N.z a _ ha.1 ha.2 (res_at hp ha.1 ha.2)).mpr (h a ha.1 ha.2)
    have z : ∀ l' : List Int, (l'.map fun _ => (0 : Int)).sum = 0 := fun l' => by induction l' <;> simp_all
    rw [e, z]
theorem TT_add (N : NormF w F) (hp : Pt w p) (hq : Pt w q) : TT w F (addP w.own_modulus p q) ≤ TT w F p + TT w F q := by
  unfold TT
  rw [← Cs.sum_add]
  refine Cs.sum_le fun a ha => ?_
  have ha := rg_mem.mp ha
  rw [add_pv hp hq ha.1 ha.2]
  exact N.tri a _ _ ha.1 ha.2 (res_at hp ha.1 ha.2) (res_at hq ha.1 ha.2)
end
/-- the least size of what leads there -/
structure Dist (w : OWeb) (F : Int → Int → Int) (b a : List Int) (c : Int) : Prop where
  ex : ∃ q, Pt w q ∧ swL w.own_modulus w.own_edges b q = a ∧ TT w F q = c
  le : ∀ p, Pt w p → swL w.own_modulus w.own_edges b p = a → c ≤ TT w F p
section
variable {w : OWeb} {F : Int → Int → Int} {x y z : List Int} {c d e : Int}
theorem Dist.tri (hw : WOk w) (N : NormF w F) (hx : Gd w x) (h1 : Dist w F x y c) (h2 : Dist w F y z d) (h3 : Dist w F x z e) : e ≤ c + d := by
  obtain ⟨p, p1, p2, p3⟩ := h1.ex
  obtain ⟨q, q1, q2, q3⟩ := h2.ex
  have := h3.le (addP w.own_modulus p q) (add_pt hw p1 q1) (by rw [← sw_add hw hx p1 q1, p2, q2])
  have := TT_add N p1 q1
  omega
theorem sw_zero (hw : WOk w) (hx : Gd w x) {p : List Int} (h : ∀ a, 0 ≤ a → a < w.own_size → pv p a = 0) : swL w.own_modulus w.own_edges x p = x := by
  refine gains_ext hw (sw_gd hw hx) hx fun k hk => ?_
  rw [sw_pv hx.len (by omega) (by omega)]
  have em := hw.ed _ (edg_mem hk)
  have hk' : edg w.own_edges (k : Int) = edg w.own_edges k := rfl
  rw [h _ em.1 em.2.1, h _ em.2.2.1 em.2.2.2, Int.add_zero, Int.sub_zero]
  exact cg_mod _ _
theorem Dist.zero (hw : WOk w) (N : NormF w F) (hx : Gd w x) (h : Dist w F x y c) : c = 0 ↔ x = y := by
  have s0 := hw.s0
  constructor
  · intro z
    obtain ⟨p, p1, p2, p3⟩ := h.ex
    rw [z] at p3
    rw [← p2, sw_zero hw hx ((TT_zero N p1).mp p3)]
  · intro e
    subst e
    have zp : Pt w (List.replicate w.own_size.toNat 0) := ⟨by simp; omega, fun x hx => by rw [List.eq_of_mem_replicate hx]; exact isres0 _ hw.m0⟩
    have z0 : ∀ a, 0 ≤ a → a < w.own_size → pv (List.replicate w.own_size.toNat 0) a = 0 := fun a _ _ => pv_rep _ _
    have h1 := h.le _ zp (sw_zero hw hx z0)
    rw [(TT_zero N zp).mpr z0] at h1
    obtain ⟨p, p1, p2, p3⟩ := h.ex
    have := TT_nn N p1
    omega
end
end Cs
end Lw

set_option Elab.async false
set_option linter.all false
set_option maxRecDepth 100000
set_option maxHeartbeats 4000000
/-! YZc: the best potential is one alone; bounds; texts. -/
namespace Lw
namespace Cs
open PySem L2 DL TL
open Mo (pur bnd lft)
open Enc (enc)
section
variable {w : OWeb} {b a fx q : List Int} {score : List Int → List Int → E Int} {sc : List Int → List Int → Int}
end
/-! ### great numbers shown -/
end Cs
end Lw

set_option Elab.async false
set_option linter.all false
set_option maxRecDepth 100000
set_option maxHeartbeats 2000000
/-! ZW: texts of lists that hold webs. -/
namespace Lw
open PySem L2 DL TL
open Mo (pur bnd lft)
open Enc (enc)
theorem shownAll_pairs : ∀ l : List (Int × Int), PyData.shownAll (l.map PyEq.pd) = l.map fun e => tupleText [Str.ofString (toString e.1), Str.ofString (toString e.2)]
  | [] => rfl
  | x :: l => by rw [List.map_cons, PyData.shownAll, shownAll_pairs l]; rfl
theorem showable_int {i : Int} (h : BB (10 ^ 30) i) : PyData.showable (.int i) = true := by rw [PyData.showable, decide_eq_true (log2_bb h)]
theorem showable_pairs : ∀ {l : List (Int × Int)}, (∀ e ∈ l, BB (10 ^ 30) e.1 ∧ BB (10 ^ 30) e.2) → PyData.showableAll (l.map PyEq.pd) = true
  | [], _ => rfl
  | x :: l, h => by
    have h0 := h x (by simp)
    rw [List.map_cons, PyData.showableAll, showable_pairs fun y hy => h y (by simp [hy])]
    show (PyData.showable (.tuple [.int x.1, .int x.2]) && true) = true
    rw [PyData.showable, PyData.showableAll, PyData.showableAll, PyData.showableAll, showable_int h0.1, showable_int h0.2]
    rfl
theorem noDict_pairs : ∀ l : List (Int × Int), PyData.hasDictAll (l.map PyEq.pd) = false
  | [] => rfl
  | x :: l => by
    rw [List.map_cons, PyData.hasDictAll, noDict_pairs l]
    show (PyData.hasDict (.tuple [.int x.1, .int x.2]) || false) = false
    simp [PyData.hasDict, PyData.hasDictAll]
theorem int_len {i : Int} (h : BB (10 ^ 30) i) : (Str.ofString (toString i)).length ≤ 1921 := PyProof.Rows.int_text_len_1921 (log2_bb h)
theorem pair_len {e : Int × Int} (h : BB (10 ^ 30) e.1 ∧ BB (10 ^ 30) e.2) : (tupleText [Str.ofString (toString e.1), Str.ofString (toString e.2)]).length ≤ 3850 := by
  have := fmt_text [Str.ofString (toString e.1), Str.ofString (toString e.2)]
  have h1 := int_len h.1
  have h2 := int_len h.2
  simp only [piled_cons] at this
  have h3 : piled [] = 0 := rfl
  omega
theorem strOk_tup {ts : List Str} (h : ∀ t ∈ ts, PyData.strOk t = true) : PyData.strOk (tupleText ts) = true := by
  unfold tupleText
  exact strOk_app (strOk_app (by decide +kernel) (strOk_join h)) (by split <;> decide +kernel)
theorem rpOk_pairs {l : List (Int × Int)} (hl : l.length ≤ 100) (h : ∀ e ∈ l, BB (10 ^ 30) e.1 ∧ BB (10 ^ 30) e.2) : RpOk (PyEq.pd l) ∧ (PyEq.pd l).shown.length ≤ 390000 ∧ PyData.strOk (PyEq.pd l).shown = true := by
  have e : (PyEq.pd l).shown = listText (l.map fun e => tupleText [Str.ofString (toString e.1), Str.ofString (toString e.2)]) := by
    show PyData.shown (.list (l.map PyEq.pd)) = _
    rw [PyData.shown, shownAll_pairs]
  have hb : (PyEq.pd l).shown.length ≤ 390000 := by
    rw [e]
    have := listText_len_le (l.map fun e => tupleText [Str.ofString (toString e.1), Str.ofString (toString e.2)])
    have e := sum_le (k := 3850) (l := (l.map fun e => tupleText [Str.ofString (toString e.1), Str.ofString (toString e.2)]).map (·.length)) (fun x hx => by
      obtain ⟨t, ht, rfl⟩ := List.mem_map.mp hx
      obtain ⟨i, hi, rfl⟩ := List.mem_map.mp ht
      exact pair_len (h i hi))
    simp only [List.length_map] at e this
    have := Nat.mul_le_mul_right 3850 hl
    omega
  refine ⟨⟨?_, ?_, ?_⟩, hb, ?_⟩
  · show PyData.showable (.list (l.map PyEq.pd)) = true
    rw [PyData.showable]; exact showable_pairs h
  · show PyData.hasDict (.list (l.map PyEq.pd)) = false
    rw [PyData.hasDict]; exact noDict_pairs l
  · have : sizeLine = 16777216 := by decide
    omega
  · rw [e]
    refine strOk_list fun t ht => ?_
    obtain ⟨x, _, rfl⟩ := List.mem_map.mp ht
    refine strOk_tup fun u hu => ?_
    simp only [List.mem_cons, List.not_mem_nil, or_false] at hu
    rcases hu with rfl | rfl <;> exact strOk_of _
/-- a thing with a text of bounded length, in each store -/
def Tx (g : Store → D → Option Str) (n : Nat) (d : D) : Prop := ∃ t, (∀ M, g M d = some t) ∧ t.length ≤ n ∧ PyData.strOk t = true
theorem Tx.mono {g : Store → D → Option Str} {n m : Nat} {d : D} (h : Tx g n d) (hm : n ≤ m) : Tx g m d := let ⟨t, a, b, c⟩ := h; ⟨t, a, Nat.le_trans b hm, c⟩
theorem shL_all {g : Store → D → Option Str} {n : Nat} : ∀ {l : List D}, (∀ d ∈ l, Tx g n d) → ∃ ts, (∀ M, shL (g M) l = some ts) ∧ ts.length = l.length ∧ ∀ t ∈ ts, t.length ≤ n ∧ PyData.strOk t = true
  | [], _ => ⟨[], fun M => rfl, rfl, by simp⟩
  | d :: l, h => by
    obtain ⟨t, h1, h2, h3⟩ := h d (by simp)
    obtain ⟨ts, q1, q2, q3⟩ := shL_all (l := l) fun x hx => h x (by simp [hx])
    exact ⟨t :: ts, fun M => by unfold shL; rw [h1 M, q1 M], by simp [q2], fun u hu => by
      rcases List.mem_cons.mp hu with e | hu
      · subst e; exact ⟨h2, h3⟩
      · exact q3 u hu⟩
theorem list_len {n : Nat} {ts : List Str} (h : ∀ t ∈ ts, t.length ≤ n ∧ PyData.strOk t = true) : (listText ts).length ≤ ts.length * (n + 2) + 3 ∧ PyData.strOk (listText ts) = true := by
  refine ⟨?_, strOk_list fun t ht => (h t ht).2⟩
  have := listText_len_le ts
  have e := sum_le (k := n) (l := ts.map (·.length)) (fun x hx => by
    obtain ⟨t, ht, rfl⟩ := List.mem_map.mp hx
    exact (h t ht).1)
  simp only [List.length_map] at e
  rw [Nat.mul_add]
  omega
theorem tx_data {α : Type} [Enc α] [PyEq α] {x : α} {n : Nat} (hd : PyEq.dep α ≤ 14) (hw : isW (enc x) = false) (h : RpOk (PyEq.pd x)) (hl : (PyEq.pd x).shown.length ≤ n) (ho : PyData.strOk (PyEq.pd x).shown = true) : Tx sh1 n (enc x) := by
  refine ⟨_, fun M => ?_, hl, ho⟩
  unfold sh1
  rw [hw, if_neg (by simp)]
  unfold DL.shD
  rw [PyEq.ok M 14 x hd]
  exact if_pos h
theorem tx_ints {l : List Int} (hl : l.length ≤ 100) (h : ∀ x ∈ l, BB (10 ^ 30) x) : Tx sh1 200000 (enc l) := by
  refine tx_data (by decide) rfl (rpOk_ints (by omega) h) ?_ (strOk_rp l)
  have := listText_len_le (l.map fun i => Str.ofString (toString i))
  rw [← rpS_eq] at this
  have e := sum_le (k := 1921) (l := (l.map fun i => Str.ofString (toString i)).map (·.length)) (fun x hx => by
    obtain ⟨t, ht, rfl⟩ := List.mem_map.mp hx
    obtain ⟨i, hi, rfl⟩ := List.mem_map.mp ht
    exact int_len (h i hi))
  simp only [List.length_map] at e this
  show (rpS l).length ≤ _
  have := Nat.mul_le_mul_right 1921 hl
  omega
theorem tx_web {w : OWeb} (hl : w.own_edges.length ≤ 100) (he : ∀ e ∈ w.own_edges, BB (10 ^ 30) e.1 ∧ BB (10 ^ 30) e.2) (hs : BB (10 ^ 30) w.own_size) (hm : BB (10 ^ 30) w.own_modulus) : Tx sh1 400000 (enc w) := by
  obtain ⟨r1, r2, r3⟩ := rpOk_pairs hl he
  have l1 := int_len hs
  have l2 := int_len hm
  have hz : (webS w.own_size (PyEq.pd w.own_edges).shown w.own_modulus).length ≤ 400000 := by
    unfold webS
    simp only [strLen_append]
    have e1 : (Str.empty).length = 0 := rfl
    have e2 : ("Web(" : Str).length = 4 := by decide +kernel
    have e3 : (", " : Str).length = 2 := by decide +kernel
    have e4 : (", modulus=" : Str).length = 10 := by decide +kernel
    have e5 : (")" : Str).length = 1 := by decide +kernel
    have e6 : ((toString w.own_size : String) : Str).length ≤ 1921 := l1
    have e7 : ((toString w.own_modulus : String) : Str).length ≤ 1921 := l2
    omega
  refine ⟨webS w.own_size (PyEq.pd w.own_edges).shown w.own_modulus, fun M => ?_, hz, ?_⟩
  · unfold sh1
    rw [show isW (enc w) = true from by show decide (("Web" : Str) = "Web") = true; simp, if_pos rfl]
    show shW M (.nd (.obj "Web" ["own_size", "own_edges", "own_modulus", "own_forest", "links"]) [enc w.own_size, enc w.own_edges, enc w.own_modulus, enc w.own_forest, enc w.links]) = _
    unfold shW
    have a1 : (("own_edges" : Str) == ("own_size" : Str)) = false := by decide +kernel
    have a2 : (("own_modulus" : Str) == ("own_size" : Str)) = false := by decide +kernel
    have a3 : (("own_modulus" : Str) == ("own_edges" : Str)) = false := by decide +kernel
    dsimp only
    rw [if_pos rfl]
    simp only [List.zip_cons_cons, List.lookup_cons, beq_self_eq_true, a1, a2, a3]
    show (match py M 14 (enc w.own_edges) with
      | some (.list xs) => if RpOk (.list xs) ∧ w.own_size.natAbs.log2 < 1920 ∧ w.own_modulus.natAbs.log2 < 1920 ∧ (webS w.own_size (PyData.list xs).shown w.own_modulus).length ≤ sizeLine then some (webS w.own_size (PyData.list xs).shown w.own_modulus) else none
      | _ => none) = _
    rw [PyEq.ok M 14 w.own_edges (by decide)]
    refine if_pos ⟨r1, log2_bb hs, log2_bb hm, ?_⟩
    have : sizeLine = 16777216 := by decide
    have hz : (webS w.own_size (PyData.list (w.own_edges.map PyEq.pd)).shown w.own_modulus).length ≤ 400000 := hz
    omega
  · unfold webS
    exact strOk_app (strOk_app (strOk_app (strOk_app (strOk_app (strOk_app (strOk_app (by decide +kernel) (by decide +kernel)) (strOk_of _)) (by decide +kernel)) r3) (by decide +kernel)) (strOk_of _)) (by decide +kernel)
theorem castO {x : D} {t : Str} (h : ∀ M, shO M x = some t) (hz : t.length ≤ sizeLine) {α : Type} [Enc α] {a : α} (e : enc a = x) : (castE (reprO (enc a)) : E Str) = .ok t := castE_ok (fun M => by
  rw [e]
  unfold reprO
  rw [h M]
  exact if_pos hz) (fun x y h => by cases h; rfl)
/-- a list of webs and data -/
theorem rpO1 {l : List Dt} {n : Nat} (hl : l.length * (n + 2) + 3 ≤ 16777216) (hw : (l.map (enc : Dt → D)).any isW = true) (h : ∀ x ∈ l, Tx sh1 n x.d) : ∃ t, (castE (reprO (enc l)) : E Str) = .ok t ∧ PyData.strOk t = true := by
  obtain ⟨ts, q1, q2, q3⟩ := shL_all (g := sh1) (n := n) (l := l.map enc) (fun d hd => by
    obtain ⟨x, hx, rfl⟩ := List.mem_map.mp hd
    exact h x hx)
  obtain ⟨z1, z2⟩ := list_len q3
  rw [List.length_map] at q2
  rw [q2] at z1
  refine ⟨listText ts, castO (x := .nd .lst (l.map enc)) (fun M => ?_) (by have : sizeLine = 16777216 := by decide
                                                                           omega) rfl, z2⟩
  unfold shO
  rw [show isL (.nd .lst (l.map enc)) = true from hw, if_pos rfl]
  unfold shs1
  dsimp only
  rw [q1 M]; rfl
end Lw

set_option Elab.async false
set_option linter.all false
set_option maxRecDepth 100000
set_option maxHeartbeats 2000000
/-! K70x: the law of k70. -/
namespace Lw
open PySem L2 DL TL
open Mo (pur bnd lft)
open Enc (enc)
theorem tr_excE {α : Type} (c : Str) (d : D) (k : Str → D → E α) : Mo.tr (E.exc c d : E α) k = k c d := by rw [trE]; rfl
theorem catchC_exc {α : Type} {T : List (Str × Option Nat)} {p : E α} {c : Str} {x : Dt} {j : Nat} (hT : T.lookup c = some (some j)) (e : p = .exc c (enc x)) : catchMC T p = E.ok (Sum.inr (j, c, x)) := by
  subst e
  unfold catchMC
  have : (bnd (E.exc c (enc x) : E α) fun a => pur (Sum.inl a)) = (E.exc c (enc x) : E (α ⊕ (Nat × Str × Dt))) := by rw [bndE]; rfl
  rw [this, tr_excE]
  unfold catchTC
  rw [hT]
  dsimp only
  rw [dif_pos (show rlt 0 (enc x) = true from x.h), purE]; rfl
theorem rg2_mem {a b x : Int} : x ∈ rg a b ↔ a ≤ x ∧ x < b := by
  unfold rg
  rw [List.mem_map]
  constructor
  · rintro ⟨k, hk, rfl⟩
    have := List.mem_range.mp hk
    omega
  · intro h
    exact ⟨(x - a).toNat, List.mem_range.mpr (by omega), by omega⟩
theorem rg2_len {a b : Int} : (rg a b).length = (b - a).toNat := by unfold rg; rw [List.length_map, List.length_range]
section
variable {n : Int} {es : List Edge} {F : List Int} {L : List (List (T3 Int Int Int))} {m d : Int} {b a p : List Int}
def gd (m : Int) : List Int := (rg 2 61).filter fun x => decide (m % x = 0)
theorem gd_mem {x : Int} : x ∈ gd m ↔ 2 ≤ x ∧ x ≤ 60 ∧ x ∣ m := by
  unfold gd
  rw [List.mem_filter, rg2_mem, decide_eq_true_eq]
  constructor
  · rintro ⟨h1, h2⟩
    exact ⟨h1.1, by omega, Int.dvd_of_emod_eq_zero h2⟩
  · rintro ⟨h1, h2, h3⟩
    exact ⟨⟨h1, by omega⟩, Int.emod_eq_zero_of_dvd h3⟩
theorem divisors_eq : p__law_divisors m = .ok (gd m) := by
  unfold p__law_divisors
  simp only [pur_bnd, bnd_assoc, Bool.false_xor]
  rw [rgW_ok (by omega) (by omega) (by omega) (by omega), lok_bnd]
  rw [lc_ok (fun x => decide (m % x = 0)) id (by rw [rg2_len]; omega) (fun q hq => by
    have hq := rg2_mem.mp hq
    rw [modZ_eq (by omega), lok_bnd, lftE, purE]
    exact ⟨rfl, fun _ => rfl⟩), ok_bndE, List.map_id, purE]
  rfl
theorem divisor_ok (d0 : 2 ≤ d) (d1 : d ≤ 60) (dm : d ∣ m) : p_check_divisor (wb n es F L m) d = .ok () := by
  have e : m % d = 0 := Int.emod_eq_zero_of_dvd dm
  unfold p_check_divisor
  simp only [pur_bnd, bnd_assoc, is_within_eq, modulus_eq, lok_bnd, modZ_eq (show 0 < d by omega)]
  simp only [wb, e, eqB, d0, d1, decide_true, Bool.and_self, Bool.not_true, Bool.false_eq_true, if_false, Bool.true_xor, lok_bnd, purE]
theorem reduced_wb (d0 : 2 ≤ d) (d1 : d ≤ 60) (dm : d ∣ m) (hd : p_Web___init__ n es d = .ok (wb n es F L d)) : p_reduced (wb n es F L m) d = .ok (wb n es F L d) := by
  unfold p_reduced
  simp only [pur_bnd, bnd_assoc, divisor_ok d0 d1 dm, lok_bnd, size_eq, edges_eq]
  show bnd (lft (p_Web___init__ n es d)) _ = _
  rw [hd, lok_bnd, purE]; rfl
theorem reduced_g (d0 : 2 ≤ d) (d1 : d ≤ 60) (dm : d ∣ m) (hw : WOk (wb n es F L m)) (hb : Gd (wb n es F L m) b) : p_reduced_gains_v (wb n es F L m) b d = .ok (mdL d b) := by
  have hl : es.length ≤ 60 := hw.len
  have lb : b.length = es.length := hb.len
  unfold p_reduced_gains_v
  simp only [pur_bnd, bnd_assoc, check_gains_eq hw hb, divisor_ok d0 d1 dm, lok_bnd]
  rw [lc_map (fun x => x % d) (by omega) (fun x hx => by rw [modZ_eq (show 0 < d by omega), lftE]), ok_bndE, purE]
  rfl
theorem weq : p_Web___eq___v (wb n es F L d) (wb n es F L d) = .ok true := by
  unfold p_Web___eq___v
  simp only [pur_bnd]
  rw [if_neg (by simp), purE]
  simp [eqB]
/-- no modulus to which the web can be reduced -/
def OddB (m : Int) (x : Dt) : Prop := plE x.d = true ∧ ShD x ∧ (inR 2 60 x.d = false ∨ ∃ k : Int, x = Dt.of k ∧ 2 ≤ k ∧ k ≤ 60 ∧ ¬ k ∣ m)
theorem divisor_odd {x : Dt} (h : OddB m x) : p_check_divisor_2 (wb n es F L m) x = .exc ("InvalidModulus" : Str) (enc x) := by
  obtain ⟨h1, _, h2⟩ := h
  have e1 := is_withinE (x := x) (a := 2) (b := 60) h1
  unfold p_check_divisor_2
  rcases h2 with h2 | ⟨k, rfl, k0, k1, hk⟩
  · rw [h2] at e1
    simp only [pur_bnd, bnd_assoc, e1, lok_bnd, Bool.not_false, if_true]
    rw [lftE]
  · have e2 : inR 2 60 (Dt.of k).d = true := by
      show (decide (2 ≤ k) && decide (k ≤ 60)) = true
      simp [k0, k1]
    rw [e2] at e1
    have e3 : (asG (Dt.of k) : E Int) = .ok k := as_int k
    have e4 : m % k ≠ 0 := fun h => hk (Int.dvd_of_emod_eq_zero h)
    simp only [pur_bnd, bnd_assoc, e1, lok_bnd, Bool.not_true, Bool.false_eq_true, if_false, modulus_eq, e3, modZ_eq (show 0 < k by omega), Bool.true_xor]
    rw [if_pos (by simp [eqB, wb, e4]), lftE]
theorem refused_of {dr : Int} {w : OWeb} {g : List Int} {x : Dt} (hs : ShD x) (h : (bnd (pur (false ^^ eqB dr (0 : Int))) fun z => if z = true then (bnd (lft (p_reduced_2 w x)) fun _ => pur ()) else (bnd (lft (p_reduced_gains_v_2 w g x)) fun _ => pur ()) : E Unit) = .exc ("InvalidModulus" : Str) (enc x)) : p__law_refused dr w g x = .ok true := by
  obtain ⟨t, t1, t2⟩ := hs
  have i1 : Xc.isIn [("InvalidEdge" : Str), ("InvalidGains" : Str), ("InvalidModulus" : Str), ("InvalidSize" : Str)] ("InvalidModulus" : Str) = true := by decide +kernel
  unfold p__law_refused
  rw [catchC_exc (j := 0) (by decide +kernel) h, ok_bndE]
  unfold tryKC
  dsimp only [List.getElem?_cons_zero]
  simp only [pur_bnd, bnd_assoc, t1, lok_bnd, eqS_ok t2 t2, i1, Bool.false_xor, decide_true, if_true, id]
  rw [purE, TL.nox_ok, ok_bndE, purE]
theorem refused0 {g : List Int} {x : Dt} (h : OddB m x) : p__law_refused 0 (wb n es F L m) g x = .ok true := refused_of h.2.1 (by
  simp only [pur_bnd]
  rw [if_pos (by decide)]
  unfold p_reduced_2
  rw [divisor_odd h, lexc_bnd, lexc_bnd])
theorem refused1 {g : List Int} {x : Dt} (hw : WOk (wb n es F L m)) (hb : Gd (wb n es F L m) g) (h : OddB m x) : p__law_refused 1 (wb n es F L m) g x = .ok true := refused_of h.2.1 (by
  simp only [pur_bnd]
  rw [if_neg (by decide)]
  unfold p_reduced_gains_v_2
  rw [check_gains_eq hw hb, lok_bnd, divisor_odd h, lexc_bnd, lexc_bnd])
end
theorem odd_int {m k : Int} (hk : BB (10 ^ 30) k) (h : k ∉ gd m) : OddB m (Dt.of k) := by
  refine ⟨rfl, shD (x := Dt.of k) (Sh.int (k := 13) hk) (by omega) (by omega), ?_⟩
  by_cases z : 2 ≤ k ∧ k ≤ 60
  · exact .inr ⟨k, rfl, z.1, z.2, fun hd => h (gd_mem.mpr ⟨z.1, z.2, hd⟩)⟩
  · refine .inl ?_
    show (decide (2 ≤ k) && decide (k ≤ 60)) = false
    rw [← Bool.decide_and, decide_eq_false z]
theorem odd_all {m : Int} : ∀ x ∈ ((((rg (-2) 64).filter fun x => !inI x (gd m)).map Dt.of) ++ ([Dt.of (), Dt.of true, Dt.of false, Dt.of ("2" : Str), Dt.of ([(2 : Int)] : List Int), Dt.of (T1.mk (3 : Int)), Dt.of (1000000000000000000000000000000 : Int)] : List Dt)), OddB m x := fun x hx => by
  rcases List.mem_append.mp hx with hx | hx
  · obtain ⟨k, hk, rfl⟩ := List.mem_map.mp hx
    obtain ⟨h1, h2⟩ := List.mem_filter.mp hk
    have h1 := rg2_mem.mp h1
    refine odd_int (by unfold BB; omega) fun z => ?_
    unfold inI at h2
    rw [decide_eq_true z] at h2
    cases h2
  · simp only [List.mem_cons, List.not_mem_nil, or_false] at hx
    rcases hx with z | z | z | z | z | z | z <;> subst z
    · exact ⟨rfl, shD (x := Dt.of ()) (Sh.non (k := 13)) (by omega) (by omega), .inl rfl⟩
    · exact ⟨rfl, shD (x := Dt.of true) (Sh.bl (k := 13)) (by omega) (by omega), .inl rfl⟩
    · exact ⟨rfl, shD (x := Dt.of false) (Sh.bl (k := 13)) (by omega) (by omega), .inl rfl⟩
    · exact ⟨rfl, shD (x := Dt.of ("2" : Str)) (Sh.str (k := 13) (by decide +kernel)) (by omega) (by omega), .inl rfl⟩
    · exact ⟨rfl, shD (x := Dt.of ([(2 : Int)] : List Int)) (Sh.ints (k := 12) (c := 10) (l := [2]) (by simp) (by intro x hx; simp at hx; subst hx; unfold BB; omega)) (by omega) (by omega), .inl rfl⟩
    · exact ⟨rfl, shD (x := Dt.of (T1.mk (3 : Int))) (Sh.intsT (k := 12) (c := 10) (l := [3]) (by simp) (by intro x hx; simp at hx; subst hx; unfold BB; omega)) (by omega) (by omega), .inl rfl⟩
    · exact ⟨rfl, shD (x := Dt.of (1000000000000000000000000000000 : Int)) (Sh.int (k := 13) (by unfold BB; omega)) (by omega) (by omega), .inl rfl⟩
theorem law_W (s : Scr) : p_law s (fun v => v = true) (fun _ _ => False) := by
  unfold p_law
  simp only [pur_bndW, bnd_assocW, lokW, Bool.false_xor, Bool.true_xor]
  refine bndW_ok (rgW_ok (by omega) (by omega) (by split <;> split <;> omega) (by split <;> split <;> omega)) ?_
  rw [bndWa]
  refine forF_W (fun _ => True) trivial (fun b x hx _ Q' hq => ?_) (fun b _ => ?_)
  · have hx := rg_mem.mp hx
    have hx2 : x < 100 := by have := hx.2; revert this; split <;> split <;> omega
    have hg : grdC (decide (0 ≤ x) && decide (x < 100)) = .ok () := by
      unfold grdC
      rw [if_pos (by simp; omega)]
    refine bndW_ok hg ?_
    rw [bndWa]
    refine takeW_ok (by decide) (by decide) (fun n n0 n1 => ?_)
    rw [bndWa]
    refine base_W (fun m m0 m1 m2 => ?_)
    rw [bndWa]
    refine pairs_W (by omega) (by omega) (by decide) (by decide) (fun es el ee => ?_)
    have eok : EOk (1 + n) es := ⟨by omega, ee⟩
    rw [bndWa]
    refine residues_W m0 m1 (by omega) (fun g l0 r0 => ?_)
    obtain ⟨F, L, hI⟩ := web_fam (by omega) (by omega) eok
    obtain ⟨w1, hw⟩ := hI m m0 m1 m2
    refine bndW_ok w1 ?_
    have hw1 := hw.toWOk
    have gb : ∀ z ∈ g, BB (10 ^ 30) z := fun z hz => bb_mono (r0 z hz).2 (by omega)
    have hg0 : Gd (wb (1 + n) es F L m) g := ⟨l0, fun x hx => (r0 x hx).1⟩
    have bn : ∀ {z : Int}, 0 ≤ z → z ≤ 100 → BB (10 ^ 30) z := fun h1 h2 => by unfold BB; omega
    obtain ⟨t, t1, t2⟩ := rpO1 (l := [Dt.of (wb (1 + n) es F L m), Dt.of g]) (n := 400000) (by simp) (by show (isW (enc (wb (1 + n) es F L m)) || _) = true; rw [show isW (enc (wb (1 + n) es F L m)) = true from by show decide (("Web" : Str) = "Web") = true; simp]; rfl) (fun x hx => by
      simp only [List.mem_cons, List.not_mem_nil, or_false] at hx
      rcases hx with z | z <;> subst z
      · exact tx_web (w := wb (1 + n) es F L m) (by show es.length ≤ 100; omega) (fun e he => by
          have := ee e he
          exact ⟨bn (by omega) (by omega), bn (by omega) (by omega)⟩) (bn (by show 0 ≤ 1 + n; omega) (by show 1 + n ≤ 100; omega)) (bn m0 (by show m ≤ 100; omega))
      · exact (tx_ints (l := g) (by omega) gb).mono (by omega))
    refine bndW_ok t1 ?_
    refine bndW_ok divisors_eq ?_
    refine loopW (fun x hx b => ?_) ?_
    · have hx := gd_mem.mp hx
      obtain ⟨i1, w2⟩ := hI x (by omega) (by omega) (by omega)
      have gl : (mdL x g).length ≤ 1000 := by unfold mdL; rw [List.length_map]; omega
      have gm : ∀ z ∈ mdL x g, BB (10 ^ 30) z := fun z hz => by
        unfold mdL at hz
        obtain ⟨y, _, rfl⟩ := List.mem_map.mp hz
        have := Int.emod_nonneg y (show x ≠ 0 by omega)
        have := Int.emod_lt_of_pos y (show 0 < x by omega)
        unfold BB; omega
      have sg := strOk_rp (mdL x g)
      rw [reduced_wb hx.1 hx.2.1 hx.2.2 i1, lok_bndW, if_neg (by simp)]
      rw [i1, lok_bndW, weq, lok_bndW, pur_bndW, if_neg (by simp)]
      rw [reduced_g hx.1 hx.2.1 hx.2.2 hw1 hg0, lok_bndW, rprY_ints gl gm, lok_bndW]
      rw [lc_Wmap (fun z => z % x) (by omega) (fun z _ => by rw [modZ_eq (by omega), lokW]), pur_bndW]
      have em : g.map (fun z => z % x) = mdL x g := rfl
      rw [em, castE_ints gl gm, lok_bndW, eqS_ok sg sg, lok_bndW, if_neg (by simp), appL_ok (by rw [List.length_map]; omega), lok_bndW]
    · refine bndW_ok (rgW_ok (by omega) (by omega) (by omega) (by omega)) ?_
      rw [lc_Wok (fun x => !inI x (gd m)) (fun x => x) (by rw [rg2_len]; omega) (fun q hq => ⟨rfl, fun _ => rfl⟩), pur_bndW, List.map_id']
      have fl : ((rg (-2) 64).filter fun x => !inI x (gd m)).length ≤ 66 := by
        have := List.length_filter_le (fun x => !inI x (gd m)) (rg (-2) 64)
        rw [rg2_len] at this
        exact this
      refine bndW_ok (catL_ok (by simp; omega)) ?_
      refine loopW (fun x hx b => ?_) ?_
      · have hx := odd_all (m := m) x hx
        rw [refused0 hx, lok_bndW, if_neg (by simp), refused1 hw1 hg0 hx, lok_bndW, pur_bndW, if_neg (by simp)]
      · refine bndW_ok t1 ?_
        refine bndW_ok (eqS_ok t2 t2) ?_
        rw [if_neg (by simp), purWa]
        exact hq () trivial
  · refine outF_inl ?_
    rw [purWa]
    rfl
theorem law_true (ns : List Int) : ∃ M', F_law [scr ns] [] = .ok (.bl true) M' := law_end (t_law ⟨ns⟩) (law_W ⟨ns⟩)
end Lw

set_option Elab.async false
set_option linter.all false
set_option maxRecDepth 100000
set_option maxHeartbeats 0
open PySem PySem.W PySem.Calls PyProof.Rows
theorem PySem.Challenge.cw_turnedties_k70_reduced_webs_and_gains_holds : PySem.Challenge.rw_turnedties_k70_reduced_webs_and_gains.Holds := by
  w_on; o_law
  refine HandSHeadRun.head_any (r := OpenLaw.row PySem.Challenge.rw_turnedties_k70_reduced_webs_and_gains) (q := view (OpenLaw.row PySem.Challenge.rw_turnedties_k70_reduced_webs_and_gains).prog [39]) (H := Lw.hkD) (ob := Lw.obD) (M := 100000) (loose := Lw.loose) (d := HandSHeadRun.topDef (OpenLaw.row PySem.Challenge.rw_turnedties_k70_reduced_webs_and_gains).prog 39) (kwd := []) Lw.obD_eq
    (by kernel_rfl) (fun s => by kernel_rfl) Lw.runD (by kernel_rfl) (by kernel_rfl) (by kernel_rfl) (by rfl) (by first | assumption | decide +kernel) (by decide +kernel) ⟨rfl, rfl, rfl, rfl, rfl, by decide +kernel⟩ ?hw ?hc
  case hw => w_witness2
  case hc =>
    refine DL.walk_ofG (l := PySem.Challenge.rw_turnedties_k70_reduced_webs_and_gains) (n := 63) (k := 9) (x := "_law_script") (CX := L2.CX0) rfl (by decide) (by kernel_rfl) ⟨rfl, by decide, by decide⟩ ?F (fun _ _ _ _ z => z)
    intro w mg fa0 h Y G hmg0
    obtain ⟨K, KX, c, cx⟩ := Y
    have hmg : mg ("law" : PySem.Str) = some (.ref fa0) := by
      have e : (HandSHeadRun.topDef (OpenLaw.row PySem.Challenge.rw_turnedties_k70_reduced_webs_and_gains).prog 39).name = ("law" : PySem.Str) := by kernel_rfl
      rw [← e]
      exact hmg0
    have e := hmg.symm.trans (He.glo_ok KX G (c.fact 61 (f := .glo "law") rfl))
    cases e
    obtain ⟨fd, hb, hF⟩ := Lw.ok_law (P := (PySem.Challenge.rw_turnedties_k70_reduced_webs_and_gains).prog) (w := w) KX G c cx
    exact ⟨K, fd, _, KX, hb, fun H a ns hl _ hS => let ⟨M1, hM⟩ := Lw.law_true ns; DL.spL_script hS hM, fun base _ _ => hF base⟩
