import PyProof.Rows.All
import Wide.All
import OpenK.AllK
import Wide.FinOn
import KE.KStateDown
import Lean
import HandS.ForMost
import HandS.More
import HandS.WordsExc
import HandS.Defaults
import HandS.Wide
import HandS.Head0
import HandS.Head1
import HandS.Head2
import HandS.HeadEnd
import HandS.HeadHook1
import HandS.HeadHook2
import HandS.Conv
import HandS.SortInts
import HandS.MakeKw
import HandS.MakeKwOnly
import HandS.CallSlots
import HandS.IsInst
import HandS.DictComp
import PySem.Challenge.RW_turnedties_k03_components_and_forest
set_option Elab.async false
set_option linter.all false
set_option maxRecDepth 100000
set_option maxHeartbeats 4000000
/-! DL1: data trees, the store, judgements whose index is a deterministic function. -/
namespace DL
open PySem L2

/-- a node's tag -/
inductive Tg where
  | lst | slst | tup | dct (ks : List Key) | obj (c : Str) (ns : List Str)
/-- data: scalars, built-in classes, globals by name, a cell of the store, a frozen node -/
inductive D where
  | non | bl (b : Bool) | int (i : Int) | str (x : Str) | ty (n : String) | gl (x : Str) | ref (n : Nat) | nd (t : Tg) (l : List D)
abbrev Store := List (Tg × List D)
abbrev D.lst (l : List D) : D := .nd .lst l
abbrev D.tup (l : List D) : D := .nd .tup l
/-- outcomes -/
inductive Out (α : Type) where
  | ok (a : α) (M : Store) | exc (c : Str) (d : D) (M : Store) | stuck
abbrev Ev (α : Type) := Store → Out α
def Ev.ret {α : Type} (a : α) : Ev α := fun M => .ok a M
def Ev.no {α : Type} : Ev α := fun _ => .stuck
def Out.bnd {α β : Type} (o : Out α) (k : α → Ev β) : Out β := match o with
  | .ok a M => k a M
  | .exc c d M => .exc c d M
  | .stuck => .stuck
def Ev.bnd {α β : Type} (m : Ev α) (k : α → Ev β) : Ev β := fun M => (m M).bnd k
theorem ret_bnd {α β : Type} (a : α) (k : α → Ev β) : (Ev.ret a).bnd k = k a := rfl
theorem bnd_bnd {α β γ : Type} (m : Ev α) (k : α → Ev β) (j : β → Ev γ) : (m.bnd k).bnd j = m.bnd fun a => (k a).bnd j := by
  funext M; unfold Ev.bnd; cases m M <;> rfl
theorem no_bnd {α β : Type} (k : α → Ev β) : (Ev.no : Ev α).bnd k = Ev.no := rfl
theorem bnd_apply {α β : Type} (m : Ev α) (k : α → Ev β) (M : Store) : (m.bnd k) M = (m M).bnd k := rfl
theorem ok_bnd {α β : Type} (a : α) (M : Store) (k : α → Ev β) : (Out.ok a M).bnd k = k a M := rfl
theorem ret_apply {α : Type} (a : α) (M : Store) : Ev.ret a M = .ok a M := rfl
/-- a local frame -/
abbrev Lo := List (Option D)
inductive Fl where
  | nx (S : Lo) | rt (d : D) | bk (S : Lo) | ct (S : Lo) | xc (c : Str) (d : D) (S : Lo)

structure Gx where
  K : PySem.W.Frag
  mg : Str → Option Value
abbrev gx (X : Cx) : Gx := ⟨X.K, X.mg⟩

/-- a frozen node at p -/
def FC (G : Gx) (B : Hp) (p : Addr) : Tg → List V → Prop
  | .lst, vs => B p = some (.lst vs)
  | .slst, vs => SqL G.K B p vs
  | .tup, vs => SqT G.K B p vs
  | .dct ks, vs => B p = some (.dK (ks.zip vs)) ∧ ks.length = vs.length
  | .obj c ns, vs => ∃ C dx, G.mg c = some (.ref C) ∧ B p = some (.ins C dx (ns.zip vs)) ∧ ns.length = vs.length
/-- a cell at a -/
def MC (G : Gx) (H : Hp) (a : Addr) : Tg → List V → Prop
  | .lst, vs => H a = some (.lst vs)
  | .slst, _ => False
  | .tup, _ => False
  | .dct ks, vs => H a = some (.dK (ks.zip vs)) ∧ ks.length = vs.length
  | .obj c ns, vs => ∃ C dx, G.mg c = some (.ref C) ∧ H a = some (.ins C dx (ns.zip vs)) ∧ ns.length = vs.length
mutual
inductive R (G : Gx) (B : Hp) (as : List Addr) : V → D → Prop
  | non : R G B as .non .non
  | bl (b : Bool) : R G B as (.bl b) (.bl b)
  | int (i : Int) : R G B as (.int i) (.int i)
  | str (x : Str) : R G B as (.str x) (.str x)
  | ty (n : String) : R G B as (.ty n) (.ty n)
  | gl {x : Str} {a : Addr} : G.mg x = some (.ref a) → R G B as (.ref a) (.gl x)
  | ref {n : Nat} {a : Addr} : as[n]? = some a → R G B as (.ref a) (.ref n)
  | nd {t : Tg} {p : Addr} {vs : List V} {l : List D} : FC G B p t vs → Rs G B as vs l → R G B as (.ref p) (.nd t l)
inductive Rs (G : Gx) (B : Hp) (as : List Addr) : List V → List D → Prop
  | nil : Rs G B as [] []
  | cons {v : V} {vs : List V} {d : D} {l : List D} : R G B as v d → Rs G B as vs l → Rs G B as (v :: vs) (d :: l)
end
theorem pre_get {α : Type} {l l' : List α} (p : l <+: l') {n : Nat} {a : α} (h : l[n]? = some a) : l'[n]? = some a := by
  obtain ⟨t, rfl⟩ := p
  rw [List.getElem?_append_left (List.getElem?_eq_some_iff.mp h).1]; exact h
theorem sqT_mono {K : PySem.W.Frag} {B B' : Hp} {a : Addr} {xs : List V} (e : Same B B') (h : SqT K B a xs) : SqT K B' a xs := by
  rcases h with h | h
  · rcases h with h | ⟨o, h⟩
    · exact .inl (.inl (e _ _ h))
    · exact .inl (.inr ⟨o, e _ _ h⟩)
  · exact .inr h
theorem FC.mono {G : Gx} {B B' : Hp} {p : Addr} (e : Same B B') : ∀ {t : Tg} {vs : List V}, FC G B p t vs → FC G B' p t vs
  | .lst, _, h => e _ _ h
  | .slst, _, h => e.seq h
  | .tup, _, h => sqT_mono e h
  | .dct _, _, h => ⟨e _ _ h.1, h.2⟩
  | .obj _ _, _, h => let ⟨C, dx, a, b, c⟩ := h; ⟨C, dx, a, e _ _ b, c⟩
mutual
theorem R.mono {G : Gx} {B B' : Hp} {as as' : List Addr} (e : Same B B') (p : as <+: as') : ∀ {v : V} {d : D}, R G B as v d → R G B' as' v d
  | _, _, .non => .non
  | _, _, .bl b => .bl b
  | _, _, .int i => .int i
  | _, _, .str x => .str x
  | _, _, .ty n => .ty n
  | _, _, .gl h => .gl h
  | _, _, .ref h => .ref (pre_get p h)
  | _, _, .nd h r => .nd (h.mono e) (Rs.mono e p r)
theorem Rs.mono {G : Gx} {B B' : Hp} {as as' : List Addr} (e : Same B B') (p : as <+: as') : ∀ {vs : List V} {l : List D}, Rs G B as vs l → Rs G B' as' vs l
  | _, _, .nil => .nil
  | _, _, .cons h r => .cons (R.mono e p h) (Rs.mono e p r)
end
section
variable {G : Gx} {Fr B B' : Hp} {as as' : List Addr}
theorem Rs.length : ∀ {vs : List V} {l : List D}, Rs G B as vs l → vs.length = l.length
  | _, _, .nil => rfl
  | _, _, .cons _ r => congrArg (· + 1) r.length
theorem Rs.get : ∀ {vs : List V} {l : List D} {i : Nat} {d : D}, Rs G B as vs l → l[i]? = some d → ∃ v, vs[i]? = some v ∧ R G B as v d
  | _, _, _, _, .nil, e => by simp at e
  | _, _, 0, _, .cons h _, e => by simp at e; subst e; exact ⟨_, rfl, h⟩
  | _, _, i + 1, d, .cons _ r, e => by
    obtain ⟨v, h1, h2⟩ := Rs.get (i := i) (d := d) r (by simpa using e)
    exact ⟨v, by simpa using h1, h2⟩
theorem Rs.getV : ∀ {vs : List V} {l : List D} {i : Nat} {v : V}, Rs G B as vs l → vs[i]? = some v → ∃ d, l[i]? = some d ∧ R G B as v d
  | _, _, _, _, .nil, e => by simp at e
  | _, _, 0, _, .cons h _, e => by simp at e; subst e; exact ⟨_, rfl, h⟩
  | _, _, i + 1, d, .cons _ r, e => by
    obtain ⟨v, h1, h2⟩ := Rs.getV (i := i) (v := d) r (by simpa using e)
    exact ⟨v, by simpa using h1, h2⟩
theorem Rs.app : ∀ {vs ws : List V} {l m : List D}, Rs G B as vs l → Rs G B as ws m → Rs G B as (vs ++ ws) (l ++ m)
  | _, _, _, _, .nil, r => r
  | _, _, _, _, .cons h t, r => .cons h (Rs.app t r)
theorem Rs.set {v : V} {d : D} (h : R G B as v d) : ∀ {vs : List V} {l : List D} (i : Nat), Rs G B as vs l → Rs G B as (vs.set i v) (l.set i d)
  | _, _, _, .nil => .nil
  | _, _, 0, .cons _ t => .cons h t
  | _, _, i + 1, .cons q t => .cons q (Rs.set h i t)
theorem Rs.take : ∀ {vs : List V} {l : List D} (n : Nat), Rs G B as vs l → Rs G B as (vs.take n) (l.take n)
  | _, _, 0, _ => .nil
  | _, _, _ + 1, .nil => .nil
  | _, _, n + 1, .cons h t => .cons h (Rs.take n t)
theorem Rs.drop : ∀ {vs : List V} {l : List D} (n : Nat), Rs G B as vs l → Rs G B as (vs.drop n) (l.drop n)
  | _, _, 0, r => r
  | _, _, _ + 1, .nil => .nil
  | _, _, n + 1, .cons _ t => Rs.drop n t
theorem Rs.one {v : V} {d : D} (h : R G B as v d) : Rs G B as [v] [d] := .cons h .nil
theorem Rs.inv1 {vs : List V} {d : D} (h : Rs G B as vs [d]) : ∃ v, vs = [v] ∧ R G B as v d := by
  cases h with | cons h t => cases t; exact ⟨_, rfl, h⟩
theorem Rs.inv2 {vs : List V} {d e : D} (h : Rs G B as vs [d, e]) : ∃ v w, vs = [v, w] ∧ R G B as v d ∧ R G B as w e := by
  cases h with | cons h t => obtain ⟨w, rfl, q⟩ := t.inv1; exact ⟨_, _, rfl, h, q⟩
theorem Rs.inv3 {vs : List V} {d e f : D} (h : Rs G B as vs [d, e, f]) : ∃ v w u, vs = [v, w, u] ∧ R G B as v d ∧ R G B as w e ∧ R G B as u f := by
  cases h with | cons h t => obtain ⟨w, u, rfl, q, r⟩ := t.inv2; exact ⟨_, _, _, rfl, h, q, r⟩
theorem Rs.nilD {vs : List V} (h : Rs G B as vs []) : vs = [] := by cases h; rfl

/-- the heap bears the store -/
structure Rep (G : Gx) (Fr B : Hp) (as : List Addr) (H : Hp) (M : Store) : Prop where
  sub : Same B H
  frm : Same Fr H
  fout : ∀ a ∈ as, Fr a = none
  dis : ∀ a o, Fr a = some o → B a = none
  nd : as.Nodup
  out : ∀ a ∈ as, B a = none
  len : as.length = M.length
  cell : ∀ (n : Nat) (a : Addr) (c : Tg × List D), as[n]? = some a → M[n]? = some c → ∃ vs, MC G H a c.1 vs ∧ Rs G B as vs c.2
/-- the slots hold the frame -/
structure RS (G : Gx) (B : Hp) (as : List Addr) (σ : St) (S : Lo) : Prop where
  len : σ.length = S.length
  at_ : ∀ (i : Nat) (d : D), S[i]? = some (some d) → ∃ v, σ[i]? = some (some v) ∧ R G B as v d
theorem RS.mono {σ : St} {S : Lo} (h : RS G B as σ S) (e : Same B B') (p : as <+: as') : RS G B' as' σ S :=
  ⟨h.len, fun i d q => let ⟨v, a, r⟩ := h.at_ i d q; ⟨v, a, r.mono e p⟩⟩
theorem RS.set {σ : St} {S : Lo} {v : V} {d : D} (h : RS G B as σ S) (r : R G B as v d) (i : Nat) : RS G B as (σ.set i (some v)) (S.set i (some d)) := by
  refine ⟨by simp [h.len], fun j e q => ?_⟩
  by_cases hj : i = j
  · subst hj
    by_cases hi : i < S.length
    · rw [List.getElem?_set_self hi] at q
      cases q
      exact ⟨v, by rw [List.getElem?_set_self (by rw [h.len]; exact hi)], r⟩
    · rw [List.getElem?_eq_none (by simpa using hi)] at q; cases q
  · rw [List.getElem?_set_ne hj] at q
    obtain ⟨w, a, b⟩ := h.at_ j e q
    exact ⟨w, by rw [List.getElem?_set_ne hj]; exact a, b⟩
theorem Rep.fresh {H : Hp} {M : Store} {p : Addr} (h : Rep G Fr B as H M) (n : H p = none) : B p = none ∧ p ∉ as := by
  refine ⟨h.sub.free n, fun hp => ?_⟩
  obtain ⟨k, hk, e⟩ := List.getElem_of_mem hp
  have hM : k < M.length := by rw [← h.len]; exact hk
  obtain ⟨vs, c, _⟩ := h.cell k p M[k] (by rw [List.getElem?_eq_getElem hk, e]) (List.getElem?_eq_getElem hM)
  cases t : M[k].1 with
  | lst => rw [t] at c; have c' : H p = some (.lst vs) := c; rw [n] at c'; cases c'
  | slst => rw [t] at c; exact c
  | tup => rw [t] at c; exact c
  | dct ks => rw [t] at c; have c' := c.1; rw [n] at c'; cases c'
  | obj a b => rw [t] at c; obtain ⟨_, _, _, c', _⟩ := c; rw [n] at c'; cases c'
theorem MC.upd {H : Hp} {a p : Addr} {o : HO} (hp : a ≠ p) : ∀ {t : Tg} {vs : List V}, MC G H a t vs → MC G (upd H p o) a t vs
  | .lst, _, h => by show L2.upd H p o a = _; rw [upd_ne hp]; exact h
  | .slst, _, h => h
  | .tup, _, h => h
  | .dct _, _, h => ⟨by rw [upd_ne hp]; exact h.1, h.2⟩
  | .obj _ _, _, h => let ⟨C, dx, a', b, c⟩ := h; ⟨C, dx, a', by rw [upd_ne hp]; exact b, c⟩
theorem MC.keep {H H' : Hp} {a : Addr} (hp : ∀ o, H a = some o → H' a = some o) : ∀ {t : Tg} {vs : List V}, MC G H a t vs → MC G H' a t vs
  | .lst, _, h => hp _ h
  | .slst, _, h => h
  | .tup, _, h => h
  | .dct _, _, h => ⟨hp _ h.1, h.2⟩
  | .obj _ _, _, h => let ⟨C, dx, a', b, c⟩ := h; ⟨C, dx, a', hp _ b, c⟩
theorem same_upd {p : Addr} {o : HO} (n : B p = none) : Same B (L2.upd B p o) := fun b u e => by
  rw [upd_ne (ne_of_none e n)]; exact e
theorem same_upd2 {H : Hp} {p : Addr} {o : HO} (s : Same B H) : Same (L2.upd B p o) (L2.upd H p o) := fun b u e => by
  by_cases hb : b = p
  · subst hb; rw [upd_same] at e ⊢; exact e
  · rw [upd_ne hb] at e ⊢; exact s b u e
/-- a new thing laid and frozen -/
theorem Rep.froze {H : Hp} {M : Store} {p : Addr} {o : HO} (h : Rep G Fr B as H M) (n : H p = none) : Rep G Fr (L2.upd B p o) as (L2.upd H p o) M := by
  obtain ⟨nb, na⟩ := h.fresh n
  refine ⟨same_upd2 h.sub, h.frm.trans (same_upd n), h.fout, fun b u e => by rw [upd_ne (ne_of_none e (h.frm.free n))]; exact h.dis b u e, h.nd, fun a ha => ?_, h.len, fun k a c ha hc => ?_⟩
  · rw [upd_ne (fun e => na (by rw [← e]; exact ha))]; exact h.out a ha
  · obtain ⟨vs, m, r⟩ := h.cell k a c ha hc
    exact ⟨vs, m.upd (fun e => na (by rw [← e]; exact List.mem_of_getElem? ha)), r.mono (same_upd nb) (List.prefix_refl _)⟩
/-- a thing laid that nobody tracks as data -/
theorem Rep.laid {H : Hp} {M : Store} {p : Addr} {o : HO} (h : Rep G Fr B as H M) (n : H p = none) : Rep G Fr B as (L2.upd H p o) M := by
  obtain ⟨nb, na⟩ := h.fresh n
  refine ⟨h.sub.trans (same_upd n), h.frm.trans (same_upd n), h.fout, h.dis, h.nd, h.out, h.len, fun k a c ha hc => ?_⟩
  obtain ⟨vs, m, r⟩ := h.cell k a c ha hc
  exact ⟨vs, m.upd (fun e => na (by rw [← e]; exact List.mem_of_getElem? ha)), r⟩
/-- a new cell -/
theorem Rep.push {H : Hp} {M : Store} {p : Addr} {o : HO} {t : Tg} {vs : List V} {l : List D} (h : Rep G Fr B as H M) (n : H p = none) (c : MC G (L2.upd H p o) p t vs) (r : Rs G B as vs l) :
    Rep G Fr B (as ++ [p]) (L2.upd H p o) (M ++ [(t, l)]) := by
  obtain ⟨nb, na⟩ := h.fresh n
  refine ⟨h.sub.trans (same_upd n), h.frm.trans (same_upd n), fun a ha => ?_, h.dis, ?_, fun a ha => ?_, by simp [h.len], fun k a q ha hc => ?_⟩
  · rcases List.mem_append.mp ha with z | z
    · exact h.fout a z
    · simp at z; subst z; exact h.frm.free n
  · rw [List.nodup_append]
    exact ⟨h.nd, by simp, fun x hx y hy e => by simp at hy; subst hy; exact na (by rw [← e]; exact hx)⟩
  · rcases List.mem_append.mp ha with z | z
    · exact h.out a z
    · simp at z; subst z; exact nb
  · have pre : as <+: as ++ [p] := List.prefix_append _ _
    by_cases hk : k < as.length
    · rw [List.getElem?_append_left hk] at ha
      rw [List.getElem?_append_left (by rw [← h.len]; exact hk)] at hc
      obtain ⟨vs', m, r'⟩ := h.cell k a q ha hc
      exact ⟨vs', m.upd (fun e => na (by rw [← e]; exact List.mem_of_getElem? ha)), r'.mono (Same.refl _) pre⟩
    · have hk' : k = as.length := by
        have := (List.getElem?_eq_some_iff.mp ha).1
        simp at this; omega
      subst hk'
      rw [List.getElem?_append_right (Nat.le_refl _)] at ha
      rw [h.len, List.getElem?_append_right (Nat.le_refl _)] at hc
      simp at ha hc
      subst ha; subst hc
      exact ⟨vs, c, r.mono (Same.refl _) pre⟩
theorem pre_push {p : Addr} : as <+: as ++ [p] := List.prefix_append _ _
theorem nodup_ixA {l : List Addr} {i j : Nat} {x : Addr} (hl : l.Nodup) (a : l[i]? = some x) (b : l[j]? = some x) : i = j := by
  obtain ⟨h1, e1⟩ := List.getElem?_eq_some_iff.mp a
  obtain ⟨h2, e2⟩ := List.getElem?_eq_some_iff.mp b
  exact (List.getElem_inj hl).mp (e1.trans e2.symm)
/-- a cell is written -/
theorem Rep.write {H : Hp} {M : Store} {n : Nat} {a : Addr} {o : HO} {t : Tg} {vs : List V} {l : List D} (h : Rep G Fr B as H M) (ha : as[n]? = some a) (c : MC G (L2.upd H a o) a t vs) (r : Rs G B as vs l) :
    Rep G Fr B as (L2.upd H a o) (M.set n (t, l)) := by
  have hn := (List.getElem?_eq_some_iff.mp ha).1
  refine ⟨fun b u e => ?_, fun b u e => ?_, h.fout, h.dis, h.nd, h.out, by simp [h.len], fun k b q hb hc => ?_⟩
  · have : b ≠ a := ne_of_none e (h.out a (List.mem_of_getElem? ha))
    rw [upd_ne this]; exact h.sub b u e
  · have : b ≠ a := ne_of_none e (h.fout a (List.mem_of_getElem? ha))
    rw [upd_ne this]; exact h.frm b u e
  · by_cases hk : n = k
    · subst hk
      rw [ha] at hb; cases hb
      rw [List.getElem?_set_self (by rw [← h.len]; exact hn)] at hc
      cases hc
      exact ⟨vs, c, r⟩
    · rw [List.getElem?_set_ne hk] at hc
      obtain ⟨vs', m, r'⟩ := h.cell k b q hb hc
      refine ⟨vs', m.upd fun e => hk ?_, r'⟩
      subst e
      exact nodup_ixA h.nd ha hb
end

/-- what is wanted behind an outcome -/
def Post {α : Type} (B : Hp) (as : List Addr) (o : Out α) (k : α → Store → Hp → List Addr → Prop) (x : Str → D → Store → Hp → List Addr → Prop) : Prop :=
  match o with
  | .ok a M => ∀ B' as', Same B B' → as <+: as' → k a M B' as'
  | .exc c d M => ∀ B' as', Same B B' → as <+: as' → x c d M B' as'
  | .stuck => False
theorem Post.mono {α : Type} {B B' : Hp} {as as' : List Addr} {o : Out α} {k : α → Store → Hp → List Addr → Prop} {x : Str → D → Store → Hp → List Addr → Prop} (h : Post B as o k x) (e : Same B B') (p : as <+: as') : Post B' as' o k x := by
  cases o with
  | ok a M => exact fun B2 as2 e2 p2 => h B2 as2 (e.trans e2) (p.trans p2)
  | exc c d M => exact fun B2 as2 e2 p2 => h B2 as2 (e.trans e2) (p.trans p2)
  | stuck => exact h
theorem Post.imp {α : Type} {B : Hp} {as : List Addr} {o : Out α} {k k' : α → Store → Hp → List Addr → Prop} {x : Str → D → Store → Hp → List Addr → Prop} (h : Post B as o k x)
    (f : ∀ a M B' as', Same B B' → as <+: as' → k a M B' as' → k' a M B' as') : Post B as o k' x := by
  cases o with
  | ok a M => exact fun B2 as2 e2 p2 => f a M B2 as2 e2 p2 (h B2 as2 e2 p2)
  | exc c d M => exact h
  | stuck => exact h
theorem Post.bnd {α β : Type} {B : Hp} {as : List Addr} {m : Ev α} {f : α → Ev β} {M : Store} {k : β → Store → Hp → List Addr → Prop} {x : Str → D → Store → Hp → List Addr → Prop} (h : Post B as ((m.bnd f) M) k x) :
    Post B as (m M) (fun a M' B' as' => Post B' as' (f a M') k x) x := by
  unfold Ev.bnd at h
  cases e : m M with
  | ok a M' => rw [e] at h; exact fun B2 as2 e2 p2 => Post.mono (o := f a M') h e2 p2
  | exc c d M' => rw [e] at h; exact h
  | stuck => rw [e] at h; exact h
theorem Post.unbnd {α β : Type} {B : Hp} {as : List Addr} {m : Ev α} {f : α → Ev β} {M : Store} {k : β → Store → Hp → List Addr → Prop} {x : Str → D → Store → Hp → List Addr → Prop}
    (h : Post B as (m M) (fun a M' B' as' => Post B' as' (f a M') k x) x) : Post B as ((m.bnd f) M) k x := by
  unfold Ev.bnd
  cases e : m M with
  | ok a M' => rw [e] at h; exact h B as (Same.refl _) (List.prefix_refl _)
  | exc c d M' => rw [e] at h; exact h
  | stuck => rw [e] at h; exact h
theorem Post.ok {α : Type} {B : Hp} {as : List Addr} {a : α} {M : Store} {k : α → Store → Hp → List Addr → Prop} {x : Str → D → Store → Hp → List Addr → Prop} (h : Post B as (.ok a M) k x) : k a M B as := h B as (Same.refl _) (List.prefix_refl _)
theorem Post.ret {α : Type} {B : Hp} {as : List Addr} {a : α} {M : Store} {k : α → Store → Hp → List Addr → Prop} {x : Str → D → Store → Hp → List Addr → Prop} (h : Post B as (Ev.ret a M) k x) : k a M B as := Post.ok h

/-- an exception of the class named c whose field value is d -/
def XR (G : Gx) (B : Hp) (as : List Addr) (H : Hp) (c : Str) (d : D) (cls : Value) (dx : Option Addr) : Prop :=
  ∃ C a v, cls = .ref C ∧ G.mg c = some (.ref C) ∧ dx = some a ∧ H a = some (.xd [("value", v)]) ∧ R G B as v d
section
variable (X : Cx) (W : WX)
def kD (Fr : Hp) (Q : VK) : D → Store → Hp → List Addr → Prop := fun d M B as => ∀ v H, Rep (gx X) Fr B as H M → R (gx X) B as v d → Q v H
def kB (Fr : Hp) (Q : Bool → Hp → Prop) : Bool → Store → Hp → List Addr → Prop := fun b M B as => ∀ H, Rep (gx X) Fr B as H M → Q b H
def kA (Fr : Hp) (Q : List V → Hp → Prop) : List D → Store → Hp → List Addr → Prop := fun l M B as => ∀ vs H, Rep (gx X) Fr B as H M → Rs (gx X) B as vs l → Q vs H
def kX (Fr : Hp) (W : WX) (σ : St) : Str → D → Store → Hp → List Addr → Prop := fun c d M B as => ∀ cls dx H, Rep (gx X) Fr B as H M → XR (gx X) B as H c d cls dx → W cls dx σ H
def kF (Fr : Hp) (W : WX) (D : Ends) : Fl → Store → Hp → List Addr → Prop := fun fl M B as => match fl with
  | .nx S => ∀ σ H, Rep (gx X) Fr B as H M → RS (gx X) B as σ S → D.nx σ H
  | .rt d => ∀ v H, Rep (gx X) Fr B as H M → R (gx X) B as v d → D.rt v H
  | .bk S => ∀ σ H, Rep (gx X) Fr B as H M → RS (gx X) B as σ S → D.bk σ H
  | .ct S => ∀ σ H, Rep (gx X) Fr B as H M → RS (gx X) B as σ S → D.ct σ H
  | .xc c d S => ∀ σ cls dx H, Rep (gx X) Fr B as H M → RS (gx X) B as σ S → XR (gx X) B as H c d cls dx → W cls dx σ H
/-- an expression -/
def DE (e : Expr) (f : Lo → Ev D) : Prop := ∃ t, PE X e t ∧ ∀ Fr B as σ H S M Q, RS (gx X) B as σ S → Rep (gx X) Fr B as H M → Post B as (f S M) (kD X Fr Q) (kX X Fr W σ) → t σ H Q
def DT (e : Expr) (f : Lo → Ev Bool) : Prop := ∃ t, PT X e t ∧ ∀ Fr B as σ H S M Q, RS (gx X) B as σ S → Rep (gx X) Fr B as H M → Post B as (f S M) (kB X Fr Q) (kX X Fr W σ) → t σ H Q
def DW (e : Expr) (f : Lo → Ev Bool) : Prop := ∃ t, PW X e t ∧ ∀ Fr B as σ H S M Q, RS (gx X) B as σ S → Rep (gx X) Fr B as H M → Post B as (f S M) (kB X Fr Q) (kX X Fr W σ) → t σ H Q
def DA (es : List Expr) (f : Lo → Ev (List D)) : Prop := ∃ t, PA X es t ∧ ∀ Fr B as σ H S M Q, RS (gx X) B as σ S → Rep (gx X) Fr B as H M → Post B as (f S M) (kA X Fr Q) (kX X Fr W σ) → t σ H Q
/-- statements -/
def DS (st : Stmt) (f : Lo → Ev Fl) : Prop := ∃ t, PS X st t ∧ ∀ Fr B as σ H S M D, RS (gx X) B as σ S → Rep (gx X) Fr B as H M → Post B as (f S M) (kF X Fr W D) (fun _ _ _ _ _ => False) → t D σ H
def DSs (st : List Stmt) (f : Lo → Ev Fl) : Prop := ∃ t, PSs X st t ∧ ∀ Fr B as σ H S M D, RS (gx X) B as σ S → Rep (gx X) Fr B as H M → Post B as (f S M) (kF X Fr W D) (fun _ _ _ _ _ => False) → t D σ H
end

/-! ### readings of expressions -/
def eVar (i : Nat) : Lo → Ev D := fun S => match S[i]? with
  | some (some d) => Ev.ret d
  | _ => Ev.no
def eC (d : D) : Lo → Ev D := fun _ => Ev.ret d
def e2 (op : D → D → Ev D) (fa fb : Lo → Ev D) : Lo → Ev D := fun S => (fa S).bnd fun x => (fb S).bnd fun y => op x y
def e1 (op : D → Ev D) (fa : Lo → Ev D) : Lo → Ev D := fun S => (fa S).bnd op
def eA0 : Lo → Ev (List D) := fun _ => Ev.ret []
def eAc (fa : Lo → Ev D) (fr : Lo → Ev (List D)) : Lo → Ev (List D) := fun S => (fa S).bnd fun x => (fr S).bnd fun l => Ev.ret (x :: l)
def asB : D → Ev Bool
  | .bl b => Ev.ret b
  | _ => Ev.no
def eB (f : Lo → Ev D) : Lo → Ev Bool := fun S => (f S).bnd asB
def eAnd (f g : Lo → Ev Bool) : Lo → Ev Bool := fun S => (f S).bnd fun b => if b = true then g S else Ev.ret false
def eOr (f g : Lo → Ev Bool) : Lo → Ev Bool := fun S => (f S).bnd fun b => if b = true then Ev.ret true else g S
def eNot (f : Lo → Ev Bool) : Lo → Ev Bool := fun S => (f S).bnd fun b => Ev.ret (!b)
def eAndV (f g : Lo → Ev D) : Lo → Ev D := fun S => (f S).bnd fun x => (asB x).bnd fun b => if b = true then g S else Ev.ret (.bl false)
def eOrV (f g : Lo → Ev D) : Lo → Ev D := fun S => (f S).bnd fun x => (asB x).bnd fun b => if b = true then Ev.ret (.bl true) else g S
def eNotV (f : Lo → Ev D) : Lo → Ev D := fun S => (f S).bnd fun x => (asB x).bnd fun b => Ev.ret (.bl (!b))
def eIf (c : Lo → Ev Bool) (f g : Lo → Ev D) : Lo → Ev D := fun S => (c S).bnd fun b => if b = true then f S else g S
section
variable {X : Cx} {W : WX} {e a b c : Expr} {pos : Pos}
theorem de_var {i : Nat} {x : Str} (hN : X.N[i]? = some x) (hv : Vis X.env.scope x) (hd : (x == ("__debug__" : Str)) = false := by decide) (hcd : (x == ("__classdict__" : Str)) = false := by decide) : DE X W (.Name x pos) (eVar i) := by
  refine ⟨_, pe_var hN hv hd hcd, fun Fr B as σ H S M Q rs rp h => ?_⟩
  unfold eVar at h
  cases q : S[i]? with
  | none => rw [q] at h; exact h.elim
  | some o =>
    cases o with
    | none => rw [q] at h; exact h.elim
    | some d =>
      rw [q] at h
      obtain ⟨v, hv, r⟩ := rs.at_ i d q
      exact ⟨v, hv, h.ret v H rp r⟩
theorem de_int {i j} : DE X W (.Constant (.int i) j pos) (eC (.int i)) := ⟨_, pe_int, fun _ _ _ _ _ _ _ _ _ rp h => h.ret _ _ rp (.int i)⟩
theorem de_bl {b j} : DE X W (.Constant (.bool b) j pos) (eC (.bl b)) := ⟨_, pe_bl, fun _ _ _ _ _ _ _ _ _ rp h => h.ret _ _ rp (.bl b)⟩
theorem de_non {j} : DE X W (.Constant .none j pos) (eC .non) := ⟨_, pe_non, fun _ _ _ _ _ _ _ _ _ rp h => h.ret _ _ rp .non⟩
theorem de_str {x j} : DE X W (.Constant (.str x) j pos) (eC (.str x)) := ⟨_, pe_str, fun _ _ _ _ _ _ _ _ _ rp h => h.ret _ _ rp (.str x)⟩
theorem de_glob {x : Str} {a : Addr} (hg : Gl X x) (hm : X.mg x = some (.ref a)) (hd : (x == ("__debug__" : Str)) = false := by decide) : DE X W (.Name x pos) (eC (.gl x)) :=
  ⟨_, pe_glob (v := .ref a) hg hm rfl hd, fun _ _ _ _ _ _ _ _ _ rp h => h.ret _ _ rp (.gl hm)⟩
theorem de_globI {x : Str} {i : Int} (hg : Gl X x) (hm : ∃ t, X.mg x = some (.int i t)) (hd : (x == ("__debug__" : Str)) = false := by decide) : DE X W (.Name x pos) (eC (.int i)) :=
  ⟨_, pe_glob (v := .int i) hg hm.choose_spec ⟨_, rfl⟩ hd, fun _ _ _ _ _ _ _ _ _ rp h => h.ret _ _ rp (.int i)⟩
theorem de_globS {x : Str} {z : Str} (hg : Gl X x) (hm : ∃ t, X.mg x = some (.str z t)) (hd : (x == ("__debug__" : Str)) = false := by decide) : DE X W (.Name x pos) (eC (.str z)) :=
  ⟨_, pe_glob (v := .str z) hg hm.choose_spec ⟨_, rfl⟩ hd, fun _ _ _ _ _ _ _ _ _ rp h => h.ret _ _ rp (.str z)⟩
theorem de_ty {x : Str} {n : String} (hg : Gl X x) (hm : X.mg x = none) (hv : bootBuiltins x = some (.type n)) (hn : x ≠ "__name__" := by decide) (hd : (x == ("__debug__" : Str)) = false := by decide) : DE X W (.Name x pos) (eC (.ty n)) :=
  ⟨_, pe_bltn (v := .ty n) hg hm hv rfl hn hd, fun _ _ _ _ _ _ _ _ _ rp h => h.ret _ _ rp (.ty n)⟩
/-- a binary operation by values -/
def Op2 (X : Cx) (W : WX) (r : R2) (op : D → D → Ev D) : Prop := ∀ Fr B as σ H M v w x y Q, Rep (gx X) Fr B as H M → R (gx X) B as v x → R (gx X) B as w y → Post B as (op x y M) (kD X Fr Q) (kX X Fr W σ) → r v w H Q
def Op1 (X : Cx) (W : WX) (r : V → Hp → VK → Prop) (op : D → Ev D) : Prop := ∀ Fr B as σ H M v x Q, Rep (gx X) Fr B as H M → R (gx X) B as v x → Post B as (op x M) (kD X Fr Q) (kX X Fr W σ) → r v H Q
def OpN (X : Cx) (W : WX) (r : List V → Hp → VK → Prop) (op : List D → Ev D) : Prop := ∀ Fr B as σ H M vs l Q, Rep (gx X) Fr B as H M → Rs (gx X) B as vs l → Post B as (op l M) (kD X Fr Q) (kX X Fr W σ) → r vs H Q
theorem post_two {Fr B : Hp} {as : List Addr} {σ : St} {H : Hp} {S : Lo} {M : Store} {Q : VK} {fa fb : Lo → Ev D} {ta tb : TE} {r : R2} {op : D → D → Ev D}
    (ha : ∀ Fr B as σ H S M Q, RS (gx X) B as σ S → Rep (gx X) Fr B as H M → Post B as (fa S M) (kD X Fr Q) (kX X Fr W σ) → ta σ H Q)
    (hb : ∀ Fr B as σ H S M Q, RS (gx X) B as σ S → Rep (gx X) Fr B as H M → Post B as (fb S M) (kD X Fr Q) (kX X Fr W σ) → tb σ H Q)
    (ho : Op2 X W r op) (rs : RS (gx X) B as σ S) (rp : Rep (gx X) Fr B as H M) (h : Post B as (e2 op fa fb S M) (kD X Fr Q) (kX X Fr W σ)) : tOp r ta tb σ H Q := by
  refine ha Fr B as σ H S M _ rs rp (h.bnd.imp fun x M1 B1 as1 s1 p1 h1 v H1 rp1 r1 => ?_)
  refine hb Fr B1 as1 σ H1 S M1 _ (rs.mono s1 p1) rp1 (h1.bnd.imp fun y M2 B2 as2 s2 p2 h2 w H2 rp2 r2 => ?_)
  exact ho Fr B2 as2 σ H2 M2 v w x y Q rp2 (r1.mono s2 p2) r2 h2
theorem de_op {op : Operator} {r : R2} {fo : D → D → Ev D} {fa fb : Lo → Ev D} (hr : OpR X (binaryOp op) r) (ho : Op2 X W r fo) (ha : DE X W a fa) (hb : DE X W b fb) : DE X W (.BinOp a op b pos) (e2 fo fa fb) := by
  obtain ⟨ta, pa, sa⟩ := ha
  obtain ⟨tb, pb, sb⟩ := hb
  exact ⟨_, pe_op hr pa pb, fun Fr B as σ H S M Q rs rp h => post_two sa sb ho rs rp h⟩
theorem de_cmp {op : CmpOp} {r : R2} {fo : D → D → Ev D} {fa fb : Lo → Ev D} (hr : OpR X (compareOp op) r) (ho : Op2 X W r fo) (ha : DE X W a fa) (hb : DE X W b fb) (hm : behindInMarks op b = false) : DE X W (.Compare a [op] [b] pos) (e2 fo fa fb) := by
  obtain ⟨ta, pa, sa⟩ := ha
  obtain ⟨tb, pb, sb⟩ := hb
  exact ⟨_, pe_cmpR hr pa pb hm, fun Fr B as σ H S M Q rs rp h => post_two sa sb ho rs rp h⟩
theorem dt_cmp {op : CmpOp} {r : R2} {fo : D → D → Ev D} {fa fb : Lo → Ev D} (hr : OpR X (compareOp op) r) (ho : Op2 X W r fo) (ha : DE X W a fa) (hb : DE X W b fb) (hm : behindInMarks op b = false) : DT X W (.Compare a [op] [b] pos) (eB (e2 fo fa fb)) := by
  obtain ⟨ta, pa, sa⟩ := ha
  obtain ⟨tb, pb, sb⟩ := hb
  refine ⟨_, pt_cmpR hr pa pb hm, fun Fr B as σ H S M Q rs rp h => ?_⟩
  refine post_two sa sb ho rs rp (h.bnd.imp fun x M1 B1 as1 s1 p1 h1 v H1 rp1 r1 => ?_)
  cases x <;> first | exact h1.elim | skip
  cases r1
  exact ⟨_, rfl, h1.ret H1 rp1⟩
theorem de_un {op : UnaryOp} {r : V → Hp → VK → Prop} {fo : D → Ev D} {fa : Lo → Ev D} (hr : UnR X (unaryOp op) r) (ho : Op1 X W r fo) (ha : DE X W a fa) : DE X W (.UnaryOp op a pos) (e1 fo fa) := by
  obtain ⟨ta, pa, sa⟩ := ha
  refine ⟨_, pe_un hr pa, fun Fr B as σ H S M Q rs rp h => ?_⟩
  exact sa Fr B as σ H S M _ rs rp (h.bnd.imp fun x M1 B1 as1 s1 p1 h1 v H1 rp1 r1 => ho Fr B1 as1 σ H1 M1 v x Q rp1 r1 h1)
theorem dt_val {f : Lo → Ev D} (h : DE X W e f) (he : ∀ whole, isTrue e X.env whole = (do let v ← whole; standAt e.pos; holding [v] (truthy v)) := by intro _; rfl) : DT X W e (eB f) := by
  obtain ⟨t, p, s⟩ := h
  refine ⟨_, pt_val p he, fun Fr B as σ H S M Q rs rp h => ?_⟩
  refine s Fr B as σ H S M _ rs rp (h.bnd.imp fun x M1 B1 as1 s1 p1 h1 v H1 rp1 r1 => ?_)
  cases x <;> first | exact h1.elim | skip
  cases r1
  exact ⟨_, rfl, h1.ret H1 rp1⟩
theorem dw_and1 {f : Lo → Ev Bool} (h : DT X W a f) : DW X W (.BoolOp .And [a] pos) f := by
  obtain ⟨t, p, s⟩ := h
  exact ⟨_, pw_and1 p, s⟩
theorem dw_or1 {f : Lo → Ev Bool} (h : DT X W a f) : DW X W (.BoolOp .Or [a] pos) f := by
  obtain ⟨t, p, s⟩ := h
  exact ⟨_, pw_or1 p, s⟩
theorem dw_and {rest : List Expr} {f g : Lo → Ev Bool} (ha : DT X W a f) (hb : DW X W (.BoolOp .And (b :: rest) pos) g) : DW X W (.BoolOp .And (a :: b :: rest) pos) (eAnd f g) := by
  obtain ⟨t, p, s⟩ := ha
  obtain ⟨t', p', s'⟩ := hb
  refine ⟨_, pw_and p p', fun Fr B as σ H S M Q rs rp h => ?_⟩
  refine s Fr B as σ H S M _ rs rp (h.bnd.imp fun x M1 B1 as1 s1 p1 h1 H1 rp1 => ?_)
  cases x with
  | true => rw [if_pos rfl] at h1 ⊢; exact s' Fr B1 as1 σ H1 S M1 _ (rs.mono s1 p1) rp1 h1
  | false => rw [if_neg Bool.false_ne_true] at h1 ⊢; exact h1.ret H1 rp1
theorem dw_or {rest : List Expr} {f g : Lo → Ev Bool} (ha : DT X W a f) (hb : DW X W (.BoolOp .Or (b :: rest) pos) g) : DW X W (.BoolOp .Or (a :: b :: rest) pos) (eOr f g) := by
  obtain ⟨t, p, s⟩ := ha
  obtain ⟨t', p', s'⟩ := hb
  refine ⟨_, pw_or p p', fun Fr B as σ H S M Q rs rp h => ?_⟩
  refine s Fr B as σ H S M _ rs rp (h.bnd.imp fun x M1 B1 as1 s1 p1 h1 H1 rp1 => ?_)
  cases x with
  | true => rw [if_pos rfl] at h1 ⊢; exact h1.ret H1 rp1
  | false => rw [if_neg Bool.false_ne_true] at h1 ⊢; exact s' Fr B1 as1 σ H1 S M1 _ (rs.mono s1 p1) rp1 h1
theorem dt_w {f : Lo → Ev Bool} (h : DW X W e f) : DT X W e f := by
  obtain ⟨t, p, s⟩ := h
  exact ⟨_, p.pt, s⟩
theorem dt_not {f : Lo → Ev Bool} (h : DT X W a f) : DT X W (.UnaryOp .Not a pos) (eNot f) := by
  obtain ⟨t, p, s⟩ := h
  refine ⟨_, pt_not p, fun Fr B as σ H S M Q rs rp h => ?_⟩
  exact s Fr B as σ H S M _ rs rp (h.bnd.imp fun x M1 B1 as1 s1 p1 h1 H1 rp1 => h1.ret H1 rp1)
theorem de_one {op} {f : Lo → Ev D} (h : DE X W a f) : DE X W (.BoolOp op [a] pos) f := by
  obtain ⟨t, p, s⟩ := h
  exact ⟨_, pe_one p, s⟩
theorem de_and {rest : List Expr} {f g : Lo → Ev D} (ha : DE X W a f) (hb : DE X W (.BoolOp .And (b :: rest) pos) g) : DE X W (.BoolOp .And (a :: b :: rest) pos) (eAndV f g) := by
  obtain ⟨t, p, s⟩ := ha
  obtain ⟨t', p', s'⟩ := hb
  refine ⟨_, pe_and p p', fun Fr B as σ H S M Q rs rp h => ?_⟩
  refine s Fr B as σ H S M _ rs rp (h.bnd.imp fun x M1 B1 as1 s1 p1 h1 v H1 rp1 r1 => ?_)
  cases x <;> first | exact h1.elim | skip
  rename_i c
  cases r1
  refine ⟨c, rfl, ?_⟩
  cases c with
  | true => rw [if_pos rfl]; exact s' Fr B1 as1 σ H1 S M1 _ (rs.mono s1 p1) rp1 h1
  | false => rw [if_neg Bool.false_ne_true]; exact (Post.ret (a := D.bl false) h1) _ H1 rp1 (.bl false)
theorem de_or {rest : List Expr} {f g : Lo → Ev D} (ha : DE X W a f) (hb : DE X W (.BoolOp .Or (b :: rest) pos) g) : DE X W (.BoolOp .Or (a :: b :: rest) pos) (eOrV f g) := by
  obtain ⟨t, p, s⟩ := ha
  obtain ⟨t', p', s'⟩ := hb
  refine ⟨_, pe_or p p', fun Fr B as σ H S M Q rs rp h => ?_⟩
  refine s Fr B as σ H S M _ rs rp (h.bnd.imp fun x M1 B1 as1 s1 p1 h1 v H1 rp1 r1 => ?_)
  cases x <;> first | exact h1.elim | skip
  rename_i c
  cases r1
  refine ⟨c, rfl, ?_⟩
  cases c with
  | true => rw [if_pos rfl]; exact (Post.ret (a := D.bl true) h1) _ H1 rp1 (.bl true)
  | false => rw [if_neg Bool.false_ne_true]; exact s' Fr B1 as1 σ H1 S M1 _ (rs.mono s1 p1) rp1 h1
theorem de_not {f : Lo → Ev D} (ha : DE X W a f) : DE X W (.UnaryOp .Not a pos) (eNotV f) := by
  obtain ⟨t, p, s⟩ := ha
  refine ⟨_, pe_not p, fun Fr B as σ H S M Q rs rp h => ?_⟩
  refine s Fr B as σ H S M _ rs rp (h.bnd.imp fun x M1 B1 as1 s1 p1 h1 v H1 rp1 r1 => ?_)
  cases x <;> first | exact h1.elim | skip
  rename_i c
  cases r1
  exact ⟨c, rfl, (Post.ret (a := D.bl (!c)) h1) _ H1 rp1 (.bl _)⟩
theorem de_ifExp {f : Lo → Ev Bool} {g h : Lo → Ev D} (hc : DT X W c f) (ha : DE X W a g) (hb : DE X W b h) : DE X W (.IfExp c a b pos) (eIf f g h) := by
  obtain ⟨t, p, s⟩ := hc
  obtain ⟨t', p', s'⟩ := ha
  obtain ⟨t'', p'', s''⟩ := hb
  refine ⟨_, pe_ifExp p p' p'', fun Fr B as σ H S M Q rs rp h => ?_⟩
  refine s Fr B as σ H S M _ rs rp (h.bnd.imp fun x M1 B1 as1 s1 p1 h1 H1 rp1 => ?_)
  cases x with
  | true => rw [if_pos rfl] at h1 ⊢; exact s' Fr B1 as1 σ H1 S M1 _ (rs.mono s1 p1) rp1 h1
  | false => rw [if_neg Bool.false_ne_true] at h1 ⊢; exact s'' Fr B1 as1 σ H1 S M1 _ (rs.mono s1 p1) rp1 h1
theorem da_nil : DA X W [] eA0 := ⟨_, pa_nil, fun _ _ _ _ _ _ _ _ _ rp h => h.ret [] _ rp .nil⟩
theorem da_cons {es : List Expr} {f : Lo → Ev D} {g : Lo → Ev (List D)} (ha : DE X W e f) (hr : DA X W es g) (hs : starEach (e :: es) X.env = (false, eval e X.env) :: starEach es X.env := by rfl) : DA X W (e :: es) (eAc f g) := by
  obtain ⟨t, p, s⟩ := ha
  obtain ⟨t', p', s'⟩ := hr
  refine ⟨_, pa_cons p p' hs, fun Fr B as σ H S M Q rs rp h => ?_⟩
  refine s Fr B as σ H S M _ rs rp (h.bnd.imp fun x M1 B1 as1 s1 p1 h1 v H1 rp1 r1 => ?_)
  refine s' Fr B1 as1 σ H1 S M1 _ (rs.mono s1 p1) rp1 (h1.bnd.imp fun l M2 B2 as2 s2 p2 h2 vs H2 rp2 r2 => ?_)
  exact h2.ret _ H2 rp2 (.cons (r1.mono s2 p2) r2)
end
end DL

set_option Elab.async false
set_option linter.all false
set_option maxRecDepth 100000
set_option maxHeartbeats 4000000
/-! DL2: new nodes, views, operators. -/
namespace DL
open PySem L2

/-- a value, or a new node -/
inductive NR where
  | v (d : D) | n (t : Tg) (l : List D)
def hoT : Tg → List V → HO
  | .lst, vs => .lst vs
  | .tup, vs => .tup vs
  | .dct ks, vs => .dK (ks.zip vs)
  | _, vs => .lst vs
/-- a new node is frozen; becomes a cell -/
def frz : NR → Ev D
  | .v d => Ev.ret d
  | .n .lst l => Ev.ret (.nd .lst l)
  | .n .tup l => Ev.ret (.nd .tup l)
  | .n (.dct ks) l => if ks.length = l.length then Ev.ret (.nd (.dct ks) l) else Ev.no
  | _ => Ev.no
def cel : NR → Ev D
  | .v d => Ev.ret d
  | .n .lst l => fun M => .ok (.ref M.length) (M ++ [(.lst, l)])
  | .n (.dct ks) l => if ks.length = l.length then fun M => .ok (.ref M.length) (M ++ [(.dct ks, l)]) else Ev.no
  | _ => Ev.no
def kN (X : Cx) (Fr : Hp) (Q : VK) : NR → Store → Hp → List Addr → Prop := fun r M B as => match r with
  | .v d => kD X Fr Q d M B as
  | .n t l => ∀ vs H p, Rep (gx X) Fr B as H M → Rs (gx X) B as vs l → H p = none → Q (.ref p) (upd H p (hoT t vs))
def DN (X : Cx) (W : WX) (e : Expr) (f : Lo → Ev NR) : Prop := ∃ t, PE X e t ∧ ∀ Fr B as σ H S M Q, RS (gx X) B as σ S → Rep (gx X) Fr B as H M → Post B as (f S M) (kN X Fr Q) (kX X Fr W σ) → t σ H Q
def eF (f : Lo → Ev NR) : Lo → Ev D := fun S => (f S).bnd frz
def eCl (f : Lo → Ev NR) : Lo → Ev D := fun S => (f S).bnd cel
section
variable {X : Cx} {W : WX} {e a b : Expr} {pos : Pos}
theorem kN_frz {Fr B : Hp} {as : List Addr} {σ : St} {r : NR} {M : Store} {Q : VK} (h : Post B as (frz r M) (kD X Fr Q) (kX X Fr W σ)) : kN X Fr Q r M B as := by
  have go : ∀ (t : Tg) (l : List D) (vs : List V) (H : Hp) (p : Addr), FC (gx X) (upd B p (hoT t vs)) p t vs → (∀ B' as', Same B B' → as <+: as' → kD X Fr Q (.nd t l) M B' as') → Rep (gx X) Fr B as H M → Rs (gx X) B as vs l → H p = none → Q (.ref p) (upd H p (hoT t vs)) :=
    fun t l vs H p fc h rp rs n => by
      have nb := (rp.fresh n).1
      exact h (upd B p (hoT t vs)) as (same_upd nb) (List.prefix_refl _) _ _ (rp.froze n) (.nd fc (rs.mono (same_upd nb) (List.prefix_refl _)))
  cases r with
  | v d => exact h.ret
  | n t l =>
    cases t with
    | lst => exact fun vs H p => go .lst l vs H p upd_same h
    | tup => exact fun vs H p => go .tup l vs H p (SqT.of upd_same) h
    | dct ks =>
      unfold DL.frz at h; dsimp only at h
      by_cases hl : ks.length = l.length
      · rw [if_pos hl] at h
        exact fun vs H p rp rs n => go (.dct ks) l vs H p ⟨upd_same, hl.trans rs.length.symm⟩ h rp rs n
      · rw [if_neg hl] at h; exact h.elim
    | slst => exact h.elim
    | obj c ns => exact h.elim
theorem kN_cel {Fr B : Hp} {as : List Addr} {σ : St} {r : NR} {M : Store} {Q : VK} (h : Post B as (cel r M) (kD X Fr Q) (kX X Fr W σ)) : kN X Fr Q r M B as := by
  have go : ∀ (t : Tg) (l : List D) (vs : List V) (H : Hp) (p : Addr), MC (gx X) (upd H p (hoT t vs)) p t vs → (∀ B' as', Same B B' → as <+: as' → kD X Fr Q (.ref M.length) (M ++ [(t, l)]) B' as') → Rep (gx X) Fr B as H M → Rs (gx X) B as vs l → H p = none → Q (.ref p) (upd H p (hoT t vs)) :=
    fun t l vs H p mc h rp rs n => by
      exact h B (as ++ [p]) (Same.refl _) pre_push _ _ (rp.push n mc rs) (.ref (by rw [← rp.len]; simp))
  cases r with
  | v d => exact h.ret
  | n t l =>
    cases t with
    | lst => exact fun vs H p => go .lst l vs H p upd_same h
    | tup => exact h.elim
    | dct ks =>
      unfold DL.cel at h; dsimp only at h
      by_cases hl : ks.length = l.length
      · rw [if_pos hl] at h
        exact fun vs H p rp rs n => go (.dct ks) l vs H p ⟨upd_same, hl.trans rs.length.symm⟩ h rp rs n
      · rw [if_neg hl] at h; exact h.elim
    | slst => exact h.elim
    | obj c ns => exact h.elim
theorem DN.frz {f : Lo → Ev NR} (h : DN X W e f) : DE X W e (eF f) := by
  obtain ⟨t, p, s⟩ := h
  exact ⟨t, p, fun Fr B as σ H S M Q rs rp h => s Fr B as σ H S M Q rs rp (h.bnd.imp fun r M1 B1 as1 _ _ h1 => kN_frz h1)⟩
theorem DN.cel {f : Lo → Ev NR} (h : DN X W e f) : DE X W e (eCl f) := by
  obtain ⟨t, p, s⟩ := h
  exact ⟨t, p, fun Fr B as σ H S M Q rs rp h => s Fr B as σ H S M Q rs rp (h.bnd.imp fun r M1 B1 as1 _ _ h1 => kN_cel h1)⟩
theorem kN_v {Fr B : Hp} {as : List Addr} {M : Store} {Q : VK} {d : D} {H : Hp} {v : V} (h : kN X Fr Q (.v d) M B as) (rp : Rep (gx X) Fr B as H M) (r : R (gx X) B as v d) : Q v H := h v H rp r

/-! ### views -/
def vw : D → Ev (Tg × List D)
  | .nd t l => Ev.ret (t, l)
  | .ref n => fun M => match M[n]? with
    | some c => .ok c M
    | none => .stuck
  | _ => Ev.no
theorem FC.sub {G : Gx} {B H : Hp} {p : Addr} {t : Tg} {vs : List V} (s : Same B H) (h : FC G B p t vs) : FC G H p t vs := h.mono s
theorem MC.fc {G : Gx} {H : Hp} {p : Addr} : ∀ {t : Tg} {vs : List V}, MC G H p t vs → FC G H p t vs
  | .lst, _, h => h
  | .slst, _, h => h.elim
  | .tup, _, h => h.elim
  | .dct _, _, h => h
  | .obj _ _, _, h => h
theorem Post.vw {α : Type} {G : Gx} {Fr B : Hp} {as : List Addr} {d : D} {f : Tg × List D → Ev α} {M : Store} {H : Hp} {v : V} {k : α → Store → Hp → List Addr → Prop} {x : Str → D → Store → Hp → List Addr → Prop} (h : Post B as (((DL.vw d).bnd f) M) k x)
    (rp : Rep G Fr B as H M) (r : R G B as v d) : ∃ t l p vs, v = .ref p ∧ FC G H p t vs ∧ Rs G B as vs l ∧ Post B as (f (t, l) M) k x ∧ (∀ n, d = .ref n → as[n]? = some p ∧ M[n]? = some (t, l) ∧ MC G H p t vs) := by
  cases r with
  | nd fc rs => exact ⟨_, _, _, _, rfl, fc.sub rp.sub, rs, h, fun n e => by cases e⟩
  | ref ha =>
    rename_i n a
    unfold Ev.bnd DL.vw at h
    cases q : M[n]? with
    | none => simp only [q] at h; exact h.elim
    | some c =>
      simp only [q] at h
      obtain ⟨vs, mc, rs⟩ := rp.cell n a c ha q
      exact ⟨c.1, c.2, a, vs, rfl, mc.fc, rs, h, fun m e => by cases e; exact ⟨ha, q, mc⟩⟩
  | _ => exact h.elim
/-- a sequence: a list or a tuple -/
def FC.isSeq : Tg → Bool
  | .lst => true
  | .slst => true
  | .tup => true
  | _ => false
def sq (d : D) : Ev (List D) := (vw d).bnd fun c => if FC.isSeq c.1 = true then Ev.ret c.2 else Ev.no
theorem Post.sq {α : Type} {G : Gx} {Fr B : Hp} {as : List Addr} {d : D} {f : List D → Ev α} {M : Store} {H : Hp} {v : V} {k : α → Store → Hp → List Addr → Prop} {x : Str → D → Store → Hp → List Addr → Prop} (h : Post B as (((DL.sq d).bnd f) M) k x)
    (rp : Rep G Fr B as H M) (r : R G B as v d) : ∃ l p vs, v = .ref p ∧ (SqL G.K H p vs ∨ SqT G.K H p vs) ∧ Rs G B as vs l ∧ Post B as (f l M) k x := by
  unfold DL.sq at h
  rw [bnd_bnd] at h
  obtain ⟨t, l, p, vs, e, fc, rs, h, _⟩ := h.vw rp r
  cases t with
  | lst => exact ⟨l, p, vs, e, .inl (SqL.of fc), rs, h⟩
  | slst => exact ⟨l, p, vs, e, .inl fc, rs, h⟩
  | tup => exact ⟨l, p, vs, e, .inr fc, rs, h⟩
  | _ => exact h.elim

/-! ### scalars -/
def toV : D → Option V
  | .non => some .non
  | .bl b => some (.bl b)
  | .int i => some (.int i)
  | .str x => some (.str x)
  | _ => none
theorem R.toV {G : Gx} {B : Hp} {as : List Addr} {v w : V} {d : D} (r : R G B as v d) (h : DL.toV d = some w) : v = w ∧ flatV w = true := by
  cases r <;> first | (cases h; exact ⟨rfl, rfl⟩) | (cases h)
def toVs : List D → Option (List V)
  | [] => some []
  | d :: l => match toV d, toVs l with
    | some v, some vs => some (v :: vs)
    | _, _ => none
theorem Rs.toVs {G : Gx} {B : Hp} {as : List Addr} : ∀ {vs ws : List V} {l : List D}, Rs G B as vs l → DL.toVs l = some ws → vs = ws ∧ ws.all flatV = true
  | _, _, _, .nil, h => by cases h; exact ⟨rfl, rfl⟩
  | _, ws, _, .cons r t, h => by
    rename_i d l
    unfold DL.toVs at h
    cases q : DL.toV d with
    | none => simp only [q] at h; cases h
    | some v =>
      cases q2 : DL.toVs l with
      | none => simp only [q, q2] at h; cases h
      | some vs =>
        simp only [q, q2] at h
        cases h
        obtain ⟨e1, f1⟩ := r.toV q
        obtain ⟨e2, f2⟩ := Rs.toVs t q2
        exact ⟨by rw [e1, e2], by simp [f1, f2]⟩
def intsOf : List D → Option (List Int)
  | [] => some []
  | .int i :: l => (intsOf l).map (i :: ·)
  | _ => none
theorem intsOf_map (ns : List Int) : intsOf (ns.map D.int) = some ns := by
  induction ns with
  | nil => rfl
  | cons n l ih => simp [intsOf, ih]
theorem intsOf_eq : ∀ {l : List D} {ns : List Int}, intsOf l = some ns → l = ns.map D.int
  | [], _, h => by cases h; rfl
  | .int i :: l, _, h => by
    unfold intsOf at h
    cases q : intsOf l with
    | none => rw [q] at h; cases h
    | some ms => rw [q] at h; cases h; rw [intsOf_eq q]; rfl
  | .non :: _, _, h | .bl _ :: _, _, h | .str _ :: _, _, h | .ty _ :: _, _, h | .gl _ :: _, _, h | .ref _ :: _, _, h | .nd _ _ :: _, _, h => by cases h
theorem Rs.ints {G : Gx} {B : Hp} {as : List Addr} : ∀ {vs : List V} {ns : List Int}, Rs G B as vs (ns.map D.int) → vs = ns.map V.int
  | _, [], h => by cases h; rfl
  | _, n :: ns, h => by
    cases h with
    | cons r t => cases r; rw [Rs.ints t]; rfl
theorem Rs.ofInts {G : Gx} {B : Hp} {as : List Addr} : ∀ (ns : List Int), Rs G B as (ns.map V.int) (ns.map D.int)
  | [] => .nil
  | n :: ns => .cons (.int n) (Rs.ofInts ns)
def blsOf : List D → Option (List Bool)
  | [] => some []
  | .bl i :: l => (blsOf l).map (i :: ·)
  | _ => none
theorem blsOf_map (ns : List Bool) : blsOf (ns.map D.bl) = some ns := by
  induction ns with
  | nil => rfl
  | cons n l ih => simp [blsOf, ih]
theorem blsOf_eq : ∀ {l : List D} {ns : List Bool}, blsOf l = some ns → l = ns.map D.bl
  | [], _, h => by cases h; rfl
  | .bl i :: l, _, h => by
    unfold blsOf at h
    cases q : blsOf l with
    | none => rw [q] at h; cases h
    | some ms => rw [q] at h; cases h; rw [blsOf_eq q]; rfl
  | .non :: _, _, h | .int _ :: _, _, h | .str _ :: _, _, h | .ty _ :: _, _, h | .gl _ :: _, _, h | .ref _ :: _, _, h | .nd _ _ :: _, _, h => by cases h
theorem Rs.bls {G : Gx} {B : Hp} {as : List Addr} : ∀ {vs : List V} {ns : List Bool}, Rs G B as vs (ns.map D.bl) → vs = ns.map V.bl
  | _, [], h => by cases h; rfl
  | _, n :: ns, h => by
    cases h with
    | cons r t => cases r; rw [Rs.bls t]; rfl

/-! ### deep data -/
mutual
def py (M : Store) : Nat → D → Option PyData
  | 0, _ => none
  | k + 1, d => match d with
    | .non => some .none
    | .bl b => some (.bool b)
    | .int i => some (.int i)
    | .str x => if PyData.strOk x = true then some (.str x) else none
    | .nd .lst l => (pys M k l).map .list
    | .nd .slst l => (pys M k l).map .list
    | .nd .tup l => (pys M k l).map .tuple
    | .ref n => match M[n]? with
      | some (.lst, l) => (pys M k l).map .list
      | _ => none
    | _ => none
  termination_by k _ => (k, 0)
def pys (M : Store) : Nat → List D → Option (List PyData)
  | _, [] => some []
  | k, d :: l => match py M k d, pys M k l with
    | some a, some as => some (a :: as)
    | _, _ => none
  termination_by k l => (k, l.length + 1)
end
mutual
theorem py_ok {G : Gx} {Fr B H : Hp} {as : List Addr} {M : Store} (rp : Rep G Fr B as H M) : ∀ (k : Nat) (d : D) (v : V) (a : PyData), R G B as v d → py M k d = some a → Dp G.K H v a ∧ a.canLay0 = true ∧ a.depth ≤ k
  | 0, d, v, a, r, h => by unfold py at h; cases h
  | k + 1, d, v, a, r, h => by
    have one : ∀ (p : Addr) (vs : List V) (l : List D) (a : PyData), SqL G.K H p vs → Rs G B as vs l → (pys M k l).map PyData.list = some a → Dp G.K H (.ref p) a ∧ a.canLay0 = true ∧ a.depth ≤ k + 1 := fun p vs l a sl rs h => by
      cases q : pys M k l with
      | none => rw [q] at h; cases h
      | some ds =>
        rw [q] at h; cases h
        obtain ⟨h1, h2, h3⟩ := pys_ok rp k l vs ds rs q
        exact ⟨.lst sl h1, by unfold PyData.canLay0; exact h2, by unfold PyData.depth; omega⟩
    cases r with
    | non => unfold py at h; cases h; exact ⟨.non, by unfold PyData.canLay0; rfl, by unfold PyData.depth; omega⟩
    | bl b => unfold py at h; cases h; exact ⟨.bl b, by unfold PyData.canLay0; rfl, by unfold PyData.depth; omega⟩
    | int i => unfold py at h; cases h; exact ⟨.int i, by unfold PyData.canLay0; rfl, by unfold PyData.depth; omega⟩
    | str x =>
      unfold py at h; dsimp only at h
      by_cases c : PyData.strOk x = true
      · rw [if_pos c] at h; cases h; exact ⟨.str x, by unfold PyData.canLay0; exact c, by unfold PyData.depth; omega⟩
      · rw [if_neg c] at h; cases h
    | ty n => unfold py at h; cases h
    | gl x => unfold py at h; cases h
    | ref ha =>
      rename_i n p
      unfold py at h; dsimp only at h
      cases q : M[n]? with
      | none => rw [q] at h; cases h
      | some c =>
        obtain ⟨t, l⟩ := c
        rw [q] at h
        obtain ⟨vs, mc, rs⟩ := rp.cell n p (t, l) ha q
        cases t <;> first | (cases h; done) | skip
        exact one p vs l a (SqL.of mc) rs h
    | nd fc rs =>
      rename_i t p vs l
      unfold py at h
      cases t with
      | lst => exact one p vs l a (SqL.of (rp.sub _ _ fc)) rs h
      | slst => exact one p vs l a (rp.sub.seq fc) rs h
      | tup =>
        dsimp only at h
        cases q : pys M k l with
        | none => rw [q] at h; cases h
        | some ds =>
          rw [q] at h; cases h
          obtain ⟨h1, h2, h3⟩ := pys_ok rp k l vs ds rs q
          exact ⟨.tup (sqT_mono rp.sub fc) h1, by unfold PyData.canLay0; exact h2, by unfold PyData.depth; omega⟩
      | dct ks => cases h
      | obj c ns => cases h
  termination_by k _ => (k, 0)
theorem pys_ok {G : Gx} {Fr B H : Hp} {as : List Addr} {M : Store} (rp : Rep G Fr B as H M) : ∀ (k : Nat) (l : List D) (vs : List V) (ds : List PyData), Rs G B as vs l → pys M k l = some ds → DpAll G.K H vs ds ∧ PyData.canLayAll0 ds = true ∧ PyData.depthAll ds ≤ k
  | k, [], vs, ds, rs, h => by
    unfold pys at h; cases h; cases rs
    exact ⟨.nil, by unfold PyData.canLayAll0; rfl, by unfold PyData.depthAll; omega⟩
  | k, d :: l, vs, ds, rs, h => by
    cases rs with
    | cons r t =>
      unfold pys at h
      cases q1 : py M k d with
      | none => simp only [q1] at h; cases h
      | some a =>
        cases q2 : pys M k l with
        | none => simp only [q1, q2] at h; cases h
        | some as' =>
          simp only [q1, q2] at h
          cases h
          obtain ⟨a1, a2, a3⟩ := py_ok rp k d _ a r q1
          obtain ⟨b1, b2, b3⟩ := pys_ok rp k l _ as' t q2
          exact ⟨.cons a1 b1, by unfold PyData.canLayAll0; rw [a2, b2]; rfl, by unfold PyData.depthAll; exact Nat.max_le.mpr ⟨a3, b3⟩⟩
  termination_by k l => (k, l.length + 1)
end
/-- == of data; not equal -/
def eqE (neg : Bool) (x y : D) : Ev D := fun M => match py M 9 x, py M 9 y with
  | some a, some b => .ok (.bl (neg ^^ PyData.eqv a b)) M
  | _, _ => .stuck
theorem o_eq {X : Cx} {W : WX} : Op2 X W (rEqD X.K) (eqE false) := by
  intro Fr B as σ H M v w x y Q rp r1 r2 h
  unfold eqE at h
  cases q1 : py M 9 x with
  | none => simp only [q1] at h; exact h.elim
  | some a =>
    cases q2 : py M 9 y with
    | none => simp only [q1, q2] at h; exact h.elim
    | some b =>
      simp only [q1, q2] at h
      obtain ⟨a1, a2, a3⟩ := py_ok rp 9 x v a r1 q1
      obtain ⟨b1, b2, b3⟩ := py_ok rp 9 y w b r2 q2
      refine ⟨a, b, a1, b1, ?_, ?_, ?_⟩
      · unfold SeqAt.shaped; rw [a2, decide_eq_true (by omega)]; rfl
      · unfold SeqAt.shaped; rw [b2, decide_eq_true (by omega)]; rfl
      · have := h.ok _ H rp (.bl _)
        simpa using this
theorem o_ne {X : Cx} {W : WX} : Op2 X W (rNeD X.K) (eqE true) := by
  intro Fr B as σ H M v w x y Q rp r1 r2 h
  unfold eqE at h
  cases q1 : py M 9 x with
  | none => simp only [q1] at h; exact h.elim
  | some a =>
    cases q2 : py M 9 y with
    | none => simp only [q1, q2] at h; exact h.elim
    | some b =>
      simp only [q1, q2] at h
      obtain ⟨a1, a2, a3⟩ := py_ok rp 9 x v a r1 q1
      obtain ⟨b1, b2, b3⟩ := py_ok rp 9 y w b r2 q2
      refine ⟨a, b, a1, b1, ?_, ?_, ?_⟩
      · unfold SeqAt.shaped; rw [a2, decide_eq_true (by omega)]; rfl
      · unfold SeqAt.shaped; rw [b2, decide_eq_true (by omega)]; rfl
      · have := h.ok _ H rp (.bl _)
        simpa using this
end
end DL

set_option Elab.async false
set_option linter.all false
set_option maxRecDepth 100000
set_option maxHeartbeats 4000000
/-! DL3: arithmetic, comparisons, displays, subscripts, slices, built-in calls. -/
namespace DL
open PySem L2
section
variable {X : Cx} {W : WX} {e a b c : Expr} {pos : Pos}
def n2 (op : D → D → Ev NR) (fa fb : Lo → Ev D) : Lo → Ev NR := fun S => (fa S).bnd fun x => (fb S).bnd fun y => op x y
def Op2N (X : Cx) (W : WX) (r : R2) (op : D → D → Ev NR) : Prop := ∀ Fr B as σ H M v w x y Q, Rep (gx X) Fr B as H M → R (gx X) B as v x → R (gx X) B as w y → Post B as (op x y M) (kN X Fr Q) (kX X Fr W σ) → r v w H Q
def OpNN (X : Cx) (W : WX) (r : List V → Hp → VK → Prop) (op : List D → Ev NR) : Prop := ∀ Fr B as σ H M vs l Q, Rep (gx X) Fr B as H M → Rs (gx X) B as vs l → Post B as (op l M) (kN X Fr Q) (kX X Fr W σ) → r vs H Q
theorem post_twoN {Fr B : Hp} {as : List Addr} {σ : St} {H : Hp} {S : Lo} {M : Store} {Q : VK} {fa fb : Lo → Ev D} {ta tb : TE} {r : R2} {op : D → D → Ev NR}
    (ha : ∀ Fr B as σ H S M Q, RS (gx X) B as σ S → Rep (gx X) Fr B as H M → Post B as (fa S M) (kD X Fr Q) (kX X Fr W σ) → ta σ H Q)
    (hb : ∀ Fr B as σ H S M Q, RS (gx X) B as σ S → Rep (gx X) Fr B as H M → Post B as (fb S M) (kD X Fr Q) (kX X Fr W σ) → tb σ H Q)
    (ho : Op2N X W r op) (rs : RS (gx X) B as σ S) (rp : Rep (gx X) Fr B as H M) (h : Post B as (n2 op fa fb S M) (kN X Fr Q) (kX X Fr W σ)) : tOp r ta tb σ H Q := by
  refine ha Fr B as σ H S M _ rs rp (h.bnd.imp fun x M1 B1 as1 s1 p1 h1 v H1 rp1 r1 => ?_)
  refine hb Fr B1 as1 σ H1 S M1 _ (rs.mono s1 p1) rp1 (h1.bnd.imp fun y M2 B2 as2 s2 p2 h2 w H2 rp2 r2 => ?_)
  exact ho Fr B2 as2 σ H2 M2 v w x y Q rp2 (r1.mono s2 p2) r2 h2
theorem dn_op {op : Operator} {r : R2} {fo : D → D → Ev NR} {fa fb : Lo → Ev D} (hr : OpR X (binaryOp op) r) (ho : Op2N X W r fo) (ha : DE X W a fa) (hb : DE X W b fb) : DN X W (.BinOp a op b pos) (n2 fo fa fb) := by
  obtain ⟨ta, pa, sa⟩ := ha
  obtain ⟨tb, pb, sb⟩ := hb
  exact ⟨_, pe_op hr pa pb, fun Fr B as σ H S M Q rs rp h => post_twoN sa sb ho rs rp h⟩
def iop (f : Int → Int → Ev D) : D → D → Ev D
  | .int i, .int j => f i j
  | _, _ => Ev.no
theorem o_int0 {g : Int → Int → V} {f : Int → Int → D} (hg : ∀ G B as i j, R G B as (g i j) (f i j)) : Op2 X W (rI0 g) (iop fun i j => Ev.ret (f i j)) := by
  intro Fr B as σ H M v w x y Q rp r1 r2 h
  cases r1 <;> first | exact h.elim | skip
  cases r2 <;> first | exact h.elim | skip
  exact ⟨_, _, rfl, rfl, h.ret _ H rp (hg _ _ _ _ _)⟩
theorem o_intC {C : Int → Int → Prop} [∀ i j, Decidable (C i j)] {g : Int → Int → V} {f : Int → Int → D} (hg : ∀ G B as i j, R G B as (g i j) (f i j)) : Op2 X W (rI C g) (iop fun i j => if C i j then Ev.ret (f i j) else Ev.no) := by
  intro Fr B as σ H M v w x y Q rp r1 r2 h
  cases r1 <;> first | exact h.elim | skip
  cases r2 <;> first | exact h.elim | skip
  rename_i i j
  have h : Post B as ((if C i j then Ev.ret (f i j) else Ev.no) M) (kD X Fr Q) (kX X Fr W σ) := h
  by_cases c : C i j
  · rw [if_pos c] at h; exact ⟨_, _, rfl, rfl, c, h.ret _ H rp (hg _ _ _ _ _)⟩
  · rw [if_neg c] at h; exact h.elim
instance : ∀ i j, Decidable (CMul i j) := fun i j => by unfold CMul; infer_instance
instance : ∀ i j, Decidable (CDivW i j) := fun i j => by unfold CDivW; infer_instance
instance : ∀ i j, Decidable (CPow i j) := fun i j => by unfold CPow; infer_instance
def subE : D → D → Ev D := iop fun i j => Ev.ret (.int (i - j))
def mulE : D → D → Ev D := iop fun i j => if CMul i j then Ev.ret (.int (i * j)) else Ev.no
def divE : D → D → Ev D := iop fun i j => if CDivW i j then Ev.ret (.int (i / j)) else Ev.no
def modE : D → D → Ev D := iop fun i j => if 0 < j then Ev.ret (.int (i % j)) else Ev.no
def powE : D → D → Ev D := iop fun i j => if CPow i j then Ev.ret (.int (i ^ j.toNat)) else Ev.no
def ltE : D → D → Ev D := iop fun i j => Ev.ret (.bl (decide (i < j)))
def leE : D → D → Ev D := iop fun i j => Ev.ret (.bl (decide (i ≤ j)))
def gtE : D → D → Ev D := iop fun i j => Ev.ret (.bl (decide (j < i)))
def geE : D → D → Ev D := iop fun i j => Ev.ret (.bl (decide (j ≤ i)))
variable {fa fb : Lo → Ev D}
theorem de_sub (ha : DE X W a fa) (hb : DE X W b fb) : DE X W (.BinOp a .Sub b pos) (e2 subE fa fb) := de_op op_sub (o_int0 fun _ _ _ _ _ => .int _) ha hb
theorem de_mul (ha : DE X W a fa) (hb : DE X W b fb) : DE X W (.BinOp a .Mult b pos) (e2 mulE fa fb) := de_op op_mul (o_intC fun _ _ _ _ _ => .int _) ha hb
theorem de_div (ha : DE X W a fa) (hb : DE X W b fb) : DE X W (.BinOp a .FloorDiv b pos) (e2 divE fa fb) := de_op op_fdivW (o_intC fun _ _ _ _ _ => .int _) ha hb
theorem de_mod (ha : DE X W a fa) (hb : DE X W b fb) : DE X W (.BinOp a .Mod b pos) (e2 modE fa fb) := de_op op_mod (o_intC (C := fun _ j => 0 < j) fun _ _ _ _ _ => .int _) ha hb
theorem de_pow (ha : DE X W a fa) (hb : DE X W b fb) : DE X W (.BinOp a .Pow b pos) (e2 powE fa fb) := de_op op_pow (o_intC fun _ _ _ _ _ => .int _) ha hb
theorem o_lt : Op2 X W (rI0 fun i j => .bl (decide (i < j))) ltE := o_int0 fun _ _ _ _ _ => .bl _
theorem o_le : Op2 X W (rI0 fun i j => .bl (decide (i ≤ j))) leE := o_int0 fun _ _ _ _ _ => .bl _
theorem o_gt : Op2 X W (rI0 fun i j => .bl (decide (j < i))) gtE := o_int0 fun _ _ _ _ _ => .bl _
theorem o_ge : Op2 X W (rI0 fun i j => .bl (decide (j ≤ i))) geE := o_int0 fun _ _ _ _ _ => .bl _
theorem de_lt (ha : DE X W a fa) (hb : DE X W b fb) : DE X W (.Compare a [.Lt] [b] pos) (e2 ltE fa fb) := de_cmp op_lt o_lt ha hb (nomark _)
theorem de_le (ha : DE X W a fa) (hb : DE X W b fb) : DE X W (.Compare a [.LtE] [b] pos) (e2 leE fa fb) := de_cmp op_le o_le ha hb (nomark _)
theorem de_gt (ha : DE X W a fa) (hb : DE X W b fb) : DE X W (.Compare a [.Gt] [b] pos) (e2 gtE fa fb) := de_cmp op_gt o_gt ha hb (nomark _)
theorem de_ge (ha : DE X W a fa) (hb : DE X W b fb) : DE X W (.Compare a [.GtE] [b] pos) (e2 geE fa fb) := de_cmp op_ge o_ge ha hb (nomark _)
theorem dt_lt (ha : DE X W a fa) (hb : DE X W b fb) : DT X W (.Compare a [.Lt] [b] pos) (eB (e2 ltE fa fb)) := dt_cmp op_lt o_lt ha hb (nomark _)
theorem dt_le (ha : DE X W a fa) (hb : DE X W b fb) : DT X W (.Compare a [.LtE] [b] pos) (eB (e2 leE fa fb)) := dt_cmp op_le o_le ha hb (nomark _)
theorem dt_gt (ha : DE X W a fa) (hb : DE X W b fb) : DT X W (.Compare a [.Gt] [b] pos) (eB (e2 gtE fa fb)) := dt_cmp op_gt o_gt ha hb (nomark _)
theorem dt_ge (ha : DE X W a fa) (hb : DE X W b fb) : DT X W (.Compare a [.GtE] [b] pos) (eB (e2 geE fa fb)) := dt_cmp op_ge o_ge ha hb (nomark _)
theorem de_eq (hu : X.A.units + 64 < cLine) (ha : DE X W a fa) (hb : DE X W b fb) : DE X W (.Compare a [.Eq] [b] pos) (e2 (eqE false) fa fb) := de_cmp (op_eqD hu) o_eq ha hb (nomark _)
theorem de_ne (hu : X.A.units + 64 < cLine) (ha : DE X W a fa) (hb : DE X W b fb) : DE X W (.Compare a [.NotEq] [b] pos) (e2 (eqE true) fa fb) := de_cmp (op_neD hu) o_ne ha hb (nomark _)
theorem dt_eq (hu : X.A.units + 64 < cLine) (ha : DE X W a fa) (hb : DE X W b fb) : DT X W (.Compare a [.Eq] [b] pos) (eB (e2 (eqE false) fa fb)) := dt_cmp (op_eqD hu) o_eq ha hb (nomark _)
theorem dt_ne (hu : X.A.units + 64 < cLine) (ha : DE X W a fa) (hb : DE X W b fb) : DT X W (.Compare a [.NotEq] [b] pos) (eB (e2 (eqE true) fa fb)) := dt_cmp (op_neD hu) o_ne ha hb (nomark _)
/-- a <= b <= c (bools) -/
def eChain (o o' : D → D → Ev D) (fa fb fc : Lo → Ev D) : Lo → Ev D := fun S => (fa S).bnd fun x => (fb S).bnd fun y => (o x y).bnd fun z => (asB z).bnd fun k => if k = true then (fc S).bnd fun w => o' y w else Ev.ret (.bl false)
theorem de_chain {op op' : CmpOp} {r r' : R2} {fo fo' : D → D → Ev D} {fc : Lo → Ev D} (hr : OpR X (compareOp op) r) (hr' : OpR X (compareOp op') r') (ho : Op2 X W r fo) (ho' : Op2 X W r' fo') (ha : DE X W a fa) (hb : DE X W b fb) (hc : DE X W c fc)
    (hm : lastMarks [op, op'] [b, c] = false) : DE X W (.Compare a [op, op'] [b, c] pos) (eChain fo fo' fa fb fc) := by
  obtain ⟨ta, pa, sa⟩ := ha
  obtain ⟨tb, pb, sb⟩ := hb
  obtain ⟨tc, pc, sc⟩ := hc
  refine ⟨_, pe_chain hr hr' pa pb pc hm, fun Fr B as σ H S M Q rs rp h => ?_⟩
  refine sa Fr B as σ H S M _ rs rp (h.bnd.imp fun x M1 B1 as1 s1 p1 h1 v H1 rp1 r1 => ?_)
  refine sb Fr B1 as1 σ H1 S M1 _ (rs.mono s1 p1) rp1 (h1.bnd.imp fun y M2 B2 as2 s2 p2 h2 w H2 rp2 r2 => ?_)
  refine ho Fr B2 as2 σ H2 M2 v w x y _ rp2 (r1.mono s2 p2) r2 (h2.bnd.imp fun z M3 B3 as3 s3 p3 h3 u H3 rp3 r3 => ?_)
  cases z <;> first | exact h3.elim | skip
  rename_i k
  cases r3
  refine ⟨k, rfl, ?_⟩
  cases k with
  | true =>
    have h3 : Post B3 as3 (((fc S).bnd fun w => fo' y w) M3) (kD X Fr Q) (kX X Fr W σ) := h3
    refine sc Fr B3 as3 σ H3 S M3 _ ((rs.mono s1 p1).mono s2 p2 |>.mono s3 p3) rp3 (h3.bnd.imp fun z' M4 B4 as4 s4 p4 h4 u' H4 rp4 r4 => ?_)
    exact ho' Fr B4 as4 σ H4 M4 w u' y z' Q rp4 (r2.mono s3 p3 |>.mono s4 p4) r4 h4
  | false => exact (Post.ret (a := D.bl false) h3) _ H3 rp3 (.bl false)
theorem de_lele {fc : Lo → Ev D} (ha : DE X W a fa) (hb : DE X W b fb) (hc : DE X W c fc) (hm : lastMarks [.LtE, .LtE] [b, c] = false := by rfl) : DE X W (.Compare a [.LtE, .LtE] [b, c] pos) (eChain leE leE fa fb fc) := de_chain op_le op_le o_le o_le ha hb hc hm
theorem de_lelt {fc : Lo → Ev D} (ha : DE X W a fa) (hb : DE X W b fb) (hc : DE X W c fc) (hm : lastMarks [.LtE, .Lt] [b, c] = false := by rfl) : DE X W (.Compare a [.LtE, .Lt] [b, c] pos) (eChain leE ltE fa fb fc) := de_chain op_le op_lt o_le o_lt ha hb hc hm
/-- is None -/
def isNE (neg : Bool) : D → D → Ev D := fun x y => match y with
  | .non => Ev.ret (.bl (neg ^^ (match x with | .non => true | _ => false)))
  | _ => Ev.no
theorem o_isN : Op2 X W (fun x y H Q => y = .non ∧ Q (.bl (decide (x = .non))) H) (isNE false) := by
  intro Fr B as σ H M v w x y Q rp r1 r2 h
  cases r2 <;> first | exact h.elim | skip
  refine ⟨rfl, ?_⟩
  cases r1 <;> exact h.ret _ H rp (.bl _)
theorem o_notN : Op2 X W (fun x y H Q => y = .non ∧ Q (.bl (!decide (x = .non))) H) (isNE true) := by
  intro Fr B as σ H M v w x y Q rp r1 r2 h
  cases r2 <;> first | exact h.elim | skip
  refine ⟨rfl, ?_⟩
  cases r1 <;> exact h.ret _ H rp (.bl _)
theorem de_isN (ha : DE X W a fa) (hb : DE X W b fb) : DE X W (.Compare a [.Is] [b] pos) (e2 (isNE false) fa fb) := de_cmp op_isN o_isN ha hb (nomark _)
theorem de_notN (ha : DE X W a fa) (hb : DE X W b fb) : DE X W (.Compare a [.IsNot] [b] pos) (e2 (isNE true) fa fb) := de_cmp op_notN o_notN ha hb (nomark _)
theorem dt_isN (ha : DE X W a fa) (hb : DE X W b fb) : DT X W (.Compare a [.Is] [b] pos) (eB (e2 (isNE false) fa fb)) := dt_cmp op_isN o_isN ha hb (nomark _)
theorem dt_notN (ha : DE X W a fa) (hb : DE X W b fb) : DT X W (.Compare a [.IsNot] [b] pos) (eB (e2 (isNE true) fa fb)) := dt_cmp op_notN o_notN ha hb (nomark _)
/-- - a -/
def negE : D → Ev D
  | .int i => Ev.ret (.int (-i))
  | _ => Ev.no
theorem de_neg (ha : DE X W a fa) : DE X W (.UnaryOp .USub a pos) (e1 negE fa) := de_un un_neg (fun Fr B as σ H M v x Q rp r h => by
  cases r <;> first | exact h.elim | skip
  exact ⟨_, rfl, h.ret _ H rp (.int _)⟩) ha
/-- + of ints, texts, lists, tuples -/
def addN : D → D → Ev NR
  | .int i, .int j => Ev.ret (.v (.int (i + j)))
  | .str i, .str j => if i.length + j.length ≤ sizeLine then Ev.ret (.v (.str (i ++ j))) else Ev.no
  | x, y => (vw x).bnd fun p => (vw y).bnd fun q => match p.1, q.1 with
    | .lst, .lst => if p.2.length + q.2.length ≤ sizeLine then Ev.ret (.n .lst (p.2 ++ q.2)) else Ev.no
    | .tup, .tup => if p.2.isEmpty = false ∧ q.2.isEmpty = false ∧ p.2.length + q.2.length ≤ sizeLine then Ev.ret (.n .tup (p.2 ++ q.2)) else Ev.no
    | _, _ => Ev.no
abbrev rAddU (K : PySem.W.Frag) : R2 := fun x y H Q => (rI0 fun i j => .int (i + j)) x y H Q ∨ (∃ i j, x = .str i ∧ y = .str j ∧ i.length + j.length ≤ sizeLine ∧ Q (.str (i ++ j)) H) ∨ rCat x y H Q ∨ rCatT K x y H Q
theorem op_addU : OpR X (binaryOp .Add) (rAddU X.K) := op_add.or (op_add_str.or (op_cat.or op_catT))
theorem o_addU : Op2N X W (rAddU X.K) addN := by
  intro Fr B as σ H M v w x y Q rp r1 r2 h
  have gen : Post B as (((vw x).bnd fun p => (vw y).bnd fun q => match p.1, q.1 with
      | .lst, .lst => if p.2.length + q.2.length ≤ sizeLine then Ev.ret (.n .lst (p.2 ++ q.2)) else Ev.no
      | .tup, .tup => if p.2.isEmpty = false ∧ q.2.isEmpty = false ∧ p.2.length + q.2.length ≤ sizeLine then Ev.ret (.n .tup (p.2 ++ q.2)) else Ev.no
      | _, _ => Ev.no) M) (kN X Fr Q) (kX X Fr W σ) → rAddU X.K v w H Q := fun h => by
    obtain ⟨t, l, p, vs, rfl, fc, rs, h, _⟩ := h.vw rp r1
    obtain ⟨u, m, q, ws, rfl, fc2, rs2, h, _⟩ := h.vw rp r2
    cases t <;> cases u <;> first | exact h.elim | skip
    · dsimp only at h
      by_cases c : l.length + m.length ≤ sizeLine
      · rw [if_pos c] at h
        exact .inr (.inr (.inl ⟨p, q, vs, ws, rfl, rfl, fc, fc2, by rw [rs.length, rs2.length]; exact c, fun z hz => h.ret _ H z rp (rs.app rs2) hz⟩))
      · rw [if_neg c] at h; exact h.elim
    · dsimp only at h
      by_cases c : l.isEmpty = false ∧ m.isEmpty = false ∧ l.length + m.length ≤ sizeLine
      · rw [if_pos c] at h
        have e1 := rs.length
        have e2 := rs2.length
        obtain ⟨c1, c2, c3⟩ := c
        refine .inr (.inr (.inr ⟨p, q, vs, ws, rfl, rfl, fc, fc2, ?_, by rw [e1, e2]; exact c3, ?_, ?_⟩))
        · intro z; subst z; cases rs; simp at c1
        · intro z; subst z; cases rs2; simp at c2
        · exact fun _ z hz => h.ret _ H z rp (rs.app rs2) hz
      · rw [if_neg c] at h; exact h.elim
  cases r1 with
  | int i =>
    cases r2 with
    | int j => exact .inl ⟨i, j, rfl, rfl, h.ret _ H rp (.int _)⟩
    | _ => exact gen h
  | str i =>
    cases r2 with
    | str j =>
      have h : Post B as ((if i.length + j.length ≤ sizeLine then Ev.ret (.v (.str (i ++ j))) else Ev.no) M) (kN X Fr Q) (kX X Fr W σ) := h
      by_cases c : i.length + j.length ≤ sizeLine
      · rw [if_pos c] at h; exact .inr (.inl ⟨i, j, rfl, rfl, c, h.ret _ H rp (.str _)⟩)
      · rw [if_neg c] at h; exact h.elim
    | _ => exact gen h
  | _ => cases r2 <;> exact gen h
theorem dn_add (ha : DE X W a fa) (hb : DE X W b fb) : DN X W (.BinOp a .Add b pos) (n2 addN fa fb) := dn_op op_addU o_addU ha hb
/-- [x] * n -/
def repN (x y : D) : Ev NR := match y with
  | .int k => (vw x).bnd fun p => match p.1 with
    | .lst => if -(2 ^ 63) ≤ k ∧ k < 2 ^ 63 ∧ p.2.length * k.toNat ≤ sizeLine then Ev.ret (.n .lst (List.replicate k.toNat p.2).flatten) else Ev.no
    | _ => Ev.no
  | _ => Ev.no
theorem Rs.rep {G : Gx} {B : Hp} {as : List Addr} {vs : List V} {l : List D} (r : Rs G B as vs l) : ∀ k : Nat, Rs G B as (List.replicate k vs).flatten (List.replicate k l).flatten
  | 0 => .nil
  | k + 1 => by rw [List.replicate_succ, List.replicate_succ, List.flatten_cons, List.flatten_cons]; exact r.app (Rs.rep r k)
theorem o_rep : Op2N X W rRep repN := by
  intro Fr B as σ H M v w x y Q rp r1 r2 h
  cases r2 <;> first | exact h.elim | skip
  rename_i k
  obtain ⟨t, l, p, vs, rfl, fc, rs, h, _⟩ := Post.vw (d := x) h rp r1
  cases t <;> first | exact h.elim | skip
  dsimp only at h
  by_cases c : -(2 ^ 63) ≤ k ∧ k < 2 ^ 63 ∧ l.length * k.toNat ≤ sizeLine
  · rw [if_pos c] at h
    exact ⟨p, k, vs, rfl, rfl, fc, c.1, c.2.1, by rw [rs.length]; exact c.2.2, fun z hz => h.ret _ H z rp (rs.rep _) hz⟩
  · rw [if_neg c] at h; exact h.elim
theorem dn_rep (ha : DE X W a fa) (hb : DE X W b fb) : DN X W (.BinOp a .Mult b pos) (n2 repN fa fb) := dn_op op_rep o_rep ha hb
/-! ### displays -/
def nNew (t : Tg) (f : Lo → Ev (List D)) : Lo → Ev NR := fun S => (f S).bnd fun l => if l.length ≤ sizeLine then Ev.ret (.n t l) else Ev.no
theorem dn_lst {es : List Expr} {f : Lo → Ev (List D)} (h : DA X W es f) : DN X W (.List es pos) (nNew .lst f) := by
  obtain ⟨t, p, s⟩ := h
  refine ⟨_, pe_lst p, fun Fr B as σ H S M Q rs rp h => ?_⟩
  refine s Fr B as σ H S M _ rs rp (h.bnd.imp fun l M1 B1 as1 s1 p1 h1 vs H1 rp1 r1 => ?_)
  by_cases c : l.length ≤ sizeLine
  · rw [if_pos c] at h1; exact ⟨by rw [r1.length]; exact c, fun z hz => h1.ret _ H1 z rp1 r1 hz⟩
  · rw [if_neg c] at h1; exact h1.elim
theorem dn_tup {es : List Expr} {x1} {f : Lo → Ev (List D)} (h : DA X W es f) : DN X W (.Tuple es x1 pos) (nNew .tup f) := by
  obtain ⟨t, p, s⟩ := h
  refine ⟨_, pe_tup p, fun Fr B as σ H S M Q rs rp h => ?_⟩
  refine s Fr B as σ H S M _ rs rp (h.bnd.imp fun l M1 B1 as1 s1 p1 h1 vs H1 rp1 r1 => ?_)
  by_cases c : l.length ≤ sizeLine
  · rw [if_pos c] at h1; exact ⟨by rw [r1.length]; exact c, fun z hz => h1.ret _ H1 z rp1 r1 hz⟩
  · rw [if_neg c] at h1; exact h1.elim
/-! ### subscripts -/
def optE {α : Type} : Option α → Ev α
  | some a => Ev.ret a
  | none => Ev.no
def ixE (x y : D) : Ev D := match y with
  | .int i => match x with
    | .str z => if z.length ≤ sizeLine then (optE (atI z.cps.toList i)).bnd fun c => Ev.ret (.str ⟨#[c]⟩) else Ev.no
    | _ => (sq x).bnd fun l => optE (atI l i)
  | _ => Ev.no
theorem Rs.atI {G : Gx} {B : Hp} {as : List Addr} {vs : List V} {l : List D} {i : Int} {d : D} (r : Rs G B as vs l) (h : L2.atI l i = some d) : ∃ v, L2.atI vs i = some v ∧ R G B as v d := by
  unfold L2.atI at h ⊢
  rw [r.length]
  cases q : ixN l.length i with
  | none => rw [q] at h; cases h
  | some j =>
    rw [q] at h
    exact r.get h
theorem o_ix : Op2 X W (rIx X.K) ixE := by
  intro Fr B as σ H M v w x y Q rp r1 r2 h
  cases r2 <;> first | exact h.elim | skip
  rename_i i
  have gen : Post B as (((sq x).bnd fun l => optE (atI l i)) M) (kD X Fr Q) (kX X Fr W σ) → rIx X.K v (.int i) H Q := fun h => by
    obtain ⟨l, p, vs, rfl, hs, rs, h⟩ := h.sq rp r1
    cases q : atI l i with
    | none => rw [q] at h; exact h.elim
    | some d =>
      rw [q] at h
      obtain ⟨u, hu, ru⟩ := rs.atI q
      have fin := h.ret u H rp ru
      rcases hs with hs | hs
      · exact .inl ⟨p, vs, i, u, rfl, rfl, hs, hu, fin⟩
      · exact .inr (.inl ⟨p, vs, i, u, rfl, rfl, hs, hu, fin⟩)
  cases r1 with
  | str z =>
    have h : Post B as ((if z.length ≤ sizeLine then (optE (atI z.cps.toList i)).bnd fun c => Ev.ret (.str ⟨#[c]⟩) else Ev.no) M) (kD X Fr Q) (kX X Fr W σ) := h
    by_cases c : z.length ≤ sizeLine
    · rw [if_pos c] at h
      cases q : atI z.cps.toList i with
      | none => rw [q] at h; exact h.elim
      | some d => rw [q] at h; exact .inr (.inr ⟨z, i, d, rfl, rfl, c, q, (Post.ret (a := D.str ⟨#[d]⟩) h) _ H rp (.str _)⟩)
    · rw [if_neg c] at h; exact h.elim
  | _ => exact gen h
theorem de_ix (ha : DE X W a fa) (hb : DE X W b fb) (hs : PlainIx b) : DE X W (.Subscript a b pos) (e2 ixE fa fb) := by
  obtain ⟨ta, pa, sa⟩ := ha
  obtain ⟨tb, pb, sb⟩ := hb
  exact ⟨_, pe_ix ix_seq pa pb hs, fun Fr B as σ H S M Q rs rp h => post_two sa sb o_ix rs rp h⟩
/-! ### slices -/
def DO (X : Cx) (W : WX) (e : Option Expr) (f : Lo → Ev (Option Int)) : Prop := ∃ t, PO X e t ∧ ∀ Fr B as σ H S M (Q : Option Int → Hp → Prop), RS (gx X) B as σ S → Rep (gx X) Fr B as H M →
  Post B as (f S M) (fun o M B as => ∀ H, Rep (gx X) Fr B as H M → Q o H) (kX X Fr W σ) → t σ H Q
def oNo : Lo → Ev (Option Int) := fun _ => Ev.ret none
def asI : D → Ev (Option Int)
  | .int i => Ev.ret (some i)
  | _ => Ev.no
def oSo (f : Lo → Ev D) : Lo → Ev (Option Int) := fun S => (f S).bnd asI
theorem do_none : DO X W none oNo := ⟨_, po_none, fun _ _ _ _ H _ _ _ _ rp h => h.ret H rp⟩
theorem do_some {f : Lo → Ev D} (h : DE X W e f) : DO X W (some e) (oSo f) := by
  obtain ⟨t, p, s⟩ := h
  refine ⟨_, po_some p, fun Fr B as σ H S M Q rs rp h => ?_⟩
  refine s Fr B as σ H S M _ rs rp (h.bnd.imp fun x M1 B1 as1 s1 p1 h1 v H1 rp1 r1 => ?_)
  cases r1 <;> first | exact h1.elim | skip
  exact ⟨_, rfl, h1.ret H1 rp1⟩
def cutD (l : List D) (lo hi : Option Int) : List D := (l.drop (HT.sIx l.length 0 lo)).take (HT.sIx l.length l.length hi - HT.sIx l.length 0 lo)
def slN (x : D) (lo hi : Option Int) : Ev NR := (vw x).bnd fun p => match p.1 with
  | .lst => Ev.ret (.n .lst (cutD p.2 lo hi))
  | .slst => Ev.ret (.n .lst (cutD p.2 lo hi))
  | _ => Ev.no
def nSl (f : Lo → Ev D) (fl fh : Lo → Ev (Option Int)) : Lo → Ev NR := fun S => (f S).bnd fun x => (fl S).bnd fun l => (fh S).bnd fun u => slN x l u
theorem dn_slice {lo hi : Option Expr} {p2 : Pos} {f : Lo → Ev D} {fl fh : Lo → Ev (Option Int)} (he : DE X W e f) (hl : DO X W lo fl) (hh : DO X W hi fh) : DN X W (.Subscript e (.Slice lo hi none p2) pos) (nSl f fl fh) := by
  obtain ⟨t, p, s⟩ := he
  obtain ⟨tl, pl, sl⟩ := hl
  obtain ⟨th, ph, sh⟩ := hh
  refine ⟨_, pe_slice sl_list p pl ph, fun Fr B as σ H S M Q rs rp h => ?_⟩
  refine s Fr B as σ H S M _ rs rp (h.bnd.imp fun x M1 B1 as1 s1 p1 h1 v H1 rp1 r1 => ?_)
  refine sl Fr B1 as1 σ H1 S M1 _ (rs.mono s1 p1) rp1 (h1.bnd.imp fun l M2 B2 as2 s2 p2 h2 H2 rp2 => ?_)
  refine sh Fr B2 as2 σ H2 S M2 _ ((rs.mono s1 p1).mono s2 p2) rp2 (h2.bnd.imp fun u M3 B3 as3 s3 p3 h3 H3 rp3 => ?_)
  obtain ⟨t, m, q, vs, rfl, fc, rs3, h3, _⟩ := Post.vw (d := x) h3 rp3 (r1.mono s2 p2 |>.mono s3 p3)
  have fin : ∀ q', SqL X.K H3 q vs → Post B3 as3 (Ev.ret (NR.n .lst (cutD m l u)) M3) (kN X Fr Q) (kX X Fr W σ) → H3 q' = none → Q (.ref q') (upd H3 q' (.lst (cutV vs l u))) := fun q' _ h hn => by
    have := h.ret (cutV vs l u) H3 q' rp3 (by unfold cutV cutD; rw [rs3.length]; exact (rs3.drop _).take _) hn
    exact this
  cases t <;> first | exact h3.elim | skip
  · exact ⟨q, vs, rfl, SqL.of fc, fun q' hq => fin q' (SqL.of fc) h3 hq⟩
  · exact ⟨q, vs, rfl, fc, fun q' hq => fin q' fc h3 hq⟩
/-! ### built-in functions -/
theorem de_callB {x : Str} {id : String} {r : List V → Hp → VK → Prop} {es : List Expr} {p : Pos} {f : Lo → Ev (List D)} {op : List D → Ev D} (hc : CallR X (.builtin id) r) (ho : OpN X W r op) (hg : Gl X x) (hm : X.mg x = none) (hv : bootBuiltins x = some (.builtin id)) (ha : DA X W (e :: es) f)
    (hn : x ≠ "__name__" := by decide) (hdb : (x == ("__debug__" : Str)) = false := by decide) (he : starEach (e :: es) X.env = (false, eval e X.env) :: starEach es X.env := by rfl) (hpl : (backTo pos (starEach es X.env)).any (·.1) = false := by rfl) :
    DE X W (.Call (.Name x p) (e :: es) [] pos) (fun S => (f S).bnd op) := by
  obtain ⟨t, pa, s⟩ := ha
  refine ⟨_, pe_callB hc hg hm hv pa hn hdb he hpl, fun Fr B as σ H S M Q rs rp h => ?_⟩
  exact s Fr B as σ H S M _ rs rp (h.bnd.imp fun l M1 B1 as1 s1 p1 h1 vs H1 rp1 r1 => ho Fr B1 as1 σ H1 M1 vs l Q rp1 r1 h1)
theorem dn_callB {x : Str} {id : String} {r : List V → Hp → VK → Prop} {es : List Expr} {p : Pos} {f : Lo → Ev (List D)} {op : List D → Ev NR} (hc : CallR X (.builtin id) r) (ho : OpNN X W r op) (hg : Gl X x) (hm : X.mg x = none) (hv : bootBuiltins x = some (.builtin id)) (ha : DA X W (e :: es) f)
    (hn : x ≠ "__name__" := by decide) (hdb : (x == ("__debug__" : Str)) = false := by decide) (he : starEach (e :: es) X.env = (false, eval e X.env) :: starEach es X.env := by rfl) (hpl : (backTo pos (starEach es X.env)).any (·.1) = false := by rfl) :
    DN X W (.Call (.Name x p) (e :: es) [] pos) (fun S => (f S).bnd op) := by
  obtain ⟨t, pa, s⟩ := ha
  refine ⟨_, pe_callB hc hg hm hv pa hn hdb he hpl, fun Fr B as σ H S M Q rs rp h => ?_⟩
  exact s Fr B as σ H S M _ rs rp (h.bnd.imp fun l M1 B1 as1 s1 p1 h1 vs H1 rp1 r1 => ho Fr B1 as1 σ H1 M1 vs l Q rp1 r1 h1)
theorem de_callTy {x : Str} {T : String} {r : List V → Hp → VK → Prop} {es : List Expr} {p : Pos} {f : Lo → Ev (List D)} {op : List D → Ev D} (hc : CallR X (.type T) r) (ho : OpN X W r op) (hg : Gl X x) (hm : X.mg x = none) (hv : bootBuiltins x = some (.type T)) (ha : DA X W (e :: es) f)
    (hn : x ≠ "__name__" := by decide) (hdb : (x == ("__debug__" : Str)) = false := by decide) (he : starEach (e :: es) X.env = (false, eval e X.env) :: starEach es X.env := by rfl) (hpl : (backTo pos (starEach es X.env)).any (·.1) = false := by rfl) :
    DE X W (.Call (.Name x p) (e :: es) [] pos) (fun S => (f S).bnd op) := by
  obtain ⟨t, pa, s⟩ := ha
  refine ⟨_, pe_callTy hc hg hm hv pa hn hdb he hpl, fun Fr B as σ H S M Q rs rp h => ?_⟩
  exact s Fr B as σ H S M _ rs rp (h.bnd.imp fun l M1 B1 as1 s1 p1 h1 vs H1 rp1 r1 => ho Fr B1 as1 σ H1 M1 vs l Q rp1 r1 h1)
theorem dn_callTy {x : Str} {T : String} {r : List V → Hp → VK → Prop} {es : List Expr} {p : Pos} {f : Lo → Ev (List D)} {op : List D → Ev NR} (hc : CallR X (.type T) r) (ho : OpNN X W r op) (hg : Gl X x) (hm : X.mg x = none) (hv : bootBuiltins x = some (.type T)) (ha : DA X W (e :: es) f)
    (hn : x ≠ "__name__" := by decide) (hdb : (x == ("__debug__" : Str)) = false := by decide) (he : starEach (e :: es) X.env = (false, eval e X.env) :: starEach es X.env := by rfl) (hpl : (backTo pos (starEach es X.env)).any (·.1) = false := by rfl) :
    DN X W (.Call (.Name x p) (e :: es) [] pos) (fun S => (f S).bnd op) := by
  obtain ⟨t, pa, s⟩ := ha
  refine ⟨_, pe_callTy hc hg hm hv pa hn hdb he hpl, fun Fr B as σ H S M Q rs rp h => ?_⟩
  exact s Fr B as σ H S M _ rs rp (h.bnd.imp fun l M1 B1 as1 s1 p1 h1 vs H1 rp1 r1 => ho Fr B1 as1 σ H1 M1 vs l Q rp1 r1 h1)
/-- one argument -/
def op1 {α : Type} (f : D → Ev α) : List D → Ev α
  | [d] => f d
  | _ => Ev.no
def op2 {α : Type} (f : D → D → Ev α) : List D → Ev α
  | [d, e] => f d e
  | _ => Ev.no
theorem oN1 {r : List V → Hp → VK → Prop} {f : D → Ev D} (h : ∀ Fr B as σ H M v d Q, Rep (gx X) Fr B as H M → R (gx X) B as v d → Post B as (f d M) (kD X Fr Q) (kX X Fr W σ) → r [v] H Q) : OpN X W r (op1 f) := by
  intro Fr B as σ H M vs l Q rp rs hp
  cases rs with
  | nil => exact hp.elim
  | cons r t =>
    cases t with
    | nil => exact h Fr B as σ H M _ _ Q rp r hp
    | cons _ _ => exact hp.elim
theorem oNN1 {r : List V → Hp → VK → Prop} {f : D → Ev NR} (h : ∀ Fr B as σ H M v d Q, Rep (gx X) Fr B as H M → R (gx X) B as v d → Post B as (f d M) (kN X Fr Q) (kX X Fr W σ) → r [v] H Q) : OpNN X W r (op1 f) := by
  intro Fr B as σ H M vs l Q rp rs hp
  cases rs with
  | nil => exact hp.elim
  | cons r t =>
    cases t with
    | nil => exact h Fr B as σ H M _ _ Q rp r hp
    | cons _ _ => exact hp.elim
theorem oN2 {r : List V → Hp → VK → Prop} {f : D → D → Ev D} (h : ∀ Fr B as σ H M v w d e Q, Rep (gx X) Fr B as H M → R (gx X) B as v d → R (gx X) B as w e → Post B as (f d e M) (kD X Fr Q) (kX X Fr W σ) → r [v, w] H Q) : OpN X W r (op2 f) := by
  intro Fr B as σ H M vs l Q rp rs hp
  cases rs with
  | nil => exact hp.elim
  | cons r t =>
    cases t with
    | nil => exact hp.elim
    | cons r' t' =>
      cases t' with
      | nil => exact h Fr B as σ H M _ _ _ _ Q rp r r' hp
      | cons _ _ => exact hp.elim
/-- len -/
def lenE (x : D) : Ev D := match x with
  | .str z => if z.length ≤ sizeLine then Ev.ret (.int z.length) else Ev.no
  | _ => (sq x).bnd fun l => Ev.ret (.int l.length)
theorem o_len : OpN X W (fun xs H Q => ∃ x n, xs = [x] ∧ LenV X.K x H n ∧ Q (.int n) H) (op1 lenE) := oN1 fun Fr B as σ H M v d Q rp r h => by
  have gen : Post B as (((sq d).bnd fun l => Ev.ret (.int l.length)) M) (kD X Fr Q) (kX X Fr W σ) → ∃ x n, [v] = [x] ∧ LenV X.K x H n ∧ Q (.int n) H := fun h => by
    obtain ⟨l, p, vs, rfl, hs, rs, h⟩ := h.sq rp r
    refine ⟨.ref p, l.length, rfl, ?_, (Post.ret (a := D.int l.length) h) _ H rp (.int _)⟩
    rcases hs with hs | hs
    · exact .inl ⟨vs, hs, rs.length.symm⟩
    · exact .inr ⟨vs, hs, rs.length.symm⟩
  cases r with
  | str z =>
    have h : Post B as ((if z.length ≤ sizeLine then Ev.ret (.int z.length) else Ev.no) M) (kD X Fr Q) (kX X Fr W σ) := h
    by_cases c : z.length ≤ sizeLine
    · rw [if_pos c] at h; exact ⟨_, _, rfl, ⟨c, rfl⟩, (Post.ret (a := D.int z.length) h) _ H rp (.int _)⟩
    · rw [if_neg c] at h; exact h.elim
  | _ => exact gen h
def eCall (op : List D → Ev D) (f : Lo → Ev (List D)) : Lo → Ev D := fun S => (f S).bnd op
def nCall (op : List D → Ev NR) (f : Lo → Ev (List D)) : Lo → Ev NR := fun S => (f S).bnd op
variable {es : List Expr} {p : Pos} {f : Lo → Ev (List D)}
theorem de_len (hg : Gl X "len") (hm : X.mg "len" = none) (ha : DA X W [e] f) (he : starEach [e] X.env = (false, eval e X.env) :: starEach [] X.env := by rfl) : DE X W (.Call (.Name "len" p) [e] [] pos) (eCall (op1 lenE) f) :=
  de_callB call_len o_len hg hm PySem.boot_len ha (by decide) (by decide) he
def minE : D → D → Ev D := iop fun i j => Ev.ret (.int (if j < i then j else i))
def maxE : D → D → Ev D := iop fun i j => Ev.ret (.int (if j > i then j else i))
theorem o_mm {g : Int → Int → Int} : OpN X W (fun xs H Q => ∃ i j, xs = [.int i, .int j] ∧ Q (.int (g i j)) H) (op2 (iop fun i j => Ev.ret (.int (g i j)))) := oN2 fun Fr B as σ H M v w d e Q rp r1 r2 h => by
  cases r1 <;> first | exact h.elim | skip
  cases r2 <;> first | exact h.elim | skip
  exact ⟨_, _, rfl, h.ret _ H rp (.int _)⟩
theorem de_min2 (hc : X.calm = true) (hg : Gl X "min") (hm : X.mg "min" = none) (ha : DA X W [a, b] f) (he : starEach [a, b] X.env = (false, eval a X.env) :: starEach [b] X.env := by rfl) (hpl : (backTo pos (starEach [b] X.env)).any (·.1) = false := by rfl) : DE X W (.Call (.Name "min" p) [a, b] [] pos) (eCall (op2 minE) f) :=
  de_callB (call_min2 hc) o_mm hg hm (by decide +kernel) ha (by decide) (by decide) he hpl
theorem de_max2 (hc : X.calm = true) (hg : Gl X "max") (hm : X.mg "max" = none) (ha : DA X W [a, b] f) (he : starEach [a, b] X.env = (false, eval a X.env) :: starEach [b] X.env := by rfl) (hpl : (backTo pos (starEach [b] X.env)).any (·.1) = false := by rfl) : DE X W (.Call (.Name "max" p) [a, b] [] pos) (eCall (op2 maxE) f) :=
  de_callB (call_max2 hc) o_mm hg hm (by decide +kernel) ha (by decide) (by decide) he hpl
def absE : D → Ev D
  | .int i => Ev.ret (.int (if i < 0 then -i else i))
  | _ => Ev.no
theorem de_abs (hg : Gl X "abs") (hm : X.mg "abs" = none) (ha : DA X W [e] f) (he : starEach [e] X.env = (false, eval e X.env) :: starEach [] X.env := by rfl) : DE X W (.Call (.Name "abs" p) [e] [] pos) (eCall (op1 absE) f) :=
  de_callB call_abs (oN1 fun Fr B as σ H M v d Q rp r h => by
    cases r <;> first | exact h.elim | skip
    exact ⟨_, rfl, h.ret _ H rp (.int _)⟩) hg hm (by decide +kernel) ha (by decide) (by decide) he
def sumE (x : D) : Ev D := (vw x).bnd fun p => match p.1 with
  | .lst => match intsOf p.2 with
    | some ns => Ev.ret (.int ns.sum)
    | none => Ev.no
  | _ => Ev.no
theorem de_sum (hc : X.calm = true) (hg : Gl X "sum") (hm : X.mg "sum" = none) (ha : DA X W [e] f) (he : starEach [e] X.env = (false, eval e X.env) :: starEach [] X.env := by rfl) : DE X W (.Call (.Name "sum" p) [e] [] pos) (eCall (op1 sumE) f) :=
  de_callB (cr_sum hc) (oN1 fun Fr B as σ H M v d Q rp r h => by
    obtain ⟨t, l, p, vs, rfl, fc, rs, h, _⟩ := Post.vw (d := d) h rp r
    cases t <;> first | exact h.elim | skip
    dsimp only at h
    cases q : intsOf l with
    | none => rw [q] at h; exact h.elim
    | some ns =>
      rw [q] at h
      rw [intsOf_eq q] at rs
      have e := rs.ints
      subst e
      exact ⟨p, ns, rfl, SqL.of fc, h.ret _ H rp (.int _)⟩) hg hm (by decide +kernel) ha (by decide) (by decide) he
def allE (x : D) : Ev D := (vw x).bnd fun p => match p.1 with
  | .lst => match blsOf p.2 with
    | some ns => Ev.ret (.bl (ns.all id))
    | none => Ev.no
  | _ => Ev.no
def anyE (x : D) : Ev D := (vw x).bnd fun p => match p.1 with
  | .lst => match blsOf p.2 with
    | some ns => Ev.ret (.bl (ns.any id))
    | none => Ev.no
  | _ => Ev.no
theorem de_all (hc : X.calm = true) (hg : Gl X "all") (hm : X.mg "all" = none) (ha : DA X W [e] f) (he : starEach [e] X.env = (false, eval e X.env) :: starEach [] X.env := by rfl) : DE X W (.Call (.Name "all" p) [e] [] pos) (eCall (op1 allE) f) :=
  de_callB (cr_all hc) (oN1 fun Fr B as σ H M v d Q rp r h => by
    obtain ⟨t, l, p, vs, rfl, fc, rs, h, _⟩ := Post.vw (d := d) h rp r
    cases t <;> first | exact h.elim | skip
    dsimp only at h
    cases q : blsOf l with
    | none => rw [q] at h; exact h.elim
    | some ns =>
      rw [q] at h
      rw [blsOf_eq q] at rs
      have e := rs.bls
      subst e
      exact ⟨p, ns, rfl, SqL.of fc, h.ret _ H rp (.bl _)⟩) hg hm (by decide +kernel) ha (by decide) (by decide) he
theorem de_any (hc : X.calm = true) (hg : Gl X "any") (hm : X.mg "any" = none) (ha : DA X W [e] f) (he : starEach [e] X.env = (false, eval e X.env) :: starEach [] X.env := by rfl) : DE X W (.Call (.Name "any" p) [e] [] pos) (eCall (op1 anyE) f) :=
  de_callB (cr_any hc) (oN1 fun Fr B as σ H M v d Q rp r h => by
    obtain ⟨t, l, p, vs, rfl, fc, rs, h, _⟩ := Post.vw (d := d) h rp r
    cases t <;> first | exact h.elim | skip
    dsimp only at h
    cases q : blsOf l with
    | none => rw [q] at h; exact h.elim
    | some ns =>
      rw [q] at h
      rw [blsOf_eq q] at rs
      have e := rs.bls
      subst e
      exact ⟨p, ns, rfl, SqL.of fc, h.ret _ H rp (.bl _)⟩) hg hm (by decide +kernel) ha (by decide) (by decide) he
/-- list(x), x a list or a tuple -/
def listN (x : D) : Ev NR := (sq x).bnd fun l => Ev.ret (.n .lst l)
theorem dn_list (hg : Gl X "list") (hm : X.mg "list" = none) (ha : DA X W [e] f) (he : starEach [e] X.env = (false, eval e X.env) :: starEach [] X.env := by rfl) : DN X W (.Call (.Name "list" p) [e] [] pos) (nCall (op1 listN) f) :=
  dn_callTy call_list_of (oNN1 fun Fr B as σ H M v d Q rp r h => by
    obtain ⟨l, p, vs, rfl, hs, rs, h⟩ := Post.sq (d := d) h rp r
    exact ⟨p, vs, rfl, hs, fun z hz => h.ret _ H z rp rs hz⟩) hg hm (by decide +kernel) ha (by decide) (by decide) he
/-- list(range(n)), list(range(a, b)) -/
def DR (X : Cx) (W : WX) (e : Expr) (f : Lo → Ev (Int × Int)) : Prop := ∃ t, PRg X e t ∧ ∀ Fr B as σ H S M (Q : Int → Int → Hp → Prop), RS (gx X) B as σ S → Rep (gx X) Fr B as H M →
  Post B as (f S M) (fun o M B as => ∀ H, Rep (gx X) Fr B as H M → Q o.1 o.2 H) (kX X Fr W σ) → t σ H Q
def r1E (f : Lo → Ev D) : Lo → Ev (Int × Int) := fun S => (f S).bnd fun x => match x with
  | .int n => Ev.ret (0, n)
  | _ => Ev.no
def r2E (f g : Lo → Ev D) : Lo → Ev (Int × Int) := fun S => (f S).bnd fun x => (g S).bnd fun y => match x, y with
  | .int m, .int n => Ev.ret (m, n)
  | _, _ => Ev.no
theorem dr_1 {g : Lo → Ev D} (hg : Gl X "range") (hm : X.mg "range" = none) (ha : DE X W a g) (na : starEach [a] X.env = (false, eval a X.env) :: starEach [] X.env := by rfl) : DR X W (.Call (.Name "range" p) [a] [] pos) (r1E g) := by
  obtain ⟨t, pa, s⟩ := ha
  refine ⟨_, prg_1 hg hm pa na, fun Fr B as σ H S M Q rs rp h => ?_⟩
  refine s Fr B as σ H S M _ rs rp (h.bnd.imp fun x M1 B1 as1 s1 p1 h1 v H1 rp1 r1 => ?_)
  cases r1 <;> first | exact h1.elim | skip
  exact ⟨_, rfl, h1.ret H1 rp1⟩
theorem dr_2 {g g' : Lo → Ev D} (hg : Gl X "range") (hm : X.mg "range" = none) (ha : DE X W a g) (hb : DE X W b g') (na : starEach [a, b] X.env = (false, eval a X.env) :: starEach [b] X.env := by rfl) (nb : starEach [b] X.env = (false, eval b X.env) :: starEach [] X.env := by rfl)
    (hp : (backTo pos (starEach [b] X.env)).any (·.1) = false := by rfl) : DR X W (.Call (.Name "range" p) [a, b] [] pos) (r2E g g') := by
  obtain ⟨t, pa, s⟩ := ha
  obtain ⟨t', pb, s'⟩ := hb
  refine ⟨_, prg_2 hg hm pa pb na nb hp, fun Fr B as σ H S M Q rs rp h => ?_⟩
  refine s Fr B as σ H S M _ rs rp (h.bnd.imp fun x M1 B1 as1 s1 p1 h1 v H1 rp1 r1 => ?_)
  refine s' Fr B1 as1 σ H1 S M1 _ (rs.mono s1 p1) rp1 (h1.bnd.imp fun y M2 B2 as2 s2 p2 h2 w H2 rp2 r2 => ?_)
  cases r1 <;> first | (cases r2 <;> exact h2.elim) | skip
  cases r2 <;> first | exact h2.elim | skip
  exact ⟨_, _, rfl, rfl, h2.ret H2 rp2⟩
def rgD (a b : Int) : List D := (List.range (b - a).toNat).map fun i => D.int (a + (i : Nat))
theorem Rs.rg {G : Gx} {B : Hp} {as : List Addr} (a b : Int) : Rs G B as (rgV a b) (rgD a b) := by
  have : ∀ l : List Nat, Rs G B as (l.map fun i => V.int (a + (i : Nat))) (l.map fun i => D.int (a + (i : Nat))) := fun l => by
    induction l with
    | nil => exact .nil
    | cons n l ih => exact .cons (.int _) ih
  exact this _
open Classical in
noncomputable def rgN (r : Int × Int) : Ev NR := if RgOk r.1 r.2 then Ev.ret (.n .lst (rgD r.1 r.2)) else Ev.no
theorem rgN_ok {r : Int × Int} (h : RgOk r.1 r.2) : rgN r = Ev.ret (.n .lst (rgD r.1 r.2)) := if_pos h
theorem rgN_no {r : Int × Int} (h : ¬ RgOk r.1 r.2) : rgN r = Ev.no := if_neg h
noncomputable def lrN (f : Lo → Ev (Int × Int)) : Lo → Ev NR := fun S => (f S).bnd rgN
theorem dn_listRg {g : Lo → Ev (Int × Int)} (hc : X.calm = true) (hg : Gl X "list") (hm : X.mg "list" = none) (he : DR X W e g) (na : starEach [e] X.env = (false, eval e X.env) :: starEach [] X.env := by rfl) : DN X W (.Call (.Name "list" p) [e] [] pos) (lrN g) := by
  obtain ⟨t, pa, s⟩ := he
  refine ⟨_, pe_listRg hc hg hm pa na, fun Fr B as σ H S M Q rs rp h => ?_⟩
  refine s Fr B as σ H S M _ rs rp (h.bnd.imp fun r M1 B1 as1 s1 p1 h1 H1 rp1 => ?_)
  by_cases c : RgOk r.1 r.2
  · rw [rgN_ok c] at h1; exact ⟨c, fun z hz => h1.ret _ H1 z rp1 (Rs.rg _ _) hz⟩
  · rw [rgN_no c] at h1; exact h1.elim
/-- in, not in a sequence of flat things -/
def inE (neg : Bool) (x y : D) : Ev D := (sq y).bnd fun l => match toV x, toVs l with
  | some v, some vs => Ev.ret (.bl (if neg then !inV v vs else inV v vs))
  | _, _ => Ev.no
theorem o_in {neg : Bool} : Op2 X W (rIn X.K neg) (inE neg) := by
  intro Fr B as σ H M v w x y Q rp r1 r2 h
  obtain ⟨l, p, vs, rfl, hs, rs, h⟩ := Post.sq (d := y) h rp r2
  cases q1 : toV x with
  | none => rw [q1] at h; exact h.elim
  | some u =>
    cases q2 : toVs l with
    | none => rw [q1, q2] at h; exact h.elim
    | some us =>
      rw [q1, q2] at h
      obtain ⟨e1, f1⟩ := r1.toV q1
      obtain ⟨e2, f2⟩ := rs.toVs q2
      subst e1; subst e2
      exact ⟨p, vs, rfl, hs, f1, f2, (Post.ret (a := D.bl (if neg then !inV v vs else inV v vs)) h) _ H rp (.bl _)⟩
theorem de_in (ha : DE X W a fa) (hb : DE X W b fb) (hm : behindInMarks .In b = false := by rfl) : DE X W (.Compare a [.In] [b] pos) (e2 (inE false) fa fb) := de_cmp op_in_seq o_in ha hb hm
theorem de_notIn (ha : DE X W a fa) (hb : DE X W b fb) (hm : behindInMarks .NotIn b = false := by rfl) : DE X W (.Compare a [.NotIn] [b] pos) (e2 (inE true) fa fb) := de_cmp op_notIn_seq o_in ha hb hm
theorem dt_in (ha : DE X W a fa) (hb : DE X W b fb) (hm : behindInMarks .In b = false := by rfl) : DT X W (.Compare a [.In] [b] pos) (eB (e2 (inE false) fa fb)) := dt_cmp op_in_seq o_in ha hb hm
theorem dt_notIn (ha : DE X W a fa) (hb : DE X W b fb) (hm : behindInMarks .NotIn b = false := by rfl) : DT X W (.Compare a [.NotIn] [b] pos) (eB (e2 (inE true) fa fb)) := dt_cmp op_notIn_seq o_in ha hb hm
end
end DL

set_option Elab.async false
set_option linter.all false
set_option maxRecDepth 100000
set_option maxHeartbeats 4000000
/-! DL4: targets, statements, loops, comprehensions, freezing. -/
namespace DL
open PySem L2
section
variable {X : Cx} {W : WX} {e a b c : Expr} {pos : Pos}
/-! ### targets -/
def kG (X : Cx) (Fr : Hp) (σ : St) (ps : List Nat) (Q : St → Hp → Prop) : Lo → Store → Hp → List Addr → Prop := fun S M B as => ∀ σ' H, Rep (gx X) Fr B as H M → RS (gx X) B as σ' S → (∀ j, j ∉ ps → σ'[j]? = σ[j]?) → σ'.length = σ.length → Q σ' H
def DG (X : Cx) (W : WX) (tg : Expr) (ps : List Nat) (g : D → Lo → Ev Lo) : Prop := ∃ t, PG X tg t ∧ ∀ Fr B as σ H S M v d Q, RS (gx X) B as σ S → Rep (gx X) Fr B as H M → R (gx X) B as v d →
  Post B as (g d S M) (kG X Fr σ ps Q) (fun _ _ _ _ _ => False) → t v σ H Q
def DGs (X : Cx) (W : WX) (tgs : List Expr) (ps : List Nat) (g : List D → Lo → Ev Lo) : Prop := ∃ t, PGs X tgs t ∧ ∀ Fr B as σ H S M vs l Q, RS (gx X) B as σ S → Rep (gx X) Fr B as H M → Rs (gx X) B as vs l →
  Post B as (g l S M) (kG X Fr σ ps Q) (fun _ _ _ _ _ => False) → t vs σ H Q
def gNm (i : Nat) : D → Lo → Ev Lo := fun d S => Ev.ret (S.set i (some d))
def gNl : List D → Lo → Ev Lo := fun l S => match l with
  | [] => Ev.ret S
  | _ => Ev.no
def gCn (g : D → Lo → Ev Lo) (gs : List D → Lo → Ev Lo) : List D → Lo → Ev Lo := fun l S => match l with
  | d :: r => (g d S).bnd fun S' => gs r S'
  | [] => Ev.no
def gTp (n : Nat) (gs : List D → Lo → Ev Lo) : D → Lo → Ev Lo := fun d S => (vw d).bnd fun p => match p.1 with
  | .tup => if p.2.length = n then gs p.2 S else Ev.no
  | _ => Ev.no
theorem dg_name {i : Nat} {x : Str} (hN : X.N.Nodup) (hi : X.N[i]? = some x) (hx : Loc X.env.scope x) (hf : X.fn x = true ∨ X.env.scope.names.lookup x = some .local := by first | exact .inl rfl | exact .inr rfl | assumption) : DG X W (.Name x pos) [i] (gNm i) := by
  refine ⟨_, pg_name hN hi hx hf, fun Fr B as σ H S M v d Q rs rp r h => ?_⟩
  exact h.ret _ H rp (rs.set r i) (fun j hj => by
    simp at hj
    rw [List.getElem?_set_ne (Ne.symm hj)]) (by simp)
theorem dgs_nil : DGs X W [] [] gNl := ⟨_, pgs_nil, fun Fr B as σ H S M vs l Q rs rp r h => by
  cases r with
  | nil => exact ⟨rfl, h.ret _ H rp rs (fun _ _ => rfl) rfl⟩
  | cons _ _ => exact h.elim⟩
theorem dgs_cons {es : List Expr} {ps qs : List Nat} {g : D → Lo → Ev Lo} {gs : List D → Lo → Ev Lo} (h1 : DG X W e ps g) (h2 : DGs X W es qs gs) (hs : (assignEach (e :: es) X.env).map (·.2) = assign e X.env :: (assignEach es X.env).map (·.2) := by rfl) : DGs X W (e :: es) (ps ++ qs) (gCn g gs) := by
  obtain ⟨t, p, s⟩ := h1
  obtain ⟨t', p', s'⟩ := h2
  refine ⟨_, pgs_cons p p' hs, fun Fr B as σ H S M vs l Q rs rp r h => ?_⟩
  cases r with
  | nil => exact h.elim
  | cons r rr =>
    refine ⟨_, _, rfl, s Fr B as σ H S M _ _ _ rs rp r ((Post.bnd h).imp fun S1 M1 B1 as1 s1 p1 h1 σ1 H1 rp1 rs1 k1 l1 => ?_)⟩
    refine s' Fr B1 as1 σ1 H1 S1 M1 _ _ Q rs1 rp1 (rr.mono s1 p1) (h1.imp fun S2 M2 B2 as2 s2 p2 h2 σ2 H2 rp2 rs2 k2 l2 => ?_)
    refine h2 σ2 H2 rp2 rs2 (fun j hj => ?_) (l2.trans l1)
    simp at hj
    rw [k2 j hj.2, k1 j hj.1]
theorem dg_tup {es : List Expr} {k : Nat} {ps : List Nat} {gs : List D → Lo → Ev Lo} {n : Nat} (hc : X.calm = true) (h : DGs X W es ps gs) (hn : (assignEach es X.env).length = n := by rfl) (hst : (assignEach es X.env).findIdx? (·.1) = none := by rfl) : DG X W (.Tuple es k pos) ps (gTp n gs) := by
  obtain ⟨t, p, s⟩ := h
  refine ⟨_, pg_tup hc p hn hst, fun Fr B as σ H S M v d Q rs rp r h => ?_⟩
  obtain ⟨t, l, q, vs, rfl, fc, rs2, h, _⟩ := Post.vw (d := d) h rp r
  cases t <;> first | exact h.elim | skip
  dsimp only at h
  by_cases c : l.length = n
  · rw [if_pos c] at h
    exact ⟨q, vs, rfl, fc, rs2.length.trans c, s Fr B as σ H S M vs l Q rs rp rs2 h⟩
  · rw [if_neg c] at h; exact h.elim
/-! ### statements -/
/-- an expression's exceptions become flow -/
def Ev.fl (m : Ev D) (S : Lo) (k : D → Ev Fl) : Ev Fl := fun M => match m M with
  | .ok d M' => k d M'
  | .exc c d M' => .ok (.xc c d S) M'
  | .stuck => .stuck
def Ev.flB (m : Ev Bool) (S : Lo) (k : Bool → Ev Fl) : Ev Fl := fun M => match m M with
  | .ok d M' => k d M'
  | .exc c d M' => .ok (.xc c d S) M'
  | .stuck => .stuck
theorem ret_fl (d : D) (S : Lo) (k : D → Ev Fl) : (Ev.ret d).fl S k = k d := rfl
theorem ret_flB (d : Bool) (S : Lo) (k : Bool → Ev Fl) : Ev.flB (Ev.ret d) S k = k d := rfl
theorem fl_apply (m : Ev D) (S : Lo) (k : D → Ev Fl) (M : Store) : (m.fl S k) M = match m M with
  | .ok d M' => k d M'
  | .exc c d M' => .ok (.xc c d S) M'
  | .stuck => .stuck := rfl
theorem Post.fl {Fr B : Hp} {as : List Addr} {σ : St} {m : Ev D} {S : Lo} {k : D → Ev Fl} {M : Store} {Dn : Ends} (rs : RS (gx X) B as σ S) (h : Post B as ((m.fl S k) M) (kF X Fr W Dn) (fun _ _ _ _ _ => False)) :
    Post B as (m M) (fun d M' B' as' => Post B' as' (k d M') (kF X Fr W Dn) (fun _ _ _ _ _ => False)) (kX X Fr W σ) := by
  unfold Ev.fl at h
  cases e : m M with
  | ok a M' => rw [e] at h; exact fun B2 as2 e2 p2 => Post.mono (o := k a M') h e2 p2
  | exc c d M' => rw [e] at h; exact fun B2 as2 e2 p2 cls dx H rp xr => h B2 as2 e2 p2 σ cls dx H rp (rs.mono e2 p2) xr
  | stuck => rw [e] at h; exact h
theorem Post.flB {Fr B : Hp} {as : List Addr} {σ : St} {m : Ev Bool} {S : Lo} {k : Bool → Ev Fl} {M : Store} {Dn : Ends} (rs : RS (gx X) B as σ S) (h : Post B as ((Ev.flB m S k) M) (kF X Fr W Dn) (fun _ _ _ _ _ => False)) :
    Post B as (m M) (fun d M' B' as' => Post B' as' (k d M') (kF X Fr W Dn) (fun _ _ _ _ _ => False)) (kX X Fr W σ) := by
  unfold Ev.flB at h
  cases e : m M with
  | ok a M' => rw [e] at h; exact fun B2 as2 e2 p2 => Post.mono (o := k a M') h e2 p2
  | exc c d M' => rw [e] at h; exact fun B2 as2 e2 p2 cls dx H rp xr => h B2 as2 e2 p2 σ cls dx H rp (rs.mono e2 p2) xr
  | stuck => rw [e] at h; exact h
def sNo : Lo → Ev Fl := fun _ => Ev.no
def sNext : Lo → Ev Fl := fun S => Ev.ret (.nx S)
def sSeq (f g : Lo → Ev Fl) : Lo → Ev Fl := fun S => (f S).bnd fun fl => match fl with
  | .nx S' => g S'
  | o => Ev.ret o
def sAsg (f : Lo → Ev D) (g : D → Lo → Ev Lo) : Lo → Ev Fl := fun S => (f S).fl S fun d => (g d S).bnd fun S' => Ev.ret (.nx S')
def sExp (f : Lo → Ev D) : Lo → Ev Fl := fun S => (f S).fl S fun _ => Ev.ret (.nx S)
def sRet (f : Lo → Ev D) : Lo → Ev Fl := fun S => (f S).fl S fun d => Ev.ret (.rt d)
def sRetN : Lo → Ev Fl := fun _ => Ev.ret (.rt .non)
def sIf (c : Lo → Ev Bool) (f g : Lo → Ev Fl) : Lo → Ev Fl := fun S => Ev.flB (c S) S fun b => if b = true then f S else g S
variable {st : Stmt} {rest : List Stmt}
theorem ds_never : DS X W st sNo := ⟨_, ps_never, fun _ _ _ _ _ _ _ _ _ _ h => h⟩
theorem dss_never {sts : List Stmt} : DSs X W sts sNo := ⟨_, pss_never, fun _ _ _ _ _ _ _ _ _ _ h => h⟩
theorem dss_nil : DSs X W [] sNext := ⟨_, pss_nil, fun _ _ _ _ H S M D rs rp h => h.ret _ H rp rs⟩
theorem dss_cons {f g : Lo → Ev Fl} (h1 : DS X W st f) (h2 : DSs X W rest g) : DSs X W (st :: rest) (sSeq f g) := by
  obtain ⟨t, p, s⟩ := h1
  obtain ⟨t', p', s'⟩ := h2
  refine ⟨_, pss_cons p p', fun Fr B as σ H S M D rs rp h => ?_⟩
  refine s Fr B as σ H S M _ rs rp (h.bnd.imp fun fl M1 B1 as1 s1 p1 h1 => ?_)
  cases fl with
  | nx S' => exact fun σ' H' rp' rs' => s' Fr B1 as1 σ' H' S' M1 D rs' rp' h1
  | rt d => exact Post.ret (a := Fl.rt d) (k := kF X Fr W D) (x := fun _ _ _ _ _ => False) h1
  | bk S' => exact Post.ret (a := Fl.bk S') (k := kF X Fr W D) (x := fun _ _ _ _ _ => False) h1
  | ct S' => exact Post.ret (a := Fl.ct S') (k := kF X Fr W D) (x := fun _ _ _ _ _ => False) h1
  | xc c d S' => exact Post.ret (a := Fl.xc c d S') (k := kF X Fr W D) (x := fun _ _ _ _ _ => False) h1
theorem dss_one {f : Lo → Ev Fl} (h1 : DS X W st f) : DSs X W [st] f := by
  obtain ⟨t, p, s⟩ := h1
  exact ⟨_, pss_one p, s⟩
theorem ds_pass : DS X W (.Pass pos) sNext := ⟨_, ps_pass, fun _ _ _ _ H S M D rs rp h => h.ret _ H rp rs⟩
theorem ds_asg {tg : Expr} {ps : List Nat} {f : Lo → Ev D} {g : D → Lo → Ev Lo} (he : DE X W e f) (hg : DG X W tg ps g) (hs : swapsWithSole [tg] e pos.line X.env = pure false := by rfl) (hw : swappedStores [tg] e X.env = pure none := by rfl)
    (h1 : (assignEach [tg] X.env).map (·.2) = [assign tg X.env] := by rfl) : DS X W (.Assign [tg] e pos) (sAsg f g) := by
  obtain ⟨t, p, s⟩ := he
  obtain ⟨t', p', s'⟩ := hg
  refine ⟨_, ps_asg p p' hs hw h1, fun Fr B as σ H S M D rs rp h => ?_⟩
  refine s Fr B as σ H S M _ rs rp ((Post.fl rs h).imp fun d M1 B1 as1 s1 p1 h1 v H1 rp1 r1 => ?_)
  exact s' Fr B1 as1 σ H1 S M1 v d _ (rs.mono s1 p1) rp1 r1 (h1.bnd.imp fun S' M2 B2 as2 s2 p2 h2 σ' H' rp' rs' _ _ => h2.ret σ' H' rp' rs')
theorem ds_set {i : Nat} {x : Str} {f : Lo → Ev D} {pos' : Pos} (hN : X.N.Nodup) (hi : X.N[i]? = some x) (hx : Loc X.env.scope x) (he : DE X W e f) (hs : swapsWith e (some (.Name x pos')) pos.line X.env = pure false := by rfl) (hf : X.fn x = true ∨ X.env.scope.names.lookup x = some .local := by first | exact .inl rfl | exact .inr rfl | assumption) :
    DS X W (.Assign [.Name x pos'] e pos) (sAsg f (gNm i)) := by
  obtain ⟨t, p, s⟩ := he
  refine ⟨_, ps_set hN hi hx p hs hf, fun Fr B as σ H S M D rs rp h => ?_⟩
  refine s Fr B as σ H S M _ rs rp ((Post.fl rs h).imp fun d M1 B1 as1 s1 p1 h1 v H1 rp1 r1 => ?_)
  exact (Post.ret (a := Fl.nx (S.set i (some d))) h1) _ H1 rp1 ((rs.mono s1 p1).set r1 i)
theorem ds_expr {f : Lo → Ev D} (he : DE X W e f) (hs : swapsWith e none pos.line X.env = pure false := by rfl) : DS X W (.Expr e pos) (sExp f) := by
  obtain ⟨t, p, s⟩ := he
  refine ⟨_, ps_expr p hs, fun Fr B as σ H S M D rs rp h => ?_⟩
  exact s Fr B as σ H S M _ rs rp ((Post.fl rs h).imp fun d M1 B1 as1 s1 p1 h1 v H1 rp1 r1 => h1.ret σ H1 rp1 (rs.mono s1 p1))
theorem ds_ret {f : Lo → Ev D} (he : DE X W e f) : DS X W (.Return (some e) pos) (sRet f) := by
  obtain ⟨t, p, s⟩ := he
  refine ⟨_, ps_ret p, fun Fr B as σ H S M D rs rp h => ?_⟩
  exact s Fr B as σ H S M _ rs rp ((Post.fl rs h).imp fun d M1 B1 as1 s1 p1 h1 v H1 rp1 r1 => h1.ret v H1 rp1 r1)
theorem ds_retN : DS X W (.Return none pos) sRetN := ⟨_, ps_retN, fun _ _ _ _ H S M D rs rp h => h.ret _ H rp .non⟩
theorem ds_if {a b : List Stmt} {f : Lo → Ev Bool} {g h : Lo → Ev Fl} (hc : DT X W c f) (ha : DSs X W a g) (hb : DSs X W b h) : DS X W (.If c a b pos) (sIf f g h) := by
  obtain ⟨t, p, s⟩ := hc
  obtain ⟨t', p', s'⟩ := ha
  obtain ⟨t'', p'', s''⟩ := hb
  refine ⟨_, ps_if p p' p'', fun Fr B as σ H S M D rs rp h => ?_⟩
  refine s Fr B as σ H S M _ rs rp ((Post.flB rs h).imp fun x M1 B1 as1 s1 p1 h1 H1 rp1 => ?_)
  cases x with
  | true => rw [if_pos rfl] at h1 ⊢; exact s' Fr B1 as1 σ H1 S M1 _ (rs.mono s1 p1) rp1 h1
  | false => rw [if_neg Bool.false_ne_true] at h1 ⊢; exact s'' Fr B1 as1 σ H1 S M1 _ (rs.mono s1 p1) rp1 h1
/-! ### while -/
def whileL (c : Lo → Ev Bool) (g : Lo → Ev Fl) : Nat → Lo → Ev Fl
  | 0, _ => Ev.no
  | n + 1, S => Ev.flB (c S) S fun b => if b = true then (g S).bnd fun fl => match fl with
      | .nx S' => whileL c g n S'
      | .ct S' => whileL c g n S'
      | .bk S' => Ev.ret (.nx S')
      | o => Ev.ret o
    else Ev.ret (.nx S)
theorem ds_while {body : List Stmt} {f : Lo → Ev Bool} {g : Lo → Ev Fl} (N : Nat) (hp : PassesOwn (model X.prog X.w) X.A X.env X.xe) (hc : DT X W c f) (hb : DSs X W body g) : DS X W (.While c body [] pos) (whileL f g N) := by
  obtain ⟨t, p, s⟩ := hc
  obtain ⟨t', p', s'⟩ := hb
  refine ⟨_, ps_while hp p p', fun Fr B as σ H S M D rs rp h => ?_⟩
  refine ⟨fun m σ H => ∃ B' as' S' M', Rep (gx X) Fr B' as' H M' ∧ RS (gx X) B' as' σ S' ∧ Post B' as' (whileL f g m S' M') (kF X Fr W D) (fun _ _ _ _ _ => False), ⟨N, B, as, S, M, rp, rs, h⟩, ?_⟩
  rintro m σ H ⟨B, as, S, M, rp, rs, h⟩
  cases m with
  | zero => exact h.elim
  | succ m =>
    refine s Fr B as σ H S M _ rs rp ((Post.flB rs h).imp fun x M1 B1 as1 s1 p1 h1 H1 rp1 => ?_)
    cases x with
    | false => rw [if_neg Bool.false_ne_true] at h1 ⊢; exact h1.ret σ H1 rp1 (rs.mono s1 p1)
    | true =>
      rw [if_pos rfl] at h1 ⊢
      refine ⟨fun σ' H' => ∃ B' as' S' M', Rep (gx X) Fr B' as' H' M' ∧ RS (gx X) B' as' σ' S' ∧ Post B' as' (whileL f g m S' M') (kF X Fr W D) (fun _ _ _ _ _ => False), fun σ' H' q => ⟨m, Nat.lt_succ_self m, q⟩, ?_⟩
      refine s' Fr B1 as1 σ H1 S M1 _ (rs.mono s1 p1) rp1 (h1.bnd.imp fun fl M2 B2 as2 s2 p2 h2 => ?_)
      cases fl with
      | nx S' => exact fun σ' H' rp' rs' => ⟨B2, as2, S', M2, rp', rs', h2⟩
      | ct S' => exact fun σ' H' rp' rs' => ⟨B2, as2, S', M2, rp', rs', h2⟩
      | bk S' => exact fun σ' H' rp' rs' => h2.ret σ' H' rp' rs'
      | rt d => exact Post.ret (a := Fl.rt d) (k := kF X Fr W D) (x := fun _ _ _ _ _ => False) h2
      | xc c d S' => exact Post.ret (a := Fl.xc c d S') (k := kF X Fr W D) (x := fun _ _ _ _ _ => False) h2
/-! ### iteration -/
abbrev Gd := Option (Nat × (Tg × List D))
def grd (g : Gd) (M : Store) : Prop := match g with
  | none => True
  | some (n, c) => M[n]? = some c
open Classical in
noncomputable def chk {α : Type} (g : Gd) (k : Ev α) : Ev α := fun M => if grd g M then k M else .stuck
theorem chk_none {α : Type} (k : Ev α) : chk none k = k := by funext M; unfold chk grd; simp
theorem chk_ok {α : Type} {g : Gd} {M : Store} (h : grd g M) (k : Ev α) : chk g k M = k M := by unfold chk; rw [if_pos h]
theorem Post.chk {α : Type} {B : Hp} {as : List Addr} {g : Gd} {m : Ev α} {M : Store} {k : α → Store → Hp → List Addr → Prop} {x : Str → D → Store → Hp → List Addr → Prop} (h : Post B as (DL.chk g m M) k x) : grd g M ∧ Post B as (m M) k x := by
  unfold DL.chk at h
  by_cases c : grd g M
  · rw [if_pos c] at h; exact ⟨c, h⟩
  · rw [if_neg c] at h; exact h.elim
structure IterOk (X : Cx) (B : Hp) (as : List Addr) (J : It) (items : List D) (g : Gd) : Prop where
  stop : ∀ Fr B' as' H' M', Same B B' → as <+: as' → Rep (gx X) Fr B' as' H' M' → grd g M' → J.stop items.length H'
  go : ∀ i d, items[i]? = some d → ∀ Fr B' as' H' M', Same B B' → as <+: as' → Rep (gx X) Fr B' as' H' M' → grd g M' →
    J.go i H' ∧ ∀ x H'', J.yld i H' x H'' → ∃ B'', Same B' B'' ∧ Rep (gx X) Fr B'' as' H'' M' ∧ R (gx X) B'' as' x d
theorem IterOk.mono {B B' : Hp} {as as' : List Addr} {J : It} {items : List D} {g : Gd} (h : IterOk X B as J items g) (e : Same B B') (p : as <+: as') : IterOk X B' as' J items g :=
  ⟨fun Fr B2 as2 H2 M2 e2 p2 => h.stop Fr B2 as2 H2 M2 (e.trans e2) (p.trans p2), fun i d q Fr B2 as2 H2 M2 e2 p2 => h.go i d q Fr B2 as2 H2 M2 (e.trans e2) (p.trans p2)⟩
def DI (X : Cx) (W : WX) (tg iter : Expr) (f : Lo → Ev (List D × Gd)) : Prop := ∃ wi, PI X tg iter wi ∧ ∀ Fr B as σ H S M (R' : It → Hp → Prop), RS (gx X) B as σ S → Rep (gx X) Fr B as H M →
  Post B as (f S M) (fun r M' B' as' => ∀ J H', Rep (gx X) Fr B' as' H' M' → IterOk X B' as' J r.1 r.2 → R' J H') (kX X Fr W σ) → wi σ H R'
noncomputable def forL (tg : D → Lo → Ev Lo) (body : Lo → Ev Fl) (g : Gd) : List D → Lo → Ev Fl
  | [], S => chk g (Ev.ret (.nx S))
  | d :: ds, S => chk g ((tg d S).bnd fun S1 => (body S1).bnd fun fl => match fl with
      | .nx S' => forL tg body g ds S'
      | .ct S' => forL tg body g ds S'
      | .bk S' => Ev.ret (.nx S')
      | o => Ev.ret o)
def Ev.flG {α : Type} (m : Ev α) (S : Lo) (k : α → Ev Fl) : Ev Fl := fun M => match m M with
  | .ok d M' => k d M'
  | .exc c d M' => .ok (.xc c d S) M'
  | .stuck => .stuck
theorem ret_flG {α : Type} (d : α) (S : Lo) (k : α → Ev Fl) : Ev.flG (Ev.ret d) S k = k d := rfl
theorem Post.flG {α : Type} {Fr B : Hp} {as : List Addr} {σ : St} {m : Ev α} {S : Lo} {k : α → Ev Fl} {M : Store} {Dn : Ends} (rs : RS (gx X) B as σ S) (h : Post B as ((Ev.flG m S k) M) (kF X Fr W Dn) (fun _ _ _ _ _ => False)) :
    Post B as (m M) (fun d M' B' as' => Post B' as' (k d M') (kF X Fr W Dn) (fun _ _ _ _ _ => False)) (kX X Fr W σ) := by
  unfold Ev.flG at h
  cases e : m M with
  | ok a M' => rw [e] at h; exact fun B2 as2 e2 p2 => Post.mono (o := k a M') h e2 p2
  | exc c d M' => rw [e] at h; exact fun B2 as2 e2 p2 cls dx H rp xr => h B2 as2 e2 p2 σ cls dx H rp (rs.mono e2 p2) xr
  | stuck => rw [e] at h; exact h
noncomputable def sFor (fi : Lo → Ev (List D × Gd)) (tg : D → Lo → Ev Lo) (body : Lo → Ev Fl) : Lo → Ev Fl := fun S => Ev.flG (fi S) S fun r => forL tg body r.2 r.1 S
theorem ds_for {tg iter : Expr} {body : List Stmt} {ps : List Nat} {fi : Lo → Ev (List D × Gd)} {ft : D → Lo → Ev Lo} {fb : Lo → Ev Fl} (hp : PassesOwn (model X.prog X.w) X.A X.env X.xe) (hc : X.calm = true) (hi : DI X W tg iter fi) (hg : DG X W tg ps ft) (hb : DSs X W body fb)
    (hs : ∀ x, foldedSetIterable iter X.env x = pure x := by intro _; rfl) : DS X W (.For tg iter body [] pos) (sFor fi ft fb) := by
  obtain ⟨wi, pi, si⟩ := hi
  obtain ⟨tt, pt, st⟩ := hg
  obtain ⟨tb, pb, sb⟩ := hb
  refine ⟨_, ps_for hp hc pi pt pb hs, fun Fr B as σ H S M D rs rp h => ?_⟩
  refine si Fr B as σ H S M _ rs rp ((Post.flG rs h).imp fun r M1 B1 as1 s1 p1 h1 J H1 rp1 io => ?_)
  obtain ⟨items, g⟩ := r
  refine ⟨fun i m σ H => m = items.length - i ∧ i ≤ items.length ∧ ∃ B' as' S' M', Same B1 B' ∧ as1 <+: as' ∧ Rep (gx X) Fr B' as' H M' ∧ RS (gx X) B' as' σ S' ∧ Post B' as' (forL ft fb g (items.drop i) S' M') (kF X Fr W D) (fun _ _ _ _ _ => False),
    ⟨items.length, by simp, Nat.zero_le _, B1, as1, S, M1, Same.refl _, List.prefix_refl _, rp1, rs.mono s1 p1, h1⟩, ?_⟩
  rintro i m σ H ⟨rfl, hi, B2, as2, S2, M2, s2, p2, rp2, rs2, h2⟩
  by_cases hlt : i < items.length
  · have hd : items.drop i = items[i] :: items.drop (i + 1) := (List.drop_eq_getElem_cons hlt)
    rw [hd] at h2
    unfold forL at h2
    obtain ⟨hg, h2⟩ := h2.chk
    obtain ⟨hgo, hy⟩ := io.go i items[i] (List.getElem?_eq_getElem hlt) Fr B2 as2 H M2 s2 p2 rp2 hg
    refine .inr ⟨hgo, fun σ' H' => ∃ B' as' S' M', Same B1 B' ∧ as1 <+: as' ∧ Rep (gx X) Fr B' as' H' M' ∧ RS (gx X) B' as' σ' S' ∧ Post B' as' (forL ft fb g (items.drop (i + 1)) S' M') (kF X Fr W D) (fun _ _ _ _ _ => False),
      fun σ' H' q => ⟨items.length - (i + 1), by omega, rfl, hlt, q⟩, fun x H' y => ?_⟩
    obtain ⟨B3, s3, rp3, r3⟩ := hy x H' y
    have h3 := h2.mono s3 (List.prefix_refl _)
    refine st Fr B3 as2 σ H' S2 M2 x _ _ (rs2.mono s3 (List.prefix_refl _)) rp3 r3 (h3.bnd.imp fun S4 M4 B4 as4 s4 p4 h4 σ4 H4 rp4 rs4 _ _ => ?_)
    refine sb Fr B4 as4 σ4 H4 S4 M4 _ rs4 rp4 (h4.bnd.imp fun fl M5 B5 as5 s5 p5 h5 => ?_)
    cases fl with
    | nx S' => exact fun σ' H' rp' rs' => ⟨B5, as5, S', M5, s2.trans (s3.trans (s4.trans s5)), p2.trans (p4.trans p5), rp', rs', h5⟩
    | ct S' => exact fun σ' H' rp' rs' => ⟨B5, as5, S', M5, s2.trans (s3.trans (s4.trans s5)), p2.trans (p4.trans p5), rp', rs', h5⟩
    | bk S' => exact fun σ' H' rp' rs' => h5.ret σ' H' rp' rs'
    | rt d => exact Post.ret (a := Fl.rt d) (k := kF X Fr W D) (x := fun _ _ _ _ _ => False) h5
    | xc c d S' => exact Post.ret (a := Fl.xc c d S') (k := kF X Fr W D) (x := fun _ _ _ _ _ => False) h5
  · have e : i = items.length := by omega
    subst e
    rw [List.drop_length] at h2
    unfold forL at h2
    obtain ⟨hg, h2⟩ := h2.chk
    exact .inl ⟨io.stop Fr B2 as2 H M2 s2 p2 rp2 hg, h2.ret σ H rp2 rs2⟩
/-- what is walked: a list or a tuple -/
def iSq (K : PySem.W.Frag) (tl : TE) : TI := fun σ H R => tl σ H fun x H1 => (∃ a, x = .ref a ∧ (∃ xs, SqL K H1 a xs) ∧ R (Itl K a) H1) ∨ (∃ a, x = .ref a ∧ (∃ xs, SqT K H1 a xs) ∧ R (Itt K a) H1)
theorem pi_sq {tg l : Expr} {tl : TE} (hl : PE X l tl) : PI X tg l (iSq X.K tl) := by
  refine ⟨fun pins s σ H R I h => ?_⟩
  refine thn (hl.run pins s σ H _ I h) fun v s1 ⟨x, H1, I1, r1, q1⟩ => ?_
  rcases q1 with ⟨a, e, ⟨xs, hq⟩, q⟩ | ⟨a, e, ⟨xs, hq⟩, q⟩
  · subst e
    cases r1
    obtain ⟨its, rv, p, hz⟩ := I1.list hq
    refine wpAny_pyIter_list p.isList ?_
    refine ⟨s1.heap.objs.size, [s1.heap.objs.size], _, _, H1, rfl, I1.kept (t' := s1.toks) fun b o e => Heap.get?_push_of_some _ e, turn_list a _, ⟨_, Heap.get?_push_size _ rfl, rfl, rfl⟩, fun b hb => ?_, q⟩
    have e : b = s1.heap.objs.size := by simpa using hb
    subst e
    exact I1.fpOk (Nat.le_refl _) (I1.hok.fresh (Nat.le_refl _))
  · subst e
    cases r1
    obtain ⟨its, rv, p, hz⟩ := I1.tuple hq
    refine wpAny_pyIter_tuple (show s1.heap.IsTuple a its.toArray from p) ?_
    refine ⟨s1.heap.objs.size, [s1.heap.objs.size], _, _, H1, rfl, I1.kept (t' := s1.toks) fun b o e => Heap.get?_push_of_some _ e, turn_tuple a _, ⟨_, Heap.get?_push_size _ rfl, rfl, rfl⟩, fun b hb => ?_, q⟩
    have e : b = s1.heap.objs.size := by simpa using hb
    subst e
    exact I1.fpOk (Nat.le_refl _) (I1.hok.fresh (Nat.le_refl _))
/-- the items of a sequence, and what must stand while it is walked -/
def itSq (d : D) : Ev (List D × Gd) := (vw d).bnd fun p => if FC.isSeq p.1 = true then (match d with
  | .ref n => Ev.ret (p.2, some (n, p))
  | _ => Ev.ret (p.2, none)) else Ev.no
end
end DL

set_option Elab.async false
set_option linter.all false
set_option maxRecDepth 100000
set_option maxHeartbeats 4000000
/-! DL5: what is walked, comprehensions, freezing, cells written, calls. -/
namespace DL
open PySem L2
section
variable {X : Cx} {W : WX} {e a b c : Expr} {pos : Pos}
/-- the sequence as it stands at a later turn -/
theorem seq_later {Fr B B' : Hp} {as as' : List Addr} {H H' : Hp} {M M' : Store} {d : D} {t : Tg} {l : List D} {p : Addr} {vs : List V} (ht : FC.isSeq t = true)
    (r : R (gx X) B as (.ref p) d) (fc : FC (gx X) H p t vs) (rs : Rs (gx X) B as vs l) (rp : Rep (gx X) Fr B as H M)
    (cell : ∀ n, d = .ref n → as[n]? = some p ∧ M[n]? = some (t, l) ∧ MC (gx X) H p t vs) (fro : (∀ n, d ≠ .ref n) → FC (gx X) B p t vs)
    {Fr' : Hp} (e : Same B B') (pr : as <+: as') (rp' : Rep (gx X) Fr' B' as' H' M') (g : ∀ n, d = .ref n → M'[n]? = some (t, l)) :
    ∃ ws, FC (gx X) H' p t ws ∧ Rs (gx X) B' as' ws l := by
  cases d with
  | ref n =>
    obtain ⟨ha, hm, mc⟩ := cell n rfl
    obtain ⟨ws, mc', rs'⟩ := rp'.cell n p (t, l) (pre_get pr ha) (g n rfl)
    exact ⟨ws, mc'.fc, rs'⟩
  | _ => exact ⟨vs, (fro (fun n => by intro h; cases h)).sub (e.trans rp'.sub), rs.mono e pr⟩
theorem Post.vw2 {α : Type} {Fr B : Hp} {as : List Addr} {d : D} {f : Tg × List D → Ev α} {M : Store} {H : Hp} {v : V} {k : α → Store → Hp → List Addr → Prop} {x : Str → D → Store → Hp → List Addr → Prop} (h : Post B as (((DL.vw d).bnd f) M) k x)
    (rp : Rep (gx X) Fr B as H M) (r : R (gx X) B as v d) : ∃ t l p vs, v = .ref p ∧ FC (gx X) H p t vs ∧ Rs (gx X) B as vs l ∧ Post B as (f (t, l) M) k x ∧
      (∀ n, d = .ref n → as[n]? = some p ∧ M[n]? = some (t, l) ∧ MC (gx X) H p t vs) ∧ ((∀ n, d ≠ .ref n) → FC (gx X) B p t vs) := by
  cases r with
  | nd fc rs => exact ⟨_, _, _, _, rfl, fc.sub rp.sub, rs, h, (fun n e => by cases e), fun _ => fc⟩
  | ref ha =>
    obtain ⟨t, l, p, vs, e, fc, rs, h, c⟩ := h.vw rp (.ref ha)
    exact ⟨t, l, p, vs, e, fc, rs, h, c, fun q => absurd rfl (q _)⟩
  | _ => exact h.elim
def itSqK (d : D) (p : Tg × List D) : Ev (List D × Gd) := match d with
  | .ref n => Ev.ret (p.2, some (n, p))
  | _ => Ev.ret (p.2, none)
theorem iter_sq {Fr B : Hp} {as : List Addr} {H : Hp} {M : Store} {d : D} {t : Tg} {l : List D} {p : Addr} {vs : List V} {gd : Gd} (ht : FC.isSeq t = true)
    (r : R (gx X) B as (.ref p) d) (fc : FC (gx X) H p t vs) (rs : Rs (gx X) B as vs l) (rp : Rep (gx X) Fr B as H M)
    (cell : ∀ n, d = .ref n → as[n]? = some p ∧ M[n]? = some (t, l) ∧ MC (gx X) H p t vs) (fro : (∀ n, d ≠ .ref n) → FC (gx X) B p t vs) (hg : ∀ n, d = .ref n → gd = some (n, (t, l))) :
    (t = .tup → IterOk X B as (Itt X.K p) l gd) ∧ (t ≠ .tup → IterOk X B as (Itl X.K p) l gd) := by
  have later : ∀ {Fr' B' : Hp} {as' : List Addr} {H' : Hp} {M' : Store}, Same B B' → as <+: as' → Rep (gx X) Fr' B' as' H' M' → grd gd M' → ∃ ws, FC (gx X) H' p t ws ∧ Rs (gx X) B' as' ws l := fun e pr rp' g =>
    seq_later ht r fc rs rp cell fro e pr rp' fun n hn => by
      have := hg n hn
      subst this
      exact g
  refine ⟨fun z => ?_, fun z => ?_⟩
  · subst z
    refine ⟨fun Fr' B' as' H' M' e pr rp' g => ?_, fun i d' hd Fr' B' as' H' M' e pr rp' g => ?_⟩
    · obtain ⟨ws, fc', rs'⟩ := later e pr rp' g
      exact ⟨ws, fc', by rw [rs'.length]; exact Nat.le_refl _⟩
    · obtain ⟨ws, fc', rs'⟩ := later e pr rp' g
      obtain ⟨u, hu, ru⟩ := rs'.get hd
      refine ⟨⟨ws, u, fc', hu⟩, fun x H'' y => ?_⟩
      obtain ⟨e1, y⟩ := y
      subst e1
      have := y ws fc'
      rw [hu] at this; cases this
      exact ⟨B', Same.refl _, rp', ru⟩
  · have toL : ∀ {H' : Hp} {ws : List V}, FC (gx X) H' p t ws → SqL X.K H' p ws := fun {H' ws} f => by
      cases t with
      | lst => exact SqL.of f
      | slst => exact f
      | tup => exact absurd rfl z
      | dct ks => cases ht
      | obj c ns => cases ht
    refine ⟨fun Fr' B' as' H' M' e pr rp' g => ?_, fun i d' hd Fr' B' as' H' M' e pr rp' g => ?_⟩
    · obtain ⟨ws, fc', rs'⟩ := later e pr rp' g
      exact ⟨ws, toL fc', by rw [rs'.length]; exact Nat.le_refl _⟩
    · obtain ⟨ws, fc', rs'⟩ := later e pr rp' g
      obtain ⟨u, hu, ru⟩ := rs'.get hd
      refine ⟨⟨ws, u, toL fc', hu⟩, fun x H'' y => ?_⟩
      obtain ⟨e1, y⟩ := y
      subst e1
      have := y ws (toL fc')
      rw [hu] at this; cases this
      exact ⟨B', Same.refl _, rp', ru⟩
def iSeq (f : Lo → Ev D) : Lo → Ev (List D × Gd) := fun S => (f S).bnd itSq
theorem di_sq {tg : Expr} {f : Lo → Ev D} (h : DE X W e f) : DI X W tg e (iSeq f) := by
  obtain ⟨t, p, s⟩ := h
  refine ⟨_, pi_sq p, fun Fr B as σ H S M R' rs rp h => ?_⟩
  refine s Fr B as σ H S M _ rs rp (h.bnd.imp fun d M1 B1 as1 s1 p1 h1 v H1 rp1 r1 => ?_)
  obtain ⟨t, l, q, vs, rfl, fc, rs2, h1, c1, c2⟩ := Post.vw2 (d := d) h1 rp1 r1
  dsimp only at h1
  by_cases ht : FC.isSeq t = true
  · rw [if_pos ht] at h1
    have go : ∀ gd : Gd, Post B1 as1 (Ev.ret (l, gd) M1) (fun r M' B' as' => ∀ J H', Rep (gx X) Fr B' as' H' M' → IterOk X B' as' J r.1 r.2 → R' J H') (kX X Fr W σ) → (∀ n, d = .ref n → gd = some (n, (t, l))) →
        (∃ a, V.ref q = .ref a ∧ (∃ xs, SqL X.K H1 a xs) ∧ R' (Itl X.K a) H1) ∨ (∃ a, V.ref q = .ref a ∧ (∃ xs, SqT X.K H1 a xs) ∧ R' (Itt X.K a) H1) := fun gd h1 hg => by
      obtain ⟨i1, i2⟩ := iter_sq (gd := gd) ht r1 fc rs2 rp1 c1 c2 hg
      have k := h1.ret
      cases t with
      | lst => exact .inl ⟨q, rfl, ⟨vs, SqL.of fc⟩, k _ H1 rp1 (i2 (by intro z; cases z))⟩
      | slst => exact .inl ⟨q, rfl, ⟨vs, fc⟩, k _ H1 rp1 (i2 (by intro z; cases z))⟩
      | tup => exact .inr ⟨q, rfl, ⟨vs, fc⟩, k _ H1 rp1 (i1 rfl)⟩
      | dct ks => cases ht
      | obj c ns => cases ht
    cases d with
    | ref n => exact go _ h1 fun m hm => by cases hm; rfl
    | _ => exact go _ h1 fun m hm => by cases hm
  · rw [if_neg ht] at h1; exact h1.elim
/-- ranges -/
def RgI (i j : Int) : Prop := -(2 ^ 62) ≤ i ∧ i < 2 ^ 62 ∧ -(2 ^ 62) ≤ j ∧ j < 2 ^ 62
theorem iter_rg {B : Hp} {as : List Addr} (lo hi : Int) : IterOk X B as (Itr lo (hi - lo).toNat) (rgD lo hi) none := by
  refine ⟨fun Fr' B' as' H' M' e pr rp' g => ?_, fun i d hd Fr' B' as' H' M' e pr rp' g => ?_⟩
  · show (hi - lo).toNat ≤ (rgD lo hi).length
    unfold rgD; simp
  · unfold rgD at hd
    rw [List.getElem?_map] at hd
    cases q : (List.range (hi - lo).toNat)[i]? with
    | none => rw [q] at hd; cases hd
    | some j =>
      rw [q] at hd; cases hd
      obtain ⟨h1, h2⟩ := List.getElem?_eq_some_iff.mp q
      rw [List.getElem_range] at h2
      subst h2
      refine ⟨(show i < (hi - lo).toNat by simpa using h1), fun x H'' y => ?_⟩
      obtain ⟨e1, e2⟩ := y
      subst e1; subst e2
      exact ⟨B', Same.refl _, rp', .int _⟩
open Classical in
noncomputable def rngE (i j : Int) : Ev (List D × Gd) := if RgI i j then Ev.ret (rgD i j, none) else Ev.no
theorem rngE_ok {i j : Int} (h : RgI i j) : rngE i j = Ev.ret (rgD i j, none) := if_pos h
theorem rngE_no {i j : Int} (h : ¬ RgI i j) : rngE i j = Ev.no := if_neg h
noncomputable def r1K : D → Ev (List D × Gd)
  | .int n => rngE 0 n
  | _ => Ev.no
noncomputable def r2K (x y : D) : Ev (List D × Gd) := match x, y with
  | .int m, .int n => rngE m n
  | _, _ => Ev.no
noncomputable def iR1 (f : Lo → Ev (List D)) : Lo → Ev (List D × Gd) := fun S => (f S).bnd (op1 r1K)
noncomputable def iR2 (f : Lo → Ev (List D)) : Lo → Ev (List D × Gd) := fun S => (f S).bnd (op2 r2K)
theorem di_range1 {tg : Expr} {p : Pos} {f : Lo → Ev (List D)} (hg : Gl X "range") (hm : X.mg "range" = none) (ha : DA X W [a] f) (hs : starEach [a] X.env = [(false, eval a X.env)] := by rfl) : DI X W tg (.Call (.Name "range" p) [a] [] pos) (iR1 f) := by
  obtain ⟨t, pa, s⟩ := ha
  refine ⟨_, pi_range1 hg hm pa hs, fun Fr B as σ H S M R' rs rp h => ?_⟩
  refine s Fr B as σ H S M _ rs rp (h.bnd.imp fun l M1 B1 as1 s1 p1 h1 vs H1 rp1 r1 => ?_)
  cases r1 with
  | nil => exact h1.elim
  | cons r t =>
    cases t with
    | cons _ _ => exact h1.elim
    | nil =>
      cases r <;> first | exact h1.elim | skip
      rename_i n
      have h1 : Post B1 as1 (rngE 0 n M1) (fun r M' B' as' => ∀ J H', Rep (gx X) Fr B' as' H' M' → IterOk X B' as' J r.1 r.2 → R' J H') (kX X Fr W σ) := h1
      by_cases c : RgI 0 n
      · rw [rngE_ok c] at h1
        have := iter_rg (X := X) (B := B1) (as := as1) 0 n
        rw [Int.sub_zero] at this
        exact ⟨n, rfl, c.2.2.1, c.2.2.2, h1.ret _ H1 rp1 this⟩
      · rw [rngE_no c] at h1; exact h1.elim
theorem di_range2 {tg : Expr} {p : Pos} {f : Lo → Ev (List D)} (hg : Gl X "range") (hm : X.mg "range" = none) (ha : DA X W [a, b] f) (hs : starEach [a, b] X.env = [(false, eval a X.env), (false, eval b X.env)] := by rfl) (hs2 : starEach [b] X.env = [(false, eval b X.env)] := by rfl) : DI X W tg (.Call (.Name "range" p) [a, b] [] pos) (iR2 f) := by
  obtain ⟨t, pa, s⟩ := ha
  refine ⟨_, pi_range2 hg hm pa hs hs2, fun Fr B as σ H S M R' rs rp h => ?_⟩
  refine s Fr B as σ H S M _ rs rp (h.bnd.imp fun l M1 B1 as1 s1 p1 h1 vs H1 rp1 r1 => ?_)
  cases r1 with
  | nil => exact h1.elim
  | cons r t =>
    cases t with
    | nil => exact h1.elim
    | cons r' t =>
      cases t with
      | cons _ _ => exact h1.elim
      | nil =>
        cases r <;> first | (cases r' <;> exact h1.elim) | skip
        cases r' <;> first | exact h1.elim | skip
        rename_i m n
        have h1 : Post B1 as1 (rngE m n M1) (fun r M' B' as' => ∀ J H', Rep (gx X) Fr B' as' H' M' → IterOk X B' as' J r.1 r.2 → R' J H') (kX X Fr W σ) := h1
        by_cases c : RgI m n
        · rw [rngE_ok c] at h1
          exact ⟨m, n, rfl, c, h1.ret _ H1 rp1 (iter_rg m n)⟩
        · rw [rngE_no c] at h1; exact h1.elim
/-- enumerate(list) -/
def enD : Nat → List D → List D
  | _, [] => []
  | k, d :: l => .tup [.int (k : Nat), d] :: enD (k + 1) l
theorem enD_length : ∀ (l : List D) (k : Nat), (enD k l).length = l.length
  | [], _ => rfl
  | _ :: l, k => congrArg (· + 1) (enD_length l (k + 1))
theorem enD_get : ∀ (l : List D) (k i : Nat) (x : D), (enD k l)[i]? = some x → ∃ d, l[i]? = some d ∧ x = .tup [.int ((k + i : Nat) : Int), d]
  | [], _, _, _, h => by simp [enD] at h
  | d :: l, k, 0, x, h => by simp [enD] at h; exact ⟨d, rfl, by simpa using h.symm⟩
  | d :: l, k, i + 1, x, h => by
    simp only [enD, List.getElem?_cons_succ] at h
    obtain ⟨d', h1, h2⟩ := enD_get l (k + 1) i x h
    refine ⟨d', by simpa using h1, ?_⟩
    rw [h2, show k + 1 + i = k + (i + 1) by omega]
def lsOnly (d : D) (k : Tg × List D → Ev (List D × Gd)) : Ev (List D × Gd) := (vw d).bnd fun p => match p.1 with
  | .lst => k p
  | .slst => k p
  | _ => Ev.no
def iEn (f : Lo → Ev (List D)) : Lo → Ev (List D × Gd) := fun S => (f S).bnd (op1 fun d => (vw d).bnd fun p => match p.1 with
  | .lst => (match d with
    | .ref n => Ev.ret (enD 0 p.2, some (n, p))
    | _ => Ev.ret (enD 0 p.2, none))
  | _ => Ev.no)
theorem di_enum {p tpos : Pos} {elts : List Expr} {kk : Nat} {f : Lo → Ev (List D)} (hg : Gl X "enumerate") (hm : X.mg "enumerate" = none) (ha : DA X W [e] f) (hs : starEach [e] X.env = [(false, eval e X.env)] := by rfl) :
    DI X W (.Tuple elts kk tpos) (.Call (.Name "enumerate" p) [e] [] pos) (iEn f) := by
  obtain ⟨t, pa, s⟩ := ha
  refine ⟨_, pi_enum hg hm pa hs, fun Fr B as σ H S M R' rs rp h => ?_⟩
  refine s Fr B as σ H S M _ rs rp (h.bnd.imp fun l M1 B1 as1 s1 p1 h1 vs H1 rp1 r1 => ?_)
  cases r1 with
  | nil => exact h1.elim
  | cons r t =>
    cases t with
    | cons _ _ => exact h1.elim
    | nil =>
      rename_i d
      obtain ⟨t, l, q, vs, rfl, fc, rs2, h1, c1, c2⟩ := Post.vw2 (d := d) h1 rp1 r
      cases t <;> first | exact h1.elim | skip
      have go : ∀ gd : Gd, Post B1 as1 (Ev.ret (enD 0 l, gd) M1) (fun r M' B' as' => ∀ J H', Rep (gx X) Fr B' as' H' M' → IterOk X B' as' J r.1 r.2 → R' J H') (kX X Fr W σ) → (∀ n, d = .ref n → gd = some (n, (.lst, l))) →
          ∃ a xs, [V.ref q] = [.ref a] ∧ SqL X.K H1 a xs ∧ R' (Ite X.K a) H1 := fun gd h1 hg => by
        refine ⟨q, vs, rfl, SqL.of fc, h1.ret _ H1 rp1 ?_⟩
        have later : ∀ {Fr' B' : Hp} {as' : List Addr} {H' : Hp} {M' : Store}, Same B1 B' → as1 <+: as' → Rep (gx X) Fr' B' as' H' M' → grd gd M' → ∃ ws, FC (gx X) H' q .lst ws ∧ Rs (gx X) B' as' ws l := fun e pr rp' g =>
          seq_later rfl r fc rs2 rp1 c1 c2 e pr rp' fun n hn => by
            have := hg n hn
            subst this
            exact g
        refine ⟨fun Fr' B' as' H' M' e pr rp' g => ?_, fun i d' hd Fr' B' as' H' M' e pr rp' g => ?_⟩
        · obtain ⟨ws, fc', rs'⟩ := later e pr rp' g
          exact ⟨ws, SqL.of fc', by rw [rs'.length, enD_length]; exact Nat.le_refl _⟩
        · obtain ⟨ws, fc', rs'⟩ := later e pr rp' g
          obtain ⟨d0, hd0, rfl⟩ := enD_get l 0 i d' hd
          obtain ⟨u, hu, ru⟩ := rs'.get hd0
          refine ⟨⟨ws, u, SqL.of fc', hu⟩, fun x H'' y => ?_⟩
          obtain ⟨T, z, rfl, hT, rfl, y⟩ := y
          have := y ws (SqL.of fc')
          rw [hu] at this; cases this
          have nb := (rp'.fresh hT).1
          refine ⟨_, same_upd nb, rp'.froze hT, .nd (t := .tup) (SqT.of upd_same) (.cons ?_ (.cons (ru.mono (same_upd nb) (List.prefix_refl _)) .nil))⟩
          rw [Nat.zero_add]
          exact .int _
      cases d with
      | ref n => exact go _ h1 fun m hm => by cases hm; rfl
      | _ => exact go _ h1 fun m hm => by cases hm
/-! ### comprehensions -/
def wipeD (S : Lo) : List Nat → Lo
  | [] => S
  | v :: vs => (wipeD S vs).set v none
theorem wipe_get (σ : St) : ∀ (vs : List Nat) (j : Nat), (wipe σ vs)[j]? = if j ∈ vs then (if j < σ.length then some none else none) else σ[j]?
  | [], j => by simp [wipe]
  | v :: vs, j => by
    unfold wipe
    by_cases h : v = j
    · subst h
      rw [if_pos (by simp)]
      by_cases hl : v < σ.length
      · rw [List.getElem?_set_self (by rw [wipe_length]; exact hl), if_pos hl]
      · rw [List.getElem?_eq_none (by rw [List.length_set, wipe_length]; omega), if_neg hl]
    · rw [List.getElem?_set_ne h, wipe_get σ vs j]
      have : (j ∈ v :: vs) ↔ j ∈ vs := by simp [Ne.symm h]
      simp only [this]
theorem wipe_agree {σ σ' : St} {vs : List Nat} (hl : σ'.length = σ.length) (h : ∀ j, j ∉ vs → σ'[j]? = (wipe σ vs)[j]?) : wipe σ' vs = wipe σ vs := by
  apply List.ext_getElem?
  intro j
  rw [wipe_get, wipe_get]
  by_cases hj : j ∈ vs
  · rw [if_pos hj, if_pos hj, hl]
  · rw [if_neg hj, if_neg hj]
    have := h j hj
    rw [wipe_get, if_neg hj] at this
    exact this
theorem RS.wipe {G : Gx} {B : Hp} {as : List Addr} {σ : St} {S : Lo} (h : RS G B as σ S) : ∀ vs : List Nat, RS G B as (L2.wipe σ vs) (wipeD S vs)
  | [] => h
  | v :: vs => by
    have ih := RS.wipe h vs
    unfold L2.wipe wipeD
    refine ⟨by simp [ih.len], fun j d q => ?_⟩
    by_cases hv : v = j
    · subst hv
      by_cases hl : v < (wipeD S vs).length
      · rw [List.getElem?_set_self hl] at q; cases q
      · rw [List.getElem?_eq_none (by simpa using hl)] at q; cases q
    · rw [List.getElem?_set_ne hv] at q ⊢
      exact ih.at_ j d q
/-- tests of a clause -/
def DTs (X : Cx) (W : WX) (es : List Expr) (f : Lo → Ev Bool) : Prop := ∃ t, PTs X es t ∧ ∀ Fr B as σ H S M Q, RS (gx X) B as σ S → Rep (gx X) Fr B as H M → Post B as (f S M) (kB X Fr Q) (kX X Fr W σ) → t σ H Q
def tYesD : Lo → Ev Bool := fun _ => Ev.ret true
theorem dts_nil : DTs X W [] tYesD := ⟨_, pts_nil, fun _ _ _ _ H _ _ _ _ rp h => h.ret H rp⟩
theorem dts_one {f : Lo → Ev Bool} (h : DT X W e f) : DTs X W [e] f := by
  obtain ⟨t, p, s⟩ := h
  exact ⟨_, pts_one p, s⟩
def Ev.nox {α : Type} (m : Ev α) : Ev α := fun M => match m M with
  | .ok a M' => .ok a M'
  | _ => .stuck
theorem ret_nox {α : Type} (a : α) : Ev.nox (Ev.ret a) = Ev.ret a := rfl
theorem nox_ok {α : Type} {m : Ev α} {M M' : Store} {a : α} (h : m M = .ok a M') : Ev.nox m M = .ok a M' := by unfold Ev.nox; rw [h]
theorem Post.nox {α : Type} {B : Hp} {as : List Addr} {m : Ev α} {M : Store} {k : α → Store → Hp → List Addr → Prop} {x x' : Str → D → Store → Hp → List Addr → Prop} (h : Post B as (Ev.nox m M) k x) : Post B as (m M) k x' := by
  unfold Ev.nox at h
  cases e : m M with
  | ok a M' => rw [e] at h; exact h
  | exc c d M' => rw [e] at h; exact h.elim
  | stuck => rw [e] at h; exact h.elim
noncomputable def compL (tg : D → Lo → Ev Lo) (tt : Lo → Ev Bool) (te : Lo → Ev D) (g : Gd) (S : Lo) : List D → Ev (List D)
  | [] => chk g (Ev.ret [])
  | d :: ds => chk g ((Ev.nox (tg d S)).bnd fun S1 => (Ev.nox (tt S1)).bnd fun b => if b = true then (Ev.nox (te S1)).bnd fun y => (compL tg tt te g S ds).bnd fun ys => Ev.ret (y :: ys) else compL tg tt te g S ds)
noncomputable def nLc (fi : Lo → Ev (List D × Gd)) (tg : D → Lo → Ev Lo) (tt : Lo → Ev Bool) (te : Lo → Ev D) (vs : List Nat) : Lo → Ev NR := fun S => (fi S).bnd fun r => if r.1.length ≤ sizeLine then (compL tg tt te r.2 (wipeD S vs) r.1).bnd fun ys => Ev.ret (.n .lst ys) else Ev.no
abbrev W0 : WX := fun _ _ _ _ => False
/-- the canonical readings -/
def tE (X : Cx) (W : WX) (f : Lo → Ev D) : TE := fun σ H Q => ∃ Fr B as S M, RS (gx X) B as σ S ∧ Rep (gx X) Fr B as H M ∧ Post B as (f S M) (kD X Fr Q) (kX X Fr W σ)
def tT (X : Cx) (W : WX) (f : Lo → Ev Bool) : TT := fun σ H Q => ∃ Fr B as S M, RS (gx X) B as σ S ∧ Rep (gx X) Fr B as H M ∧ Post B as (f S M) (kB X Fr Q) (kX X Fr W σ)
def tG (X : Cx) (ps : List Nat) (g : D → Lo → Ev Lo) : TG := fun v σ H Q => ∃ Fr B as S M d, RS (gx X) B as σ S ∧ Rep (gx X) Fr B as H M ∧ R (gx X) B as v d ∧ Post B as (g d S M) (kG X Fr σ ps Q) (fun _ _ _ _ _ => False)
theorem DE.pe {f : Lo → Ev D} (h : DE X W e f) : PE X e (tE X W f) := by
  obtain ⟨t, p, s⟩ := h
  exact ⟨fun pins s' σ H Q I hw => let ⟨Fr, B, as, S, M, a, b, c⟩ := hw; p.run pins s' σ H Q I (s Fr B as σ H S M Q a b c)⟩
theorem DTs.pts {es : List Expr} {f : Lo → Ev Bool} (h : DTs X W es f) : PTs X es (tT X W f) := by
  obtain ⟨t, p, s⟩ := h
  exact ⟨fun pins s' σ H Q I hw => let ⟨Fr, B, as, S, M, a, b, c⟩ := hw; p.run pins s' σ H Q I (s Fr B as σ H S M Q a b c)⟩
theorem DG.pg {tg : Expr} {ps : List Nat} {g : D → Lo → Ev Lo} (h : DG X W tg ps g) : PG X tg (tG X ps g) := by
  obtain ⟨t, p, s⟩ := h
  exact ⟨fun pins s' σ H v u Q I r hw => let ⟨Fr, B, as, S, M, d, a, b, c, q⟩ := hw; p.run pins s' σ H v u Q I r (s Fr B as σ H S M v d Q a b c q)⟩
theorem drop_cons {α : Type} {l : List α} {i : Nat} (h : i < l.length) : l.drop i = l[i] :: l.drop (i + 1) := List.drop_eq_getElem_cons h
/-- the heap without the place p -/
def hole (H : Hp) (p : Addr) : Hp := fun b => if b = p then none else H b
theorem hole_at {H : Hp} {p : Addr} : hole H p p = none := by unfold hole; rw [if_pos rfl]
theorem hole_ne {H : Hp} {p b : Addr} (h : b ≠ p) : hole H p b = H b := by unfold hole; rw [if_neg h]
theorem upd_hole {H : Hp} {p : Addr} {o : HO} (h : H p = some o) : upd (hole H p) p o = H := by
  funext b
  by_cases hb : b = p
  · subst hb; rw [upd_same, h]
  · rw [upd_ne hb, hole_ne hb]
theorem hole_upd {H : Hp} {p : Addr} {o : HO} : hole (upd H p o) p = hole H p := by
  funext b
  by_cases hb : b = p
  · subst hb; rw [hole_at, hole_at]
  · rw [hole_ne hb, hole_ne hb, upd_ne hb]
theorem Rep.hole {G : Gx} {Fr B : Hp} {as : List Addr} {H : Hp} {M : Store} {p : Addr} (rp : Rep G Fr B as H M) (hB : B p = none) (hF : Fr p = none) (ha : p ∉ as) : Rep G Fr B as (hole H p) M := by
  refine ⟨fun b u q => ?_, fun b u q => ?_, rp.fout, rp.dis, rp.nd, rp.out, rp.len, fun n x c hx hc => ?_⟩
  · rw [hole_ne (ne_of_none q hB)]; exact rp.sub b u q
  · rw [hole_ne (ne_of_none q hF)]; exact rp.frm b u q
  · obtain ⟨vs, mc, rs⟩ := rp.cell n x c hx hc
    have hxp : x ≠ p := fun z => ha (by rw [← z]; exact List.mem_of_getElem? hx)
    exact ⟨vs, mc.keep fun o ho => by rw [hole_ne hxp]; exact ho, rs⟩
/-- in the frame Fr with o at p more -/
theorem Rep.inFrame {G : Gx} {Fr B : Hp} {as : List Addr} {H : Hp} {M : Store} {p : Addr} {o : HO} (rp : Rep G Fr B as H M) (hp : H p = some o) (hF : Fr p = none) (hB : B p = none) (ha : p ∉ as) : Rep G (upd Fr p o) B as H M := by
  refine ⟨rp.sub, fun b u q => ?_, fun a h => ?_, fun b u q => ?_, rp.nd, rp.out, rp.len, rp.cell⟩
  · by_cases hb : b = p
    · subst hb; rw [upd_same] at q; rw [← q]; exact hp
    · rw [upd_ne hb] at q; exact rp.frm b u q
  · rw [upd_ne fun z => ha (by rw [← z]; exact h)]; exact rp.fout a h
  · by_cases hb : b = p
    · subst hb; exact hB
    · rw [upd_ne hb] at q; exact rp.dis b u q
theorem Rep.outFrame {G : Gx} {Fr B : Hp} {as : List Addr} {H : Hp} {M : Store} {p : Addr} {o : HO} (rp : Rep G (upd Fr p o) B as H M) (hF : Fr p = none) : Rep G Fr B as H M := by
  refine ⟨rp.sub, fun b u q => rp.frm b u (by rw [upd_ne (ne_of_none q hF)]; exact q), fun a h => ?_, fun b u q => rp.dis b u (by rw [upd_ne (ne_of_none q hF)]; exact q), rp.nd, rp.out, rp.len, rp.cell⟩
  have := rp.fout a h
  by_cases hb : a = p
  · subst hb; exact hF
  · rw [upd_ne hb] at this; exact this
theorem Post.unfl {Fr B : Hp} {as : List Addr} {σ : St} {m : Ev NR} {op : NR → Ev D} {M : Store} {k : D → Store → Hp → List Addr → Prop} (h : Post B as ((m.bnd op) M) k (kX X Fr W σ)) :
    Post B as (m M) (fun r M' B' as' => Post B' as' (op r M') k (kX X Fr W σ)) (kX X Fr W σ) := h.bnd
theorem lc_sound {tg : Expr} {own : List (Str × Nat)} {ps : List Nat} {fi : Lo → Ev (List D × Gd)} {ft : D → Lo → Ev Lo} {fc : Lo → Ev Bool} {fe : Lo → Ev D} {wi : TI}
    (si : ∀ Fr B as σ H S M (R' : It → Hp → Prop), RS (gx X) B as σ S → Rep (gx X) Fr B as H M →
      Post B as (fi S M) (fun r M' B' as' => ∀ J H', Rep (gx X) Fr B' as' H' M' → IterOk X B' as' J r.1 r.2 → R' J H') (kX X Fr W σ) → wi σ H R') (hps : ∀ i ∈ ps, i ∈ own.map (·.2)) :
    ∀ Fr B as σ H S M Q, RS (gx X) B as σ S → Rep (gx X) Fr B as H M → Post B as (nLc fi ft fc fe (own.map (·.2)) S M) (kN X Fr Q) (kX X Fr W σ) → tLc wi (tG X ps ft) (tT X W0 fc) (tE X W0 fe) (own.map (·.2)) σ H Q := fun Fr B as σ H S M Q rs rp h => by
  refine si Fr B as σ H S M _ rs rp (h.bnd.imp fun r M1 B1 as1 s1 p1 h1 J H1 rp1 io p hp => ?_)
  obtain ⟨items, g⟩ := r
  dsimp only at h1 io
  by_cases hz : items.length ≤ sizeLine
  case neg => rw [if_neg hz] at h1; exact h1.elim
  rw [if_pos hz] at h1
  have hole0 : hole (upd H1 p (.lst [])) p = H1 := by
    funext b
    by_cases hb : b = p
    · subst hb; rw [hole_at, hp]
    · rw [hole_ne hb, upd_ne hb]
  refine ⟨fun i m H => m = items.length - i ∧ i ≤ items.length ∧ ∃ B' as' M' acc accV, Same B1 B' ∧ as1 <+: as' ∧ H p = some (.lst accV) ∧ Rep (gx X) Fr B' as' (hole H p) M' ∧ Rs (gx X) B' as' accV acc ∧ acc.length ≤ i ∧
      Post B' as' (((compL ft fc fe g (wipeD S (own.map (·.2))) (items.drop i)).bnd fun ys => Ev.ret (NR.n .lst (acc ++ ys))) M') (kN X Fr Q) (kX X Fr W σ),
    ⟨items.length, by simp, Nat.zero_le _, B1, as1, M1, [], [], Same.refl _, List.prefix_refl _, upd_same, by rw [hole0]; exact rp1, .nil, Nat.le_refl _, h1⟩, ?_⟩
  rintro i m H ⟨rfl, hi, B2, as2, M2, acc, accV, s2, p2, hH, rp2, rsA, hla, h2⟩
  have hF : Fr p = none := rp2.frm.free hole_at
  obtain ⟨hB, hA⟩ := rp2.fresh (p := p) hole_at
  have full : Rep (gx X) (upd Fr p (.lst accV)) B2 as2 H M2 := by
    have q := (rp2.laid (o := .lst accV) hole_at)
    rw [upd_hole hH] at q
    exact q.inFrame hH hF hB hA
  by_cases hlt : i < items.length
  · rw [drop_cons hlt] at h2
    unfold compL at h2
    obtain ⟨hg2, h2⟩ := h2.bnd.chk
    obtain ⟨hgo, hy⟩ := io.go i items[i] (List.getElem?_eq_getElem hlt) _ B2 as2 H M2 s2 p2 full hg2
    refine .inr ⟨hgo, fun H' => ∃ B' as' M' acc accV, Same B1 B' ∧ as1 <+: as' ∧ H' p = some (.lst accV) ∧ Rep (gx X) Fr B' as' (hole H' p) M' ∧ Rs (gx X) B' as' accV acc ∧ acc.length ≤ i + 1 ∧
      Post B' as' (((compL ft fc fe g (wipeD S (own.map (·.2))) (items.drop (i + 1))).bnd fun ys => Ev.ret (NR.n .lst (acc ++ ys))) M') (kN X Fr Q) (kX X Fr W σ), fun H' q => ⟨items.length - (i + 1), by omega, rfl, hlt, q⟩, fun x H' y => ?_⟩
    obtain ⟨B3, s3, rp3, r3⟩ := hy x H' y
    have h3 := h2.mono s3 (List.prefix_refl _)
    have rsW := ((rs.mono s1 p1).mono s2 p2).mono s3 (List.prefix_refl _) |>.wipe (own.map (·.2))
    refine ⟨_, B3, as2, _, M2, items[i], rsW, rp3, r3, (h3.bnd.nox (x' := fun _ _ _ _ _ => False)).imp fun S4 M4 B4 as4 s4 p4 h4 σ4 H4 rp4 rs4 ag l4 => ⟨wipe_agree (l4.trans (wipe_length _ _)) fun j hj => ag j fun z => hj (hps j z), ?_⟩⟩
    refine ⟨_, B4, as4, S4, M4, rs4, rp4, (h4.bnd.nox (x' := _)).imp fun bo M5 B5 as5 s5 p5 h5 H5 rp5 => ?_⟩
    have kp : ∀ {B' : Hp} {as' : List Addr} {H' : Hp} {M' : Store}, Rep (gx X) (upd Fr p (.lst accV)) B' as' H' M' → H' p = some (.lst accV) := fun q => q.frm p _ upd_same
    have hol : ∀ {B' : Hp} {as' : List Addr} {H' : Hp} {M' : Store}, Rep (gx X) (upd Fr p (.lst accV)) B' as' H' M' → Rep (gx X) Fr B' as' (hole H' p) M' := fun {B' as' H' M'} q => by
      refine (q.outFrame hF).hole (q.dis p _ upd_same) hF fun hz => ?_
      have := q.fout p hz
      rw [upd_same] at this; cases this
    cases bo with
    | false =>
      dsimp only
      rw [if_neg Bool.false_ne_true] at h5 ⊢
      exact ⟨B5, as5, M5, acc, accV, s2.trans (s3.trans (s4.trans s5)), p2.trans (p4.trans p5), kp rp5, hol rp5, rsA.mono (s3.trans (s4.trans s5)) (p4.trans p5), by omega, h5.unbnd⟩
    | true =>
      dsimp only
      rw [if_pos rfl] at h5 ⊢
      refine ⟨_, B5, as5, S4, M5, rs4.mono s5 p5, rp5, (h5.bnd.nox (x' := _)).imp fun yd M6 B6 as6 s6 p6 h6 yv H6 rp6 r6 => ?_⟩
      refine ⟨accV, kp rp6, by rw [rsA.length]; omega, B6, as6, M6, acc ++ [yd], accV ++ [yv], s2.trans (s3.trans (s4.trans (s5.trans s6))), p2.trans (p4.trans (p5.trans p6)), upd_same, by rw [hole_upd]; exact hol rp6, (rsA.mono (s3.trans (s4.trans (s5.trans s6))) (p4.trans (p5.trans p6))).app (.one r6), by simp; omega, ?_⟩
      have e : (fun ys => Ev.ret (NR.n .lst (acc ++ [yd] ++ ys))) = fun ys => (Ev.ret (yd :: ys)).bnd fun ys => Ev.ret (NR.n .lst (acc ++ ys)) := by
        funext ys
        rw [ret_bnd, List.append_assoc]
        rfl
      rw [e, ← bnd_bnd]
      exact h6.unbnd
  · have e : i = items.length := by omega
    subst e
    rw [List.drop_length] at h2
    unfold compL at h2
    obtain ⟨hg2, h2⟩ := h2.bnd.chk
    have h3 := h2.ret
    rw [List.append_nil] at h3
    refine .inl ⟨io.stop _ B2 as2 H M2 s2 p2 full hg2, ?_⟩
    have := h3.ret accV (hole H p) p rp2 rsA hole_at
    have e2 : upd (hole H p) p (hoT .lst accV) = H := upd_hole hH
    rw [e2] at this
    exact this
theorem dn_lc {elt tg iter : Expr} {ifs : List Expr} {scope : Scope} {own : List (Str × Nat)} {ps : List Nat} {fi : Lo → Ev (List D × Gd)} {ft : D → Lo → Ev Lo} {fc : Lo → Ev Bool} {fe : Lo → Ev D} (hc : X.calm = true) (hN : X.N.Nodup) (hi : DI X W tg iter fi) (ok : BlkOk X.N X.env.scope scope own)
    (hg : ∀ (s : Shared) (H : Hp) (C : Addr) (cl : List (Str × Addr)) (fp : List Addr), DG (X.blk s H scope (compEnvC scope cl C X.env) fp) W0 tg ps ft)
    (ht : ∀ (s : Shared) (H : Hp) (C : Addr) (cl : List (Str × Addr)) (fp : List Addr), DTs (X.blk s H scope (compEnvC scope cl C X.env) fp) W0 ifs fc)
    (he : ∀ (s : Shared) (H : Hp) (C : Addr) (cl : List (Str × Addr)) (fp : List Addr), DE (X.blk s H scope (compEnvC scope cl C X.env) fp) W0 elt fe)
    (hps : ∀ i ∈ ps, i ∈ own.map (·.2)) (hs : ∀ x, foldedSetIterable iter X.env x = pure x := by intro _; rfl) :
    DN X W (.ListComp elt [⟨tg, iter, ifs, 0⟩] scope pos) (nLc fi ft fc fe (own.map (·.2))) := by
  obtain ⟨wi, pi, si⟩ := hi
  exact ⟨_, pe_lc hc hN pi ok (g := tG X ps ft) (tt := tT X W0 fc) (te := tE X W0 fe) (fun s H C cl fp => (hg s H C cl fp).pg) (fun s H C cl fp => (ht s H C cl fp).pts) (fun s H C cl fp => (he s H C cl fp).pe) hs, lc_sound (tg := tg) si hps⟩
/-- y = [..] on one line, y a plain local: fz says whether the new list is frozen or a cell -/
theorem ds_setLc {ii : Nat} {y : Str} {py spos : Pos} {elt tg iter : Expr} {ifs : List Expr} {scope : Scope} {own : List (Str × Nat)} {ps : List Nat} {fi : Lo → Ev (List D × Gd)} {ft : D → Lo → Ev Lo} {fc : Lo → Ev Bool} {fe : Lo → Ev D} {op : NR → Ev D} (hop : ∀ {Fr B : Hp} {as : List Addr} {σ : St} {r : NR} {M : Store} {Q : VK}, Post B as (op r M) (kD X Fr Q) (kX X Fr W σ) → kN X Fr Q r M B as) (hc : X.calm = true) (hN : X.N.Nodup) (hy : X.N[ii]? = some y) (hyl : X.env.scope.names.lookup y = some .local)
    (hsw : swapsWith (.ListComp elt [⟨tg, iter, ifs, 0⟩] scope pos) (some (.Name y py)) spos.line X.env = pure true) (hi : DI X W tg iter fi) (ok : BlkOk X.N X.env.scope scope own)
    (hg : ∀ (s : Shared) (H : Hp) (C : Addr) (cl : List (Str × Addr)) (fp : List Addr), DG (X.blk s H scope (compEnvC scope cl C X.env) fp) W0 tg ps ft)
    (ht : ∀ (s : Shared) (H : Hp) (C : Addr) (cl : List (Str × Addr)) (fp : List Addr), DTs (X.blk s H scope (compEnvC scope cl C X.env) fp) W0 ifs fc)
    (he : ∀ (s : Shared) (H : Hp) (C : Addr) (cl : List (Str × Addr)) (fp : List Addr), DE (X.blk s H scope (compEnvC scope cl C X.env) fp) W0 elt fe)
    (hps : ∀ i ∈ ps, i ∈ own.map (·.2)) (hs : ∀ x, foldedSetIterable iter X.env x = pure x := by intro _; rfl) :
    DS X W (.Assign [.Name y py] (.ListComp elt [⟨tg, iter, ifs, 0⟩] scope pos) spos) (sAsg (fun S => (nLc fi ft fc fe (own.map (·.2)) S).bnd op) (gNm ii)) := by
  obtain ⟨wi, pi, si⟩ := hi
  refine ⟨_, ps_setLc hc hN hy hyl hsw pi ok (g := tG X ps ft) (tt := tT X W0 fc) (te := tE X W0 fe) (fun s H C cl fp => (hg s H C cl fp).pg) (fun s H C cl fp => (ht s H C cl fp).pts) (fun s H C cl fp => (he s H C cl fp).pe) hs, fun Fr B as σ H S M D rs rp h => ?_⟩
  refine lc_sound (tg := tg) si hps Fr B as σ H S M _ rs rp (((Post.fl rs h).unfl).imp fun r M1 B1 as1 s1 p1 h1 => hop (h1.imp fun d M2 B2 as2 s2 p2 h2 v H2 rp2 r2 => ?_))
  exact (Post.ret (a := Fl.nx (S.set ii (some d))) h2) _ H2 rp2 (((rs.mono s1 p1).mono s2 p2).set r2 ii)
end
end DL

set_option Elab.async false
set_option linter.all false
set_option maxRecDepth 100000
set_option maxHeartbeats 4000000
/-! DL6: freezing, cells written, defs and calls, objects. -/
namespace DL
open PySem L2
/-! ### freezing -/
mutual
def rlt (n : Nat) : D → Bool
  | .ref m => decide (m < n)
  | .nd _ l => rlts n l
  | _ => true
def rlts (n : Nat) : List D → Bool
  | [] => true
  | d :: l => rlt n d && rlts n l
end
mutual
theorem R.rlt {G : Gx} {B : Hp} {as : List Addr} : ∀ {v : V} {d : D}, R G B as v d → rlt as.length d = true
  | _, _, .non => by simp [DL.rlt]
  | _, _, .bl _ => by simp [DL.rlt]
  | _, _, .int _ => by simp [DL.rlt]
  | _, _, .str _ => by simp [DL.rlt]
  | _, _, .ty _ => by simp [DL.rlt]
  | _, _, .gl _ => by simp [DL.rlt]
  | _, _, .ref h => by
    have := (List.getElem?_eq_some_iff.mp h).1
    simp [DL.rlt, this]
  | _, _, .nd _ r => by
    have := Rs.rlts r
    simp [DL.rlt, this]
theorem Rs.rlts {G : Gx} {B : Hp} {as : List Addr} : ∀ {vs : List V} {l : List D}, Rs G B as vs l → rlts as.length l = true
  | _, _, .nil => by simp [DL.rlts]
  | _, _, .cons h r => by
    have h1 := R.rlt h
    have h2 := Rs.rlts r
    simp [DL.rlts, h1, h2]
end
mutual
theorem R.cut {G : Gx} {B : Hp} {as : List Addr} {n : Nat} : ∀ {v : V} {d : D}, R G B as v d → rlt n d = true → R G B (as.take n) v d
  | _, _, .non, _ => .non
  | _, _, .bl _, _ => .bl _
  | _, _, .int _, _ => .int _
  | _, _, .str _, _ => .str _
  | _, _, .ty _, _ => .ty _
  | _, _, .gl h, _ => .gl h
  | _, _, .ref h, q => by
    have : _ < n := of_decide_eq_true (by simpa [DL.rlt] using q)
    exact .ref (by rw [List.getElem?_take_of_lt this]; exact h)
  | _, _, .nd h r, q => .nd h (Rs.cut r (by simpa [DL.rlt] using q))
theorem Rs.cut {G : Gx} {B : Hp} {as : List Addr} {n : Nat} : ∀ {vs : List V} {l : List D}, Rs G B as vs l → rlts n l = true → Rs G B (as.take n) vs l
  | _, _, .nil, _ => .nil
  | _, _, .cons h r, q => by
    rename_i d l
    have q' : rlt n d = true ∧ rlts n l = true := by simpa [DL.rlts] using q
    exact .cons (R.cut h q'.1) (Rs.cut r q'.2)
end
mutual
def fz (M : Store) (n : Nat) (k : Nat) (d : D) : Option D := match d with
  | .ref m => if m < n then some (.ref m) else match k with
    | 0 => none
    | k + 1 => match M[m]? with
      | some (t, l) => (fzs M n k l).map (.nd t)
      | none => none
  | .nd t l => (fzs M n k l).map (.nd t)
  | .non => some .non
  | .bl b => some (.bl b)
  | .int i => some (.int i)
  | .str x => some (.str x)
  | .ty x => some (.ty x)
  | .gl x => some (.gl x)
  termination_by (k, sizeOf d)
def fzs (M : Store) (n : Nat) (k : Nat) (l : List D) : Option (List D) := match l with
  | [] => some []
  | d :: l => match fz M n k d, fzs M n k l with
    | some a, some b => some (a :: b)
    | _, _ => none
  termination_by (k, sizeOf l)
end
mutual
theorem fz_id (M : Store) (n k : Nat) : ∀ d : D, rlt n d = true → fz M n k d = some d
  | .ref m, h => by
    have : m < n := of_decide_eq_true (by simpa [rlt] using h)
    unfold fz; rw [if_pos this]
  | .nd t l, h => by
    unfold fz
    rw [fzs_id M n k l (by simpa [rlt] using h)]; rfl
  | .non, _ | .bl _, _ | .int _, _ | .str _, _ | .ty _, _ | .gl _, _ => by unfold fz; rfl
theorem fzs_id (M : Store) (n k : Nat) : ∀ l : List D, rlts n l = true → fzs M n k l = some l
  | [], _ => by unfold fzs; rfl
  | d :: l, h => by
    have q' : rlt n d = true ∧ rlts n l = true := by simpa [rlts] using h
    unfold fzs
    rw [fz_id M n k d q'.1, fzs_id M n k l q'.2]
end
open Classical in
noncomputable def bz (as : List Addr) (n : Nat) (B H : Hp) : Hp := fun a => if a ∈ as.drop n then H a else B a
theorem bz_same {G : Gx} {Fr B : Hp} {as : List Addr} {H : Hp} {M : Store} {n : Nat} (rp : Rep G Fr B as H M) : Same B (bz as n B H) := fun b o e => by
  unfold bz
  rw [if_neg fun z => by have := rp.out b (List.mem_of_mem_drop z); rw [e] at this; cases this]
  exact e
mutual
theorem fz_ok {G : Gx} {Fr B : Hp} {as : List Addr} {H : Hp} {M : Store} {n : Nat} (rp : Rep G Fr B as H M) (k : Nat) (d : D) (v : V) (d' : D) (r : R G B as v d) (h : fz M n k d = some d') : R G (bz as n B H) (as.take n) v d' := by
  cases r with
  | non => unfold fz at h; cases h; exact .non
  | bl b => unfold fz at h; cases h; exact .bl b
  | int b => unfold fz at h; cases h; exact .int b
  | str b => unfold fz at h; cases h; exact .str b
  | ty b => unfold fz at h; cases h; exact .ty b
  | gl b => unfold fz at h; cases h; exact .gl b
  | ref ha =>
    rename_i m a
    unfold fz at h
    by_cases hm : m < n
    · rw [if_pos hm] at h; cases h
      exact .ref (by rw [List.getElem?_take_of_lt hm]; exact ha)
    · rw [if_neg hm] at h
      cases k with
      | zero => cases h
      | succ k =>
        dsimp only at h
        cases q : M[m]? with
        | none => rw [q] at h; cases h
        | some c =>
          obtain ⟨t, l⟩ := c
          rw [q] at h
          dsimp only at h
          cases q2 : fzs M n k l with
          | none => rw [q2] at h; cases h
          | some l' =>
            rw [q2] at h; cases h
            obtain ⟨vs, mc, rs⟩ := rp.cell m a (t, l) ha q
            have ih := fzs_ok rp k l vs l' rs q2
            have hin : a ∈ as.drop n := by
              rw [List.mem_iff_getElem?]
              exact ⟨m - n, by rw [List.getElem?_drop, show n + (m - n) = m by omega]; exact ha⟩
            exact .nd (mc.keep (H' := bz as n B H) fun o ho => by unfold bz; rw [if_pos hin]; exact ho).fc ih
  | nd fc rs =>
    rename_i t p vs l
    unfold fz at h
    cases q2 : fzs M n k l with
    | none => rw [q2] at h; cases h
    | some l' =>
      rw [q2] at h; cases h
      exact .nd (fc.mono (bz_same rp)) (fzs_ok rp k l vs l' rs q2)
  termination_by (k, sizeOf d)
theorem fzs_ok {G : Gx} {Fr B : Hp} {as : List Addr} {H : Hp} {M : Store} {n : Nat} (rp : Rep G Fr B as H M) (k : Nat) (l : List D) (vs : List V) (l' : List D) (r : Rs G B as vs l) (h : fzs M n k l = some l') : Rs G (bz as n B H) (as.take n) vs l' := by
  cases r with
  | nil => unfold fzs at h; cases h; exact .nil
  | cons r rr =>
    rename_i v vs d l
    unfold fzs at h
    cases q1 : fz M n k d with
    | none => rw [q1] at h; cases h
    | some a =>
      cases q2 : fzs M n k l with
      | none => rw [q1, q2] at h; cases h
      | some b =>
        rw [q1, q2] at h; cases h
        exact .cons (fz_ok rp k d v a r q1) (fzs_ok rp k l vs b rr q2)
  termination_by (k, sizeOf l)
end
/-- the cells below n of M' are those of M, or hold no younger cell -/
def Kept (M M' : Store) : Prop := M.length ≤ M'.length ∧ ∀ i c, i < M.length → M'[i]? = some c → M[i]? = some c ∨ rlts M.length c.2 = true
open Classical in
noncomputable def fzE (m : Ev D) : Ev D := fun M => match m M with
  | .ok d M' => if Kept M M' then (match fz M' M.length 9 d with
    | some d' => .ok d' (M'.take M.length)
    | none => .stuck) else .stuck
  | .exc c d M' => .exc c d M'
  | .stuck => .stuck
section
variable {X : Cx} {W : WX} {e a b c : Expr} {pos : Pos}
theorem Rep.thaw {G : Gx} {Fr B B1 : Hp} {as as1 : List Addr} {H H1 : Hp} {M M1 : Store} (rp : Rep G Fr B as H M) (rp1 : Rep G Fr B1 as1 H1 M1) (p : as <+: as1) (k : Kept M M1) : Rep G Fr (bz as1 M.length B1 H1) as H1 (M1.take M.length) ∧ as1.take M.length = as := by
  have et : as1.take M.length = as := by
    obtain ⟨t, rfl⟩ := p
    rw [← rp.len, List.take_left]
  have nin : ∀ a ∈ as, a ∉ as1.drop M.length := fun a ha hd => by
    have nd := rp1.nd
    rw [← List.take_append_drop M.length as1, et, List.nodup_append] at nd
    exact nd.2.2 a ha a hd rfl
  refine ⟨⟨fun b o h => ?_, rp1.frm, fun a ha => rp1.fout a (p.subset ha), fun b o h => ?_, rp.nd, fun a ha => ?_, ?_, fun n a c ha hc => ?_⟩, et⟩
  · unfold bz at h
    split at h
    · exact h
    · exact rp1.sub b o h
  · unfold bz
    rw [if_neg fun z => by have := rp1.fout b (List.mem_of_mem_drop z); rw [h] at this; cases this]
    exact rp1.dis b o h
  · unfold bz
    rw [if_neg (nin a ha)]
    exact rp1.out a (p.subset ha)
  · rw [List.length_take, rp.len]; have := k.1; omega
  · have hn : n < M.length := by
      have := (List.getElem?_eq_some_iff.mp hc).1
      rw [List.length_take] at this; omega
    rw [List.getElem?_take_of_lt hn] at hc
    obtain ⟨vs, mc, rs⟩ := rp1.cell n a c (pre_get p ha) hc
    have hl : rlts M.length c.2 = true := by
      rcases k.2 n c hn hc with q | q
      · obtain ⟨vs', _, rs'⟩ := rp.cell n a c ha q
        have := rs'.rlts
        rw [rp.len] at this; exact this
      · exact q
    refine ⟨vs, mc, ?_⟩
    have := rs.cut hl
    rw [et] at this
    exact this.mono (bz_same rp1) (List.prefix_refl _)
noncomputable def eFz (f : Lo → Ev D) : Lo → Ev D := fun S => fzE (f S)
theorem DE.fz {f : Lo → Ev D} (h : DE X W e f) : DE X W e (eFz f) := by
  obtain ⟨t, p, s⟩ := h
  refine ⟨t, p, fun Fr B as σ H S M Q rs rp h => s Fr B as σ H S M Q rs rp ?_⟩
  unfold eFz fzE at h
  cases q : f S M with
  | stuck => rw [q] at h; exact h
  | exc c d M' => rw [q] at h; exact h
  | ok d M' =>
    rw [q] at h
    dsimp only at h
    by_cases k : Kept M M'
    · rw [if_pos k] at h
      cases q2 : DL.fz M' M.length 9 d with
      | none => rw [q2] at h; exact h.elim
      | some d' =>
        rw [q2] at h
        intro B1 as1 s1 p1 v H1 rp1 r1
        obtain ⟨rp2, et⟩ := rp.thaw rp1 p1 k
        have r2 := fz_ok rp1 9 d v d' r1 q2
        rw [et] at r2
        exact h _ as (s1.trans (bz_same rp1)) (List.prefix_refl _) v H1 rp2 r2
    · rw [if_neg k] at h; exact h.elim
theorem Kept.refl (M : Store) : Kept M M := ⟨Nat.le_refl _, fun _ _ _ h => .inl h⟩
theorem Kept.app (M N : Store) : Kept M (M ++ N) := ⟨by simp, fun i c hi h => .inl (by rw [List.getElem?_append_left hi] at h; exact h)⟩
theorem Kept.set_app {M N : Store} {j : Nat} {c : Tg × List D} (hc : rlts M.length c.2 = true) : Kept M (M.set j c ++ N) := by
  refine ⟨by simp, fun i x hi h => ?_⟩
  rw [List.getElem?_append_left (by simpa using hi)] at h
  by_cases hj : j = i
  · subst hj
    rw [List.getElem?_set_self hi] at h
    cases h
    exact .inr hc
  · rw [List.getElem?_set_ne hj] at h; exact .inl h
/-- what freezing gives: new cells behind the old store -/
theorem fzE_app {m : Ev D} {M N : Store} {d d' : D} (h : m M = .ok d (M ++ N)) (hz : fz (M ++ N) M.length 9 d = some d') : fzE m M = .ok d' M := by
  unfold fzE
  rw [h]
  dsimp only
  rw [if_pos (Kept.app M N), hz, List.take_left]
theorem fzE_set {m : Ev D} {M N : Store} {j : Nat} {c : Tg × List D} {d d' : D} (h : m M = .ok d (M.set j c ++ N)) (hc : rlts M.length c.2 = true) (hz : fz (M.set j c ++ N) M.length 9 d = some d') : fzE m M = .ok d' (M.set j c) := by
  unfold fzE
  rw [h]
  dsimp only
  rw [if_pos (Kept.set_app hc), hz]
  have : (M.set j c ++ N).take M.length = M.set j c := by
    rw [show M.length = (M.set j c).length by simp, List.take_left]
  rw [this]
theorem fzE_same {m : Ev D} {M : Store} {d : D} (h : m M = .ok d M) (hd : rlt M.length d = true) : fzE m M = .ok d M := by
  have := fzE_app (m := m) (M := M) (N := []) (d := d) (d' := d) (by rw [List.append_nil]; exact h) (fz_id _ _ _ d hd)
  exact this
/-! ### methods of a list cell -/
def isCellL : D → Ev Unit
  | .ref n => fun M => match M[n]? with
    | some (.lst, _) => .ok () M
    | _ => .stuck
  | _ => Ev.no
def cellM (op : List D → List D → Option (D × List D)) (x : D) (args : List D) : Ev D := match x with
  | .ref n => fun M => match M[n]? with
    | some (.lst, l) => match op l args with
      | some (d, l') => .ok d (M.set n (.lst, l'))
      | none => .stuck
    | _ => .stuck
  | _ => Ev.no
def eBm (op : D → List D → Ev D) (fo : Lo → Ev D) (fa : Lo → Ev (List D)) : Lo → Ev D := fun S => (fo S).bnd fun x => (isCellL x).bnd fun _ => (fa S).bnd fun l => op x l
theorem Post.isCellL {α : Type} {Fr B : Hp} {as : List Addr} {d : D} {f : Unit → Ev α} {M : Store} {H : Hp} {v : V} {k : α → Store → Hp → List Addr → Prop} {x : Str → D → Store → Hp → List Addr → Prop} (h : Post B as (((DL.isCellL d).bnd f) M) k x)
    (rp : Rep (gx X) Fr B as H M) (r : R (gx X) B as v d) : tyV X.K "list" v H ∧ Post B as (f () M) k x := by
  cases r with
  | ref ha =>
    rename_i n a
    unfold Ev.bnd DL.isCellL at h
    cases q : M[n]? with
    | none => simp only [q] at h; exact h.elim
    | some c =>
      obtain ⟨t, l⟩ := c
      simp only [q] at h
      obtain ⟨vs, mc, rs⟩ := rp.cell n a _ ha q
      cases t <;> first | exact h.elim | skip
      exact ⟨.inl ⟨rfl, vs, SqL.of mc⟩, h⟩
  | _ => exact h.elim
/-- a method by its rule: what it asks of the cell's values -/
def MethOk (X : Cx) (r : V → List V → Hp → VK → Prop) (op : List D → List D → Option (D × List D)) : Prop := ∀ G B as H p vs l args argV d l' Q, Rs G B as vs l → Rs G B as argV args → op l args = some (d, l') → H p = some (.lst vs) →
  (∀ v vs', R G B as v d → Rs G B as vs' l' → Q v (upd H p (.lst vs'))) → r (.ref p) argV H Q
theorem cellM_ok {Fr B : Hp} {as : List Addr} {σ : St} {H : Hp} {M : Store} {v : V} {x : D} {argV : List V} {args : List D} {Q : VK} {r : V → List V → Hp → VK → Prop} {op : List D → List D → Option (D × List D)} (mo : MethOk X r op) (rp : Rep (gx X) Fr B as H M) (rx : R (gx X) B as v x) (ra : Rs (gx X) B as argV args)
    (h : Post B as (cellM op x args M) (kD X Fr Q) (kX X Fr W σ)) : r v argV H Q := by
  cases rx with
  | ref ha =>
    rename_i n a
    unfold cellM at h
    dsimp only at h
    cases q : M[n]? with
    | none => simp only [q] at h; exact h.elim
    | some c =>
      obtain ⟨t, l⟩ := c
      simp only [q] at h
      obtain ⟨vs, mc, rs⟩ := rp.cell n a _ ha q
      cases t <;> first | exact h.elim | skip
      dsimp only at h
      cases q2 : op l args with
      | none => rw [q2] at h; exact h.elim
      | some y =>
        obtain ⟨d, l'⟩ := y
        rw [q2] at h
        refine mo (gx X) B as H a vs l args argV d l' Q rs ra q2 mc fun v vs' rv rvs => ?_
        exact h.ok v _ (rp.write (t := .lst) ha upd_same rvs) rv
  | _ => exact h.elim
theorem de_bm {o : Expr} {es : List Expr} {name : Str} {apos cpos : Pos} {id : String} {r : V → List V → Hp → VK → Prop} {op : List D → List D → Option (D × List D)} {fo : Lo → Ev D} {fa : Lo → Ev (List D)} (slot : Slot "list" name id) (hty : typeOf (.builtin id) = pure (.type "method_descriptor")) (hm : MtR X id r) (mo : MethOk X r op) (ho : DE X W o fo) (ha : DA X W (e :: es) fa)
    (hbase : attributeBase o name X.env (eval o X.env) = eval o X.env := by rfl)
    (hfew : ((backTo cpos (starEach (e :: es) X.env)).all (fun x => !x.1) && (backToKw cpos (keywordEach [] X.env)).all (fun x => x.1.isSome)
      && decide ((e :: es).length + ([] : List Keyword).length + (if ([] : List Keyword).isEmpty then 0 else 1) < 30)) = true := by rfl)
    (hline : (apos.endLine == cpos.line) = true := by rfl) (hs : starEach (e :: es) X.env = (false, eval e X.env) :: starEach es X.env := by rfl) (hplain : (backTo cpos (starEach es X.env)).any (·.1) = false := by rfl) :
    DE X W (.Call (.Attribute o name apos) (e :: es) [] cpos) (eBm (cellM op) fo fa) := by
  obtain ⟨t, p, s⟩ := ho
  obtain ⟨t', p', s'⟩ := ha
  refine ⟨_, pe_bm PySem.F.plainAttrs_list slot hty hm p p' hbase hfew hline hs hplain, fun Fr B as σ H S M Q rs rp h => ?_⟩
  refine s Fr B as σ H S M _ rs rp (h.bnd.imp fun x M1 B1 as1 s1 p1 h1 v H1 rp1 r1 => ?_)
  obtain ⟨ty, h1⟩ := h1.isCellL rp1 r1
  refine ⟨ty, s' Fr B1 as1 σ H1 S M1 _ (rs.mono s1 p1) rp1 (h1.bnd.imp fun l M2 B2 as2 s2 p2 h2 vs H2 rp2 r2 => ?_)⟩
  exact cellM_ok mo rp2 (r1.mono s2 p2) r2 h2
theorem de_bm0 {o : Expr} {name : Str} {apos cpos : Pos} {id : String} {r : V → List V → Hp → VK → Prop} {op : List D → List D → Option (D × List D)} {fo : Lo → Ev D} (slot : Slot "list" name id) (hty : typeOf (.builtin id) = pure (.type "method_descriptor")) (hm : MtR X id r) (mo : MethOk X r op) (ho : DE X W o fo)
    (hbase : attributeBase o name X.env (eval o X.env) = eval o X.env := by rfl) (hline : (apos.endLine == cpos.line) = true := by rfl) : DE X W (.Call (.Attribute o name apos) [] [] cpos) (eBm (cellM op) fo eA0) := by
  obtain ⟨t, p, s⟩ := ho
  refine ⟨_, pe_bm0 PySem.F.plainAttrs_list slot hty hm p hbase hline, fun Fr B as σ H S M Q rs rp h => ?_⟩
  refine s Fr B as σ H S M _ rs rp (h.bnd.imp fun x M1 B1 as1 s1 p1 h1 v H1 rp1 r1 => ?_)
  obtain ⟨ty, h1⟩ := h1.isCellL rp1 r1
  exact ⟨ty, cellM_ok mo rp1 r1 .nil h1⟩
def opAppend (l args : List D) : Option (D × List D) := match args with
  | [y] => if l.length < sizeLine then some (.non, l ++ [y]) else none
  | _ => none
def opClear (l args : List D) : Option (D × List D) := match args with
  | [] => some (.non, [])
  | _ => none
def opPop (l args : List D) : Option (D × List D) := match args with
  | [] => match l[l.length - 1]? with
    | some d => some (d, l.dropLast)
    | none => none
  | _ => none
theorem m_append : MethOk X rAppend opAppend := by
  intro G B as H p vs l args argV d l' Q rs ra ho hp k
  unfold opAppend at ho
  cases ra with
  | nil => cases ho
  | cons r t =>
    cases t with
    | cons _ _ => cases ho
    | nil =>
      dsimp only at ho
      by_cases c : l.length < sizeLine
      · rw [if_pos c] at ho; cases ho
        exact ⟨p, vs, _, rfl, rfl, hp, by rw [rs.length]; exact c, k _ _ .non (rs.app (.one r))⟩
      · rw [if_neg c] at ho; cases ho
theorem m_clear : MethOk X rClear opClear := by
  intro G B as H p vs l args argV d l' Q rs ra ho hp k
  cases ra with
  | nil => cases ho; exact ⟨p, vs, rfl, rfl, hp, k _ _ .non .nil⟩
  | cons r t => cases ho
theorem Rs.dropLast {G : Gx} {B : Hp} {as : List Addr} {vs : List V} {l : List D} (r : Rs G B as vs l) : Rs G B as vs.dropLast l.dropLast := by
  rw [List.dropLast_eq_take, List.dropLast_eq_take, r.length]
  exact r.take _
theorem m_pop : MethOk X rPop opPop := by
  intro G B as H p vs l args argV d l' Q rs ra ho hp k
  cases ra with
  | cons r t => cases ho
  | nil =>
    unfold opPop at ho
    dsimp only at ho
    cases q : l[l.length - 1]? with
    | none => rw [q] at ho; cases ho
    | some y =>
      rw [q] at ho; cases ho
      obtain ⟨v, hv, rv⟩ := rs.get q
      exact ⟨p, vs, v, rfl, rfl, hp, by rw [rs.length]; exact hv, k _ _ rv rs.dropLast⟩
/-- xs[i] = v -/
def setE (x i v : D) : Ev Unit := match x, i with
  | .ref n, .int k => fun M => match M[n]? with
    | some (.lst, l) => match ixN l.length k with
      | some j => .ok () (M.set n (.lst, l.set j v))
      | none => .stuck
    | _ => .stuck
  | _, _ => Ev.no
def gSet (fo fi : Lo → Ev D) : D → Lo → Ev Lo := fun d S => (Ev.nox (fo S)).bnd fun x => (Ev.nox (fi S)).bnd fun i => (setE x i d).bnd fun _ => Ev.ret S
theorem dg_sub {o i : Expr} {fo fi : Lo → Ev D} (ho : DE X W o fo) (hi : DE X W i fi)
    (ha : ∀ v, assign (.Subscript o i pos) X.env v = (do
      let ov ← holding [v] (eval o X.env)
      let iv ← holding [v, ov] (eval i X.env)
      standAt pos
      holding [v, ov, iv] (setItem ov iv v)
      release [v, ov, iv] []) := by intro _; rfl) : DG X W (.Subscript o i pos) [] (gSet fo fi) := by
  obtain ⟨t, p, s⟩ := ho
  obtain ⟨t', p', s'⟩ := hi
  refine ⟨_, pg_sub p p' set_list ha, fun Fr B as σ H S M v d Q rs rp r h => ?_⟩
  refine s Fr B as σ H S M _ rs rp ((h.bnd.nox (x' := _)).imp fun x M1 B1 as1 s1 p1 h1 ov H1 rp1 r1 => ?_)
  refine s' Fr B1 as1 σ H1 S M1 _ (rs.mono s1 p1) rp1 ((h1.bnd.nox (x' := _)).imp fun y M2 B2 as2 s2 p2 h2 iv H2 rp2 r2 => ?_)
  have rx := r1.mono s2 p2
  have rd := r.mono s1 p1 |>.mono s2 p2
  have rs2 := (rs.mono s1 p1).mono s2 p2
  cases rx <;> first | (cases r2 <;> exact h2.elim) | skip
  rename_i n a ha
  cases r2 <;> first | exact h2.elim | skip
  rename_i k
  have h2 := h2.bnd
  unfold setE at h2
  dsimp only at h2
  cases q : M2[n]? with
  | none => simp only [q] at h2; exact h2.elim
  | some c =>
    obtain ⟨t, l⟩ := c
    simp only [q] at h2
    obtain ⟨vs, mc, rsc⟩ := rp2.cell n a _ ha q
    cases t <;> first | exact h2.elim | skip
    dsimp only at h2
    cases q2 : ixN l.length k with
    | none => rw [q2] at h2; exact h2.elim
    | some j =>
      rw [q2] at h2
      refine ⟨a, vs, k, j, rfl, rfl, mc, by rw [rsc.length]; exact q2, ?_⟩
      exact (Post.ok h2).ret σ _ (rp2.write (t := .lst) ha upd_same (rsc.set rd j)) rs2 (fun _ _ => rfl) rfl
/-! ### defs -/
def spD (G : Gx) (n : Nat) (F : List D → Ev D) : Sp := fun vs H Q E => ∃ Fr B as M l, Rep G Fr B as H M ∧ Rs G B as vs l ∧ l.length = n ∧
  Post B as (F l M) (fun d M' B' as' => ∀ v H', Rep G Fr B' as' H' M' → R G B' as' v d → Q v H') (fun c d M' B' as' => ∀ cls dx H', Rep G Fr B' as' H' M' → XR G B' as' H' c d cls dx → E cls dx H')
def startD (N : Nat) (l : List D) : Lo := l.map some ++ List.replicate (N - l.length) none
def runF (N : Nat) (g : Lo → Ev Fl) : List D → Ev D := fun l => (Ev.nox (g (startD N l))).bnd fun fl => match fl with
  | .nx _ => Ev.ret .non
  | .rt d => Ev.ret d
  | .xc c d _ => fun M => .exc c d M
  | _ => Ev.no
abbrev WF (E : XK) : WX := fun c d _ H => E c d H
theorem RS.start {G : Gx} {B : Hp} {as : List Addr} {N : List Str} {vs : List V} {l : List D} (r : Rs G B as vs l) : RS G B as (L2.start N vs) (startD N.length l) := by
  refine ⟨by unfold L2.start startD; simp [r.length], fun i d h => ?_⟩
  unfold startD at h
  unfold L2.start
  by_cases hi : i < l.length
  · rw [List.getElem?_append_left (by simpa using hi), List.getElem?_map] at h
    cases q : l[i]? with
    | none => rw [q] at h; cases h
    | some e =>
      rw [q] at h; cases h
      obtain ⟨v, hv, rv⟩ := r.get q
      exact ⟨v, by rw [List.getElem?_append_left (by simpa [r.length] using hi), List.getElem?_map, hv]; rfl, rv⟩
  · rw [List.getElem?_append_right (by simpa using hi)] at h
    obtain ⟨h1, h2⟩ := List.getElem?_eq_some_iff.mp h
    rw [List.getElem_replicate] at h2
    cases h2
theorem fn_d {P : Program} {w : World} {K : PySem.W.Frag} {mg : Str → Option Value} {base : Heap} {x qual : Str} {params : Arguments} {body : List Stmt} {scope : Scope} {dvs : List V} {kws : List (Str × V)} {f : Addr} {fd : FuncData} {N ps : List Str} {k : Nat} {g : Lo → Ev Fl}
    (F : FunD K x qual params body scope dvs kws f fd) (S : FnScope N ps scope)
    (hb : ∀ (cdv : Value) (A : Around) (outer : List Env) (s : Shared) (H : Hp) (E : XK), Room k (A.deeper (PyProof.Rows.envOfC qual scope s.heap.objs.size f cdv)) → Takes (cxOf (L2.CX P w) P w K mg base N qual scope f cdv A outer s H E) (WF E) →
      DSs (cxOf (L2.CX P w) P w K mg base N qual scope f cdv A outer s H E) (WF E) body g) : FnOk P w K mg base (L2.CX P w) (k + 1) f fd ps (spD ⟨K, mg⟩ ps.length (runF N.length g)) := by
  refine F.ok S (fun vs H Q E h => ?_) (fun cdv A outer s H vs Q E hr h => ?_)
  · obtain ⟨Fr, B, as, M, l, rp, rs, hl, _⟩ := h
    rw [rs.length, hl]
  · obtain ⟨Fr, B, as, M, l, rp, rs, hl, h⟩ := h
    obtain ⟨t, p, sd⟩ := hb cdv A outer s H E hr (takes_of rfl rfl rfl rfl)
    refine ⟨t, p, sd Fr B as _ H (startD N.length l) M _ (RS.start rs) rp ((h.bnd.nox (x' := fun _ _ _ _ _ => False)).imp fun fl M1 B1 as1 s1 p1 h1 => ?_)⟩
    cases fl with
    | nx S' => exact fun σ' H' rp' rs' => h1.ret .non H' rp' .non
    | rt d => exact fun v H' rp' rv => h1.ret v H' rp' rv
    | bk S' => exact h1.elim
    | ct S' => exact h1.elim
    | xc c d S' => exact fun σ' cls dx H' rp' rs' xr => h1 B1 as1 (Same.refl _) (List.prefix_refl _) cls dx H' rp' xr
end
end DL

set_option Elab.async false
set_option linter.all false
set_option maxRecDepth 100000
set_option maxHeartbeats 4000000
/-! DL7: calls of own defs, own classes and their instances. -/
namespace DL
open PySem L2
section
variable {X : Cx} {W : WX} {e o a b c : Expr} {pos p apos : Pos} {x m f : Str}
abbrev CXX (X : Cx) : CXT := L2.CX X.prog X.w
def callD (n : Nat) (F : List D → Ev D) : List D → Ev D := fun l => if l.length = n then F l else Ev.no
theorem spD_of {Fr B : Hp} {as : List Addr} {σ : St} {H : Hp} {M : Store} {vs : List V} {l : List D} {Q : VK} {n : Nat} {F : List D → Ev D} (rp : Rep (gx X) Fr B as H M) (rs : Rs (gx X) B as vs l) (h : Post B as (callD n F l M) (kD X Fr Q) (kX X Fr W σ)) :
    spD (gx X) n F vs H Q (fun c d H => W c d σ H) := by
  unfold callD at h
  by_cases hl : l.length = n
  · rw [if_pos hl] at h
    exact ⟨Fr, B, as, M, l, rp, rs, hl, h⟩
  · rw [if_neg hl] at h; exact h.elim
theorem de_call {k n : Nat} {fa : Addr} {fd : FuncData} {ps : List Str} {F : List D → Ev D} {es : List Expr} {g : Lo → Ev (List D)} (FO : FnOk X.prog X.w X.K X.mg X.base (CXX X) k fa fd ps (spD (gx X) n F)) (hr : Room k X.A) (hg : Gl X x) (hm : X.mg x = some (.ref fa)) (hk : PySem.W.keepIn X.K (.ref fa) = true) (hb : Binds X.K fd ps [])
    (tk : Takes X W) (ha : DA X W (e :: es) g) (hdb : (x == ("__debug__" : Str)) = false := by decide) (he : starEach (e :: es) X.env = (false, eval e X.env) :: starEach es X.env := by rfl) (hpl : (backTo pos (starEach es X.env)).any (·.1) = false := by rfl) :
    DE X W (.Call (.Name x p) (e :: es) [] pos) (eCall (callD n F) g) := by
  obtain ⟨t, pa, s⟩ := ha
  refine ⟨_, pe_callS (E := WE W) FO hr hg hm hk hb (fun σ => passAt tk σ) pa hdb he hpl, fun Fr B as σ H S M Q rs rp h => ?_⟩
  exact s Fr B as σ H S M _ rs rp (h.bnd.imp fun l M1 B1 as1 s1 p1 h1 vs H1 rp1 r1 => spD_of rp1 r1 h1)
/-- keywords -/
def DK (X : Cx) (W : WX) (kws : List Keyword) (f : Lo → Ev (List D)) : Prop := ∃ t, PK X kws t ∧ ∀ Fr B as σ H S M Q, RS (gx X) B as σ S → Rep (gx X) Fr B as H M → Post B as (f S M) (kA X Fr Q) (kX X Fr W σ) → t σ H Q
theorem dk_nil : DK X W [] eA0 := ⟨_, pk_nil, fun _ _ _ _ _ _ _ _ _ rp h => h.ret [] _ rp .nil⟩
theorem dk_cons {kws : List Keyword} {nm : Option Str} {kpos : Pos} {f : Lo → Ev D} {g : Lo → Ev (List D)} (ha : DE X W e f) (hr : DK X W kws g) : DK X W (⟨nm, e, kpos⟩ :: kws) (eAc f g) := by
  obtain ⟨t, p, s⟩ := ha
  obtain ⟨t', p', s'⟩ := hr
  refine ⟨_, pk_cons p p', fun Fr B as σ H S M Q rs rp h => ?_⟩
  refine s Fr B as σ H S M _ rs rp (h.bnd.imp fun x M1 B1 as1 s1 p1 h1 v H1 rp1 r1 => ?_)
  refine s' Fr B1 as1 σ H1 S M1 _ (rs.mono s1 p1) rp1 (h1.bnd.imp fun l M2 B2 as2 s2 p2 h2 vs H2 rp2 r2 => ?_)
  exact h2.ret _ H2 rp2 (.cons (r1.mono s2 p2) r2)
def eCallK (op : List D → List D → Ev D) (f g : Lo → Ev (List D)) : Lo → Ev D := fun S => (f S).bnd fun l => (g S).bnd fun z => op l z
/-- a def called with keywords: gD puts the values in the parameters' order -/
def callK (n i j : Nat) (gD : List D → List D → List D) (F : List D → Ev D) : List D → List D → Ev D := fun l z => if l.length = i ∧ z.length = j then callD n F (gD l z) else Ev.no
theorem de_callN {E : XK} {k n i : Nat} {fa : Addr} {fd : FuncData} {ps ks : List Str} {F : List D → Ev D} {es : List Expr} {kws : List Keyword} {gv : List Value → List Value → List Value} {gV : List V → List V → List V} {gD : List D → List D → List D} {g gk : Lo → Ev (List D)} (FO : FnOk X.prog X.w X.K X.mg X.base (CXX X) k fa fd ps (spD (gx X) n F)) (hr : Room k X.A) (hg : Gl X x) (hm : X.mg x = some (.ref fa)) (hk : PySem.W.keepIn X.K (.ref fa) = true) (hb : KBn X.K fd ps i ks gv gV)
    (hD : ∀ B as vs zs l z, Rs (gx X) B as vs l → Rs (gx X) B as zs z → Rs (gx X) B as (gV vs zs) (gD l z)) (hx : Passes (CXX X) X E) (ha : DA X (WF E) (e :: es) g) (hkw : DK X (WF E) kws gk)
    (hall : (backToKw pos (keywordEach kws X.env)).all (·.1.isSome) = true := by rfl) (hks : (backToKw pos (keywordEach kws X.env)).filterMap (·.1) = ks := by rfl)
    (hdb : (x == ("__debug__" : Str)) = false := by decide) (he : starEach (e :: es) X.env = (false, eval e X.env) :: starEach es X.env := by rfl)
    (hpl : ((backTo pos (starEach (e :: es) X.env)).any (·.1) || (backToKw pos (keywordEach kws X.env)).any (·.1.isNone)) = false := by rfl) :
    DE X (WF E) (.Call (.Name x p) (e :: es) kws pos) (eCallK (callK n i ks.length gD F) g gk) := by
  obtain ⟨t, pa, s⟩ := ha
  obtain ⟨t', pk, s'⟩ := hkw
  refine ⟨_, pe_callN FO hr hg hm hk hb hx pa pk hall hks hdb he hpl, fun Fr B as σ H S M Q rs rp h => ?_⟩
  refine s Fr B as σ H S M _ rs rp (h.bnd.imp fun l M1 B1 as1 s1 p1 h1 vs H1 rp1 r1 => ?_)
  refine s' Fr B1 as1 σ H1 S M1 _ (rs.mono s1 p1) rp1 (h1.bnd.imp fun z M2 B2 as2 s2 p2 h2 zs H2 rp2 r2 => ?_)
  unfold callK at h2
  by_cases hl : l.length = i ∧ z.length = ks.length
  · rw [if_pos hl] at h2
    exact ⟨by rw [r1.length, hl.1], by rw [r2.length, hl.2], spD_of (W := WF E) rp2 (hD B2 as2 vs zs l z (r1.mono s2 p2) r2) h2⟩
  · rw [if_neg hl] at h2; exact h2.elim
/-! ### instances -/
theorem Rs.lookup {G : Gx} {B : Hp} {as : List Addr} {f : Str} {d : D} : ∀ {ns : List Str} {vs : List V} {l : List D}, Rs G B as vs l → (ns.zip l).lookup f = some d → ∃ v, (ns.zip vs).lookup f = some v ∧ R G B as v d
  | [], _, _, _, h => by simp at h
  | _ :: _, _, _, .nil, h => by simp at h
  | n :: ns, _, _, .cons r t, h => by
    rw [List.zip_cons_cons, List.lookup_cons] at h ⊢
    cases q : f == n with
    | true => rw [q] at h; cases h; exact ⟨_, rfl, r⟩
    | false => rw [q] at h; exact Rs.lookup t h
theorem zip_none {α : Type} {f : Str} : ∀ {ns : List Str} {vs : List α}, f ∉ ns → (ns.zip vs).lookup f = none
  | [], _, _ => by simp
  | _ :: _, [], _ => by simp
  | n :: ns, v :: vs, h => by
    rw [List.zip_cons_cons, List.lookup_cons]
    have h1 : ¬ f = n := fun z => h (by simp [z])
    have h2 : f ∉ ns := fun z => h (by simp [z])
    rw [beq_eq_false_iff_ne.mpr h1]
    exact zip_none h2
/-- what is known of a class of the text -/
structure ClsD (X : Cx) (cn : Str) (C : Addr) : Prop where
  mg : X.mg cn = some (.ref C)
  cl : Cls X.K C
def fldE (cn f : Str) (x : D) : Ev D := (vw x).bnd fun p => match p.1 with
  | .obj c ns => if c = cn then (match (ns.zip p.2).lookup f with
    | some d => Ev.ret d
    | none => Ev.no) else Ev.no
  | _ => Ev.no
theorem de_fld {cn : Str} {C : Addr} {fo : Lo → Ev D} (c : ClsD X cn C) (na : NoAttr X.K C f) (he : DE X W o fo) (hb : attributeBase o f X.env (eval o X.env) = eval o X.env := by rfl) : DE X W (.Attribute o f pos) (e1 (fldE cn f) fo) := by
  obtain ⟨t, p, s⟩ := he
  refine ⟨_, pe_fld p hb, fun Fr B as σ H S M Q rs rp h => ?_⟩
  refine s Fr B as σ H S M _ rs rp (h.bnd.imp fun x M1 B1 as1 s1 p1 h1 v H1 rp1 r1 => ?_)
  obtain ⟨t, l, q, vs, rfl, fc, rs2, h9, _⟩ := Post.vw (d := x) h1 rp1 r1
  cases t <;> first | exact h9.elim | skip
  rename_i c' ns _
  dsimp only at h9
  by_cases hc : c' = cn
  · rw [if_pos hc] at h9
    subst hc
    obtain ⟨C', dx, mg, hH, hlen⟩ := fc
    cases q2 : (ns.zip l).lookup f with
    | none => rw [q2] at h9; exact h9.elim
    | some d =>
      rw [q2] at h9
      obtain ⟨u, hu, ru⟩ := rs2.lookup q2
      have : C' = C := by
        have e1 := mg.symm.trans c.mg
        cases e1; rfl
      subst this
      exact ⟨q, C', dx, _, u, rfl, hH, c.cl, na, hu, h9.ret u H1 rp1 ru⟩
  · rw [if_neg hc] at h9; exact h9.elim
/-- o.f = e -/
def putD (f : Str) (d : D) : List Str → List D → List Str × List D
  | n :: ns, y :: l => if n = f then (n :: ns, d :: l) else (n :: (putD f d ns l).1, y :: (putD f d ns l).2)
  | _, _ => ([f], [d])
def putW (f : Str) (v : V) : List Str → List V → List V
  | n :: ns, y :: l => if n = f then v :: l else y :: putW f v ns l
  | _, _ => [v]
theorem putF_zip (f : Str) (v : V) (d : D) : ∀ (ns : List Str) (vs : List V) (l : List D), ns.length = vs.length → vs.length = l.length → putF f v (ns.zip vs) = (putD f d ns l).1.zip (putW f v ns vs) ∧ (putD f d ns l).1.length = (putW f v ns vs).length
  | [], [], [], _, _ => ⟨rfl, rfl⟩
  | n :: ns, y :: vs, z :: l, h1, h2 => by
    have ih := putF_zip f v d ns vs l (by simpa using h1) (by simpa using h2)
    rw [List.zip_cons_cons]
    unfold putF putD putW
    by_cases h : n = f
    · rw [if_pos h, if_pos h, if_pos h]
      exact ⟨rfl, by simpa using h1⟩
    · rw [if_neg h, if_neg h, if_neg h, ih.1]
      exact ⟨rfl, by simp [ih.2]⟩
theorem Rs.put {G : Gx} {B : Hp} {as : List Addr} {f : Str} {v : V} {d : D} (r : R G B as v d) : ∀ {ns : List Str} {vs : List V} {l : List D}, Rs G B as vs l → ns.length = vs.length → Rs G B as (putW f v ns vs) (putD f d ns l).2
  | [], _, _, .nil, _ => .cons r .nil
  | n :: ns, _, _, .cons q t, h => by
    unfold putW putD
    by_cases hn : n = f
    · rw [if_pos hn, if_pos hn]; exact .cons r t
    · rw [if_neg hn, if_neg hn]; exact .cons q (Rs.put r t (by simpa using h))
def stE (cn f : Str) (d x : D) : Ev Unit := match x with
  | .ref n => fun M => match M[n]? with
    | some (.obj c ns, l) => if c = cn ∧ ns.length < 1000 then .ok () (M.set n (.obj c (putD f d ns l).1, (putD f d ns l).2)) else .stuck
    | _ => .stuck
  | _ => Ev.no
def sFldD (cn f : Str) (fo fv : Lo → Ev D) : Lo → Ev Fl := fun S => (fv S).fl S fun d => (fo S).fl S fun x => (stE cn f d x).bnd fun _ => Ev.ret (.nx S)
theorem ds_fld {cn : Str} {C : Addr} {fo fv : Lo → Ev D} {pos' : Pos} (c : ClsD X cn C) (na : NoAttr X.K C f) (ho : DE X W o fo) (hv : DE X W e fv) (hs : swapsWith e (some (.Attribute o f pos')) pos.line X.env = pure false := by rfl) : DS X W (.Assign [.Attribute o f pos'] e pos) (sFldD cn f fo fv) := by
  obtain ⟨t, p, s⟩ := ho
  obtain ⟨t', p', s'⟩ := hv
  refine ⟨_, ps_fld p p' hs, fun Fr B as σ H S M D rs rp h => ?_⟩
  refine s' Fr B as σ H S M _ rs rp ((Post.fl rs h).imp fun d M1 B1 as1 s1 p1 h1 y H1 rp1 r1 => ?_)
  refine s Fr B1 as1 σ H1 S M1 _ (rs.mono s1 p1) rp1 ((Post.fl (rs.mono s1 p1) h1).imp fun x M2 B2 as2 s2 p2 h2 v H2 rp2 r2 => ?_)
  have rd := r1.mono s2 p2
  have rs2 := (rs.mono s1 p1).mono s2 p2
  cases r2 <;> first | exact h2.elim | skip
  rename_i n a ha
  have h3 := h2.bnd
  clear h2
  unfold stE at h3
  dsimp only at h3
  cases q : M2[n]? with
  | none => simp only [q] at h3; exact h3.elim
  | some cc =>
    obtain ⟨t, l⟩ := cc
    simp only [q] at h3
    obtain ⟨vs, mc, rsc⟩ := rp2.cell n a _ ha q
    cases t <;> first | exact h3.elim | skip
    rename_i c' ns
    dsimp only at h3
    by_cases hc : c' = cn ∧ ns.length < 1000
    · rw [if_pos hc] at h3
      obtain ⟨hc, hn⟩ := hc
      subst hc
      obtain ⟨C', dx, mg, hH, hlen⟩ := mc
      have : C' = C := by
        have e1 := mg.symm.trans c.mg
        cases e1; rfl
      subst this
      have hlen : ns.length = vs.length := hlen
      obtain ⟨z1, z2⟩ := putF_zip f y d ns vs l hlen rsc.length
      refine ⟨a, C', dx, _, rfl, hH, c.cl, na, by rw [List.length_zip]; omega, ?_⟩
      refine (Post.ok h3).ret σ _ (rp2.write (t := .obj c' (putD f d ns l).1) (vs := putW f y ns vs) ha ?_ (rsc.put rd hlen)) rs2
      exact ⟨C', dx, mg, by rw [upd_same, z1], z2⟩
    · rw [if_neg hc] at h3; exact h3.elim
/-- o.m(..) -/
def isObj (cn m : Str) (x : D) : Ev Unit := (vw x).bnd fun p => match p.1 with
  | .obj c ns => if c = cn ∧ m ∉ ns then Ev.ret () else Ev.no
  | _ => Ev.no
theorem Post.isObj {α : Type} {Fr B : Hp} {as : List Addr} {d : D} {cn m : Str} {C : Addr} {f : Unit → Ev α} {M : Store} {H : Hp} {v : V} {k : α → Store → Hp → List Addr → Prop} {x : Str → D → Store → Hp → List Addr → Prop} (h : Post B as (((DL.isObj cn m d).bnd f) M) k x)
    (c : ClsD X cn C) (rp : Rep (gx X) Fr B as H M) (r : R (gx X) B as v d) : ∃ a dx fs, v = .ref a ∧ H a = some (.ins C dx fs) ∧ fs.lookup m = none ∧ Post B as (f () M) k x := by
  unfold DL.isObj at h
  rw [bnd_bnd] at h
  obtain ⟨t, l, q, vs, rfl, fc, rs2, h9, _⟩ := Post.vw (d := d) h rp r
  cases t <;> first | exact h9.elim | skip
  rename_i c' ns _
  dsimp only at h9
  by_cases hc : c' = cn ∧ m ∉ ns
  · rw [if_pos hc] at h9
    obtain ⟨hc, hn⟩ := hc
    subst hc
    obtain ⟨C', dx, mg, hH, hlen⟩ := fc
    have : C' = C := by
      have e1 := mg.symm.trans c.mg
      cases e1; rfl
    subst this
    exact ⟨q, dx, _, rfl, hH, zip_none hn, h9⟩
  · rw [if_neg hc] at h9; exact h9.elim
def eMeth (cn m : Str) (n : Nat) (F : List D → Ev D) (dd : List D) (fo : Lo → Ev D) (fa : Lo → Ev (List D)) : Lo → Ev D := fun S => (fo S).bnd fun x => (isObj cn m x).bnd fun _ => (fa S).bnd fun l => callD n F (x :: (l ++ dd))
theorem de_meth {E : XK} {cn : Str} {C : Addr} {k n : Nat} {fa : Addr} {fd : FuncData} {ps : List Str} {F : List D → Ev D} {es : List Expr} {pl : Sem Bool} {dvs : List V} {ds : List Value} {dd : List D} {fo : Lo → Ev D} {g : Lo → Ev (List D)} (c : ClsD X cn C) (hm : Meth X.K C m fa) (FO : FnOk X.prog X.w X.K X.mg X.base (CXX X) k fa fd ps (spD (gx X) n F)) (hr : Room k X.A) (hb : Binds X.K fd ps ds) (hd : Vals dvs ds) (hdd : ∀ B as, Rs (gx X) B as dvs dd) (hx : Passes (CXX X) X E)
    (ho : DE X (WF E) o fo) (ha : DA X (WF E) (e :: es) g) (hst : starEach (e :: es) X.env = (false, eval e X.env) :: starEach es X.env := by rfl) (hpl : (backTo pos (starEach es X.env)).any (·.1) = false := by rfl)
    (ht : eval (.Call (.Attribute o m apos) (e :: es) [] pos) X.env = (do
      let ov ← eval o X.env
      standAt apos.atName
      let (f, first) ← holding [ov] (getMethod ov m pl)
      callWith pos f first (backTo pos (starEach (e :: es) X.env)) (backToKw pos (keywordEach [] X.env))) := by rfl) :
    DE X (WF E) (.Call (.Attribute o m apos) (e :: es) [] pos) (eMeth cn m n F dd fo g) := by
  obtain ⟨t, p, s⟩ := ho
  obtain ⟨t', p', s'⟩ := ha
  refine ⟨_, pe_meth (pl := pl) p c.cl hm FO hr hb hd hx p' hst hpl ht, fun Fr B as σ H S M Q rs rp h => ?_⟩
  refine s Fr B as σ H S M _ rs rp (h.bnd.imp fun x M1 B1 as1 s1 p1 h1 v H1 rp1 r1 => ?_)
  obtain ⟨a, dx, fs, rfl, hH, hl, h1⟩ := h1.isObj c rp1 r1
  refine ⟨a, dx, fs, rfl, hH, hl, s' Fr B1 as1 σ H1 S M1 _ (rs.mono s1 p1) rp1 (h1.bnd.imp fun l M2 B2 as2 s2 p2 h2 vs H2 rp2 r2 => ?_)⟩
  exact spD_of (W := WF E) (σ := σ) rp2 (.cons (r1.mono s2 p2) (r2.app (hdd B2 as2))) h2
theorem de_meth0 {E : XK} {cn : Str} {C : Addr} {k n : Nat} {fa : Addr} {fd : FuncData} {ps : List Str} {F : List D → Ev D} {pl : Sem Bool} {dvs : List V} {ds : List Value} {dd : List D} {fo : Lo → Ev D} (c : ClsD X cn C) (hm : Meth X.K C m fa) (FO : FnOk X.prog X.w X.K X.mg X.base (CXX X) k fa fd ps (spD (gx X) n F)) (hr : Room k X.A) (hb : Binds X.K fd ps ds) (hd : Vals dvs ds) (hdd : ∀ B as, Rs (gx X) B as dvs dd) (hx : Passes (CXX X) X E)
    (ho : DE X (WF E) o fo)
    (ht : eval (.Call (.Attribute o m apos) [] [] pos) X.env = (do
      let ov ← eval o X.env
      standAt apos.atName
      let (f, first) ← holding [ov] (getMethod ov m pl)
      callWith pos f first (backTo pos (starEach [] X.env)) (backToKw pos (keywordEach [] X.env))) := by rfl) :
    DE X (WF E) (.Call (.Attribute o m apos) [] [] pos) (eMeth cn m n F dd fo eA0) := by
  obtain ⟨t, p, s⟩ := ho
  refine ⟨_, pe_meth0 (pl := pl) p c.cl hm FO hr hb hd hx ht, fun Fr B as σ H S M Q rs rp h => ?_⟩
  refine s Fr B as σ H S M _ rs rp (h.bnd.imp fun x M1 B1 as1 s1 p1 h1 v H1 rp1 r1 => ?_)
  obtain ⟨a, dx, fs, rfl, hH, hl, h1⟩ := h1.isObj c rp1 r1
  refine ⟨a, dx, fs, rfl, hH, hl, ?_⟩
  exact spD_of (W := WF E) (σ := σ) rp1 (.cons r1 (hdd B1 as1)) h1
/-- C(..) -/
def makeD (cn : Str) (F : List D → Ev D) (gD : D → List D) : Ev D := fun M => match F (gD (.ref M.length)) (M ++ [(.obj cn [], [])]) with
  | .ok .non M' => .ok (.ref M.length) M'
  | .exc c d M' => .exc c d M'
  | _ => .stuck
theorem make_of {cn : Str} {C : Addr} {n : Nat} {F : List D → Ev D} {Fr B : Hp} {as : List Addr} {σ : St} {H : Hp} {M : Store} {Q : VK} {E : XK} {gV : V → List V} {gD : D → List D} (c : ClsD X cn C) (rp : Rep (gx X) Fr B as H M) (hl : ∀ d, (gD d).length = n)
    (hD : ∀ B' as' v d, Same B B' → as <+: as' → R (gx X) B' as' v d → Rs (gx X) B' as' (gV v) (gD d)) (h : Post B as (makeD cn F gD M) (kD X Fr Q) (kX X Fr (WF E) σ)) :
    ∀ x dx, H x = none → H dx = none → dx ≠ x → spD (gx X) n F (gV (.ref x)) (upd (upd H dx (.own x)) x (.ins C dx [])) (fun v H2 => v = .non ∧ Q (.ref x) H2) E := by
  intro x dx hx hdx hne
  have hx' : (upd H dx (.own x)) x = none := by rw [upd_ne (Ne.symm hne)]; exact hx
  have rp1 := (rp.laid (o := .own x) hdx).push (t := .obj cn []) (vs := []) (l := []) (o := .ins C dx []) hx' ⟨C, dx, c.mg, upd_same, rfl⟩ .nil
  have hr : (as ++ [x])[M.length]? = some x := by rw [← rp.len]; simp
  refine ⟨Fr, B, as ++ [x], M ++ [(.obj cn [], [])], gD (.ref M.length), rp1, hD B (as ++ [x]) _ _ (Same.refl _) pre_push (.ref hr), hl _, ?_⟩
  unfold makeD at h
  cases q : F (gD (.ref M.length)) (M ++ [(.obj cn [], [])]) with
  | stuck => rw [q] at h; exact h
  | exc c d M' => rw [q] at h; exact fun B1 as1 e1 p1 cls d1 H1 rp1 xr => h B1 as1 e1 (pre_push.trans p1) cls d1 H1 rp1 xr
  | ok d M' =>
    rw [q] at h
    cases d <;> first | exact h.elim | skip
    intro B1 as1 e1 p1 v H1 rp1 rv
    cases rv
    exact ⟨rfl, h B1 as1 e1 (pre_push.trans p1) _ H1 rp1 (.ref (pre_get p1 hr))⟩
def eMake (cn : Str) (n i j : Nat) (gD : D → List D → List D → List D) (F : List D → Ev D) (f g : Lo → Ev (List D)) : Lo → Ev D := fun S => (f S).bnd fun l => (g S).bnd fun z => if l.length = i ∧ z.length = j then makeD cn F (fun d => gD d l z) else Ev.no
theorem de_makeN {E : XK} {cn : Str} {C : Addr} {k n i j : Nat} {fI : Addr} {fd : FuncData} {ps ks : List Str} {F : List D → Ev D} {es : List Expr} {kws : List Keyword} {gv : List Value → List Value → List Value} {gV : List V → List V → List V} {gD : D → List D → List D → List D} {g gk : Lo → Ev (List D)} (c : ClsD X cn C) (Mk' : Mk X.K C fI) (FO : FnOk X.prog X.w X.K X.mg X.base (CXX X) k fI fd ps (spD (gx X) n F)) (hr : Room (k + 1) X.A) (hg : Gl X cn) (hb : KBn X.K fd ps (i + 1) ks gv gV)
    (hn : ∀ d l z, l.length = i → z.length = ks.length → (gD d l z).length = n) (hD : ∀ B as v d vs zs l z, R (gx X) B as v d → Rs (gx X) B as vs l → Rs (gx X) B as zs z → Rs (gx X) B as (gV (v :: vs) zs) (gD d l z)) (hx : Passes (CXX X) X E) (ha : DA X (WF E) (e :: es) g) (hkw : DK X (WF E) kws gk)
    (hall : (backToKw pos (keywordEach kws X.env)).all (·.1.isSome) = true := by rfl) (hks : (backToKw pos (keywordEach kws X.env)).filterMap (·.1) = ks := by rfl)
    (hdb : (cn == ("__debug__" : Str)) = false := by decide) (he : starEach (e :: es) X.env = (false, eval e X.env) :: starEach es X.env := by rfl)
    (hpl : ((backTo pos (starEach (e :: es) X.env)).any (·.1) || (backToKw pos (keywordEach kws X.env)).any (·.1.isNone)) = false := by rfl) (hj : ks.length = j := by rfl) :
    DE X (WF E) (.Call (.Name cn p) (e :: es) kws pos) (eMake cn n i j gD F g gk) := by
  subst hj
  obtain ⟨t, pa, s⟩ := ha
  obtain ⟨t', pk, s'⟩ := hkw
  refine ⟨_, pe_makeN Mk' FO hr hg c.mg hb hx pa pk hall hks hdb he hpl, fun Fr B as σ H S M Q rs rp h => ?_⟩
  refine s Fr B as σ H S M _ rs rp (h.bnd.imp fun l M1 B1 as1 s1 p1 h1 vs H1 rp1 r1 => ?_)
  refine s' Fr B1 as1 σ H1 S M1 _ (rs.mono s1 p1) rp1 (h1.bnd.imp fun z M2 B2 as2 s2 p2 h2 zs H2 rp2 r2 => ?_)
  by_cases hl : l.length = i ∧ z.length = ks.length
  · rw [if_pos hl] at h2
    refine ⟨by rw [r1.length, hl.1], by rw [r2.length, hl.2], ?_⟩
    exact make_of (gV := fun v => gV (v :: vs) zs) (gD := fun d => gD d l z) c rp2 (fun d => hn d l z hl.1 hl.2) (fun B3 as3 v d e3 p3 r3 => hD B3 as3 v d vs zs l z r3 (r1.mono s2 p2 |>.mono e3 p3) (r2.mono e3 p3)) h2
  · rw [if_neg hl] at h2; exact h2.elim
end
end DL

set_option Elab.async false
set_option linter.all false
set_option maxRecDepth 100000
set_option maxHeartbeats 4000000
/-! DL8: dicts, isinstance, truth, short words. -/
namespace DL
open PySem L2
/-! ### pairs -/
def pk {α : Type} (kd : List (Key × α)) (k : Key) (d : α) : List (Key × α) :=
  if (kd.any fun p => decide (p.1 = k)) = true then kd.map (fun p => if p.1 = k then (p.1, d) else p) else kd ++ [(k, d)]
def vd {α : Type} (kd : List (Key × α)) (k : Key) : Option α := (kd.find? fun p => decide (p.1 = k)).map (·.2)
inductive RK (G : Gx) (B : Hp) (as : List Addr) : List (Key × V) → List (Key × D) → Prop
  | nil : RK G B as [] []
  | cons {k : Key} {v : V} {d : D} {kv : List (Key × V)} {kd : List (Key × D)} : R G B as v d → RK G B as kv kd → RK G B as ((k, v) :: kv) ((k, d) :: kd)
section
variable {G : Gx} {B B' : Hp} {as as' : List Addr}
theorem RK.mono (e : Same B B') (p : as <+: as') : ∀ {kv : List (Key × V)} {kd : List (Key × D)}, RK G B as kv kd → RK G B' as' kv kd
  | _, _, .nil => .nil
  | _, _, .cons r t => .cons (r.mono e p) (RK.mono e p t)
theorem Rs.rk : ∀ {ks : List Key} {vs : List V} {l : List D}, Rs G B as vs l → ks.length = vs.length → RK G B as (ks.zip vs) (ks.zip l)
  | [], _, _, .nil, _ => .nil
  | k :: ks, _, _, .cons r t, h => .cons r (Rs.rk t (by simpa using h))
theorem RK.keys : ∀ {kv : List (Key × V)} {kd : List (Key × D)}, RK G B as kv kd → kv.map (·.1) = kd.map (·.1)
  | _, _, .nil => rfl
  | _, _, .cons _ t => by simp [RK.keys t]
theorem RK.vals : ∀ {kv : List (Key × V)} {kd : List (Key × D)}, RK G B as kv kd → Rs G B as (kv.map (·.2)) (kd.map (·.2))
  | _, _, .nil => .nil
  | _, _, .cons r t => .cons r (RK.vals t)
theorem RK.len : ∀ {kv : List (Key × V)} {kd : List (Key × D)}, RK G B as kv kd → kv.length = kd.length
  | _, _, .nil => rfl
  | _, _, .cons _ t => by simp [RK.len t]
theorem zip_self {α β : Type} : ∀ kv : List (α × β), (kv.map (·.1)).zip (kv.map (·.2)) = kv
  | [] => rfl
  | (a, b) :: r => by simp [zip_self r]
theorem RK.dct {kv : List (Key × V)} {kd : List (Key × D)} (r : RK G B as kv kd) : (kd.map (·.1)).zip (kv.map (·.2)) = kv ∧ (kd.map (·.1)).length = (kv.map (·.2)).length := by
  rw [← r.keys]
  exact ⟨zip_self kv, by simp⟩
theorem RK.any {k : Key} : ∀ {kv : List (Key × V)} {kd : List (Key × D)}, RK G B as kv kd → (kv.any fun p => decide (p.1 = k)) = (kd.any fun p => decide (p.1 = k))
  | _, _, .nil => rfl
  | _, _, .cons _ t => by simp only [List.any_cons, RK.any t]
theorem RK.app : ∀ {kv kv' : List (Key × V)} {kd kd' : List (Key × D)}, RK G B as kv kd → RK G B as kv' kd' → RK G B as (kv ++ kv') (kd ++ kd')
  | _, _, _, _, .nil, q => q
  | _, _, _, _, .cons r t, q => .cons r (RK.app t q)
theorem RK.map {k : Key} {v : V} {d : D} (r : R G B as v d) : ∀ {kv : List (Key × V)} {kd : List (Key × D)}, RK G B as kv kd → RK G B as (kv.map fun p => if p.1 = k then (p.1, v) else p) (kd.map fun p => if p.1 = k then (p.1, d) else p)
  | _, _, .nil => .nil
  | _, _, .cons (k := k') q t => by
    simp only [List.map_cons]
    by_cases h : k' = k
    · simp only [if_pos h]; exact .cons r (RK.map r t)
    · simp only [if_neg h]; exact .cons q (RK.map r t)
theorem RK.put {k : Key} {v : V} {d : D} {kv : List (Key × V)} {kd : List (Key × D)} (h : RK G B as kv kd) (r : R G B as v d) : RK G B as (putK kv k v) (pk kd k d) := by
  unfold putK pk
  rw [h.any]
  by_cases c : (kd.any fun p => decide (p.1 = k)) = true
  · rw [if_pos c, if_pos c]; exact h.map r
  · rw [if_neg c, if_neg c]; exact h.app (.cons r .nil)
theorem RK.val {k : Key} {d : D} : ∀ {kv : List (Key × V)} {kd : List (Key × D)}, RK G B as kv kd → vd kd k = some d → ∃ v, valV kv k = some v ∧ R G B as v d
  | _, _, .nil, h => by simp [vd] at h
  | _, _, .cons (k := k') q t, h => by
    by_cases c : k' = k
    · subst c
      simp [vd] at h
      subst h
      exact ⟨_, valV_pos rfl, q⟩
    · rw [valV_neg c]
      exact RK.val t (by simpa [vd, c] using h)
theorem RK.has {k : Key} : ∀ {kv : List (Key × V)} {kd : List (Key × D)}, RK G B as kv kd → (valV kv k).isSome = (vd kd k).isSome
  | _, _, .nil => rfl
  | _, _, .cons (k := k') q t => by
    by_cases c : k' = k
    · subst c; rw [valV_pos rfl]; simp [vd]
    · rw [valV_neg c, RK.has t]; simp [vd, c]
theorem RK.merge : ∀ {more : List (Key × V)} {kd' : List (Key × D)} {kv : List (Key × V)} {kd : List (Key × D)}, RK G B as more kd' → RK G B as kv kd → RK G B as (mergeK kv more) (kd'.foldl (fun acc p => pk acc p.1 p.2) kd)
  | _, _, _, _, .nil, h => h
  | _, _, _, _, .cons (k := k) r t, h => by
    have q := RK.merge t (h.put (k := k) r)
    exact q
end
def toK : D → Option Key
  | .int i => some (.inl i)
  | .str x => some (.inr x)
  | _ => none
theorem R.toK {G : Gx} {B : Hp} {as : List Addr} {v : V} {d : D} {k : Key} (r : R G B as v d) (h : DL.toK d = some k) : v = kV k := by
  cases r <;> first | (cases h; rfl) | (cases h)
section
variable {X : Cx} {W : WX} {e o a b c i : Expr} {pos p apos cpos : Pos} {x m f : Str}
/-! ### d[k], k in d -/
def getK (x y : D) : Ev D := (vw x).bnd fun p => match p.1, toK y with
  | .dct ks, some k => match vd (ks.zip p.2) k with
    | some d => Ev.ret d
    | none => Ev.no
  | _, _ => Ev.no
theorem de_dget {fo fi : Lo → Ev D} (hu : X.A.units + 1 < cLine) (ho : DE X W o fo) (hi : DE X W i fi) (hs : NoSl i) : DE X W (.Subscript o i pos) (e2 getK fo fi) := by
  obtain ⟨t, p, s⟩ := ho
  obtain ⟨t', p', s'⟩ := hi
  refine ⟨_, pe_dget hu p p' hs, fun Fr B as σ H S M Q rs rp h => ?_⟩
  refine s Fr B as σ H S M _ rs rp (h.bnd.imp fun x M1 B1 as1 s1 p1 h1 v H1 rp1 r1 => ?_)
  refine s' Fr B1 as1 σ H1 S M1 _ (rs.mono s1 p1) rp1 (h1.bnd.imp fun y M2 B2 as2 s2 p2 h2 w H2 rp2 r2 => ?_)
  obtain ⟨t, l, q, vs, rfl, fc, rs2, h9, _⟩ := Post.vw (d := x) h2 rp2 (r1.mono s2 p2)
  cases t <;> first | exact h9.elim | skip
  rename_i ks _
  dsimp only at h9
  cases qk : toK y with
  | none => rw [qk] at h9; exact h9.elim
  | some k =>
    rw [qk] at h9
    dsimp only at h9
    cases qv : vd (ks.zip l) k with
    | none => rw [qv] at h9; exact h9.elim
    | some d =>
      rw [qv] at h9
      obtain ⟨u, hu, ru⟩ := (rs2.rk fc.2).val qv
      have := r2.toK qk
      subst this
      refine ⟨q, u, rfl, ?_, h9.ret u H2 rp2 ru⟩
      have g := DGet.k (k := k) fc.1
      rw [hu] at g
      exact g
def inK (neg : Bool) (y x : D) : Ev D := (vw x).bnd fun p => match p.1, toK y with
  | .dct ks, some k => Ev.ret (.bl (neg ^^ (vd (ks.zip p.2) k).isSome))
  | _, _ => Ev.no
theorem inK_ok {Fr B : Hp} {as : List Addr} {σ : St} {H : Hp} {M : Store} {v w : V} {x y : D} {Q : VK} {neg : Bool} (rp : Rep (gx X) Fr B as H M) (r1 : R (gx X) B as v y) (r2 : R (gx X) B as w x) (h : Post B as (inK neg y x M) (kD X Fr Q) (kX X Fr W σ)) :
    ∃ a o, w = .ref a ∧ DGet H a v o ∧ Q (.bl (neg ^^ o.isSome)) H := by
  obtain ⟨t, l, q, vs, rfl, fc, rs2, h9, _⟩ := Post.vw (d := x) h rp r2
  cases t <;> first | exact h9.elim | skip
  rename_i ks _
  dsimp only at h9
  cases qk : toK y with
  | none => rw [qk] at h9; exact h9.elim
  | some k =>
    rw [qk] at h9
    have := r1.toK qk
    subst this
    have e := (rs2.rk fc.2).has (k := k)
    refine ⟨q, _, rfl, DGet.k (k := k) fc.1, ?_⟩
    rw [e]
    exact (Post.ret (a := D.bl (neg ^^ (vd (ks.zip l) k).isSome)) h9) _ H rp (.bl _)
theorem de_din {fo fi : Lo → Ev D} (hu : X.A.units + 1 < cLine) (hi : DE X W i fi) (ho : DE X W o fo) (hm : behindInMarks .In o = false := by rfl) : DE X W (.Compare i [.In] [o] pos) (e2 (inK false) fi fo) := by
  obtain ⟨t, p, s⟩ := hi
  obtain ⟨t', p', s'⟩ := ho
  refine ⟨_, pe_cmp (pc_din hu p p') hm, fun Fr B as σ H S M Q rs rp h => ?_⟩
  refine s Fr B as σ H S M _ rs rp (h.bnd.imp fun x M1 B1 as1 s1 p1 h1 v H1 rp1 r1 => ?_)
  refine s' Fr B1 as1 σ H1 S M1 _ (rs.mono s1 p1) rp1 (h1.bnd.imp fun y M2 B2 as2 s2 p2 h2 w H2 rp2 r2 => ?_)
  obtain ⟨a, o, e1, g, q⟩ := inK_ok rp2 (r1.mono s2 p2) r2 h2
  exact ⟨a, o, e1, g, by simpa using q⟩
theorem de_dnotin {fo fi : Lo → Ev D} (hu : X.A.units + 1 < cLine) (hi : DE X W i fi) (ho : DE X W o fo) (hm : behindInMarks .NotIn o = false := by rfl) : DE X W (.Compare i [.NotIn] [o] pos) (e2 (inK true) fi fo) := by
  obtain ⟨t, p, s⟩ := hi
  obtain ⟨t', p', s'⟩ := ho
  refine ⟨_, pe_cmp (pc_dnotin hu p p') hm, fun Fr B as σ H S M Q rs rp h => ?_⟩
  refine s Fr B as σ H S M _ rs rp (h.bnd.imp fun x M1 B1 as1 s1 p1 h1 v H1 rp1 r1 => ?_)
  refine s' Fr B1 as1 σ H1 S M1 _ (rs.mono s1 p1) rp1 (h1.bnd.imp fun y M2 B2 as2 s2 p2 h2 w H2 rp2 r2 => ?_)
  obtain ⟨a, o, e1, g, q⟩ := inK_ok rp2 (r1.mono s2 p2) r2 h2
  exact ⟨a, o, e1, g, by simpa using q⟩
theorem tB_of {t : TE} {f : Lo → Ev D} (s : ∀ Fr B as σ H S M Q, RS (gx X) B as σ S → Rep (gx X) Fr B as H M → Post B as (f S M) (kD X Fr Q) (kX X Fr W σ) → t σ H Q) :
    ∀ Fr B as σ H S M Q, RS (gx X) B as σ S → Rep (gx X) Fr B as H M → Post B as (eB f S M) (kB X Fr Q) (kX X Fr W σ) → tB t σ H Q := fun Fr B as σ H S M Q rs rp h => by
  refine s Fr B as σ H S M _ rs rp (h.bnd.imp fun x M1 B1 as1 s1 p1 h1 v H1 rp1 r1 => ?_)
  cases r1 <;> first | exact h1.elim | skip
  exact ⟨_, rfl, h1.ret H1 rp1⟩
theorem dt_din {fo fi : Lo → Ev D} (hu : X.A.units + 1 < cLine) (hi : DE X W i fi) (ho : DE X W o fo) (hm : behindInMarks .In o = false := by rfl) : DT X W (.Compare i [.In] [o] pos) (eB (e2 (inK false) fi fo)) := by
  obtain ⟨t, p, s⟩ := hi
  obtain ⟨t', p', s'⟩ := ho
  refine ⟨_, pt_cmp (pc_din hu p p') hm, tB_of fun Fr B as σ H S M Q rs rp h => ?_⟩
  refine s Fr B as σ H S M _ rs rp (h.bnd.imp fun x M1 B1 as1 s1 p1 h1 v H1 rp1 r1 => ?_)
  refine s' Fr B1 as1 σ H1 S M1 _ (rs.mono s1 p1) rp1 (h1.bnd.imp fun y M2 B2 as2 s2 p2 h2 w H2 rp2 r2 => ?_)
  obtain ⟨a, o, e1, g, q⟩ := inK_ok rp2 (r1.mono s2 p2) r2 h2
  exact ⟨a, o, e1, g, by simpa using q⟩
theorem dt_dnotin {fo fi : Lo → Ev D} (hu : X.A.units + 1 < cLine) (hi : DE X W i fi) (ho : DE X W o fo) (hm : behindInMarks .NotIn o = false := by rfl) : DT X W (.Compare i [.NotIn] [o] pos) (eB (e2 (inK true) fi fo)) := by
  obtain ⟨t, p, s⟩ := hi
  obtain ⟨t', p', s'⟩ := ho
  refine ⟨_, pt_cmp (pc_dnotin hu p p') hm, tB_of fun Fr B as σ H S M Q rs rp h => ?_⟩
  refine s Fr B as σ H S M _ rs rp (h.bnd.imp fun x M1 B1 as1 s1 p1 h1 v H1 rp1 r1 => ?_)
  refine s' Fr B1 as1 σ H1 S M1 _ (rs.mono s1 p1) rp1 (h1.bnd.imp fun y M2 B2 as2 s2 p2 h2 w H2 rp2 r2 => ?_)
  obtain ⟨a, o, e1, g, q⟩ := inK_ok rp2 (r1.mono s2 p2) r2 h2
  exact ⟨a, o, e1, g, by simpa using q⟩
/-! ### d[k] = v -/
def putE (d x y : D) : Ev Unit := match x, toK y with
  | .ref n, some k => fun M => match M[n]? with
    | some (.dct ks, l) => if ks.length < sizeLine ∧ ks.length = l.length then .ok () (M.set n (.dct ((pk (ks.zip l) k d).map (·.1)), (pk (ks.zip l) k d).map (·.2))) else .stuck
    | _ => .stuck
  | _, _ => Ev.no
def sDPutD (fo fi fv : Lo → Ev D) : Lo → Ev Fl := fun S => (fv S).fl S fun d => (fo S).fl S fun x => (fi S).fl S fun y => (putE d x y).bnd fun _ => Ev.ret (.nx S)
theorem ds_dput {fo fi fv : Lo → Ev D} {pos' : Pos} (hu : X.A.units + 1 < cLine) (ho : DE X W o fo) (hi : DE X W i fi) (hv : DE X W e fv) (hs : swapsWith e (some (.Subscript o i pos')) pos.line X.env = pure false := by rfl) : DS X W (.Assign [.Subscript o i pos'] e pos) (sDPutD fo fi fv) := by
  obtain ⟨t, p, s⟩ := ho
  obtain ⟨t', p', s'⟩ := hi
  obtain ⟨t'', p'', s''⟩ := hv
  refine ⟨_, ps_dput hu p p' p'' hs, fun Fr B as σ H S M D rs rp h => ?_⟩
  refine s'' Fr B as σ H S M _ rs rp ((Post.fl rs h).imp fun d M1 B1 as1 s1 p1 h1 v H1 rp1 r1 => ?_)
  refine s Fr B1 as1 σ H1 S M1 _ (rs.mono s1 p1) rp1 ((Post.fl (rs.mono s1 p1) h1).imp fun x M2 B2 as2 s2 p2 h2 xv H2 rp2 r2 => ?_)
  have rs2 := (rs.mono s1 p1).mono s2 p2
  refine s' Fr B2 as2 σ H2 S M2 _ rs2 rp2 ((Post.fl rs2 h2).imp fun y M3 B3 as3 s3 p3 h3 yv H3 rp3 r3 => ?_)
  have rd := r1.mono s2 p2 |>.mono s3 p3
  have rx := r2.mono s3 p3
  have h9 := h3.bnd
  clear h3
  unfold putE at h9
  cases rx <;> first | (cases toK y <;> exact h9.elim) | skip
  rename_i n a ha
  cases qk : toK y with
  | none => simp only [qk] at h9; exact h9.elim
  | some k =>
    simp only [qk] at h9
    cases q : M3[n]? with
    | none => simp only [q] at h9; exact h9.elim
    | some cc =>
      obtain ⟨t, l⟩ := cc
      simp only [q] at h9
      obtain ⟨vs, mc, rsc⟩ := rp3.cell n a _ ha q
      cases t <;> first | exact h9.elim | skip
      rename_i ks
      dsimp only at h9
      by_cases hc : ks.length < sizeLine ∧ ks.length = l.length
      · rw [if_pos hc] at h9
        obtain ⟨mh, ml⟩ := mc
        have rk := (rsc.rk ml).put (k := k) rd
        have := r3.toK qk
        subst this
        refine ⟨a, _, rfl, DPut.k (k := k) mh (by rw [List.length_zip]; omega), ?_⟩
        obtain ⟨z1, z2⟩ := rk.dct
        refine (Post.ok h9).ret σ _ (rp3.write (t := .dct _) (vs := (putK (ks.zip vs) k v).map (·.2)) ha ?_ rk.vals) (rs2.mono s3 p3)
        exact ⟨by rw [upd_same, z1], z2⟩
      · rw [if_neg hc] at h9; exact h9.elim
/-! ### {} and {k: v, ..} -/
theorem dn_dnew : DN X W (.Dict [] [] pos) (fun _ => Ev.ret (.n (.dct []) [])) := ⟨_, pe_dnewK, fun Fr B as σ H S M Q rs rp h z hz => h.ret [] H z rp .nil hz⟩
theorem kX_frame {Fr : Hp} {σ : St} {z : Addr} {o : HO} (hF : Fr z = none) {c : Str} {d : D} {M : Store} {B : Hp} {as : List Addr} (h : kX X Fr W σ c d M B as) : kX X (upd Fr z o) W σ c d M B as := fun cls dx H rp xr => h cls dx H (rp.outFrame hF) xr
theorem Post.frame {α : Type} {Fr B : Hp} {as : List Addr} {σ : St} {z : Addr} {o : HO} {m : Out α} {k : α → Store → Hp → List Addr → Prop} (hF : Fr z = none) (h : Post B as m k (kX X Fr W σ)) : Post B as m k (kX X (upd Fr z o) W σ) := by
  cases m with
  | ok a M => exact h
  | exc c d M => exact fun B2 as2 e2 p2 => kX_frame hF (h B2 as2 e2 p2)
  | stuck => exact h
/-- the pairs of a display -/
def DPs (X : Cx) (W : WX) (pos : Pos) (ks : List (Option Expr)) (vs : List Expr) (f : Lo → Ev (List (Key × D))) : Prop := ∃ trs, PPs X pos ks vs trs ∧ ∀ Fr B as σ H S M (Q : List (V × V) → Hp → Prop), RS (gx X) B as σ S → Rep (gx X) Fr B as H M →
  Post B as (f S M) (fun kd M B as => ∀ kv H, Rep (gx X) Fr B as H M → RK (gx X) B as kv kd → Q (kv.map fun p => (kV p.1, p.2)) H) (kX X Fr W σ) → tPairs trs σ H Q
def pNil : Lo → Ev (List (Key × D)) := fun _ => Ev.ret []
def pCons (fk fv : Lo → Ev D) (fr : Lo → Ev (List (Key × D))) : Lo → Ev (List (Key × D)) := fun S => (fk S).bnd fun x => (fv S).bnd fun y => (fr S).bnd fun r => match toK x with
  | some k => Ev.ret ((k, y) :: r)
  | none => Ev.no
theorem dps_nil : DPs X W pos [] [] pNil := ⟨[], pps_nil, fun _ _ _ _ H _ _ _ _ rp h => h.ret [] H rp .nil⟩
theorem dps_cons {kx vx : Expr} {ks : List (Option Expr)} {vs : List Expr} {fk fv : Lo → Ev D} {fr : Lo → Ev (List (Key × D))} (hk : DE X W kx fk) (hv : DE X W vx fv) (hr : DPs X W pos ks vs fr) : DPs X W pos (some kx :: ks) (vx :: vs) (pCons fk fv fr) := by
  obtain ⟨t, p, s⟩ := hk
  obtain ⟨t', p', s'⟩ := hv
  obtain ⟨ts, ps, ss⟩ := hr
  refine ⟨(t, t') :: ts, pps_cons p p' ps, fun Fr B as σ H S M Q rs rp h => ?_⟩
  refine s Fr B as σ H S M _ rs rp (h.bnd.imp fun x M1 B1 as1 s1 p1 h1 v H1 rp1 r1 => ?_)
  refine s' Fr B1 as1 σ H1 S M1 _ (rs.mono s1 p1) rp1 (h1.bnd.imp fun y M2 B2 as2 s2 p2 h2 w H2 rp2 r2 => ?_)
  refine ss Fr B2 as2 σ H2 S M2 _ ((rs.mono s1 p1).mono s2 p2) rp2 (h2.bnd.imp fun kd M3 B3 as3 s3 p3 h3 kv H3 rp3 r3 => ?_)
  cases qk : toK x with
  | none => rw [qk] at h3; exact h3.elim
  | some k =>
    rw [qk] at h3
    have := r1.toK qk
    subst this
    exact h3.ret ((k, w) :: kv) H3 rp3 (.cons (r2.mono s3 p3) r3)
def pMrg (kd : List (Key × D)) : List (Key × D) := kd.foldl (fun acc p => pk acc p.1 p.2) []
def nDisp (f : Lo → Ev (List (Key × D))) : Lo → Ev NR := fun S => (f S).bnd fun kd => if kd.length ≤ 15 then Ev.ret (.n (.dct ((pMrg kd).map (·.1))) ((pMrg kd).map (·.2))) else Ev.no
theorem dn_disp {keys : List (Option Expr)} {values : List Expr} {f : Lo → Ev (List (Key × D))} (h : DPs X W pos keys values f) (hall : keys.all (·.isSome) = true := by rfl) (hl : keys.length = values.length := by rfl) (h0 : keys ≠ [] := by simp) (h15 : keys.length ≤ 15 := by decide) : DN X W (.Dict keys values pos) (nDisp f) := by
  obtain ⟨trs, ps, ss⟩ := h
  refine ⟨_, pe_disp ps hall hl h0 h15, fun Fr B as σ H S M Q rs rp h z hz => ?_⟩
  obtain ⟨nb, na⟩ := rp.fresh hz
  have hF := rp.frm.free hz
  have rp0 := ((rp.laid (o := .dK []) hz).inFrame upd_same hF nb na)
  refine ss _ B as σ _ S M _ rs rp0 ?_
  have h1 := h.bnd
  -- the exception's wish does not speak of the frame's extra cell
  refine Post.frame (X := X) (W := W) hF (h1.imp fun kd M1 B1 as1 s1 p1 h2 kv H1 rp1 rk => ?_)
  by_cases c : kd.length ≤ 15
  · rw [if_pos c] at h2
    have hp : H1 z = some (.dK []) := rp1.frm z _ upd_same
    refine ⟨hp, kv, rfl, by rw [rk.len]; exact c, ?_⟩
    have rm := RK.merge rk (.nil : RK (gx X) B1 as1 [] [])
    have hB1 := rp1.dis z _ upd_same
    have rh : Rep (gx X) Fr B1 as1 (hole H1 z) M1 := (rp1.outFrame hF).hole hB1 hF fun hz' => by
      have := rp1.fout z hz'
      rw [upd_same] at this; cases this
    have q := h2.ret _ (hole H1 z) z rh rm.vals hole_at
    obtain ⟨z1, z2⟩ := rm.dct
    have e : upd (hole H1 z) z (hoT (.dct ((pMrg kd).map (·.1))) ((mergeK [] kv).map (·.2))) = upd H1 z (.dK (mergeK [] kv)) := by
      funext y
      by_cases hy : y = z
      · subst hy
        rw [upd_same, upd_same]
        show some (HO.dK (((pMrg kd).map (·.1)).zip ((mergeK [] kv).map (·.2)))) = _
        unfold pMrg
        rw [z1]
      · rw [upd_ne hy, upd_ne hy, hole_ne hy]
    rw [e] at q
    exact q
  · rw [if_neg c] at h2; exact h2.elim
end
end DL

set_option Elab.async false
set_option linter.all false
set_option maxRecDepth 100000
set_option maxHeartbeats 4000000
/-! DL9: dict comprehensions, update, sorted, truth, isinstance, parallel stores, short words, the end. -/
namespace DL
open PySem L2
section
variable {X : Cx} {W : WX} {e o a b c i : Expr} {pos p apos cpos : Pos} {x m f : Str}
/-! ### {k: v for ..} -/
noncomputable def compK (tg : D → Lo → Ev Lo) (tt : Lo → Ev Bool) (tk te : Lo → Ev D) (g : Gd) (S : Lo) : List D → List (Key × D) → Ev (List (Key × D))
  | [], kd => chk g (Ev.ret kd)
  | d :: ds, kd => chk g ((Ev.nox (tg d S)).bnd fun S1 => (Ev.nox (tt S1)).bnd fun b => if b = true then (Ev.nox (tk S1)).bnd fun x => (Ev.nox (te S1)).bnd fun y => (match toK x with
      | some k => if kd.length < sizeLine then compK tg tt tk te g S ds (pk kd k y) else Ev.no
      | none => Ev.no) else compK tg tt tk te g S ds kd)
noncomputable def nDc (fi : Lo → Ev (List D × Gd)) (tg : D → Lo → Ev Lo) (tt : Lo → Ev Bool) (tk te : Lo → Ev D) (vs : List Nat) : Lo → Ev NR := fun S => (fi S).bnd fun r => (compK tg tt tk te r.2 (wipeD S vs) r.1 []).bnd fun kd => Ev.ret (.n (.dct (kd.map (·.1))) (kd.map (·.2)))
theorem dn_dc {kx elt tg iter : Expr} {ifs : List Expr} {scope : Scope} {own : List (Str × Nat)} {ps : List Nat} {fi : Lo → Ev (List D × Gd)} {ft : D → Lo → Ev Lo} {fc : Lo → Ev Bool} {fk fe : Lo → Ev D} (hc : X.calm = true) (hN : X.N.Nodup) (hi : DI X W tg iter fi) (ok : BlkOk X.N X.env.scope scope own)
    (hg : ∀ (s : Shared) (H : Hp) (C : Addr) (cl : List (Str × Addr)) (fp : List Addr), DG (X.blk s H scope (compEnvC scope cl C X.env) fp) W0 tg ps ft)
    (ht : ∀ (s : Shared) (H : Hp) (C : Addr) (cl : List (Str × Addr)) (fp : List Addr), DTs (X.blk s H scope (compEnvC scope cl C X.env) fp) W0 ifs fc)
    (hk : ∀ (s : Shared) (H : Hp) (C : Addr) (cl : List (Str × Addr)) (fp : List Addr), DE (X.blk s H scope (compEnvC scope cl C X.env) fp) W0 kx fk)
    (he : ∀ (s : Shared) (H : Hp) (C : Addr) (cl : List (Str × Addr)) (fp : List Addr), DE (X.blk s H scope (compEnvC scope cl C X.env) fp) W0 elt fe)
    (hps : ∀ i ∈ ps, i ∈ own.map (·.2)) (hs : ∀ x, foldedSetIterable iter X.env x = pure x := by intro _; rfl) :
    DN X W (.DictComp kx elt [⟨tg, iter, ifs, 0⟩] scope pos) (nDc fi ft fc fk fe (own.map (·.2))) := by
  obtain ⟨wi, pi, si⟩ := hi
  refine ⟨_, pe_dc hc hN pi ok (g := tG X ps ft) (tt := tT X W0 fc) (tk := tE X W0 fk) (tv := tE X W0 fe) (fun s H C cl fp => (hg s H C cl fp).pg) (fun s H C cl fp => (ht s H C cl fp).pts) (fun s H C cl fp => (hk s H C cl fp).pe) (fun s H C cl fp => (he s H C cl fp).pe) hs, fun Fr B as σ H S M Q rs rp h => ?_⟩
  refine si Fr B as σ H S M _ rs rp (h.bnd.imp fun r M1 B1 as1 s1 p1 h1 J H1 rp1 io p hp => ?_)
  obtain ⟨items, g⟩ := r
  dsimp only at h1 io
  have hole0 : hole (upd H1 p (.dK [])) p = H1 := by
    funext b
    by_cases hb : b = p
    · subst hb; rw [hole_at, hp]
    · rw [hole_ne hb, upd_ne hb]
  refine ⟨fun i m H => m = items.length - i ∧ i ≤ items.length ∧ ∃ B' as' M' kd kv, Same B1 B' ∧ as1 <+: as' ∧ H p = some (.dK kv) ∧ Rep (gx X) Fr B' as' (hole H p) M' ∧ RK (gx X) B' as' kv kd ∧
      Post B' as' (((compK ft fc fk fe g (wipeD S (own.map (·.2))) (items.drop i) kd).bnd fun kd => Ev.ret (NR.n (.dct (kd.map (·.1))) (kd.map (·.2)))) M') (kN X Fr Q) (kX X Fr W σ),
    ⟨items.length, by simp, Nat.zero_le _, B1, as1, M1, [], [], Same.refl _, List.prefix_refl _, upd_same, by rw [hole0]; exact rp1, .nil, h1⟩, ?_⟩
  rintro i m H ⟨rfl, hi, B2, as2, M2, kd, kv, s2, p2, hH, rp2, rk, h2⟩
  have hF : Fr p = none := rp2.frm.free hole_at
  obtain ⟨hB, hA⟩ := rp2.fresh (p := p) hole_at
  have full : Rep (gx X) (upd Fr p (.dK kv)) B2 as2 H M2 := by
    have q := (rp2.laid (o := .dK kv) hole_at)
    rw [upd_hole hH] at q
    exact q.inFrame hH hF hB hA
  by_cases hlt : i < items.length
  · rw [drop_cons hlt] at h2
    unfold compK at h2
    obtain ⟨hg2, h2⟩ := h2.bnd.chk
    obtain ⟨hgo, hy⟩ := io.go i items[i] (List.getElem?_eq_getElem hlt) _ B2 as2 H M2 s2 p2 full hg2
    refine .inr ⟨hgo, fun H' => ∃ B' as' M' kd kv, Same B1 B' ∧ as1 <+: as' ∧ H' p = some (.dK kv) ∧ Rep (gx X) Fr B' as' (hole H' p) M' ∧ RK (gx X) B' as' kv kd ∧
      Post B' as' (((compK ft fc fk fe g (wipeD S (own.map (·.2))) (items.drop (i + 1)) kd).bnd fun kd => Ev.ret (NR.n (.dct (kd.map (·.1))) (kd.map (·.2)))) M') (kN X Fr Q) (kX X Fr W σ), fun H' q => ⟨items.length - (i + 1), by omega, rfl, hlt, q⟩, fun x H' y => ?_⟩
    obtain ⟨B3, s3, rp3, r3⟩ := hy x H' y
    have h3 := h2.mono s3 (List.prefix_refl _)
    have rsW := ((rs.mono s1 p1).mono s2 p2).mono s3 (List.prefix_refl _) |>.wipe (own.map (·.2))
    refine ⟨_, B3, as2, _, M2, items[i], rsW, rp3, r3, (h3.bnd.nox (x' := fun _ _ _ _ _ => False)).imp fun S4 M4 B4 as4 s4 p4 h4 σ4 H4 rp4 rs4 ag l4 => ⟨wipe_agree (l4.trans (wipe_length _ _)) fun j hj => ag j fun z => hj (hps j z), ?_⟩⟩
    refine ⟨_, B4, as4, S4, M4, rs4, rp4, (h4.bnd.nox (x' := _)).imp fun bo M5 B5 as5 s5 p5 h5 H5 rp5 => ?_⟩
    have kp : ∀ {B' : Hp} {as' : List Addr} {H' : Hp} {M' : Store}, Rep (gx X) (upd Fr p (.dK kv)) B' as' H' M' → H' p = some (.dK kv) := fun q => q.frm p _ upd_same
    have hol : ∀ {B' : Hp} {as' : List Addr} {H' : Hp} {M' : Store}, Rep (gx X) (upd Fr p (.dK kv)) B' as' H' M' → Rep (gx X) Fr B' as' (hole H' p) M' := fun {B' as' H' M'} q => by
      refine (q.outFrame hF).hole (q.dis p _ upd_same) hF fun hz => ?_
      have := q.fout p hz
      rw [upd_same] at this; cases this
    cases bo with
    | false =>
      dsimp only
      rw [if_neg Bool.false_ne_true] at h5 ⊢
      exact ⟨B5, as5, M5, kd, kv, s2.trans (s3.trans (s4.trans s5)), p2.trans (p4.trans p5), kp rp5, hol rp5, rk.mono (s3.trans (s4.trans s5)) (p4.trans p5), h5.unbnd⟩
    | true =>
      dsimp only
      rw [if_pos rfl] at h5 ⊢
      refine ⟨_, B5, as5, S4, M5, rs4.mono s5 p5, rp5, (h5.bnd.nox (x' := _)).imp fun xd M6 B6 as6 s6 p6 h6 xv H6 rp6 r6 => ?_⟩
      refine ⟨_, B6, as6, S4, M6, (rs4.mono s5 p5).mono s6 p6, rp6, (h6.bnd.nox (x' := _)).imp fun yd M7 B7 as7 s7 p7 h7 yv H7 rp7 r7 => ?_⟩
      cases qk : toK xd with
      | none => rw [qk] at h7; exact h7.elim
      | some k =>
        rw [qk] at h7
        dsimp only at h7
        by_cases hz : kd.length < sizeLine
        · rw [if_pos hz] at h7
          have := r6.toK qk
          subst this
          have rk7 := rk.mono (s3.trans (s4.trans (s5.trans (s6.trans s7)))) (p4.trans (p5.trans (p6.trans p7)))
          exact ⟨kv, k, rfl, kp rp7, by rw [rk.len]; exact hz, B7, as7, M7, pk kd k yd, putK kv k yv, s2.trans (s3.trans (s4.trans (s5.trans (s6.trans s7)))), p2.trans (p4.trans (p5.trans (p6.trans p7))), upd_same, by rw [hole_upd]; exact hol rp7, rk7.put r7, h7.unbnd⟩
        · rw [if_neg hz] at h7; exact h7.elim
  · have e : i = items.length := by omega
    subst e
    rw [List.drop_length] at h2
    unfold compK at h2
    obtain ⟨hg2, h2⟩ := h2.bnd.chk
    have h3 := h2.ret
    refine .inl ⟨io.stop _ B2 as2 H M2 s2 p2 full hg2, ?_⟩
    have := h3.ret (kv.map (·.2)) (hole H p) p rp2 rk.vals hole_at
    have e2 : upd (hole H p) p (hoT (.dct (kd.map (·.1))) (kv.map (·.2))) = H := by
      show upd (hole H p) p (HO.dK ((kd.map (·.1)).zip (kv.map (·.2)))) = H
      rw [rk.dct.1]
      exact upd_hole hH
    rw [e2] at this
    exact this
/-! ### d.update(d2) -/
def rUpdate : V → List V → Hp → VK → Prop := fun x vs H Q => ∃ d o kvs more, x = .ref d ∧ vs = [.ref o] ∧ d ≠ o ∧ H d = some (.dK kvs) ∧ H o = some (.dK more) ∧ kvs.length + more.length ≤ sizeLine ∧ Q .non (upd H d (.dK (mergeK kvs more)))
theorem mt_update : MtM X "dict.update" rUpdate := by
  intro pins s σ H x vs v us Q I rx rv h
  obtain ⟨d, o, kvs, more, rfl, rfl, hne, hd, ho, hz, q⟩ := h
  cases rx
  obtain ⟨u, rfl, ru⟩ := rv.one
  cases ru
  obtain ⟨z, hs, ws, rel, dd⟩ := dk_of I.hok hd
  obtain ⟨z2, hs2, ws2, rel2, dd2⟩ := dk_of I.hok ho
  refine PySem.call_meetsIn PySem.F.slot_dict_update dd.typeIs PySem.F.entry_dict_update (PySem.F.args_dict_update_2 _ _) (PySem.meets_dict_update (mixKind X.prog X.w) d o hne hs2) ⟨ws, ws2, dd, dd2, ?_, fun h' dd' _ hsb => ?_⟩
  · rw [← rel.length, ← rel2.length]; exact hz
  · have he : ∃ q, h'.get? d = some q := let ⟨q, _, _, hq, _⟩ := dd'; ⟨q, hq⟩
    have hl : (mergeK kvs more).length ≤ sizeLine := Nat.le_trans (length_mergeK more kvs) hz
    exact ⟨.non, _, d_write (t' := s.toks) I (by rw [hd]; exact True.intro) hsb he (dk_new hl hs (rel2.merge rel) dd'), rfl, q⟩
def isCellK : D → Ev Unit
  | .ref n => fun M => match M[n]? with
    | some (.dct _, _) => .ok () M
    | _ => .stuck
  | _ => Ev.no
def notRef (n : Nat) : D → Bool
  | .ref m => decide (m ≠ n)
  | _ => true
def updE (x : D) (args : List D) : Ev D := match x, args with
  | .ref n, [y] => (vw y).bnd fun p => fun M => match M[n]?, p.1 with
    | some (.dct ks, l), .dct ks' => if notRef n y = true ∧ ks.length = l.length ∧ ks'.length = p.2.length ∧ ks.length + ks'.length ≤ sizeLine then
        .ok .non (M.set n (.dct (((ks'.zip p.2).foldl (fun acc q => pk acc q.1 q.2) (ks.zip l)).map (·.1)), ((ks'.zip p.2).foldl (fun acc q => pk acc q.1 q.2) (ks.zip l)).map (·.2))) else .stuck
    | _, _ => .stuck
  | _, _ => Ev.no
def eBk (op : D → List D → Ev D) (fo : Lo → Ev D) (fa : Lo → Ev (List D)) : Lo → Ev D := fun S => (fo S).bnd fun x => (isCellK x).bnd fun _ => (fa S).bnd fun l => op x l
theorem Post.isCellK {α : Type} {Fr B : Hp} {as : List Addr} {d : D} {f : Unit → Ev α} {M : Store} {H : Hp} {v : V} {k : α → Store → Hp → List Addr → Prop} {x : Str → D → Store → Hp → List Addr → Prop} (h : Post B as (((DL.isCellK d).bnd f) M) k x)
    (rp : Rep (gx X) Fr B as H M) (r : R (gx X) B as v d) : tyV X.K "dict" v H ∧ Post B as (f () M) k x := by
  cases r with
  | ref ha =>
    rename_i n a
    unfold Ev.bnd DL.isCellK at h
    cases q : M[n]? with
    | none => simp only [q] at h; exact h.elim
    | some c =>
      obtain ⟨t, l⟩ := c
      simp only [q] at h
      obtain ⟨vs, mc, rs⟩ := rp.cell n a _ ha q
      cases t <;> first | exact h.elim | skip
      exact ⟨.inr (.inr (.inl ⟨rfl, .inl ⟨_, mc.1⟩⟩)), h⟩
  | _ => exact h.elim
theorem de_update {fo : Lo → Ev D} {fa : Lo → Ev (List D)} (ho : DE X W o fo) (ha : DA X W [e] fa)
    (hbase : attributeBase o "update" X.env (eval o X.env) = eval o X.env := by rfl)
    (hfew : ((backTo cpos (starEach [e] X.env)).all (fun x => !x.1) && (backToKw cpos (keywordEach [] X.env)).all (fun x => x.1.isSome)
      && decide ([e].length + ([] : List Keyword).length + (if ([] : List Keyword).isEmpty then 0 else 1) < 30)) = true := by rfl)
    (hline : (apos.endLine == cpos.line) = true := by rfl) (hs : starEach [e] X.env = (false, eval e X.env) :: starEach [] X.env := by rfl) (hplain : (backTo cpos (starEach [] X.env)).any (·.1) = false := by rfl) :
    DE X W (.Call (.Attribute o "update" apos) [e] [] cpos) (eBk updE fo fa) := by
  obtain ⟨t, p, s⟩ := ho
  obtain ⟨t', p', s'⟩ := ha
  refine ⟨_, pe_bm PySem.F.plainAttrs_dict PySem.F.slot_dict_update PySem.F.type_dict_update mt_update p p' hbase hfew hline hs hplain, fun Fr B as σ H S M Q rs rp h => ?_⟩
  refine s Fr B as σ H S M _ rs rp (h.bnd.imp fun x M1 B1 as1 s1 p1 h1 v H1 rp1 r1 => ?_)
  obtain ⟨ty, h8⟩ := h1.isCellK rp1 r1
  clear h1
  refine ⟨ty, s' Fr B1 as1 σ H1 S M1 _ (rs.mono s1 p1) rp1 (h8.bnd.imp fun l M2 B2 as2 s2 p2 h2 vs H2 rp2 r2 => ?_)⟩
  have rx := r1.mono s2 p2
  unfold updE at h2
  cases rx <;> first | (cases l <;> exact h2.elim) | skip
  rename_i n a ha
  cases r2 with
  | nil => exact h2.elim
  | cons r rr =>
    cases rr with
    | cons _ _ => exact h2.elim
    | nil =>
      rename_i yv y
      dsimp only at h2
      obtain ⟨t, m, q, ws, rfl, fc, rs3, h9, c1, c2⟩ := Post.vw2 (d := y) h2 rp2 r
      dsimp only at h9
      cases qn : M2[n]? with
      | none => rw [qn] at h9; exact h9.elim
      | some cc =>
        obtain ⟨tt, l⟩ := cc
        rw [qn] at h9
        obtain ⟨vs, mc, rsc⟩ := rp2.cell n a _ ha qn
        cases tt <;> first | exact h9.elim | skip
        cases t <;> first | exact h9.elim | skip
        rename_i ks ks'
        dsimp only at h9
        by_cases hc : notRef n y = true ∧ ks.length = l.length ∧ ks'.length = m.length ∧ ks.length + ks'.length ≤ sizeLine
        · rw [if_pos hc] at h9
          obtain ⟨hn, l1, l2, hz⟩ := hc
          have hne : a ≠ q := by
            intro z
            subst z
            have fro : (∀ k, y ≠ .ref k) → False := fun hy => by
              have := (c2 hy).1
              rw [rp2.out a (List.mem_of_getElem? ha)] at this; cases this
            cases y with
            | ref k =>
              have : k ≠ n := of_decide_eq_true hn
              exact this (nodup_ixA rp2.nd (c1 k rfl).1 ha)
            | _ => exact fro fun k hk => by cases hk
          have rk := RK.merge (rs3.rk fc.2) (rsc.rk mc.2)
          obtain ⟨z1, z2⟩ := rk.dct
          refine ⟨a, q, _, _, rfl, rfl, hne, mc.1, fc.1, by rw [List.length_zip, List.length_zip]; have := mc.2; have := fc.2; omega, ?_⟩
          refine h9.ok _ _ (rp2.write (t := .dct _) ha ?_ rk.vals) .non
          exact ⟨by rw [upd_same, z1], z2⟩
        · rw [if_neg hc] at h9; exact h9.elim
/-! ### sorted -/
theorem sort_one {ns ms : List Int} (p : ms.Perm ns) (s : ms.Pairwise (· ≤ ·)) : ms = ns.mergeSort (fun a b => decide (a ≤ b)) := by
  refine List.Perm.eq_of_pairwise (le := (· ≤ ·)) (fun a b _ _ h1 h2 => Int.le_antisymm h1 h2) s ?_ (p.trans (List.mergeSort_perm ns _).symm)
  have := List.pairwise_mergeSort (le := fun a b : Int => decide (a ≤ b)) (fun a b c h1 h2 => by simp at *; omega) (fun a b => by simp; omega) ns
  exact this.imp fun h => by simpa using h
abbrev srt (ns : List Int) : List Int := ns.mergeSort (fun a b => decide (a ≤ b))
def intKeys : List Key → Option (List Int)
  | [] => some []
  | .inl i :: r => (intKeys r).map (i :: ·)
  | _ => none
theorem intKeys_eq : ∀ {ks : List Key} {ns : List Int}, intKeys ks = some ns → ks = ns.map Sum.inl
  | [], _, h => by cases h; rfl
  | .inl i :: r, _, h => by
    unfold intKeys at h
    cases q : intKeys r with
    | none => rw [q] at h; cases h
    | some ms => rw [q] at h; cases h; rw [intKeys_eq q]; rfl
  | .inr _ :: _, _, h => by cases h
theorem intKeys_map (ns : List Int) : intKeys (ns.map Sum.inl) = some ns := by
  induction ns with
  | nil => rfl
  | cons n l ih => simp [intKeys, ih]
def sortedN (x : D) : Ev NR := (vw x).bnd fun p => match p.1 with
  | .lst => match intsOf p.2 with
    | some ns => if ns.length < 64 then Ev.ret (.n .lst ((srt ns).map D.int)) else Ev.no
    | none => Ev.no
  | .dct ks => match intKeys ks with
    | some ns => if ns.length < 64 ∧ ks.length = p.2.length then Ev.ret (.n .lst ((srt ns).map D.int)) else Ev.no
    | none => Ev.no
  | _ => Ev.no
theorem dn_sorted {fa : Lo → Ev (List D)} (hc : X.calm = true) (hg : Gl X "sorted") (hm : X.mg "sorted" = none) (ha : DA X W [e] fa) (he : starEach [e] X.env = (false, eval e X.env) :: starEach [] X.env := by rfl) : DN X W (.Call (.Name "sorted" p) [e] [] pos) (nCall (op1 sortedN) fa) :=
  dn_callB ((cr_sorted (X := X)).or (call_sortedDI hc)) (oNN1 fun Fr B as σ H M v d Q rp r h => by
    obtain ⟨t, l, p, vs, rfl, fc, rs, h, _⟩ := Post.vw (d := d) h rp r
    cases t <;> first | exact h.elim | skip
    · dsimp only at h
      cases q : intsOf l with
      | none => rw [q] at h; exact h.elim
      | some ns =>
        rw [q] at h
        dsimp only at h
        by_cases hz : ns.length < 64
        · rw [if_pos hz] at h
          rw [intsOf_eq q] at rs
          have e := rs.ints
          subst e
          refine .inl ⟨p, ns, rfl, SqL.of fc, hz, fun ns' z hp hs hz' => ?_⟩
          rw [sort_one hp hs]
          exact h.ret _ H z rp (Rs.ofInts _) hz'
        · rw [if_neg hz] at h; exact h.elim
    · rename_i ks _
      dsimp only at h
      cases q : intKeys ks with
      | none => rw [q] at h; exact h.elim
      | some ns =>
        rw [q] at h
        dsimp only at h
        by_cases hz : ns.length < 64 ∧ ks.length = l.length
        · rw [if_pos hz] at h
          refine .inr ⟨p, _, ns, rfl, .inl fc.1, ?_, hz.1, fun ns' z hp hs hz' => ?_⟩
          · rw [← intKeys_eq q]
            have := fc.2
            rw [List.map_fst_zip (by omega)]
          · rw [sort_one hp hs]
            exact h.ret _ H z rp (Rs.ofInts _) hz'
        · rw [if_neg hz] at h; exact h.elim) hg hm (by decide +kernel) ha (by decide) (by decide) he
/-! ### truth -/
def truE (x : D) : Ev Bool := match x with
  | .non => Ev.ret false
  | .bl b => Ev.ret b
  | .int i => Ev.ret (i != 0)
  | .str y => if y.length ≤ sizeLine then Ev.ret ((y.length : Int) != 0) else Ev.no
  | _ => (vw x).bnd fun p => match p.1 with
    | .lst => Ev.ret (!p.2.isEmpty)
    | .slst => Ev.ret (!p.2.isEmpty)
    | .tup => Ev.ret (!p.2.isEmpty)
    | .dct ks => if ks.length = p.2.length then Ev.ret (!p.2.isEmpty) else Ev.no
    | _ => Ev.no
def eTru (f : Lo → Ev D) : Lo → Ev Bool := fun S => (f S).bnd truE
theorem Rs.empty {G : Gx} {B : Hp} {as : List Addr} {vs : List V} {l : List D} (r : Rs G B as vs l) : vs.isEmpty = l.isEmpty := by cases r <;> rfl
theorem dt_truth {g : Lo → Ev D} (h : DE X W e g) (he : ∀ whole, isTrue e X.env whole = (do let v ← whole; standAt e.pos; holding [v] (truthy v)) := by intro _; rfl) : DT X W e (eTru g) := by
  obtain ⟨t, p, s⟩ := h
  refine ⟨_, pt_truth p he, fun Fr B as σ H S M Q rs rp h => ?_⟩
  refine s Fr B as σ H S M _ rs rp (h.bnd.imp fun x M1 B1 as1 s1 p1 h1 v H1 rp1 r1 => ?_)
  have gen : Post B1 as1 (((vw x).bnd fun p => match p.1 with
    | .lst => Ev.ret (!p.2.isEmpty)
    | .slst => Ev.ret (!p.2.isEmpty)
    | .tup => Ev.ret (!p.2.isEmpty)
    | .dct ks => if ks.length = p.2.length then Ev.ret (!p.2.isEmpty) else Ev.no
    | _ => Ev.no) M1) (kB X Fr Q) (kX X Fr W σ) → ∃ k, TruV X.K v H1 k ∧ Q k H1 := fun h1 => by
    obtain ⟨t, l, q, vs, rfl, fc, rs2, h9, _⟩ := Post.vw (d := x) h1 rp1 r1
    cases t <;> first | exact h9.elim | skip
    · exact ⟨_, .inl ⟨vs, SqL.of fc, by rw [rs2.empty]⟩, h9.ret H1 rp1⟩
    · exact ⟨_, .inl ⟨vs, fc, by rw [rs2.empty]⟩, h9.ret H1 rp1⟩
    · exact ⟨_, .inr (.inl ⟨vs, fc, by rw [rs2.empty]⟩), h9.ret H1 rp1⟩
    · rename_i ks _
      dsimp only at h9
      by_cases hc : ks.length = l.length
      · rw [if_pos hc] at h9
        refine ⟨_, .inr (.inr ⟨_, fc.1, ?_⟩), h9.ret H1 rp1⟩
        have h2 := fc.2
        cases rs2 with
        | nil => cases ks <;> first | rfl | (simp at h2)
        | cons _ _ => cases ks <;> first | rfl | (simp at h2)
      · rw [if_neg hc] at h9; exact h9.elim
  cases r1 with
  | non => exact ⟨false, rfl, h1.ret H1 rp1⟩
  | bl b => exact ⟨b, rfl, h1.ret H1 rp1⟩
  | int i => exact ⟨_, rfl, h1.ret H1 rp1⟩
  | str y =>
    have h1 : Post B1 as1 ((if y.length ≤ sizeLine then Ev.ret ((y.length : Int) != 0) else Ev.no) M1) (kB X Fr Q) (kX X Fr W σ) := h1
    by_cases hc : y.length ≤ sizeLine
    · rw [if_pos hc] at h1; exact ⟨_, ⟨hc, rfl⟩, h1.ret H1 rp1⟩
    · rw [if_neg hc] at h1; exact h1.elim
  | ty n => exact h1.elim
  | gl h => exact h1.elim
  | ref h => exact gen h1
  | nd a b => exact gen h1
/-! ### isinstance of data, built-in classes -/
def tyS : Tg → Option String
  | .lst => some "list"
  | .slst => some "list"
  | .tup => some "tuple"
  | .dct _ => some "dict"
  | _ => none
def tyN (x : D) : Ev String := match x with
  | .non => Ev.ret "NoneType"
  | .bl _ => Ev.ret "bool"
  | .int _ => Ev.ret "int"
  | .str _ => Ev.ret "str"
  | _ => (vw x).bnd fun p => optE (tyS p.1)
def isiB (t T : String) : Option Bool := kitB t T
def isiE (x y : D) : Ev D := (tyN x).bnd fun t => match y with
  | .ty T => (optE (isiB t T)).bnd fun b => Ev.ret (.bl b)
  | _ => Ev.no
def tysOf : List D → Option (List String)
  | [] => some []
  | .ty n :: l => (tysOf l).map (n :: ·)
  | _ => none
def isiA (t : String) : List String → Option Bool
  | [] => some false
  | T :: Ts => match isiB t T with
    | some true => some true
    | some false => isiA t Ts
    | none => none
def isiTE (x y : D) : Ev D := (tyN x).bnd fun t => (vw y).bnd fun p => match p.1, tysOf p.2 with
  | .tup, some Ts => (optE (isiA t Ts)).bnd fun b => Ev.ret (.bl b)
  | _, _ => Ev.no
theorem Post.tyN {α : Type} {Fr B : Hp} {as : List Addr} {d : D} {g : String → Ev α} {M : Store} {H : Hp} {v : V} {k : α → Store → Hp → List Addr → Prop} {x : Str → D → Store → Hp → List Addr → Prop} (h : Post B as (((DL.tyN d).bnd g) M) k x)
    (rp : Rep (gx X) Fr B as H M) (r : R (gx X) B as v d) : ∃ t, TyX X.K H v (.type t) ∧ Post B as (g t M) k x := by
  have gen : Post B as ((((DL.vw d).bnd fun p => optE (tyS p.1)).bnd g) M) k x → ∃ t, TyX X.K H v (.type t) ∧ Post B as (g t M) k x := fun h => by
    rw [bnd_bnd] at h
    obtain ⟨t, l, q, vs, rfl, fc, rs2, h9, _⟩ := Post.vw (d := d) h rp r
    cases t with
    | lst => exact ⟨"list", .base (.lst fc), h9⟩
    | slst =>
      refine ⟨"list", ?_, h9⟩
      rcases fc with (fc | ⟨o, fc⟩) | ⟨o, its, n, e, c, _⟩
      · exact .base (.lst fc)
      · exact .base (.frz fc)
      · exact .kList e c
    | tup =>
      refine ⟨"tuple", ?_, h9⟩
      rcases fc with (fc | ⟨o, fc⟩) | ⟨o, its, n, e, c, _⟩
      · exact .base (.tup fc)
      · exact .fTuple fc
      · exact .kTuple e c
    | dct ks => exact ⟨"dict", .base (.dK fc.1), h9⟩
    | obj c ns => exact h9.elim
  cases r with
  | non => exact ⟨_, .base .non, h⟩
  | bl b => exact ⟨_, .base (.bl b), h⟩
  | int i => exact ⟨_, .base (.int i), h⟩
  | str y => exact ⟨_, .base (.str y), h⟩
  | ty n => exact h.elim
  | gl _ => exact h.elim
  | ref _ => exact gen h
  | nd _ _ => exact gen h
theorem tysOf_ok {G : Gx} {B : Hp} {as : List Addr} : ∀ {l : List D} {vs : List V} {Ts : List String}, Rs G B as vs l → tysOf l = some Ts → vs = Ts.map V.ty
  | [], _, _, .nil, h => by cases h; rfl
  | .ty n :: l, _, _, .cons r t, h => by
    unfold tysOf at h
    cases q : tysOf l with
    | none => rw [q] at h; cases h
    | some ms => rw [q] at h; cases h; cases r; rw [tysOf_ok t q]; rfl
  | .non :: _, _, _, _, h | .bl _ :: _, _, _, _, h | .int _ :: _, _, _, _, h | .str _ :: _, _, _, _, h | .gl _ :: _, _, _, _, h | .ref _ :: _, _, _, _, h | .nd _ _ :: _, _, _, _, h => by cases h
theorem isiA_ok {K : PySem.W.Frag} {t : String} : ∀ {Ts : List String} {b : Bool}, isiA t Ts = some b → PySem.W.kitAny K (.type t) (Ts.map Value.type) = some b
  | [], _, h => by cases h; rfl
  | T :: Ts, b, h => by
    unfold isiA at h
    cases q : isiB t T with
    | none => rw [q] at h; cases h
    | some c =>
      rw [q] at h
      cases c with
      | true => cases h; exact kitAny_cons (kit_ty q) (fun z => by cases z) (fun _ => rfl)
      | false => exact kitAny_cons (kit_ty q) (fun _ => isiA_ok h) (fun z => by cases z)
/-- isinstance(x, T), T a tuple of classes, however it stands -/
def rIsiS (K : PySem.W.Frag) : List V → Hp → VK → Prop := fun xs H Q => ∃ (x : V) (tp : Addr) (Ts : List String) (t : Value) (b : Bool), xs = [x, .ref tp] ∧ SqT K H tp (Ts.map V.ty) ∧ TyX K H x t ∧ PySem.W.kitAny K t (Ts.map Value.type) = some b ∧ Q (.bl b) H
theorem vals_ty : ∀ {Ts : List String} {us : List Value}, Vals (Ts.map V.ty) us → us = Ts.map Value.type
  | [], _, .nil => rfl
  | T :: Ts, _, .cons r t => by
    rw [vals_ty t, List.map_cons]
    have : _ = Value.type T := r
    rw [this]
theorem call_isiS : CallR X (.builtin "isinstance") (rIsiS X.K) := by
  intro pins s σ H xs us Q I r h
  obtain ⟨x, tp, Ts, t, b, rfl, hT, ty, e, q⟩ := h
  obtain ⟨u1, u2, rfl, r1, r2⟩ := vals2 r
  cases (show u2 = Value.ref tp from r2)
  obtain ⟨P, Z, p, hx⟩ := kit_of I r1 ty
  obtain ⟨its, rv, ⟨o, h1, h2, n, h3⟩, _⟩ := I.tuple hT
  have e3 := vals_ty rv
  subst e3
  obtain ⟨oc, od, dt, sl⟩ := o
  simp only at h2 h3
  subst h2 h3
  exact PySem.W.kia_tup Z I.kIn p h1 e hx fun tk => ⟨.bl b, H, I.tok tk, rfl, q⟩
variable {fa : Lo → Ev (List D)}
theorem de_isi (hg : Gl X "isinstance") (hm : X.mg "isinstance" = none) (ha : DA X W [a, b] fa) (he : starEach [a, b] X.env = (false, eval a X.env) :: starEach [b] X.env := by rfl) (hpl : (backTo pos (starEach [b] X.env)).any (·.1) = false := by rfl) : DE X W (.Call (.Name "isinstance" p) [a, b] [] pos) (eCall (op2 isiE) fa) :=
  de_callB call_isi (oN2 fun Fr B as σ H M v w d e Q rp r1 r2 h => by
    obtain ⟨t, ty, h9⟩ := Post.tyN (d := d) h rp r1
    clear h
    cases r2 <;> first | exact h9.elim | skip
    rename_i T
    dsimp only at h9
    cases q : isiB t T with
    | none => rw [q] at h9; exact h9.elim
    | some b => rw [q] at h9; exact ⟨v, _, _, _, b, rfl, .ty T, ty, kit_ty q, (Post.ret (a := D.bl b) h9) _ H rp (.bl b)⟩) hg hm (by decide +kernel) ha (by decide) (by decide) he hpl
theorem de_isiT (hg : Gl X "isinstance") (hm : X.mg "isinstance" = none) (ha : DA X W [a, b] fa) (he : starEach [a, b] X.env = (false, eval a X.env) :: starEach [b] X.env := by rfl) (hpl : (backTo pos (starEach [b] X.env)).any (·.1) = false := by rfl) : DE X W (.Call (.Name "isinstance" p) [a, b] [] pos) (eCall (op2 isiTE) fa) :=
  de_callB call_isiS (oN2 fun Fr B as σ H M v w d e Q rp r1 r2 h => by
    obtain ⟨t, ty, h⟩ := Post.tyN (d := d) h rp r1
    obtain ⟨tt, l, p, vs, rfl, fc, rs, h, _⟩ := Post.vw (d := e) h rp r2
    cases tt <;> first | exact h.elim | skip
    dsimp only at h
    cases q : tysOf l with
    | none => rw [q] at h; exact h.elim
    | some Ts =>
      rw [q] at h
      dsimp only at h
      cases q2 : isiA t Ts with
      | none => rw [q2] at h; exact h.elim
      | some b =>
        rw [q2] at h
        have := tysOf_ok rs q
        subst this
        exact ⟨v, p, Ts, _, b, rfl, fc, ty, isiA_ok q2, (Post.ret (a := D.bl b) h) _ H rp (.bl b)⟩) hg hm (by decide +kernel) ha (by decide) (by decide) he hpl
/-! ### a, b = x, y (two local names); y = [..] -/
def sPar (i j : Nat) (fa : Lo → Ev (List D)) : Lo → Ev Fl := fun S => Ev.flG (fa S) S fun l => match l with
  | [x, y] => Ev.ret (.nx ((S.set i (some x)).set j (some y)))
  | _ => Ev.no
theorem ds_par {ii jj : Nat} {y : Str} {px py pt : Pos} {kt k2 pt2} (hc : X.calm = true) (hN : X.N.Nodup) (hi : X.N[ii]? = some x) (hj : X.N[jj]? = some y) (hij : ii ≠ jj)
    (hx : X.env.scope.names.lookup x = some .local) (hy : X.env.scope.names.lookup y = some .local) (ha : DA X W [a, b] fa)
    (hw : swappedStores [.Tuple [.Name x px, .Name y py] kt pt] (.Tuple [a, b] k2 pt2) X.env = pure (some [x, y]))
    (hs : swapsWithSole [.Tuple [.Name x px, .Name y py] kt pt] (.Tuple [a, b] k2 pt2) pos.line X.env = pure false := by rfl) :
    DS X W (.Assign [.Tuple [.Name x px, .Name y py] kt pt] (.Tuple [a, b] k2 pt2) pos) (sPar ii jj fa) := by
  obtain ⟨t, p, s⟩ := ha
  refine ⟨_, ps_par hc hN hi hj hij hx hy p hw hs, fun Fr B as σ H S M D rs rp h => ?_⟩
  refine s Fr B as σ H S M _ rs rp ((Post.flG rs h).imp fun l M1 B1 as1 s1 p1 h1 vs H1 rp1 r1 => ?_)
  cases r1 with
  | nil => exact h1.elim
  | cons r t =>
    cases t with
    | nil => exact h1.elim
    | cons r' t =>
      cases t with
      | cons _ _ => exact h1.elim
      | nil => exact ⟨_, _, rfl, h1.ret _ H1 rp1 (((rs.mono s1 p1).set r ii).set r' jj)⟩
end
end DL

set_option Elab.async false
set_option linter.all false
set_option maxRecDepth 100000
set_option maxHeartbeats 4000000
/-! DLA: short words for printed derivations, the law's own def, the end. -/
namespace DL
open PySem L2
section
variable {X : Cx} {W : WX} {e o a b c i : Expr} {pos p apos cpos : Pos} {x m f : Str}
theorem dv (i : Nat) (hN : X.N[i]? = some x := by rfl) (hv : Vis X.env.scope x := by first | exact Or.inl rfl | exact Or.inr (Or.inl rfl) | exact Or.inr (Or.inr rfl)) (hd : (x == ("__debug__" : Str)) = false := by decide) (hcd : (x == ("__classdict__" : Str)) = false := by decide) : DE X W (.Name x pos) (eVar i) := de_var hN hv hd hcd
theorem gn (i : Nat) (hN : X.N.Nodup) (hi : X.N[i]? = some x := by rfl) (hx : Loc X.env.scope x := by first | exact Or.inl rfl | exact Or.inr rfl) (hf : X.fn x = true ∨ X.env.scope.names.lookup x = some .local := by first | exact .inl rfl | exact .inr rfl) : DG X W (.Name x pos) [i] (gNm i) := dg_name hN hi hx hf
theorem st (i : Nat) {g : Lo → Ev D} {pos' : Pos} (hN : X.N.Nodup) (he : DE X W e g) (hi : X.N[i]? = some x := by rfl) (hx : Loc X.env.scope x := by first | exact Or.inl rfl | exact Or.inr rfl) (hs : swapsWith e (some (.Name x pos')) pos.line X.env = pure false := by rfl) (hf : X.fn x = true ∨ X.env.scope.names.lookup x = some .local := by first | exact .inl rfl | exact .inr rfl) :
    DS X W (.Assign [.Name x pos'] e pos) (sAsg g (gNm i)) := ds_set hN hi hx he hs hf
theorem rs_mem {l : List Nat} {ps : List Nat} (h : (ps.all fun i => decide (i ∈ l)) = true) : ∀ i ∈ ps, i ∈ l := fun i hi => of_decide_eq_true (List.all_eq_true.mp h i hi)
theorem de_append {fo : Lo → Ev D} {fa : Lo → Ev (List D)} (ho : DE X W o fo) (ha : DA X W [e] fa) (hbase : attributeBase o "append" X.env (eval o X.env) = eval o X.env := by rfl)
    (hfew : ((backTo cpos (starEach [e] X.env)).all (fun x => !x.1) && (backToKw cpos (keywordEach [] X.env)).all (fun x => x.1.isSome)
      && decide ([e].length + ([] : List Keyword).length + (if ([] : List Keyword).isEmpty then 0 else 1) < 30)) = true := by rfl)
    (hline : (apos.endLine == cpos.line) = true := by rfl) (hs : starEach [e] X.env = (false, eval e X.env) :: starEach [] X.env := by rfl) (hplain : (backTo cpos (starEach [] X.env)).any (·.1) = false := by rfl) :
    DE X W (.Call (.Attribute o "append" apos) [e] [] cpos) (eBm (cellM opAppend) fo fa) := de_bm PySem.F.slot_list_append PySem.F.type_list_append mt_append m_append ho ha hbase hfew hline hs hplain
theorem de_clear {fo : Lo → Ev D} (ho : DE X W o fo) (hbase : attributeBase o "clear" X.env (eval o X.env) = eval o X.env := by rfl) (hline : (apos.endLine == cpos.line) = true := by rfl) : DE X W (.Call (.Attribute o "clear" apos) [] [] cpos) (eBm (cellM opClear) fo eA0) :=
  de_bm0 PySem.F.slot_list_clear PySem.F.type_list_clear mt_clear m_clear ho hbase hline
theorem de_pop {fo : Lo → Ev D} (ho : DE X W o fo) (hbase : attributeBase o "pop" X.env (eval o X.env) = eval o X.env := by rfl) (hline : (apos.endLine == cpos.line) = true := by rfl) : DE X W (.Call (.Attribute o "pop" apos) [] [] cpos) (eBm (cellM opPop) fo eA0) :=
  de_bm0 PySem.F.slot_list_pop PySem.F.type_list_pop mt_pop m_pop ho hbase hline
theorem hp_of {P : Program} {w : World} {K : PySem.W.Frag} {mg : Str → Option Value} {base : Heap} {CX : CXT} {N : List Str} {qual : Str} {scope : Scope} {f : Addr} {cd : Value} {A : Around} {outer : List Env} {s : Shared} {H : Hp} {E : XK} :
    PassesOwn (model P w) (cxOf CX P w K mg base N qual scope f cd A outer s H E).A (cxOf CX P w K mg base N qual scope f cd A outer s H E).env (cxOf CX P w K mg base N qual scope f cd A outer s H E).xe := passes_of (X := cxOf CX P w K mg base N qual scope f cd A outer s H E) rfl
/-! ### the law's own def: nothing is let out -/
def spL (G : Gx) (n : Nat) (F : List D → Ev D) : Sp := fun vs H Q _ => ∃ Fr B as M l, Rep G Fr B as H M ∧ Rs G B as vs l ∧ l.length = n ∧
  Post B as (F l M) (fun d M' B' as' => ∀ v H', Rep G Fr B' as' H' M' → R G B' as' v d → Q v H') (fun _ _ _ _ _ => False)
theorem fn_l {P : Program} {w : World} {K : PySem.W.Frag} {mg : Str → Option Value} {base : Heap} {x qual : Str} {params : Arguments} {body : List Stmt} {scope : Scope} {dvs : List V} {kws : List (Str × V)} {f : Addr} {fd : FuncData} {N ps : List Str} {k : Nat} {g : Lo → Ev Fl}
    (F : FunD K x qual params body scope dvs kws f fd) (S : FnScope N ps scope)
    (hb : ∀ (cdv : Value) (A : Around) (outer : List Env) (s : Shared) (H : Hp) (E : XK), Room k (A.deeper (PyProof.Rows.envOfC qual scope s.heap.objs.size f cdv)) →
      DSs (cxOf CX0 P w K mg base N qual scope f cdv A outer s H E) (WF E0) body g) : FnOk P w K mg base CX0 (k + 1) f fd ps (spL ⟨K, mg⟩ ps.length (runF N.length g)) := by
  refine F.ok S (fun vs H Q E h => ?_) (fun cdv A outer s H vs Q E hr h => ?_)
  · obtain ⟨Fr, B, as, M, l, rp, rs, hl, _⟩ := h
    rw [rs.length, hl]
  · obtain ⟨Fr, B, as, M, l, rp, rs, hl, h⟩ := h
    obtain ⟨t, p, sd⟩ := hb cdv A outer s H E hr
    refine ⟨t, p, sd Fr B as _ H (startD N.length l) M _ (RS.start rs) rp ((h.bnd.nox (x' := fun _ _ _ _ _ => False)).imp fun fl M1 B1 as1 s1 p1 h1 => ?_)⟩
    cases fl with
    | nx S' => exact fun σ' H' rp' rs' => h1.ret .non H' rp' .non
    | rt d => exact fun v H' rp' rv => h1.ret v H' rp' rv
    | bk S' => exact h1.elim
    | ct S' => exact h1.elim
    | xc c d S' => exact (h1 B1 as1 (Same.refl _) (List.prefix_refl _)).elim
/-- the script -/
abbrev scr (ns : List Int) : D := .nd .slst (ns.map D.int)
theorem spL_script {K : PySem.W.Frag} {mg : Str → Option Value} {F : List D → Ev D} {H : Hp} {a : Addr} {ns : List Int} {M' : Store} (hS : SqL K H a (ns.map V.int)) (h : F [scr ns] [] = .ok (.bl true) M') : spL ⟨K, mg⟩ 1 F [.ref a] H (fun v _ => v = .bl true) (fun _ _ _ => False) := by
  refine ⟨fun _ => none, H, [], [], [scr ns], ⟨Same.refl _, (fun b o e => by cases e), (fun a ha => by cases ha), (fun a o e => by cases e), List.nodup_nil, (fun a ha => by cases ha), rfl, (fun n a c h1 _ => by simp at h1)⟩, .cons (.nd (t := .slst) hS (Rs.ofInts ns)) .nil, rfl, ?_⟩
  rw [h]
  intro B' as' _ _ v H' _ r
  cases r
  rfl
end
end DL

set_option Elab.async false
set_option linter.all false
set_option maxRecDepth 100000
set_option maxHeartbeats 4000000
namespace Lw
open PySem L2 DL
noncomputable def g__law_pool : Lo → Ev Fl := sSeq (sAsg (eC (.int 0)) (gNm 2)) (sSeq (sIf (eB (e2 ltE (eVar 1) (eCall (op1 lenE) (eAc (eVar 0) eA0)))) (sAsg (e2 ixE (eVar 0) (eVar 1)) (gNm 2)) sNext) (sSeq (sAsg (e2 modE (e2 mulE (eF (n2 addN (eF (n2 addN (e2 modE (eVar 2) (eC (.int 2147483629))) (e2 mulE (e2 mulE (eC (.int 7919)) (eVar 1)) (eVar 1)))) (eC (.int 13)))) (eC (.int 48271))) (eC (.int 2147483647))) (gNm 3)) (sSeq (sIf (eB (e2 ltE (eVar 2) (e2 powE (eC (.int 10)) (eC (.int 18))))) (sAsg (eC (.int 0)) (gNm 2)) sNext) (sRet (eCl (nNew .lst (eAc (eVar 2) (eAc (eF (n2 addN (e2 modE (e2 mulE (eVar 3) (eVar 3)) (eC (.int 2147483587))) (eC (.int 1)))) eA0))))))))
noncomputable def F__law_pool : List D → Ev D := runF 4 g__law_pool
noncomputable def g__law_take : Lo → Ev Fl := sSeq (sIf (eB (e2 gtE (e2 ixE (eVar 0) (eC (.int 0))) (eC (.int 0)))) (sSeq (sAsg (e2 modE (e2 ixE (eVar 0) (eC (.int 0))) (eVar 1)) (gNm 2)) (sSeq (sAsg (e2 divE (e2 ixE (eVar 0) (eC (.int 0))) (eVar 1)) (gSet (eVar 0) (eC (.int 0)))) (sRet (eVar 2)))) sNext) (sSeq (sAsg (e2 modE (eF (n2 addN (e2 mulE (e2 ixE (eVar 0) (eC (.int 1))) (eC (.int 48271))) (eC (.int 11)))) (eC (.int 2147483647))) (gSet (eVar 0) (eC (.int 1)))) (sRet (e2 modE (e2 divE (e2 modE (e2 mulE (e2 ixE (eVar 0) (eC (.int 1))) (e2 ixE (eVar 0) (eC (.int 1)))) (eC (.int 2147483629))) (eC (.int 64))) (eVar 1))))
noncomputable def F__law_take : List D → Ev D := runF 3 g__law_take
noncomputable def g__law_links : Lo → Ev Fl := sSeq (sAsg (eCl (nNew .lst eA0)) (gNm 3)) (sSeq (sFor (iR1 (eAc (eFz (eCall (callD 2 F__law_take) (eAc (eVar 0) (eAc (eF (n2 addN (eVar 2) (eC (.int 1)))) eA0)))) eA0)) (gNm 4) (sExp (eBm (cellM opAppend) (eVar 3) (eAc (eF (nNew .tup (eAc (eFz (eCall (callD 2 F__law_take) (eAc (eVar 0) (eAc (eVar 1) eA0)))) (eAc (eFz (eCall (callD 2 F__law_take) (eAc (eVar 0) (eAc (eVar 1) eA0)))) eA0)))) eA0)))) (sRet (eVar 3)))
noncomputable def F__law_links : List D → Ev D := runF 5 g__law_links
noncomputable def g_is_integer : Lo → Ev Fl := sRet (eAndV (eCall (op2 isiE) (eAc (eVar 0) (eAc (eC (.ty "int")) eA0))) (eNotV (eCall (op2 isiE) (eAc (eVar 0) (eAc (eC (.ty "bool")) eA0)))))
noncomputable def F_is_integer : List D → Ev D := runF 1 g_is_integer
noncomputable def g_is_within : Lo → Ev Fl := sRet (eAndV (eFz (eCall (callD 1 F_is_integer) (eAc (eVar 0) eA0))) (eChain leE leE (eVar 1) (eVar 0) (eVar 2)))
noncomputable def F_is_within : List D → Ev D := runF 3 g_is_within
noncomputable def g_is_edge : Lo → Ev Fl := sSeq (sIf (eOr (eNot (eTru (eCall (op2 isiE) (eAc (eVar 0) (eAc (eC (.ty "tuple")) eA0))))) (eB (e2 (eqE true) (eCall (op1 lenE) (eAc (eVar 0) eA0)) (eC (.int 2))))) (sRet (eC (.bl false))) sNext) (sRet (eAndV (eFz (eCall (callD 3 F_is_within) (eAc (e2 ixE (eVar 0) (eC (.int 0))) (eAc (eC (.int 0)) (eAc (e2 subE (eVar 1) (eC (.int 1))) eA0))))) (eFz (eCall (callD 3 F_is_within) (eAc (e2 ixE (eVar 0) (eC (.int 1))) (eAc (eC (.int 0)) (eAc (e2 subE (eVar 1) (eC (.int 1))) eA0)))))))
noncomputable def F_is_edge : List D → Ev D := runF 2 g_is_edge
noncomputable def g_check_edges : Lo → Ev Fl := sSeq (sIf (eNot (eTru (eCall (op2 isiTE) (eAc (eVar 1) (eAc (eF (nNew .tup (eAc (eC (.ty "list")) (eAc (eC (.ty "tuple")) eA0)))) eA0))))) sNo sNext) (sSeq (sFor (iSeq (eVar 1)) (gNm 2) (sIf (eNot (eTru (eFz (eCall (callD 2 F_is_edge) (eAc (eVar 2) (eAc (eVar 0) eA0)))))) sNo sNext)) (sIf (eB (e2 gtE (eCall (op1 lenE) (eAc (eVar 1) eA0)) (eC (.int 60)))) sNo sNext))
noncomputable def F_check_edges : List D → Ev D := runF 3 g_check_edges
noncomputable def g_is_modulus : Lo → Ev Fl := sRet (eAndV (eFz (eCall (callD 3 F_is_within) (eAc (eVar 0) (eAc (eC (.int 0)) (eAc (eC (.int 60)) eA0))))) (e2 (eqE true) (eVar 0) (eC (.int 1))))
noncomputable def F_is_modulus : List D → Ev D := runF 1 g_is_modulus
noncomputable def g_forest_of : Lo → Ev Fl := sSeq (sAsg (eF (lrN (r1E (eVar 0)))) (gNm 2)) (sSeq (sAsg (eCl (nNew .lst eA0)) (gNm 3)) (sSeq (sFor (iEn (eAc (eVar 1) eA0)) (gTp 2 (gCn (gNm 4) (gCn (gTp 2 (gCn (gNm 5) (gCn (gNm 6) gNl))) gNl))) (sIf (eB (e2 (eqE true) (e2 ixE (eVar 2) (eVar 5)) (e2 ixE (eVar 2) (eVar 6)))) (sSeq (sExp (eBm (cellM opAppend) (eVar 3) (eAc (eVar 4) eA0))) (sAsg (eF (nLc (iSeq (eVar 2)) (gNm 7) tYesD (eIf (eB (e2 (eqE false) (eVar 7) (e2 ixE (eVar 2) (eVar 6)))) (e2 ixE (eVar 2) (eVar 5)) (eVar 7)) [7])) (gNm 2))) sNext)) (sRet (eVar 3))))
noncomputable def F_forest_of : List D → Ev D := runF 8 g_forest_of
noncomputable def g_links_of : Lo → Ev Fl := sSeq (sAsg (fun S => (nLc (iR1 (eAc (eVar 0) eA0)) (gNm 7) tYesD (eCl (nNew .lst eA0)) [7] S).bnd frz) (gNm 3)) (sSeq (sFor (iSeq (eVar 2)) (gNm 4) (sSeq (sAsg (e2 ixE (eVar 1) (eVar 4)) (gTp 2 (gCn (gNm 5) (gCn (gNm 6) gNl)))) (sSeq (sExp (eBm (cellM opAppend) (e2 ixE (eVar 3) (eVar 5)) (eAc (eF (nNew .tup (eAc (eVar 4) (eAc (eC (.int 1)) (eAc (eVar 6) eA0))))) eA0))) (sExp (eBm (cellM opAppend) (e2 ixE (eVar 3) (eVar 6)) (eAc (eF (nNew .tup (eAc (eVar 4) (eAc (e1 negE (eC (.int 1))) (eAc (eVar 5) eA0))))) eA0)))))) (sRet (eVar 3)))
noncomputable def F_links_of : List D → Ev D := runF 8 g_links_of
noncomputable def g_Web___init__ : Lo → Ev Fl := sSeq (sIf (eNot (eTru (eFz (eCall (callD 3 F_is_within) (eAc (eVar 1) (eAc (eC (.int 1)) (eAc (eC (.int 30)) eA0))))))) sNo sNext) (sSeq (sExp (eFz (eCall (callD 2 F_check_edges) (eAc (eVar 1) (eAc (eVar 2) eA0))))) (sSeq (sIf (eNot (eTru (eFz (eCall (callD 1 F_is_modulus) (eAc (eVar 3) eA0))))) sNo sNext) (sSeq (sFldD ("Web" : Str) ("own_size" : Str) (eVar 0) (eVar 1)) (sSeq (sFldD ("Web" : Str) ("own_edges" : Str) (eVar 0) (eF (nCall (op1 listN) (eAc (eVar 2) eA0)))) (sSeq (sFldD ("Web" : Str) ("own_modulus" : Str) (eVar 0) (eVar 3)) (sSeq (sFldD ("Web" : Str) ("own_forest" : Str) (eVar 0) (eFz (eCall (callD 2 F_forest_of) (eAc (eVar 1) (eAc (eVar 2) eA0))))) (sFldD ("Web" : Str) ("links" : Str) (eVar 0) (eFz (eCall (callD 3 F_links_of) (eAc (eVar 1) (eAc (eVar 2) (eAc (e1 (fldE ("Web" : Str) ("own_forest" : Str)) (eVar 0)) eA0))))))))))))
noncomputable def F_Web___init__ : List D → Ev D := runF 4 g_Web___init__
noncomputable def g__law_modulus : Lo → Ev Fl := sRet (e2 ixE (eF (nNew .lst (eAc (eC (.int 0)) (eAc (eC (.int 0)) (eAc (eC (.int 2)) (eAc (eC (.int 3)) (eAc (eC (.int 4)) (eAc (eC (.int 5)) (eAc (eC (.int 12)) (eAc (eC (.int 60)) eA0)))))))))) (eFz (eCall (callD 2 F__law_take) (eAc (eVar 0) (eAc (eC (.int 8)) eA0)))))
noncomputable def F__law_modulus : List D → Ev D := runF 1 g__law_modulus
noncomputable def g__law_groups : Lo → Ev Fl := sSeq (sAsg (eCl (lrN (r1E (eVar 0)))) (gNm 2)) (sSeq (sFor (iR1 (eAc (eVar 0) eA0)) (gNm 3) (sFor (iSeq (eVar 1)) (gTp 2 (gCn (gNm 4) (gCn (gNm 5) gNl))) (sSeq (sAsg (eCall (op2 minE) (eAc (e2 ixE (eVar 2) (eVar 4)) (eAc (e2 ixE (eVar 2) (eVar 5)) eA0))) (gNm 6)) (sSeq (sAsg (eVar 6) (gSet (eVar 2) (eVar 4))) (sAsg (eVar 6) (gSet (eVar 2) (eVar 5))))))) (sRet (eCl (nLc (iR1 (eAc (eVar 0) eA0)) (gNm 7) (eB (e2 (inE false) (eVar 7) (eVar 2))) (eF (nLc (iR1 (eAc (eVar 0) eA0)) (gNm 8) (eB (e2 (eqE false) (e2 ixE (eVar 2) (eVar 8)) (eVar 7))) (eVar 8) [8])) [7]))))
noncomputable def F__law_groups : List D → Ev D := runF 9 g__law_groups
noncomputable def g_walk_paths : Lo → Ev Fl := sSeq (sAsg (eCl (nDisp (pCons (eVar 1) (eF (nNew .lst eA0)) pNil))) (gNm 2)) (sSeq (sAsg (eF (nNew .lst (eAc (eVar 1) eA0))) (gNm 3)) (sSeq (whileL (eTru (eVar 3)) (sSeq (sAsg (eCl (nNew .lst eA0)) (gNm 4)) (sSeq (sFor (iSeq (eVar 3)) (gNm 5) (sFor (iSeq (e2 ixE (eVar 0) (eVar 5))) (gTp 3 (gCn (gNm 6) (gCn (gNm 7) (gCn (gNm 8) gNl)))) (sIf (eB (e2 (inK true) (eVar 8) (eVar 2))) (sSeq (sDPutD (eVar 2) (eVar 8) (eF (n2 addN (e2 getK (eVar 2) (eVar 5)) (eF (nNew .lst (eAc (eF (nNew .tup (eAc (eVar 6) (eAc (eVar 7) eA0)))) eA0)))))) (sExp (eBm (cellM opAppend) (eVar 4) (eAc (eVar 8) eA0)))) sNext))) (sAsg (eVar 4) (gNm 3)))) 1000) (sRet (eVar 2))))
noncomputable def F_walk_paths : List D → Ev D := runF 9 g_walk_paths
noncomputable def g_components_of : Lo → Ev Fl := sSeq (sAsg (eCl (nNew .lst eA0)) (gNm 1)) (sSeq (sAsg (eCl (fun _ => Ev.ret (NR.n (.dct []) []))) (gNm 2)) (sSeq (sFor (iR1 (eAc (eCall (op1 lenE) (eAc (eVar 0) eA0)) eA0)) (gNm 3) (sIf (eB (e2 (inK true) (eVar 3) (eVar 2))) (sSeq (sAsg (eCl (nCall (op1 sortedN) (eAc (eFz (eCall (callD 2 F_walk_paths) (eAc (eVar 0) (eAc (eVar 3) eA0)))) eA0))) (gNm 4)) (sSeq (sExp (eBk updE (eVar 2) (eAc (eF (nDc (iSeq (eVar 4)) (gNm 5) tYesD (eVar 5) (eC (.bl true)) [5])) eA0))) (sExp (eBm (cellM opAppend) (eVar 1) (eAc (eVar 4) eA0))))) sNext)) (sRet (eVar 1))))
noncomputable def F_components_of : List D → Ev D := runF 6 g_components_of
noncomputable def g_Web_components : Lo → Ev Fl := sRet (eCall (callD 1 F_components_of) (eAc (e1 (fldE ("Web" : Str) ("links" : Str)) (eVar 0)) eA0))
noncomputable def F_Web_components : List D → Ev D := runF 1 g_Web_components
noncomputable def g_Web_forest : Lo → Ev Fl := sRet (eCl (nCall (op1 listN) (eAc (e1 (fldE ("Web" : Str) ("own_forest" : Str)) (eVar 0)) eA0)))
noncomputable def F_Web_forest : List D → Ev D := runF 1 g_Web_forest
noncomputable def g_law : Lo → Ev Fl := sSeq (sFor (iR1 (eAc (eCall (op2 maxE) (eAc (eC (.int 1)) (eAc (eCall (op2 minE) (eAc (eCall (op1 lenE) (eAc (eVar 0) eA0)) (eAc (eC (.int 6)) eA0))) eA0))) eA0)) (gNm 1) (sSeq (sAsg (eCall (callD 2 F__law_pool) (eAc (eVar 0) (eAc (eVar 1) eA0))) (gNm 2)) (sSeq (sAsg (eF (n2 addN (eC (.int 1)) (eFz (eCall (callD 2 F__law_take) (eAc (eVar 2) (eAc (e2 ixE (eF (nNew .lst (eAc (eC (.int 4)) (eAc (eC (.int 30)) eA0)))) (eFz (eCall (callD 2 F__law_take) (eAc (eVar 2) (eAc (eC (.int 2)) eA0))))) eA0)))))) (gNm 3)) (sSeq (sAsg (eFz (eCall (callD 3 F__law_links) (eAc (eVar 2) (eAc (eVar 3) (eAc (e2 ixE (eF (nNew .lst (eAc (eC (.int 6)) (eAc (eC (.int 60)) eA0)))) (eFz (eCall (callD 2 F__law_take) (eAc (eVar 2) (eAc (eC (.int 2)) eA0))))) eA0))))) (gNm 4)) (sSeq (sAsg (eFz (eMake ("Web" : Str) 4 2 1 (fun d l z => d :: (l ++ z)) F_Web___init__ (eAc (eVar 3) (eAc (eVar 4) eA0)) (eAc (eFz (eCall (callD 1 F__law_modulus) (eAc (eVar 2) eA0))) eA0))) (gNm 5)) (sSeq (sAsg (eCl (nNew .lst eA0)) (gNm 6)) (sSeq (sFor (iR1 (eAc (eCall (op1 lenE) (eAc (eVar 4) eA0)) eA0)) (gNm 7) (sSeq (sAsg (eCall (callD 2 F__law_groups) (eAc (eVar 3) (eAc (eF (nSl (eVar 4) oNo (oSo (eVar 7)))) eA0))) (gNm 8)) (sSeq (sAsg (e2 ixE (eVar 4) (eVar 7)) (gTp 2 (gCn (gNm 9) (gCn (gNm 10) gNl)))) (sIf (eB (e2 (eqE false) (eF (nLc (iSeq (eVar 8)) (gNm 13) (eAnd (eB (e2 (inE false) (eVar 9) (eVar 13))) (eB (e2 (inE false) (eVar 10) (eVar 13)))) (eVar 13) [13])) (eF (nNew .lst eA0)))) (sExp (eBm (cellM opAppend) (eVar 6) (eAc (eVar 7) eA0))) sNext)))) (sFor (iR1 (eAc (eC (.int 2)) eA0)) (gNm 11) (sSeq (sPar 8 12 (eAc (eMeth ("Web" : Str) ("components" : Str) 1 F_Web_components [] (eVar 5) eA0) (eAc (eMeth ("Web" : Str) ("forest" : Str) 1 F_Web_forest [] (eVar 5) eA0) eA0))) (sSeq (sIf (eOr (eB (e2 (eqE true) (eVar 8) (eFz (eCall (callD 2 F__law_groups) (eAc (eVar 3) (eAc (eVar 4) eA0)))))) (eB (e2 (eqE true) (eVar 12) (eVar 6)))) (sRet (eC (.bl false))) sNext) (sSeq (sExp (eBm (cellM opClear) (e2 ixE (eVar 8) (eC (.int 0))) eA0)) (sSeq (sExp (eBm (cellM opClear) (eVar 8) eA0)) (sExp (eBm (cellM opAppend) (eVar 12) (eAc (eC (.int 0)) eA0))))))))))))))) (sRet (eC (.bl true)))
noncomputable def F_law : List D → Ev D := runF 14 g_law
end Lw

set_option Elab.async false
set_option linter.all false
set_option maxRecDepth 100000
set_option maxHeartbeats 4000000
/-! MA: words for runs; the pool. -/
namespace DL
open PySem L2
theorem run_rt {N : Nat} {g : Lo → Ev Fl} {l : List D} {M M' : Store} {d : D} (h : g (startD N l) M = .ok (.rt d) M') : runF N g l M = .ok d M' := by
  simp only [runF, Ev.bnd, Ev.nox, h, Out.bnd, Ev.ret]
theorem run_nx {N : Nat} {g : Lo → Ev Fl} {l : List D} {M M' : Store} {S : Lo} (h : g (startD N l) M = .ok (.nx S) M') : runF N g l M = .ok .non M' := by
  simp only [runF, Ev.bnd, Ev.nox, h, Out.bnd, Ev.ret]
theorem seq_nx {f g : Lo → Ev Fl} {S S1 : Lo} {M M1 : Store} (h : f S M = .ok (.nx S1) M1) : sSeq f g S M = g S1 M1 := by
  simp only [sSeq, Ev.bnd, h, Out.bnd]
theorem seq_rt {f g : Lo → Ev Fl} {S : Lo} {M M1 : Store} {d : D} (h : f S M = .ok (.rt d) M1) : sSeq f g S M = .ok (.rt d) M1 := by
  simp only [sSeq, Ev.bnd, h, Out.bnd, Ev.ret]
theorem asg_nm {f : Lo → Ev D} {i : Nat} {S : Lo} {M M1 : Store} {d : D} (h : f S M = .ok d M1) : sAsg f (gNm i) S M = .ok (.nx (S.set i (some d))) M1 := by
  simp only [sAsg, Ev.fl, h, gNm, Ev.bnd, Ev.ret, Out.bnd]
theorem exp_ok {f : Lo → Ev D} {S : Lo} {M M1 : Store} {d : D} (h : f S M = .ok d M1) : sExp f S M = .ok (.nx S) M1 := by
  simp only [sExp, Ev.fl, h, Ev.ret]
theorem ret_ok {f : Lo → Ev D} {S : Lo} {M M1 : Store} {d : D} (h : f S M = .ok d M1) : sRet f S M = .ok (.rt d) M1 := by
  simp only [sRet, Ev.fl, h, Ev.ret]
theorem if_ok {c : Lo → Ev Bool} {f g : Lo → Ev Fl} {S : Lo} {M M1 : Store} {b : Bool} (h : c S M = .ok b M1) : sIf c f g S M = if b = true then f S M1 else g S M1 := by
  simp only [sIf, Ev.flB, h]
  cases b <;> rfl
theorem bnd_ok {α β : Type} {m : Ev α} {k : α → Ev β} {M M1 : Store} {a : α} (h : m M = .ok a M1) : (m.bnd k) M = k a M1 := by
  simp only [Ev.bnd, h, Out.bnd]
/-- a walk: what holds of the part walked -/
theorem for_inv {α : Type} {enc : α → D} {tg : D → Lo → Ev Lo} {body : Lo → Ev Fl} {g : Gd} (J : List α → Lo → Store → Prop) (xs : List α) {S : Lo} {M : Store} (h0 : J [] S M) (hg : ∀ pre S M, J pre S M → grd g M)
    (step : ∀ pre x post S M, xs = pre ++ x :: post → J pre S M → ∃ S1 M1 S2 M2, tg (enc x) S M = .ok S1 M1 ∧ body S1 M1 = .ok (.nx S2) M2 ∧ J (pre ++ [x]) S2 M2) :
    ∃ S' M', forL tg body g (xs.map enc) S M = .ok (.nx S') M' ∧ J xs S' M' := by
  have gen : ∀ (post pre : List α) (S : Lo) (M : Store), xs = pre ++ post → J pre S M → ∃ S' M', forL tg body g (post.map enc) S M = .ok (.nx S') M' ∧ J xs S' M' := by
    intro post
    induction post with
    | nil =>
      intro pre S M e j
      rw [List.append_nil] at e
      subst e
      exact ⟨S, M, by rw [List.map_nil, forL, chk_ok (hg _ _ _ j)]; rfl, j⟩
    | cons x post ih =>
      intro pre S M e j
      obtain ⟨S1, M1, S2, M2, h1, h2, j2⟩ := step pre x post S M e j
      obtain ⟨S', M', h3, j3⟩ := ih (pre ++ [x]) S2 M2 (by rw [e]; simp) j2
      refine ⟨S', M', ?_, j3⟩
      rw [List.map_cons, forL, chk_ok (hg _ _ _ j), bnd_ok h1, bnd_ok h2]
      exact h3
  exact gen xs [] S M rfl h0
/-- a walk that folds -/
theorem for_fold {α β : Type} {enc : α → D} {tg : D → Lo → Ev Lo} {body : Lo → Ev Fl} {g : Gd} (J : β → Lo → Store → Prop) (st : β → α → β) (xs : List α) {b : β} {S : Lo} {M : Store} (h0 : J b S M) (hg : ∀ b S M, J b S M → grd g M)
    (step : ∀ b x S M, x ∈ xs → J b S M → ∃ S1 M1 S2 M2, tg (enc x) S M = .ok S1 M1 ∧ body S1 M1 = .ok (.nx S2) M2 ∧ J (st b x) S2 M2) :
    ∃ S' M', forL tg body g (xs.map enc) S M = .ok (.nx S') M' ∧ J (xs.foldl st b) S' M' := by
  have := for_inv (enc := enc) (tg := tg) (body := body) (g := g) (fun pre S M => J (pre.foldl st b) S M) xs h0 (fun pre S M j => hg _ S M j) (fun pre x post S M e j => by
    obtain ⟨S1, M1, S2, M2, h1, h2, j2⟩ := step _ x S M (by rw [e]; simp) j
    exact ⟨S1, M1, S2, M2, h1, h2, by rw [List.foldl_append]; exact j2⟩)
  exact this
theorem sfor_ok {fi : Lo → Ev (List D × Gd)} {tg : D → Lo → Ev Lo} {body : Lo → Ev Fl} {S : Lo} {M M1 : Store} {r : List D × Gd} (h : fi S M = .ok r M1) : sFor fi tg body S M = forL tg body r.2 r.1 S M1 := by
  simp only [sFor, Ev.flG, h]
/-- a list built by walking, in general -/
theorem comp_inv {α : Type} {enc : α → D} {tg : D → Lo → Ev Lo} {tt : Lo → Ev Bool} {te : Lo → Ev D} {g : Gd} {S : Lo} (J : List α → List D → Store → Prop) (xs : List α) {M : Store} (h0 : J [] [] M) (hg : ∀ pre o M, J pre o M → grd g M)
    (step : ∀ pre x post o M, xs = pre ++ x :: post → J pre o M → ∃ S1 M1 b M2, tg (enc x) S M = .ok S1 M1 ∧ tt S1 M1 = .ok b M2 ∧ (b = true → ∃ y M3, te S1 M2 = .ok y M3 ∧ J (pre ++ [x]) (o ++ [y]) M3) ∧ (b = false → J (pre ++ [x]) o M2)) :
    ∃ ys M', compL tg tt te g S (xs.map enc) M = .ok ys M' ∧ J xs ys M' := by
  have gen : ∀ (post pre : List α) (o : List D) (M : Store), xs = pre ++ post → J pre o M → ∃ ys M', compL tg tt te g S (post.map enc) M = .ok ys M' ∧ J xs (o ++ ys) M' := by
    intro post
    induction post with
    | nil =>
      intro pre o M e j
      rw [List.append_nil] at e
      subst e
      exact ⟨[], M, by rw [List.map_nil, compL, chk_ok (hg _ _ _ j)]; rfl, by rw [List.append_nil]; exact j⟩
    | cons x post ih =>
      intro pre o M e j
      obtain ⟨S1, M1, b, M2, h1, h2, h3, h4⟩ := step pre x post o M e j
      cases b with
      | true =>
        obtain ⟨y, M3, h5, j3⟩ := h3 rfl
        obtain ⟨ys, M', h6, j4⟩ := ih (pre ++ [x]) (o ++ [y]) M3 (by rw [e]; simp) j3
        refine ⟨y :: ys, M', ?_, by rw [List.append_assoc] at j4; exact j4⟩
        rw [List.map_cons, compL, chk_ok (hg _ _ _ j), bnd_ok (nox_ok h1), bnd_ok (nox_ok h2), if_pos rfl, bnd_ok (nox_ok h5), bnd_ok h6]
        rfl
      | false =>
        obtain ⟨ys, M', h6, j4⟩ := ih (pre ++ [x]) o M2 (by rw [e]; simp) (h4 rfl)
        refine ⟨ys, M', ?_, j4⟩
        rw [List.map_cons, compL, chk_ok (hg _ _ _ j), bnd_ok (nox_ok h1), bnd_ok (nox_ok h2), if_neg (by decide)]
        exact h6
  obtain ⟨ys, M', h, j⟩ := gen xs [] [] M rfl h0
  exact ⟨ys, M', h, j⟩
/-- a list built by walking that changes nothing -/
theorem comp_map {α : Type} {enc : α → D} {tg : D → Lo → Ev Lo} {tt : Lo → Ev Bool} {te : Lo → Ev D} {g : Gd} {S : Lo} {M : Store} (p : α → Bool) (f : α → D) (hg : grd g M) : ∀ (xs : List α),
    (∀ x ∈ xs, ∃ S1, tg (enc x) S M = .ok S1 M ∧ tt S1 M = .ok (p x) M ∧ (p x = true → te S1 M = .ok (f x) M)) → compL tg tt te g S (xs.map enc) M = .ok ((xs.filter p).map f) M
  | [], _ => by rw [List.map_nil, compL, chk_ok hg]; rfl
  | x :: xs, h => by
    obtain ⟨S1, h1, h2, h3⟩ := h x (by simp)
    have ih := comp_map p f hg xs (fun y hy => h y (by simp [hy]))
    rw [List.map_cons, compL, chk_ok hg, bnd_ok (nox_ok h1), bnd_ok (nox_ok h2)]
    cases q : p x with
    | true => rw [if_pos rfl, bnd_ok (nox_ok (h3 q)), bnd_ok ih]; simp [q, Ev.ret]
    | false => rw [if_neg (by decide), ih]; simp [q]
theorem lc_ok {fi : Lo → Ev (List D × Gd)} {tg : D → Lo → Ev Lo} {tt : Lo → Ev Bool} {te : Lo → Ev D} {vs : List Nat} {S : Lo} {M M1 M2 : Store} {r : List D × Gd} {ys : List D} (h : fi S M = .ok r M1) (hl : r.1.length ≤ sizeLine) (h2 : compL tg tt te r.2 (wipeD S vs) r.1 M1 = .ok ys M2) : nLc fi tg tt te vs S M = .ok (.n .lst ys) M2 := by
  simp only [nLc]
  rw [bnd_ok h, if_pos hl, bnd_ok h2]
  rfl
theorem sl_le {n : Nat} (h : n ≤ 1000) : n ≤ sizeLine := Nat.le_trans h (by decide)
theorem lt_sl {n : Nat} (h : n < 1000) : n < sizeLine := Nat.lt_of_lt_of_le h (by decide)
def newK (t : Tg) (l : List D) : Ev NR := if l.length ≤ sizeLine then Ev.ret (.n t l) else Ev.no
theorem nNew_eq (t : Tg) (f : Lo → Ev (List D)) (S : Lo) : nNew t f S = (f S).bnd (newK t) := rfl
theorem newK_ok (t : Tg) (l : List D) (h : l.length ≤ 1000) : newK t l = Ev.ret (.n t l) := if_pos (sl_le h)
theorem new0 (t : Tg) : newK t [] = Ev.ret (.n t []) := newK_ok t _ (by simp)
theorem new1 (t : Tg) (a : D) : newK t [a] = Ev.ret (.n t [a]) := newK_ok t _ (by simp)
theorem new2 (t : Tg) (a b : D) : newK t [a, b] = Ev.ret (.n t [a, b]) := newK_ok t _ (by simp)
theorem new3 (t : Tg) (a b c : D) : newK t [a, b, c] = Ev.ret (.n t [a, b, c]) := newK_ok t _ (by simp)
theorem new4 (t : Tg) (a b c d : D) : newK t [a, b, c, d] = Ev.ret (.n t [a, b, c, d]) := newK_ok t _ (by simp)
theorem new8 (t : Tg) (a b c d e f g h : D) : newK t [a, b, c, d, e, f, g, h] = Ev.ret (.n t [a, b, c, d, e, f, g, h]) := newK_ok t _ (by simp)
theorem add_int (i j : Int) : addN (.int i) (.int j) = Ev.ret (.v (.int (i + j))) := rfl
theorem at_nat {α : Type} (xs : List α) (k : Nat) : atI xs (k : Int) = xs[k]? := by
  unfold atI ixN
  rw [if_pos (by omega)]
  by_cases h : k < xs.length
  · rw [if_pos (by omega)]; simp
  · rw [if_neg (by omega)]; simp; omega
theorem ix_nd {t : Tg} {l : List D} {k : Nat} {M : Store} {d : D} (ht : FC.isSeq t = true) (h : l[k]? = some d) : ixE (.nd t l) (.int (k : Int)) M = .ok d M := by
  simp only [ixE, sq, vw, Ev.bnd, Ev.ret, Out.bnd, ht, if_pos, at_nat, h, optE]
theorem ix_ref {n : Nat} {t : Tg} {l : List D} {k : Nat} {M : Store} {d : D} (hm : M[n]? = some (t, l)) (ht : FC.isSeq t = true) (h : l[k]? = some d) : ixE (.ref n) (.int (k : Int)) M = .ok d M := by
  simp only [ixE, sq, vw, Ev.bnd, Ev.ret, Out.bnd, ht, if_pos, at_nat, h, optE, hm]
theorem mul_i {i j : Int} (h : CMul i j) : mulE (.int i) (.int j) = Ev.ret (.int (i * j)) := if_pos h
theorem mod_i {i j : Int} (h : 0 < j) : modE (.int i) (.int j) = Ev.ret (.int (i % j)) := if_pos h
theorem div_i {i j : Int} (h : CDivW i j) : divE (.int i) (.int j) = Ev.ret (.int (i / j)) := if_pos h
theorem a0_ok {S : Lo} {M : Store} : eA0 S M = .ok [] M := rfl
theorem e2_ret {op : D → D → Ev D} {fa fb : Lo → Ev D} {S : Lo} {M M1 M2 : Store} {x y z : D} (ha : fa S M = .ok x M1) (hb : fb S M1 = .ok y M2) (ho : op x y = Ev.ret z) : e2 op fa fb S M = .ok z M2 := by
  unfold e2
  rw [bnd_ok ha, bnd_ok hb, ho]
  rfl
theorem add_ret {fa fb : Lo → Ev D} {S : Lo} {M M1 M2 : Store} {x y : Int} (ha : fa S M = .ok (.int x) M1) (hb : fb S M1 = .ok (.int y) M2) : eF (n2 addN fa fb) S M = .ok (.int (x + y)) M2 := by
  have h : n2 addN fa fb S M = .ok (.v (.int (x + y))) M2 := by
    unfold n2
    rw [bnd_ok ha, bnd_ok hb, add_int]
    rfl
  unfold eF
  rw [bnd_ok h]
  rfl
theorem c_ok (d : D) (S : Lo) (M : Store) : eC d S M = .ok d M := rfl
theorem v_ok {i : Nat} {S : Lo} {M : Store} {d : D} (h : S[i]? = some (some d)) : eVar i S M = .ok d M := by
  unfold eVar
  rw [h]
  rfl
/-! ### the pool -/
def Pl (c : List D) : Prop := ∃ a b : Int, c = [.int a, .int b] ∧ 0 ≤ b ∧ b < 2147483648
def PoolAt (M : Store) (p : Nat) : Prop := ∃ c, M[p]? = some (.lst, c) ∧ Pl c
/-- only the pool has changed -/
def PT (p : Nat) (M M' : Store) : Prop := ∃ c, Pl c ∧ M' = M.set p (.lst, c)
theorem PoolAt.lt {M : Store} {p : Nat} (h : PoolAt M p) : p < M.length := by
  obtain ⟨c, h, _⟩ := h
  rcases Nat.lt_or_ge p M.length with q | q
  · exact q
  · rw [List.getElem?_eq_none q] at h; cases h
theorem PT.refl {M : Store} {p : Nat} (h : PoolAt M p) : PT p M M := by
  obtain ⟨c, h, q⟩ := h
  refine ⟨c, q, ?_⟩
  apply List.ext_getElem?
  intro i
  by_cases e : p = i
  · subst e
    rw [List.getElem?_set_self (PoolAt.lt ⟨c, h, q⟩), h]
  · rw [List.getElem?_set_ne e]
theorem PT.trans {M M1 M2 : Store} {p : Nat} (h : PT p M M1) (k : PT p M1 M2) : PT p M M2 := by
  obtain ⟨c, _, rfl⟩ := h
  obtain ⟨c', q, rfl⟩ := k
  exact ⟨c', q, by rw [List.set_set]⟩
theorem PT.len {M M1 : Store} {p : Nat} (h : PT p M M1) : M1.length = M.length := by
  obtain ⟨c, _, rfl⟩ := h
  simp
theorem PT.get {M M1 : Store} {p q : Nat} (h : PT p M M1) (n : q ≠ p) : M1[q]? = M[q]? := by
  obtain ⟨c, _, rfl⟩ := h
  rw [List.getElem?_set_ne (Ne.symm n)]
theorem PT.at_ {M M1 : Store} {p : Nat} (h : PT p M M1) (q : p < M.length) : PoolAt M1 p := by
  obtain ⟨c, hc, rfl⟩ := h
  exact ⟨c, by rw [List.getElem?_set_self q], hc⟩
theorem PT.pool {M M1 : Store} {p : Nat} (h : PT p M M1) (q : PoolAt M p) : PoolAt M1 p := h.at_ q.lt
theorem PT.app {M M1 N : Store} {p : Nat} (h : PT p (M ++ N) M1) (q : p < M.length) : ∃ M2, PT p M M2 ∧ M1 = M2 ++ N := by
  obtain ⟨c, hc, rfl⟩ := h
  exact ⟨M.set p (.lst, c), ⟨c, hc, rfl⟩, by rw [List.set_append, if_pos q]⟩
theorem Pl.rl {c : List D} (h : Pl c) (n : Nat) : rlts n c = true := by
  obtain ⟨a, b, rfl, _⟩ := h
  simp [rlts, rlt]
/-- what comes back frozen from a call that drew from the pool -/
theorem fzPT {m : Ev D} {M M1 N : Store} {p : Nat} {d d' : D} (h : m M = .ok d (M1 ++ N)) (t : PT p M M1) (hz : fz (M1 ++ N) M.length 9 d = some d') : fzE m M = .ok d' M1 := by
  obtain ⟨c, hc, rfl⟩ := t
  exact fzE_set h (hc.rl _) hz
theorem fzPT0 {m : Ev D} {M M1 : Store} {p : Nat} {d : D} (h : m M = .ok d M1) (t : PT p M M1) (hd : rlt M.length d = true) : fzE m M = .ok d M1 :=
  fzPT (N := []) (by rw [List.append_nil]; exact h) t (fz_id _ _ _ _ hd)
end DL
namespace Lw
open PySem L2 DL
theorem take_ok {M : Store} {p : Nat} {s : Int} (hp : PoolAt M p) (hs : 0 < s) (hs2 : s < 2 ^ 64) : ∃ r M', F__law_take [.ref p, .int s] M = .ok (.int r) M' ∧ PT p M M' ∧ 0 ≤ r ∧ r < s := by
  obtain ⟨c, hc, a, b, rfl, hb0, hb1⟩ := hp
  have hl : p < M.length := PoolAt.lt ⟨_, hc, a, b, rfl, hb0, hb1⟩
  have hdv := div_i (i := a) (j := s) ⟨hs, by
    have : s.natAbs < 2 ^ 64 := by omega
    rcases Nat.eq_zero_or_pos s.natAbs with z | z
    · rw [z]; decide
    · exact Nat.lt_trans ((Nat.log2_lt (by omega)).mpr this) (by decide)⟩
  have i0 : ∀ x y : D, atI [x, y] (0 : Int) = some x := fun _ _ => rfl
  have i1 : ∀ x y : D, atI [x, y] (1 : Int) = some y := fun _ _ => rfl
  by_cases h0 : 0 < a
  · refine ⟨a % s, M.set p (.lst, [.int (a / s), .int b]), ?_, ⟨_, ⟨a / s, b, rfl, hb0, hb1⟩, rfl⟩, Int.emod_nonneg _ (by omega), Int.emod_lt_of_pos _ hs⟩
    refine run_rt ?_
    show g__law_take [some (.ref p), some (.int s), none] M = _
    have n0 : ixN 2 0 = some 0 := rfl
    unfold g__law_take
    simp only [sSeq, sAsg, sExp, sRet, sRetN, sIf, sNext, e1, e2, eVar, eC, eA0, eAc, asB, eB, eAnd, eOr, eNot, eAndV, eOrV, eNotV, eIf, eF, eCl, n2, nNew_eq, new0, new1, new2, new3, new4, new8, frz, cel, eCall, nCall, op1, op2, callD, iop, subE, mod_i, ltE, leE, gtE, geE, negE, eChain, minE, maxE, Ev.bnd, Out.bnd, Ev.ret, Ev.no, Ev.fl, Ev.flB, Ev.flG, Ev.nox, gNm, gTp, gCn, gNl, gSet, eBm, tYesD, oNo, oSo, asI, sFor, iR1, iSeq, iEn, itSq, lenE, sq, vw, FC.isSeq, add_int, List.set_cons_zero, List.set_cons_succ, List.getElem?_cons_zero, List.getElem?_cons_succ, List.length_cons, List.length_nil, Option.map_some, ite_true, ite_false, if_true, if_false, reduceIte, reduceCtorEq, decide_true, decide_false, Bool.false_eq_true, Nat.reduceAdd, Nat.reduceLeDiff, ixE, optE, hc, i0, h0, hs, hdv, setE, n0]
  · refine ⟨((b * 48271 + 11) % 2147483647 * ((b * 48271 + 11) % 2147483647)) % 2147483629 / 64 % s, M.set p (.lst, [.int a, .int ((b * 48271 + 11) % 2147483647)]), ?_, ⟨_, ⟨a, _, rfl, Int.emod_nonneg _ (by decide), Int.lt_of_lt_of_le (Int.emod_lt_of_pos _ (by decide)) (by decide)⟩, rfl⟩, Int.emod_nonneg _ (by omega), Int.emod_lt_of_pos _ hs⟩
    refine run_rt ?_
    show g__law_take [some (.ref p), some (.int s), none] M = _
    have n1 : ixN 2 1 = some 1 := rfl
    have c1 : mulE (.int b) (.int 48271) = _ := mul_i (.inr (by decide))
    have u : 0 ≤ (b * 48271 + 11) % 2147483647 ∧ (b * 48271 + 11) % 2147483647 < 2147483647 := ⟨Int.emod_nonneg _ (by decide), Int.emod_lt_of_pos _ (by decide)⟩
    have c2 := mul_i (i := (b * 48271 + 11) % 2147483647) (j := (b * 48271 + 11) % 2147483647) (.inl (by omega))
    have c3 : ∀ z : Int, divE (.int z) (.int 64) = Ev.ret (.int (z / 64)) := fun z => div_i ⟨by decide, by decide⟩
    have g1 : (M.set p (Tg.lst, [D.int a, D.int ((b * 48271 + 11) % 2147483647)]))[p]? = some (Tg.lst, [D.int a, D.int ((b * 48271 + 11) % 2147483647)]) := List.getElem?_set_self hl
    unfold g__law_take
    simp only [sSeq, sAsg, sExp, sRet, sRetN, sIf, sNext, e1, e2, eVar, eC, eA0, eAc, asB, eB, eAnd, eOr, eNot, eAndV, eOrV, eNotV, eIf, eF, eCl, n2, nNew_eq, new0, new1, new2, new3, new4, new8, frz, cel, eCall, nCall, op1, op2, callD, iop, subE, mod_i, ltE, leE, gtE, geE, negE, eChain, minE, maxE, Ev.bnd, Out.bnd, Ev.ret, Ev.no, Ev.fl, Ev.flB, Ev.flG, Ev.nox, gNm, gTp, gCn, gNl, gSet, eBm, tYesD, oNo, oSo, asI, sFor, iR1, iSeq, iEn, itSq, lenE, sq, vw, FC.isSeq, add_int, List.set_cons_zero, List.set_cons_succ, List.getElem?_cons_zero, List.getElem?_cons_succ, List.length_cons, List.length_nil, Option.map_some, ite_true, ite_false, if_true, if_false, reduceIte, reduceCtorEq, decide_true, decide_false, Bool.false_eq_true, Nat.reduceAdd, Nat.reduceLeDiff, ixE, optE, hc, i0, i1, h0, hs, setE, n1, c1, c2, c3, g1, Int.reduceLT]
end Lw

set_option Elab.async false
set_option linter.all false
set_option maxRecDepth 100000
set_option maxHeartbeats 4000000
/-! MB: what is drawn; a Web's checks. -/
namespace DL
open PySem L2
theorem ac_ok {f : Lo → Ev D} {g : Lo → Ev (List D)} {S : Lo} {M M1 M2 : Store} {x : D} {l : List D} (h : f S M = .ok x M1) (h2 : g S M1 = .ok l M2) : eAc f g S M = .ok (x :: l) M2 := by
  simp only [eAc, Ev.bnd, h, h2, Out.bnd, Ev.ret]
theorem call_ok {F : List D → Ev D} {n : Nat} {f : Lo → Ev (List D)} {S : Lo} {M M1 : Store} {l : List D} (h : f S M = .ok l M1) (hn : l.length = n) : eCall (callD n F) f S M = F l M1 := by
  simp only [eCall, Ev.bnd, h, Out.bnd, callD, hn, if_pos]
theorem fcall {F : List D → Ev D} {n p : Nat} {f : Lo → Ev (List D)} {S : Lo} {M M1 M2 N : Store} {l : List D} {d d' : D} (h : f S M = .ok l M1) (hn : l.length = n) (t : PT p M M1) (h2 : F l M1 = .ok d (M2 ++ N)) (t2 : PT p M1 M2) (hz : fz (M2 ++ N) M.length 9 d = some d') :
    eFz (eCall (callD n F) f) S M = .ok d' M2 := fzPT (p := p) (by rw [call_ok h hn]; exact h2) (t.trans t2) hz
theorem fcall_same {F : List D → Ev D} {n : Nat} {f : Lo → Ev (List D)} {S : Lo} {M : Store} {l : List D} {d : D} (h : f S M = .ok l M) (hn : l.length = n) (h2 : F l M = .ok d M) (hd : rlt M.length d = true) :
    eFz (eCall (callD n F) f) S M = .ok d M := fzE_same (by rw [call_ok h hn]; exact h2) hd
theorem fcall_app {F : List D → Ev D} {n : Nat} {f : Lo → Ev (List D)} {S : Lo} {M N : Store} {l : List D} {d d' : D} (h : f S M = .ok l M) (hn : l.length = n) (h2 : F l M = .ok d (M ++ N)) (hz : fz (M ++ N) M.length 9 d = some d') :
    eFz (eCall (callD n F) f) S M = .ok d' M := fzE_app (by rw [call_ok h hn]; exact h2) hz
abbrev eInt (i : Int) : D := .int i
abbrev nI (k : Nat) : D := .int (k : Int)
def encE (e : Nat × Nat) : D := .tup [nI e.1, nI e.2]
theorem rg_nat (n : Nat) : rgD 0 (n : Int) = (List.range n).map nI := by
  unfold rgD
  simp
theorem rgi {n : Nat} (h : n ≤ 4096) : RgI 0 (n : Int) := ⟨by decide, by decide, Int.le_trans (by decide : -(2^62 : Int) ≤ 0) (Int.natCast_nonneg n), Int.lt_of_le_of_lt (Int.ofNat_le.mpr h) (by decide)⟩
theorem ir1_ok {f : Lo → Ev (List D)} {S : Lo} {M M1 : Store} {n : Nat} (h : f S M = .ok [.int (n : Int)] M1) (hn : n ≤ 4096) : iR1 f S M = .ok ((List.range n).map nI, none) M1 := by
  have e : op1 r1K [D.int (n : Int)] = Ev.ret ((List.range n).map nI, none) := by rw [← rg_nat]; exact rngE_ok (rgi hn)
  unfold iR1
  rw [bnd_ok h, e, Ev.ret]
theorem grd_none (M : Store) : grd none M := trivial
theorem append_ok {fo : Lo → Ev D} {fa : Lo → Ev (List D)} {S : Lo} {M M1 M2 : Store} {n : Nat} {l l2 : List D} {d : D} (h : fo S M = .ok (.ref n) M1) (hc : M1[n]? = some (.lst, l)) (ha : fa S M1 = .ok [d] M2) (hc2 : M2[n]? = some (.lst, l2)) (hl : l2.length < 1000) :
    eBm (cellM opAppend) fo fa S M = .ok .non (M2.set n (.lst, l2 ++ [d])) := by
  have : opAppend l2 [d] = some (.non, l2 ++ [d]) := by unfold opAppend; exact if_pos (lt_sl hl)
  simp only [eBm, Ev.bnd, h, Out.bnd, isCellL, hc, ha, cellM, hc2, this]
theorem fl_ok {f : Lo → Ev NR} {S : Lo} {M M1 : Store} {l : List D} (h : f S M = .ok (.n .lst l) M1) : eF f S M = .ok (.lst l) M1 := by
  simp only [eF, Ev.bnd, h, Out.bnd, frz, Ev.ret]
theorem cl_ok {f : Lo → Ev NR} {S : Lo} {M M1 : Store} {l : List D} (h : f S M = .ok (.n .lst l) M1) : eCl f S M = .ok (.ref M1.length) (M1 ++ [(.lst, l)]) := by
  simp only [eCl, Ev.bnd, h, Out.bnd, cel]
theorem tup_ok {f : Lo → Ev (List D)} {S : Lo} {M M1 : Store} {l : List D} (h : f S M = .ok l M1) (hl : l.length ≤ 1000) : eF (nNew .tup f) S M = .ok (.tup l) M1 := by
  simp only [eF, nNew_eq, Ev.bnd, h, Out.bnd, newK_ok _ l hl, frz, Ev.ret]
theorem get_last {M : Store} {c : Tg × List D} : (M ++ [c])[M.length]? = some c := by simp
theorem set_last {M : Store} {c c' : Tg × List D} : (M ++ [c]).set M.length c' = M ++ [c'] := by simp
end DL
namespace Lw
open PySem L2 DL
theorem ftake {f : Lo → Ev (List D)} {S : Lo} {M M1 : Store} {p : Nat} (s : Int) (h : f S M = .ok [.ref p, .int s] M1) (hp : PoolAt M p) (t : PT p M M1) (hs : 0 < s) (hs2 : s < 2 ^ 64) :
    ∃ (r : Nat) (M' : Store), eFz (eCall (callD 2 F__law_take) f) S M = .ok (nI r) M' ∧ PT p M M' ∧ (r : Int) < s := by
  obtain ⟨r, M', h1, t1, r0, r1⟩ := take_ok (t.pool hp) hs hs2
  obtain ⟨k, rfl⟩ := Int.eq_ofNat_of_zero_le r0
  exact ⟨k, M', fcall (N := []) (p := p) h rfl t (by rw [List.append_nil]; exact h1) t1 (fz_id _ _ _ _ rfl), t.trans t1, r1⟩
theorem pool_cell {M : Store} {ns : List Int} {k : Nat} : ∃ cell : Int, sIf (eB (e2 ltE (eVar 1) (eCall (op1 lenE) (eAc (eVar 0) eA0)))) (sAsg (e2 ixE (eVar 0) (eVar 1)) (gNm 2)) sNext [some (scr ns), some (nI k), some (.int 0), none] M = .ok (.nx [some (scr ns), some (nI k), some (.int cell), none]) M := by
  by_cases hk : (k : Int) < ns.length
  · have hk' : k < ns.length := by omega
    have hg : (ns.map D.int)[k]? = some (.int ns[k]) := by
      simp [List.getElem?_eq_getElem hk']
    exact ⟨ns[k], by simp only [sSeq, sAsg, sExp, sRet, sRetN, sIf, sNext, e1, e2, eVar, eC, eA0, eAc, asB, eB, eAnd, eOr, eNot, eAndV, eOrV, eNotV, eIf, eF, eCl, n2, nNew_eq, new0, new1, new2, new3, new4, new8, frz, cel, eCall, nCall, op1, op2, callD, iop, subE, mod_i, ltE, leE, gtE, geE, negE, eChain, minE, maxE, Ev.bnd, Out.bnd, Ev.ret, Ev.no, Ev.fl, Ev.flB, Ev.flG, Ev.nox, gNm, gTp, gCn, gNl, gSet, eBm, tYesD, oNo, oSo, asI, sFor, iR1, iSeq, iEn, itSq, lenE, sq, vw, FC.isSeq, add_int, List.set_cons_zero, List.set_cons_succ, List.getElem?_cons_zero, List.getElem?_cons_succ, List.length_cons, List.length_nil, Option.map_some, ite_true, ite_false, if_true, if_false, reduceIte, reduceCtorEq, decide_true, decide_false, Bool.false_eq_true, Nat.reduceAdd, Nat.reduceLeDiff, List.length_map, hk, ixE, at_nat, hg, optE]⟩
  · exact ⟨0, by simp only [sSeq, sAsg, sExp, sRet, sRetN, sIf, sNext, e1, e2, eVar, eC, eA0, eAc, asB, eB, eAnd, eOr, eNot, eAndV, eOrV, eNotV, eIf, eF, eCl, n2, nNew_eq, new0, new1, new2, new3, new4, new8, frz, cel, eCall, nCall, op1, op2, callD, iop, subE, mod_i, ltE, leE, gtE, geE, negE, eChain, minE, maxE, Ev.bnd, Out.bnd, Ev.ret, Ev.no, Ev.fl, Ev.flB, Ev.flG, Ev.nox, gNm, gTp, gCn, gNl, gSet, eBm, tYesD, oNo, oSo, asI, sFor, iR1, iSeq, iEn, itSq, lenE, sq, vw, FC.isSeq, add_int, List.set_cons_zero, List.set_cons_succ, List.getElem?_cons_zero, List.getElem?_cons_succ, List.length_cons, List.length_nil, Option.map_some, ite_true, ite_false, if_true, if_false, reduceIte, reduceCtorEq, decide_true, decide_false, Bool.false_eq_true, Nat.reduceAdd, Nat.reduceLeDiff, List.length_map, hk]⟩
theorem pool_cut {M : Store} {a b : D} {cell seed : Int} : ∃ cell2 : Int, sIf (eB (e2 ltE (eVar 2) (e2 powE (eC (.int 10)) (eC (.int 18))))) (sAsg (eC (.int 0)) (gNm 2)) sNext [some a, some b, some (.int cell), some (.int seed)] M = .ok (.nx [some a, some b, some (.int cell2), some (.int seed)]) M := by
  have c5 : powE (.int 10) (.int 18) = Ev.ret (.int (10 ^ (18 : Int).toNat)) := by unfold powE iop; exact if_pos ⟨by decide, by decide, by decide⟩
  generalize (10 : Int) ^ (18 : Int).toNat = z at c5
  by_cases q : cell < z
  · exact ⟨0, by simp only [sSeq, sAsg, sExp, sRet, sRetN, sIf, sNext, e1, e2, eVar, eC, eA0, eAc, asB, eB, eAnd, eOr, eNot, eAndV, eOrV, eNotV, eIf, eF, eCl, n2, nNew_eq, new0, new1, new2, new3, new4, new8, frz, cel, eCall, nCall, op1, op2, callD, iop, subE, mod_i, ltE, leE, gtE, geE, negE, eChain, minE, maxE, Ev.bnd, Out.bnd, Ev.ret, Ev.no, Ev.fl, Ev.flB, Ev.flG, Ev.nox, gNm, gTp, gCn, gNl, gSet, eBm, tYesD, oNo, oSo, asI, sFor, iR1, iSeq, iEn, itSq, lenE, sq, vw, FC.isSeq, add_int, List.set_cons_zero, List.set_cons_succ, List.getElem?_cons_zero, List.getElem?_cons_succ, List.length_cons, List.length_nil, Option.map_some, ite_true, ite_false, if_true, if_false, reduceIte, reduceCtorEq, decide_true, decide_false, Bool.false_eq_true, Nat.reduceAdd, Nat.reduceLeDiff, c5, q]⟩
  · exact ⟨cell, by simp only [sSeq, sAsg, sExp, sRet, sRetN, sIf, sNext, e1, e2, eVar, eC, eA0, eAc, asB, eB, eAnd, eOr, eNot, eAndV, eOrV, eNotV, eIf, eF, eCl, n2, nNew_eq, new0, new1, new2, new3, new4, new8, frz, cel, eCall, nCall, op1, op2, callD, iop, subE, mod_i, ltE, leE, gtE, geE, negE, eChain, minE, maxE, Ev.bnd, Out.bnd, Ev.ret, Ev.no, Ev.fl, Ev.flB, Ev.flG, Ev.nox, gNm, gTp, gCn, gNl, gSet, eBm, tYesD, oNo, oSo, asI, sFor, iR1, iSeq, iEn, itSq, lenE, sq, vw, FC.isSeq, add_int, List.set_cons_zero, List.set_cons_succ, List.getElem?_cons_zero, List.getElem?_cons_succ, List.length_cons, List.length_nil, Option.map_some, ite_true, ite_false, if_true, if_false, reduceIte, reduceCtorEq, decide_true, decide_false, Bool.false_eq_true, Nat.reduceAdd, Nat.reduceLeDiff, c5, q]⟩
theorem pool_seed {M : Store} {ns : List Int} {k : Nat} {cell : Int} (hk : k < 100) : ∃ seed : Int, 0 ≤ seed ∧ seed < 2147483647 ∧ sAsg (e2 modE (e2 mulE (eF (n2 addN (eF (n2 addN (e2 modE (eVar 2) (eC (.int 2147483629))) (e2 mulE (e2 mulE (eC (.int 7919)) (eVar 1)) (eVar 1)))) (eC (.int 13)))) (eC (.int 48271))) (eC (.int 2147483647))) (gNm 3) [some (scr ns), some (nI k), some (.int cell), none] M = .ok (.nx [some (scr ns), some (nI k), some (.int cell), some (.int seed)]) M := by
  have c1 := mul_i (i := 7919) (j := k) (.inl (by decide))
  have c2 := mul_i (i := 7919 * (k : Int)) (j := k) (.inr (by omega))
  have c3 : ∀ z : Int, mulE (.int z) (.int 48271) = Ev.ret (.int (z * 48271)) := fun z => mul_i (.inr (by decide))
  refine ⟨((cell % 2147483629 + 7919 * (k : Int) * k + 13) * 48271) % 2147483647, Int.emod_nonneg _ (by decide), Int.emod_lt_of_pos _ (by decide), ?_⟩
  exact asg_nm (i := 3) (e2_ret (e2_ret (add_ret (add_ret (e2_ret (v_ok rfl) (c_ok _ _ _) (mod_i (by decide))) (e2_ret (e2_ret (c_ok _ _ _) (v_ok rfl) c1) (v_ok rfl) c2)) (c_ok _ _ _)) (c_ok _ _ _) (c3 _)) (c_ok _ _ _) (mod_i (by decide)))
theorem pool_ok {M : Store} {ns : List Int} {k : Nat} (hk : k < 100) : ∃ c, F__law_pool [scr ns, nI k] M = .ok (.ref M.length) (M ++ [(.lst, c)]) ∧ Pl c := by
  obtain ⟨cell, h1⟩ := pool_cell (M := M) (ns := ns) (k := k)
  have h2 := pool_seed (M := M) (ns := ns) (cell := cell) hk
  obtain ⟨seed, s0, s1, h2⟩ := h2
  obtain ⟨cell2, h3⟩ := pool_cut (M := M) (a := scr ns) (b := nI k) (cell := cell) (seed := seed)
  have c4 := mul_i (i := seed) (j := seed) (.inl (by omega))
  refine ⟨[.int cell2, .int (seed * seed % 2147483587 + 1)], run_rt ?_, ⟨_, _, rfl, ?_, ?_⟩⟩
  · show g__law_pool [some (scr ns), some (nI k), none, none] M = _
    unfold g__law_pool
    rw [seq_nx (S1 := [some (scr ns), some (nI k), some (.int 0), none]) (M1 := M) (by simp only [sSeq, sAsg, sExp, sRet, sRetN, sIf, sNext, e1, e2, eVar, eC, eA0, eAc, asB, eB, eAnd, eOr, eNot, eAndV, eOrV, eNotV, eIf, eF, eCl, n2, nNew_eq, new0, new1, new2, new3, new4, new8, frz, cel, eCall, nCall, op1, op2, callD, iop, subE, mod_i, ltE, leE, gtE, geE, negE, eChain, minE, maxE, Ev.bnd, Out.bnd, Ev.ret, Ev.no, Ev.fl, Ev.flB, Ev.flG, Ev.nox, gNm, gTp, gCn, gNl, gSet, eBm, tYesD, oNo, oSo, asI, sFor, iR1, iSeq, iEn, itSq, lenE, sq, vw, FC.isSeq, add_int, List.set_cons_zero, List.set_cons_succ, List.getElem?_cons_zero, List.getElem?_cons_succ, List.length_cons, List.length_nil, Option.map_some, ite_true, ite_false, if_true, if_false, reduceIte, reduceCtorEq, decide_true, decide_false, Bool.false_eq_true, Nat.reduceAdd, Nat.reduceLeDiff]), seq_nx h1, seq_nx h2, seq_nx h3]
    simp only [sSeq, sAsg, sExp, sRet, sRetN, sIf, sNext, e1, e2, eVar, eC, eA0, eAc, asB, eB, eAnd, eOr, eNot, eAndV, eOrV, eNotV, eIf, eF, eCl, n2, nNew_eq, new0, new1, new2, new3, new4, new8, frz, cel, eCall, nCall, op1, op2, callD, iop, subE, mod_i, ltE, leE, gtE, geE, negE, eChain, minE, maxE, Ev.bnd, Out.bnd, Ev.ret, Ev.no, Ev.fl, Ev.flB, Ev.flG, Ev.nox, gNm, gTp, gCn, gNl, gSet, eBm, tYesD, oNo, oSo, asI, sFor, iR1, iSeq, iEn, itSq, lenE, sq, vw, FC.isSeq, add_int, List.set_cons_zero, List.set_cons_succ, List.getElem?_cons_zero, List.getElem?_cons_succ, List.length_cons, List.length_nil, Option.map_some, ite_true, ite_false, if_true, if_false, reduceIte, reduceCtorEq, decide_true, decide_false, Bool.false_eq_true, Nat.reduceAdd, Nat.reduceLeDiff, c4, Int.reduceLT]
  · exact Int.add_nonneg (Int.emod_nonneg _ (by decide)) (by decide)
  · exact Int.lt_trans (Int.add_lt_add_right (Int.emod_lt_of_pos _ (by decide)) 1) (by decide)
theorem modulus_ok {M : Store} {p : Nat} (hp : PoolAt M p) : ∃ (m : Nat) (M' : Store), F__law_modulus [.ref p] M = .ok (nI m) M' ∧ PT p M M' ∧ m ≤ 60 ∧ m ≠ 1 := by
  obtain ⟨r, M', h, t, hr⟩ := ftake 8 (f := eAc (eVar 0) (eAc (eC (.int 8)) eA0)) (S := [some (.ref p)]) (M := M) (by simp only [sSeq, sAsg, sExp, sRet, sRetN, sIf, sNext, e1, e2, eVar, eC, eA0, eAc, asB, eB, eAnd, eOr, eNot, eAndV, eOrV, eNotV, eIf, eF, eCl, n2, nNew_eq, new0, new1, new2, new3, new4, new8, frz, cel, eCall, nCall, op1, op2, callD, iop, subE, mod_i, ltE, leE, gtE, geE, negE, eChain, minE, maxE, Ev.bnd, Out.bnd, Ev.ret, Ev.no, Ev.fl, Ev.flB, Ev.flG, Ev.nox, gNm, gTp, gCn, gNl, gSet, eBm, tYesD, oNo, oSo, asI, sFor, iR1, iSeq, iEn, itSq, lenE, sq, vw, FC.isSeq, add_int, List.set_cons_zero, List.set_cons_succ, List.getElem?_cons_zero, List.getElem?_cons_succ, List.length_cons, List.length_nil, Option.map_some, ite_true, ite_false, if_true, if_false, reduceIte, reduceCtorEq, decide_true, decide_false, Bool.false_eq_true, Nat.reduceAdd, Nat.reduceLeDiff]) hp (PT.refl hp) (by decide) (by decide)
  have hr : r < 8 := by omega
  have key : ∀ r < 8, ∃ m : Nat, ([D.int 0, D.int 0, D.int 2, D.int 3, D.int 4, D.int 5, D.int 12, D.int 60] : List D)[r]? = some (nI m) ∧ m ≤ 60 ∧ m ≠ 1 := by
    intro r hr
    match r, hr with
    | 0, _ => exact ⟨0, rfl, by decide, by decide⟩
    | 1, _ => exact ⟨0, rfl, by decide, by decide⟩
    | 2, _ => exact ⟨2, rfl, by decide, by decide⟩
    | 3, _ => exact ⟨3, rfl, by decide, by decide⟩
    | 4, _ => exact ⟨4, rfl, by decide, by decide⟩
    | 5, _ => exact ⟨5, rfl, by decide, by decide⟩
    | 6, _ => exact ⟨12, rfl, by decide, by decide⟩
    | 7, _ => exact ⟨60, rfl, by decide, by decide⟩
  obtain ⟨m, hm, m1, m2⟩ := key r hr
  refine ⟨m, M', run_rt ?_, t, m1, m2⟩
  show g__law_modulus [some (.ref p)] M = _
  unfold g__law_modulus
  refine ret_ok ?_
  have a : eF (nNew .lst (eAc (eC (.int 0)) (eAc (eC (.int 0)) (eAc (eC (.int 2)) (eAc (eC (.int 3)) (eAc (eC (.int 4)) (eAc (eC (.int 5)) (eAc (eC (.int 12)) (eAc (eC (.int 60)) eA0))))))))) [some (.ref p)] M = .ok (.lst [D.int 0, D.int 0, D.int 2, D.int 3, D.int 4, D.int 5, D.int 12, D.int 60]) M := by
    simp only [sSeq, sAsg, sExp, sRet, sRetN, sIf, sNext, e1, e2, eVar, eC, eA0, eAc, asB, eB, eAnd, eOr, eNot, eAndV, eOrV, eNotV, eIf, eF, eCl, n2, nNew_eq, new0, new1, new2, new3, new4, new8, frz, cel, eCall, nCall, op1, op2, callD, iop, subE, mod_i, ltE, leE, gtE, geE, negE, eChain, minE, maxE, Ev.bnd, Out.bnd, Ev.ret, Ev.no, Ev.fl, Ev.flB, Ev.flG, Ev.nox, gNm, gTp, gCn, gNl, gSet, eBm, tYesD, oNo, oSo, asI, sFor, iR1, iSeq, iEn, itSq, lenE, sq, vw, FC.isSeq, add_int, List.set_cons_zero, List.set_cons_succ, List.getElem?_cons_zero, List.getElem?_cons_succ, List.length_cons, List.length_nil, Option.map_some, ite_true, ite_false, if_true, if_false, reduceIte, reduceCtorEq, decide_true, decide_false, Bool.false_eq_true, Nat.reduceAdd, Nat.reduceLeDiff]
  unfold e2
  rw [bnd_ok a, bnd_ok h]
  exact ix_nd rfl hm
theorem links_step {M Mx : Store} {p n most x : Nat} {es : List (Nat × Nat)} (hp : PoolAt M p) (hn : 0 < n) (hn2 : n ≤ 1000) (t : PT p M Mx) (ll : es.length < 1000) :
    ∃ a b My, a < n ∧ b < n ∧ PT p Mx My ∧ sExp (eBm (cellM opAppend) (eVar 3) (eAc (eF (nNew .tup (eAc (eFz (eCall (callD 2 F__law_take) (eAc (eVar 0) (eAc (eVar 1) eA0)))) (eAc (eFz (eCall (callD 2 F__law_take) (eAc (eVar 0) (eAc (eVar 1) eA0)))) eA0)))) eA0)) [some (.ref p), some (nI n), some (nI most), some (.ref M.length), some (nI x)] (Mx ++ [(.lst, es.map encE)]) =
      .ok (.nx [some (.ref p), some (nI n), some (nI most), some (.ref M.length), some (nI x)]) (My ++ [(.lst, (es ++ [(a, b)]).map encE)]) := by
  have hl := hp.lt
  have lx : Mx.length = M.length := t.len
  have px : PoolAt (Mx ++ [(.lst, es.map encE)]) p := by
    obtain ⟨c, hc, q⟩ := t.pool hp
    exact ⟨c, by rw [List.getElem?_append_left (by omega)]; exact hc, q⟩
  obtain ⟨a, Ma, ha, ta, la⟩ := ftake (n : Int) (f := eAc (eVar 0) (eAc (eVar 1) eA0)) (S := [some (.ref p), some (nI n), some (nI most), some (.ref M.length), some (nI x)]) (M := Mx ++ [(.lst, es.map encE)]) (by simp only [sSeq, sAsg, sExp, sRet, sRetN, sIf, sNext, e1, e2, eVar, eC, eA0, eAc, asB, eB, eAnd, eOr, eNot, eAndV, eOrV, eNotV, eIf, eF, eCl, n2, nNew_eq, new0, new1, new2, new3, new4, new8, frz, cel, eCall, nCall, op1, op2, callD, iop, subE, mod_i, ltE, leE, gtE, geE, negE, eChain, minE, maxE, Ev.bnd, Out.bnd, Ev.ret, Ev.no, Ev.fl, Ev.flB, Ev.flG, Ev.nox, gNm, gTp, gCn, gNl, gSet, eBm, tYesD, oNo, oSo, asI, sFor, iR1, iSeq, iEn, itSq, lenE, sq, vw, FC.isSeq, add_int, List.set_cons_zero, List.set_cons_succ, List.getElem?_cons_zero, List.getElem?_cons_succ, List.length_cons, List.length_nil, Option.map_some, ite_true, ite_false, if_true, if_false, reduceIte, reduceCtorEq, decide_true, decide_false, Bool.false_eq_true, Nat.reduceAdd, Nat.reduceLeDiff]) px (PT.refl px) (by omega) (by omega)
  obtain ⟨b, Mb, hb, tb, lb⟩ := ftake (n : Int) (f := eAc (eVar 0) (eAc (eVar 1) eA0)) (S := [some (.ref p), some (nI n), some (nI most), some (.ref M.length), some (nI x)]) (M := Ma) (by simp only [sSeq, sAsg, sExp, sRet, sRetN, sIf, sNext, e1, e2, eVar, eC, eA0, eAc, asB, eB, eAnd, eOr, eNot, eAndV, eOrV, eNotV, eIf, eF, eCl, n2, nNew_eq, new0, new1, new2, new3, new4, new8, frz, cel, eCall, nCall, op1, op2, callD, iop, subE, mod_i, ltE, leE, gtE, geE, negE, eChain, minE, maxE, Ev.bnd, Out.bnd, Ev.ret, Ev.no, Ev.fl, Ev.flB, Ev.flG, Ev.nox, gNm, gTp, gCn, gNl, gSet, eBm, tYesD, oNo, oSo, asI, sFor, iR1, iSeq, iEn, itSq, lenE, sq, vw, FC.isSeq, add_int, List.set_cons_zero, List.set_cons_succ, List.getElem?_cons_zero, List.getElem?_cons_succ, List.length_cons, List.length_nil, Option.map_some, ite_true, ite_false, if_true, if_false, reduceIte, reduceCtorEq, decide_true, decide_false, Bool.false_eq_true, Nat.reduceAdd, Nat.reduceLeDiff]) (ta.pool px) (PT.refl (ta.pool px)) (by omega) (by omega)
  obtain ⟨My, ty, rfl⟩ := (ta.trans tb).app (by omega)
  have ly : My.length = M.length := by rw [ty.len, lx]
  have h3 := tup_ok (l := [nI a, nI b]) (ac_ok (l := [nI b]) ha (ac_ok (l := []) hb a0_ok)) (by simp)
  have g1 : (Mx ++ [(Tg.lst, es.map encE)])[M.length]? = some (.lst, es.map encE) := by rw [← lx]; exact get_last
  have g2 : (My ++ [(Tg.lst, es.map encE)])[M.length]? = some (.lst, es.map encE) := by rw [← ly]; exact get_last
  have h4 := append_ok (fo := eVar 3) (S := [some (.ref p), some (nI n), some (nI most), some (.ref M.length), some (nI x)]) (M := Mx ++ [(.lst, es.map encE)]) (n := M.length) (by simp only [sSeq, sAsg, sExp, sRet, sRetN, sIf, sNext, e1, e2, eVar, eC, eA0, eAc, asB, eB, eAnd, eOr, eNot, eAndV, eOrV, eNotV, eIf, eF, eCl, n2, nNew_eq, new0, new1, new2, new3, new4, new8, frz, cel, eCall, nCall, op1, op2, callD, iop, subE, mod_i, ltE, leE, gtE, geE, negE, eChain, minE, maxE, Ev.bnd, Out.bnd, Ev.ret, Ev.no, Ev.fl, Ev.flB, Ev.flG, Ev.nox, gNm, gTp, gCn, gNl, gSet, eBm, tYesD, oNo, oSo, asI, sFor, iR1, iSeq, iEn, itSq, lenE, sq, vw, FC.isSeq, add_int, List.set_cons_zero, List.set_cons_succ, List.getElem?_cons_zero, List.getElem?_cons_succ, List.length_cons, List.length_nil, Option.map_some, ite_true, ite_false, if_true, if_false, reduceIte, reduceCtorEq, decide_true, decide_false, Bool.false_eq_true, Nat.reduceAdd, Nat.reduceLeDiff]) g1 (ac_ok h3 a0_ok) g2 (by rw [List.length_map]; exact ll)
  have e5 : (My ++ [(Tg.lst, es.map encE)]).set M.length (.lst, es.map encE ++ [D.tup [nI a, nI b]]) = My ++ [(.lst, (es ++ [(a, b)]).map encE)] := by
    rw [← ly, set_last, List.map_append]; rfl
  rw [e5] at h4
  exact ⟨a, b, My, by omega, by omega, ty, exp_ok h4⟩
theorem links_ok {M : Store} {p n most : Nat} (hp : PoolAt M p) (hn : 0 < n) (hn2 : n ≤ 1000) (hm : most ≤ 200) : ∃ (es : List (Nat × Nat)) (M' : Store), F__law_links [.ref p, nI n, nI most] M = .ok (.ref M.length) (M' ++ [(.lst, es.map encE)]) ∧ PT p M M' ∧ es.length ≤ most ∧ ∀ e ∈ es, e.1 < n ∧ e.2 < n := by
  have hl := hp.lt
  have hp1 : PoolAt (M ++ [(.lst, [])]) p := by
    obtain ⟨c, hc, q⟩ := hp
    exact ⟨c, by rw [List.getElem?_append_left hl]; exact hc, q⟩
  obtain ⟨r, M1, h1, t1, hr⟩ := ftake ((most : Int) + 1) (f := eAc (eVar 0) (eAc (eF (n2 addN (eVar 2) (eC (.int 1)))) eA0)) (S := [some (.ref p), some (nI n), some (nI most), some (.ref M.length), none]) (M := M ++ [(.lst, [])]) (by simp only [sSeq, sAsg, sExp, sRet, sRetN, sIf, sNext, e1, e2, eVar, eC, eA0, eAc, asB, eB, eAnd, eOr, eNot, eAndV, eOrV, eNotV, eIf, eF, eCl, n2, nNew_eq, new0, new1, new2, new3, new4, new8, frz, cel, eCall, nCall, op1, op2, callD, iop, subE, mod_i, ltE, leE, gtE, geE, negE, eChain, minE, maxE, Ev.bnd, Out.bnd, Ev.ret, Ev.no, Ev.fl, Ev.flB, Ev.flG, Ev.nox, gNm, gTp, gCn, gNl, gSet, eBm, tYesD, oNo, oSo, asI, sFor, iR1, iSeq, iEn, itSq, lenE, sq, vw, FC.isSeq, add_int, List.set_cons_zero, List.set_cons_succ, List.getElem?_cons_zero, List.getElem?_cons_succ, List.length_cons, List.length_nil, Option.map_some, ite_true, ite_false, if_true, if_false, reduceIte, reduceCtorEq, decide_true, decide_false, Bool.false_eq_true, Nat.reduceAdd, Nat.reduceLeDiff]) hp1 (PT.refl hp1) (by omega) (by omega)
  have hrm : r ≤ most := by omega
  obtain ⟨M2, t2, rfl⟩ := t1.app hl
  have lp := for_inv (enc := nI) (g := none) (tg := gNm 4) (body := sExp (eBm (cellM opAppend) (eVar 3) (eAc (eF (nNew .tup (eAc (eFz (eCall (callD 2 F__law_take) (eAc (eVar 0) (eAc (eVar 1) eA0)))) (eAc (eFz (eCall (callD 2 F__law_take) (eAc (eVar 0) (eAc (eVar 1) eA0)))) eA0)))) eA0)))
    (fun pre S M' => ∃ o es Mx, S = [some (.ref p), some (nI n), some (nI most), some (.ref M.length), o] ∧ M' = Mx ++ [(.lst, es.map encE)] ∧ PT p M Mx ∧ es.length = pre.length ∧ ∀ e ∈ es, e.1 < n ∧ e.2 < n) (List.range r)
    (S := [some (.ref p), some (nI n), some (nI most), some (.ref M.length), none]) (M := M2 ++ [(.lst, [])]) ⟨none, [], M2, rfl, rfl, t2, rfl, by simp⟩ (fun _ _ _ _ => grd_none _) (fun pre x post S M' e j => by
      obtain ⟨o, es, Mx, rfl, rfl, t, le, he⟩ := j
      have ll : es.length < 1000 := by
        have : (List.range r).length = pre.length + (post.length + 1) := by rw [e]; simp
        simp at this
        omega
      obtain ⟨a, b, My, ha, hb, ty, hh⟩ := links_step (most := most) (x := x) hp hn hn2 t ll
      refine ⟨_, _, _, _, rfl, hh, some (nI x), es ++ [(a, b)], My, rfl, rfl, t.trans ty, by simp [le], ?_⟩
      intro e' he'
      rcases List.mem_append.mp he' with z | z
      · exact he e' z
      · simp at z; subst z; exact ⟨ha, hb⟩)
  obtain ⟨S', M', hf, o, es, Mx, rfl, rfl, t, le, he⟩ := lp
  refine ⟨es, Mx, run_rt ?_, t, by rw [le]; simpa using hrm, he⟩
  show g__law_links [some (.ref p), some (nI n), some (nI most), none, none] M = _
  unfold g__law_links
  rw [seq_nx (S1 := [some (.ref p), some (nI n), some (nI most), some (.ref M.length), none]) (M1 := M ++ [(.lst, [])]) (by simp only [sSeq, sAsg, sExp, sRet, sRetN, sIf, sNext, e1, e2, eVar, eC, eA0, eAc, asB, eB, eAnd, eOr, eNot, eAndV, eOrV, eNotV, eIf, eF, eCl, n2, nNew_eq, new0, new1, new2, new3, new4, new8, frz, cel, eCall, nCall, op1, op2, callD, iop, subE, mod_i, ltE, leE, gtE, geE, negE, eChain, minE, maxE, Ev.bnd, Out.bnd, Ev.ret, Ev.no, Ev.fl, Ev.flB, Ev.flG, Ev.nox, gNm, gTp, gCn, gNl, gSet, eBm, tYesD, oNo, oSo, asI, sFor, iR1, iSeq, iEn, itSq, lenE, sq, vw, FC.isSeq, add_int, List.set_cons_zero, List.set_cons_succ, List.getElem?_cons_zero, List.getElem?_cons_succ, List.length_cons, List.length_nil, Option.map_some, ite_true, ite_false, if_true, if_false, reduceIte, reduceCtorEq, decide_true, decide_false, Bool.false_eq_true, Nat.reduceAdd, Nat.reduceLeDiff]),
    seq_nx (by rw [sfor_ok (ir1_ok (ac_ok h1 rfl) (by omega))]; exact hf)]
  simp only [sSeq, sAsg, sExp, sRet, sRetN, sIf, sNext, e1, e2, eVar, eC, eA0, eAc, asB, eB, eAnd, eOr, eNot, eAndV, eOrV, eNotV, eIf, eF, eCl, n2, nNew_eq, new0, new1, new2, new3, new4, new8, frz, cel, eCall, nCall, op1, op2, callD, iop, subE, mod_i, ltE, leE, gtE, geE, negE, eChain, minE, maxE, Ev.bnd, Out.bnd, Ev.ret, Ev.no, Ev.fl, Ev.flB, Ev.flG, Ev.nox, gNm, gTp, gCn, gNl, gSet, eBm, tYesD, oNo, oSo, asI, sFor, iR1, iSeq, iEn, itSq, lenE, sq, vw, FC.isSeq, add_int, List.set_cons_zero, List.set_cons_succ, List.getElem?_cons_zero, List.getElem?_cons_succ, List.length_cons, List.length_nil, Option.map_some, ite_true, ite_false, if_true, if_false, reduceIte, reduceCtorEq, decide_true, decide_false, Bool.false_eq_true, Nat.reduceAdd, Nat.reduceLeDiff]
end Lw

set_option Elab.async false
set_option linter.all false
set_option maxRecDepth 100000
set_option maxHeartbeats 400000
/-! MC: a Web's checks, its forest, its links. -/
namespace DL
open PySem L2
theorem isi_ok {x : D} {t T : String} {b : Bool} (h : tyN x = Ev.ret t) (hb : isiB t T = some b) : isiE x (.ty T) = Ev.ret (.bl b) := by
  unfold isiE
  rw [h]
  funext M
  simp only [Ev.bnd, Ev.ret, Out.bnd, hb, optE]
theorem py_int (M : Store) (k : Nat) (i : Int) : py M (k + 1) (.int i) = some (.int i) := by simp [py]
theorem eq_int (neg : Bool) (i j : Int) : eqE neg (.int i) (.int j) = Ev.ret (.bl (neg ^^ decide (i = j))) := by
  funext M
  unfold eqE
  rw [py_int, py_int]
  have : PyData.eqv (.int i) (.int j) = decide (i = j) := by rw [PyData.eqv]; rfl
  simp only [this, Ev.ret]
theorem eq_nat (neg : Bool) (i j : Nat) : eqE neg (nI i) (nI j) = Ev.ret (.bl (neg ^^ decide (i = j))) := by
  rw [eq_int]
  have : decide ((i : Int) = j) = decide (i = j) := by rw [decide_eq_decide]; omega
  rw [this]
theorem call_okr {F : List D → Ev D} {n : Nat} {f : Lo → Ev (List D)} {S : Lo} {M M1 M2 : Store} {l : List D} {d : D} (h : f S M = .ok l M1) (hF : F l M1 = .ok d M2) (hn : l.length = n) : eCall (callD n F) f S M = .ok d M2 := by
  rw [call_ok h hn, hF]
theorem op1_ok {op : D → Ev D} {f : Lo → Ev (List D)} {S : Lo} {M M1 : Store} {x z : D} (h : f S M = .ok [x] M1) (ho : op x = Ev.ret z) : eCall (op1 op) f S M = .ok z M1 := by
  simp only [eCall, Ev.bnd, h, Out.bnd, op1, ho, Ev.ret]
theorem op2_ok {op : D → D → Ev D} {f : Lo → Ev (List D)} {S : Lo} {M M1 : Store} {x y z : D} (h : f S M = .ok [x, y] M1) (ho : op x y = Ev.ret z) : eCall (op2 op) f S M = .ok z M1 := by
  simp only [eCall, Ev.bnd, h, Out.bnd, op2, ho, Ev.ret]
theorem andV_t {f g : Lo → Ev D} {S : Lo} {M M1 : Store} (h : f S M = .ok (.bl true) M1) : eAndV f g S M = g S M1 := by
  unfold eAndV
  rw [bnd_ok h]
  rfl
theorem notV_ok {f : Lo → Ev D} {S : Lo} {M M1 : Store} {b : Bool} (h : f S M = .ok (.bl b) M1) : eNotV f S M = .ok (.bl (!b)) M1 := by
  unfold eNotV
  rw [bnd_ok h]
  rfl
theorem tru_ok {f : Lo → Ev D} {S : Lo} {M M1 : Store} {b : Bool} (h : f S M = .ok (.bl b) M1) : eTru f S M = .ok b M1 := by
  unfold eTru
  rw [bnd_ok h]
  rfl
theorem not_ok {f : Lo → Ev Bool} {S : Lo} {M M1 : Store} {b : Bool} (h : f S M = .ok b M1) : eNot f S M = .ok (!b) M1 := by
  unfold eNot
  rw [bnd_ok h]
  rfl
theorem b_ok {f : Lo → Ev D} {S : Lo} {M M1 : Store} {b : Bool} (h : f S M = .ok (.bl b) M1) : eB f S M = .ok b M1 := by
  unfold eB
  rw [bnd_ok h]
  rfl
theorem or_f {f g : Lo → Ev Bool} {S : Lo} {M M1 : Store} (h : f S M = .ok false M1) : eOr f g S M = g S M1 := by
  unfold eOr
  rw [bnd_ok h]
  rfl
theorem if_f {c : Lo → Ev Bool} {f g : Lo → Ev Fl} {S : Lo} {M M1 : Store} (h : c S M = .ok false M1) : sIf c f g S M = g S M1 := by rw [if_ok h]; rfl
theorem if_t {c : Lo → Ev Bool} {f g : Lo → Ev Fl} {S : Lo} {M M1 : Store} (h : c S M = .ok true M1) : sIf c f g S M = f S M1 := by rw [if_ok h]; rfl
theorem lt_int (i j : Int) : ltE (.int i) (.int j) = Ev.ret (.bl (decide (i < j))) := rfl
theorem gt_int (i j : Int) : gtE (.int i) (.int j) = Ev.ret (.bl (decide (j < i))) := rfl
theorem le_int (i j : Int) : leE (.int i) (.int j) = Ev.ret (.bl (decide (i ≤ j))) := rfl
theorem sub_int (i j : Int) : subE (.int i) (.int j) = Ev.ret (.int (i - j)) := rfl
theorem len_nd {t : Tg} {l : List D} (ht : FC.isSeq t = true) : lenE (.nd t l) = Ev.ret (.int l.length) := by
  funext M
  simp only [lenE, sq, vw, Ev.bnd, Ev.ret, Out.bnd, ht, if_pos]
theorem ix_ret {t : Tg} {l : List D} {k : Nat} {d : D} (ht : FC.isSeq t = true) (h : l[k]? = some d) : ixE (.nd t l) (nI k) = Ev.ret d := by
  funext M
  exact ix_nd ht h
theorem chain_ok {fa fb fc : Lo → Ev D} {S : Lo} {M : Store} {i j k : Int} (ha : fa S M = .ok (.int i) M) (hb : fb S M = .ok (.int j) M) (hc : fc S M = .ok (.int k) M) (h1 : i ≤ j) (h2 : j ≤ k) : eChain leE leE fa fb fc S M = .ok (.bl true) M := by
  unfold eChain
  rw [bnd_ok ha, bnd_ok hb]
  have e1 : leE (.int i) (.int j) = Ev.ret (.bl true) := by rw [le_int, decide_eq_true h1]
  have e2 : leE (.int j) (.int k) = Ev.ret (.bl true) := by rw [le_int, decide_eq_true h2]
  rw [e1]
  show ((fc S).bnd fun w => leE (.int j) w) M = _
  rw [bnd_ok hc, e2]
  rfl
theorem iseq_nd {f : Lo → Ev D} {S : Lo} {M M1 : Store} {t : Tg} {l : List D} (h : f S M = .ok (.nd t l) M1) (ht : FC.isSeq t = true) : iSeq f S M = .ok (l, none) M1 := by
  unfold iSeq
  rw [bnd_ok h]
  simp only [itSq, vw, Ev.bnd, Ev.ret, Out.bnd, ht, if_pos]
theorem enD_map (es : List (Nat × Nat)) : ∀ k, enD k (es.map encE) = (es.zipIdx k).map fun x => D.tup [nI x.2, encE x.1] := by
  induction es with
  | nil => intro k; rfl
  | cons e es ih => intro k; simp only [List.map_cons, enD, List.zipIdx_cons, ih]
end DL
namespace Lw
open PySem L2 DL
theorem is_integer_ok (i : Int) (M : Store) : F_is_integer [.int i] M = .ok (.bl true) M := by
  refine run_rt ?_
  show g_is_integer [some (.int i)] M = _
  unfold g_is_integer
  have a : isiE (.int i) (.ty "int") = Ev.ret (.bl true) := isi_ok (t := "int") rfl (by decide +kernel)
  have b : isiE (.int i) (.ty "bool") = Ev.ret (.bl false) := isi_ok (t := "int") rfl (by decide +kernel)
  refine ret_ok ?_
  refine Eq.trans (andV_t (op2_ok (ac_ok (v_ok rfl) (ac_ok (c_ok _ _ _) a0_ok)) a)) ?_
  exact notV_ok (op2_ok (ac_ok (v_ok rfl) (ac_ok (c_ok _ _ _) a0_ok)) b)
theorem is_within_ok {i lo hi : Int} (M : Store) (h1 : lo ≤ i) (h2 : i ≤ hi) : F_is_within [.int i, .int lo, .int hi] M = .ok (.bl true) M := by
  refine run_rt ?_
  show g_is_within [some (.int i), some (.int lo), some (.int hi)] M = _
  unfold g_is_within
  refine ret_ok ?_
  refine Eq.trans (andV_t (fcall_same (ac_ok (v_ok rfl) a0_ok) rfl (is_integer_ok i M) rfl)) ?_
  exact chain_ok (v_ok rfl) (v_ok rfl) (v_ok rfl) h1 h2
theorem is_edge_ok {e : Nat × Nat} {n : Nat} (M : Store) (h1 : e.1 < n) (h2 : e.2 < n) : F_is_edge [encE e, nI n] M = .ok (.bl true) M := by
  refine run_rt ?_
  show g_is_edge [some (encE e), some (nI n)] M = _
  unfold g_is_edge
  have a : isiE (encE e) (.ty "tuple") = Ev.ret (.bl true) := isi_ok (t := "tuple") rfl (by decide +kernel)
  have l2 : lenE (encE e) = Ev.ret (.int 2) := len_nd rfl
  refine Eq.trans (seq_nx (Eq.trans (if_f (M1 := M) (Eq.trans (or_f (not_ok (tru_ok (op2_ok (ac_ok (v_ok rfl) (ac_ok (c_ok _ _ _) a0_ok)) a)))) (b_ok (e2_ret (op1_ok (ac_ok (v_ok rfl) a0_ok) l2) (c_ok _ _ _) (eq_int _ _ _))))) rfl)) (ret_ok ?_)
  have w : ∀ k : Nat, k < n → ∀ M : Store, F_is_within [nI k, .int 0, .int ((n : Int) - 1)] M = .ok (.bl true) M := fun k hk M => is_within_ok M (by omega) (by omega)
  refine Eq.trans (andV_t (fcall_same (ac_ok (e2_ret (v_ok rfl) (c_ok _ _ _) (ix_ret (k := 0) (d := nI e.1) rfl rfl)) (ac_ok (c_ok _ _ _) (ac_ok (e2_ret (v_ok rfl) (c_ok _ _ _) (sub_int _ _)) a0_ok))) rfl (w e.1 h1 M) rfl)) ?_
  exact fcall_same (ac_ok (e2_ret (v_ok rfl) (c_ok _ _ _) (ix_ret (k := 1) (d := nI e.2) rfl rfl)) (ac_ok (c_ok _ _ _) (ac_ok (e2_ret (v_ok rfl) (c_ok _ _ _) (sub_int _ _)) a0_ok))) rfl (w e.2 h2 M) rfl
theorem is_modulus_ok {m : Nat} (M : Store) (h1 : m ≤ 60) (h2 : m ≠ 1) : F_is_modulus [nI m] M = .ok (.bl true) M := by
  refine run_rt ?_
  show g_is_modulus [some (nI m)] M = _
  unfold g_is_modulus
  refine ret_ok ?_
  refine Eq.trans (andV_t (fcall_same (ac_ok (v_ok rfl) (ac_ok (c_ok _ _ _) (ac_ok (c_ok _ _ _) a0_ok))) rfl (is_within_ok M (by omega) (by omega)) rfl)) ?_
  have := e2_ret (op := eqE true) (fa := eVar 0) (fb := eC (.int 1)) (S := [some (nI m)]) (M := M) (v_ok rfl) (c_ok _ _ _) (eq_nat true m 1)
  rw [decide_eq_false h2] at this
  exact this
theorem check_edges_ok {n : Nat} {es : List (Nat × Nat)} (M : Store) (hl : es.length ≤ 60) (h : ∀ e ∈ es, e.1 < n ∧ e.2 < n) : F_check_edges [nI n, .lst (es.map encE)] M = .ok .non M := by
  have a : isiTE (.lst (es.map encE)) (.tup [.ty "list", .ty "tuple"]) = Ev.ret (.bl true) := by
    funext M
    have : isiA "list" ["list", "tuple"] = some true := by decide +kernel
    simp only [isiTE, tyN, vw, Ev.bnd, Ev.ret, Out.bnd, tyS, optE, tysOf, Option.map_some, this]
  have tp : eF (nNew .tup (eAc (eC (.ty "list")) (eAc (eC (.ty "tuple")) eA0))) [some (nI n), some (.lst (es.map encE)), none] M = .ok (.tup [.ty "list", .ty "tuple"]) M := tup_ok (ac_ok (c_ok _ _ _) (ac_ok (c_ok _ _ _) a0_ok)) (by simp)
  have s1 := if_f (f := sNo) (g := sNext) (S := [some (nI n), some (.lst (es.map encE)), none]) (M := M) (not_ok (tru_ok (op2_ok (ac_ok (v_ok (i := 1) rfl) (ac_ok tp a0_ok)) a)))
  have lp := for_inv (enc := encE) (g := none) (tg := gNm 2) (body := sIf (eNot (eTru (eFz (eCall (callD 2 F_is_edge) (eAc (eVar 2) (eAc (eVar 0) eA0)))))) sNo sNext)
    (fun _ S M' => ∃ o, S = [some (nI n), some (.lst (es.map encE)), o] ∧ M' = M) es (S := [some (nI n), some (.lst (es.map encE)), none]) (M := M) ⟨none, rfl, rfl⟩ (fun _ _ _ _ => grd_none _) (fun pre x post S M' e j => by
      obtain ⟨o, rfl, rfl⟩ := j
      have hx : x ∈ es := by rw [e]; simp
      refine ⟨[some (nI n), some (.lst (es.map encE)), some (encE x)], _, _, _, rfl, if_f (not_ok (tru_ok (fcall_same (ac_ok (v_ok rfl) (ac_ok (v_ok rfl) a0_ok)) rfl (is_edge_ok _ (h x hx).1 (h x hx).2) rfl))), _, rfl, rfl⟩)
  obtain ⟨S', M', hf, o, e1, e2⟩ := lp
  rw [e1, e2] at hf
  refine run_nx (S := [some (nI n), some (.lst (es.map encE)), o]) ?_
  show g_check_edges [some (nI n), some (.lst (es.map encE)), none] M = _
  unfold g_check_edges
  refine Eq.trans (seq_nx (s1.trans rfl)) (Eq.trans (seq_nx (Eq.trans (sfor_ok (iseq_nd (v_ok rfl) rfl)) hf)) ?_)
  have g1 : gtE (.int ((es.map encE).length : Nat)) (.int 60) = Ev.ret (.bl false) := by
    rw [gt_int, decide_eq_false]
    rw [List.length_map]; omega
  exact if_f (b_ok (e2_ret (op1_ok (ac_ok (v_ok rfl) a0_ok) (len_nd rfl)) (c_ok _ _ _) g1))
end Lw

set_option Elab.async false
set_option linter.all false
set_option maxRecDepth 100000
set_option maxHeartbeats 400000
/-! MD: forest_of and links_of. -/
namespace DL
open PySem L2
theorem gtp2 {ga gb : D → Lo → Ev Lo} {S S1 S2 : Lo} {M : Store} {x y : D} (h1 : ga x S M = .ok S1 M) (h2 : gb y S1 M = .ok S2 M) : gTp 2 (gCn ga (gCn gb gNl)) (.tup [x, y]) S M = .ok S2 M := by
  simp only [gTp, vw, Ev.bnd, Ev.ret, Out.bnd, gCn, h1, h2, gNl, List.length_cons, List.length_nil, if_pos]
theorem gtp3 {ga gb gc : D → Lo → Ev Lo} {S S1 S2 S3 : Lo} {M : Store} {x y z : D} (h1 : ga x S M = .ok S1 M) (h2 : gb y S1 M = .ok S2 M) (h3 : gc z S2 M = .ok S3 M) : gTp 3 (gCn ga (gCn gb (gCn gc gNl))) (.tup [x, y, z]) S M = .ok S3 M := by
  simp only [gTp, vw, Ev.bnd, Ev.ret, Out.bnd, gCn, h1, h2, h3, gNl, List.length_cons, List.length_nil, if_pos]
theorem g_nm (i : Nat) (d : D) (S : Lo) (M : Store) : gNm i d S M = .ok (S.set i (some d)) M := rfl
theorem asg_g {f : Lo → Ev D} {g : D → Lo → Ev Lo} {S S1 : Lo} {M M1 M2 : Store} {d : D} (h : f S M = .ok d M1) (hg : g d S M1 = .ok S1 M2) : sAsg f g S M = .ok (.nx S1) M2 := by
  simp only [sAsg, Ev.fl, h, Ev.bnd, hg, Ev.ret, Out.bnd]
theorem eif_ok {c : Lo → Ev Bool} {f g : Lo → Ev D} {S : Lo} {M M1 : Store} {b : Bool} (h : c S M = .ok b M1) : eIf c f g S M = if b = true then f S M1 else g S M1 := by
  unfold eIf
  rw [bnd_ok h]
  cases b <;> rfl
theorem ien_nd {f : Lo → Ev (List D)} {S : Lo} {M M1 : Store} {l : List D} (h : f S M = .ok [.lst l] M1) : iEn f S M = .ok (enD 0 l, none) M1 := by
  unfold iEn
  rw [bnd_ok h]
  simp only [op1, vw, Ev.bnd, Ev.ret, Out.bnd]
theorem lr_ok {f : Lo → Ev D} {S : Lo} {M M1 : Store} {n : Nat} (h : f S M = .ok (nI n) M1) (hn : n ≤ 4096) : lrN (r1E f) S M = .ok (.n .lst ((List.range n).map nI)) M1 := by
  have h1 : r1E f S M = .ok (0, (n : Int)) M1 := by
    unfold r1E
    rw [bnd_ok h]
    rfl
  unfold lrN
  rw [bnd_ok h1, rgN_ok (RgOk.of_le (Int.le_refl 0) (by show (n : Int) ≤ _; omega) (by show (0 : Int) ≤ _; decide) (by show (0 : Int) ≤ n; omega))]
  show Out.ok (NR.n .lst (rgD 0 (n : Int))) M1 = _
  rw [rg_nat]
theorem new_ok {t : Tg} {f : Lo → Ev (List D)} {S : Lo} {M M1 : Store} {l : List D} (h : f S M = .ok l M1) (hl : l.length ≤ 1000) : nNew t f S M = .ok (.n t l) M1 := by
  rw [nNew_eq, bnd_ok h, newK_ok _ _ hl]
  rfl
end DL
namespace Lw
open PySem L2 DL
/-- one edge more for the forest -/
def fstep (s : List Nat × List Nat) (x : (Nat × Nat) × Nat) : List Nat × List Nat :=
  if s.1.getD x.1.1 0 = s.1.getD x.1.2 0 then s else (s.1.map fun g => if g = s.1.getD x.1.2 0 then s.1.getD x.1.1 0 else g, s.2 ++ [x.2])
def fAll (n : Nat) (xs : List ((Nat × Nat) × Nat)) : List Nat × List Nat := xs.foldl fstep (List.range n, [])
def forestM (n : Nat) (es : List (Nat × Nat)) : List Nat := (fAll n es.zipIdx).2
theorem fstep_len (s : List Nat × List Nat) (x : (Nat × Nat) × Nat) : (fstep s x).1.length = s.1.length ∧ (fstep s x).2.length ≤ s.2.length + 1 := by
  unfold fstep
  split <;> simp
theorem fAll_len (n : Nat) (xs : List ((Nat × Nat) × Nat)) : (fAll n xs).1.length = n ∧ (fAll n xs).2.length ≤ xs.length := by
  have gen : ∀ (xs : List ((Nat × Nat) × Nat)) (s : List Nat × List Nat), (xs.foldl fstep s).1.length = s.1.length ∧ (xs.foldl fstep s).2.length ≤ s.2.length + xs.length := by
    intro xs
    induction xs with
    | nil => intro s; exact ⟨rfl, by simp⟩
    | cons x xs ih =>
      intro s
      have a := ih (fstep s x)
      have b := fstep_len s x
      refine ⟨by rw [List.foldl_cons, a.1, b.1], ?_⟩
      rw [List.foldl_cons, List.length_cons]
      omega
  have := gen xs (List.range n, [])
  refine ⟨by simpa [fAll] using this.1, by simpa [fAll] using this.2⟩
theorem fAll_snoc (n : Nat) (xs : List ((Nat × Nat) × Nat)) (x : (Nat × Nat) × Nat) : fAll n (xs ++ [x]) = fstep (fAll n xs) x := by
  unfold fAll
  rw [List.foldl_append]
  rfl
theorem getD_nI {gs : List Nat} {k : Nat} (h : k < gs.length) : (gs.map nI)[k]? = some (nI (gs.getD k 0)) := by
  simp [h]
theorem forest_body {n : Nat} {es : List (Nat × Nat)} {gs fs : List Nat} {i : Nat} {e : Nat × Nat} {o4 o5 o6 : Option D} {M : Store} (hg : gs.length = n) (h1 : e.1 < n) (h2 : e.2 < n) (hn : n ≤ 900) (hf : fs.length < 1000) (S : Lo) (hS : S = [some (nI n), some (.lst (es.map encE)), some (.lst (gs.map nI)), some (.ref M.length), some (nI i), some (nI e.1), some (nI e.2), none]) :
    sIf (eB (e2 (eqE true) (e2 ixE (eVar 2) (eVar 5)) (e2 ixE (eVar 2) (eVar 6)))) (sSeq (sExp (eBm (cellM opAppend) (eVar 3) (eAc (eVar 4) eA0))) (sAsg (eF (nLc (iSeq (eVar 2)) (gNm 7) tYesD (eIf (eB (e2 (eqE false) (eVar 7) (e2 ixE (eVar 2) (eVar 6)))) (e2 ixE (eVar 2) (eVar 5)) (eVar 7)) [7])) (gNm 2))) sNext S (M ++ [(.lst, fs.map nI)]) =
      .ok (.nx [some (nI n), some (.lst (es.map encE)), some (.lst ((fstep (gs, fs) (e, i)).1.map nI)), some (.ref M.length), some (nI i), some (nI e.1), some (nI e.2), none]) (M ++ [(.lst, (fstep (gs, fs) (e, i)).2.map nI)]) := by
  subst hS
  have i1 : ∀ (z : Option D) (M : Store), e2 ixE (eVar 2) (eVar 5) [some (nI n), some (.lst (es.map encE)), some (.lst (gs.map nI)), some (.ref M.length), some (nI i), some (nI e.1), some (nI e.2), z] M = .ok (nI (gs.getD e.1 0)) M := fun z M => e2_ret (v_ok rfl) (v_ok rfl) (ix_ret rfl (getD_nI (by omega)))
  have j1 : ∀ (z y : Option D) (M : Store), e2 ixE (eVar 2) (eVar 5) [some (nI n), some (.lst (es.map encE)), some (.lst (gs.map nI)), y, some (nI i), some (nI e.1), some (nI e.2), z] M = .ok (nI (gs.getD e.1 0)) M := fun z y M => e2_ret (v_ok rfl) (v_ok rfl) (ix_ret rfl (getD_nI (by omega)))
  have j2 : ∀ (z y : Option D) (M : Store), e2 ixE (eVar 2) (eVar 6) [some (nI n), some (.lst (es.map encE)), some (.lst (gs.map nI)), y, some (nI i), some (nI e.1), some (nI e.2), z] M = .ok (nI (gs.getD e.2 0)) M := fun z y M => e2_ret (v_ok rfl) (v_ok rfl) (ix_ret rfl (getD_nI (by omega)))
  have ht := b_ok (e2_ret (j1 none (some (.ref M.length)) (M ++ [(.lst, fs.map nI)])) (j2 none (some (.ref M.length)) (M ++ [(.lst, fs.map nI)])) (eq_nat true _ _))
  refine Eq.trans (if_ok ht) ?_
  by_cases q : gs.getD e.1 0 = gs.getD e.2 0
  · have e0 : fstep (gs, fs) (e, i) = (gs, fs) := by unfold fstep; rw [if_pos q]
    rw [if_neg (by rw [decide_eq_true q]; decide), e0]
    rfl
  · have e0 : fstep (gs, fs) (e, i) = (gs.map fun g => if g = gs.getD e.2 0 then gs.getD e.1 0 else g, fs ++ [i]) := by unfold fstep; rw [if_neg q]
    rw [if_pos (by rw [decide_eq_false q]; decide), e0]
    have ap := append_ok (fo := eVar 3) (fa := eAc (eVar 4) eA0) (S := [some (nI n), some (.lst (es.map encE)), some (.lst (gs.map nI)), some (.ref M.length), some (nI i), some (nI e.1), some (nI e.2), none]) (M := M ++ [(.lst, fs.map nI)]) (v_ok rfl) get_last (ac_ok (v_ok rfl) a0_ok) get_last (by rw [List.length_map]; exact hf)
    rw [set_last] at ap
    refine Eq.trans (seq_nx (exp_ok ap)) ?_
    have cm := comp_map (enc := nI) (tg := gNm 7) (tt := tYesD) (te := eIf (eB (e2 (eqE false) (eVar 7) (e2 ixE (eVar 2) (eVar 6)))) (e2 ixE (eVar 2) (eVar 5)) (eVar 7)) (g := none) (S := [some (nI n), some (.lst (es.map encE)), some (.lst (gs.map nI)), some (.ref M.length), some (nI i), some (nI e.1), some (nI e.2), none]) (M := M ++ [(.lst, fs.map nI ++ [nI i])])
      (fun _ => true) (fun g => nI (if g = gs.getD e.2 0 then gs.getD e.1 0 else g)) (grd_none _) gs (fun g hg' => ⟨_, g_nm _ _ _ _, rfl, fun _ => by
        refine Eq.trans (eif_ok (b_ok (e2_ret (v_ok rfl) (j2 (some (nI g)) _ _) (eq_nat false _ _)))) ?_
        by_cases z : g = gs.getD e.2 0
        · rw [if_pos (by rw [decide_eq_true z]; decide), if_pos z]
          exact j1 _ _ _
        · rw [if_neg (by rw [decide_eq_false z]; decide), if_neg z]
          exact v_ok rfl⟩)
    have lc := fl_ok (lc_ok (vs := [7]) (iseq_nd (f := eVar 2) (S := [some (nI n), some (.lst (es.map encE)), some (.lst (gs.map nI)), some (.ref M.length), some (nI i), some (nI e.1), some (nI e.2), none]) (M := M ++ [(.lst, fs.map nI ++ [nI i])]) (v_ok rfl) rfl) (sl_le (by rw [List.length_map]; omega)) cm)
    refine Eq.trans (asg_nm lc) ?_
    have l1 : (gs.filter fun _ => true) = gs := List.filter_eq_self.mpr (fun _ _ => rfl)
    rw [l1, List.map_map, List.map_append]
    rfl
theorem forest_ok {n : Nat} {es : List (Nat × Nat)} (M : Store) (hn : n ≤ 900) (hl : es.length ≤ 900) (h : ∀ e ∈ es, e.1 < n ∧ e.2 < n) : F_forest_of [nI n, .lst (es.map encE)] M = .ok (.ref M.length) (M ++ [(.lst, (forestM n es).map nI)]) := by
  have lp := for_inv (enc := fun x : (Nat × Nat) × Nat => D.tup [nI x.2, encE x.1]) (g := none) (tg := gTp 2 (gCn (gNm 4) (gCn (gTp 2 (gCn (gNm 5) (gCn (gNm 6) gNl))) gNl))) (body := sIf (eB (e2 (eqE true) (e2 ixE (eVar 2) (eVar 5)) (e2 ixE (eVar 2) (eVar 6)))) (sSeq (sExp (eBm (cellM opAppend) (eVar 3) (eAc (eVar 4) eA0))) (sAsg (eF (nLc (iSeq (eVar 2)) (gNm 7) tYesD (eIf (eB (e2 (eqE false) (eVar 7) (e2 ixE (eVar 2) (eVar 6)))) (e2 ixE (eVar 2) (eVar 5)) (eVar 7)) [7])) (gNm 2))) sNext)
    (fun pre S M' => ∃ o4 o5 o6, S = [some (nI n), some (.lst (es.map encE)), some (.lst ((fAll n pre).1.map nI)), some (.ref M.length), o4, o5, o6, none] ∧ M' = M ++ [(.lst, (fAll n pre).2.map nI)]) es.zipIdx (S := [some (nI n), some (.lst (es.map encE)), some (.lst ((List.range n).map nI)), some (.ref M.length), none, none, none, none]) (M := M ++ [(.lst, [])]) ⟨none, none, none, rfl, rfl⟩ (fun _ _ _ _ => grd_none _) (fun pre x post S M' e j => by
      obtain ⟨o4, o5, o6, rfl, rfl⟩ := j
      have hx : x ∈ es.zipIdx := by rw [e]; simp
      have hx1 : x.1 ∈ es := List.fst_mem_of_mem_zipIdx hx
      have hpl : pre.length < 1000 := by
        have : es.zipIdx.length = pre.length + (post.length + 1) := by rw [e]; simp
        rw [List.length_zipIdx] at this
        omega
      have fl := fAll_len n pre
      have b := forest_body (es := es) (gs := (fAll n pre).1) (fs := (fAll n pre).2) (i := x.2) (e := x.1) (o4 := none) (o5 := none) (o6 := none) (M := M) fl.1 (h _ hx1).1 (h _ hx1).2 hn (by omega) _ rfl
      refine ⟨_, _, _, _, gtp2 (g_nm _ _ _ _) (gtp2 (g_nm _ _ _ _) (g_nm _ _ _ _)), b, some (nI x.2), some (nI x.1.1), some (nI x.1.2), ?_, ?_⟩
      · rw [fAll_snoc]
      · rw [fAll_snoc])
  obtain ⟨S', M', hf, o4, o5, o6, rfl, rfl⟩ := lp
  refine run_rt ?_
  show g_forest_of [some (nI n), some (.lst (es.map encE)), none, none, none, none, none, none] M = _
  unfold g_forest_of
  refine Eq.trans (seq_nx (asg_nm (fl_ok (lr_ok (v_ok rfl) (by omega))))) ?_
  refine Eq.trans (seq_nx (asg_nm (cl_ok (new_ok a0_ok (by simp))))) ?_
  refine Eq.trans (seq_nx (Eq.trans (sfor_ok (ien_nd (ac_ok (v_ok rfl) a0_ok))) (by rw [enD_map]; exact hf))) ?_
  exact ret_ok (v_ok rfl)
end Lw

set_option Elab.async false
set_option linter.all false
set_option maxRecDepth 100000
set_option maxHeartbeats 400000
/-! ME: links_of. -/
namespace DL
open PySem L2
theorem fz_ref {M : Store} {n k m : Nat} {t : Tg} {l l' : List D} (hm : n ≤ m) (h : M[m]? = some (t, l)) (hl : fzs M n k l = some l') : fz M n (k + 1) (.ref m) = some (.nd t l') := by
  rw [fz]
  simp only [h, hl, Option.map_some]
  rw [if_neg (by omega)]
theorem fz_nd {M : Store} {n k : Nat} {t : Tg} {l l' : List D} (hl : fzs M n k l = some l') : fz M n k (.nd t l) = some (.nd t l') := by
  rw [fz, hl]
  rfl
theorem fzs_map {α : Type} {M : Store} {n k : Nat} (f g : α → D) : ∀ (xs : List α), (∀ x ∈ xs, fz M n k (f x) = some (g x)) → fzs M n k (xs.map f) = some (xs.map g)
  | [], _ => by rw [List.map_nil, List.map_nil, fzs]
  | x :: xs, h => by
    have a := h x (by simp)
    have b := fzs_map f g xs (fun y hy => h y (by simp [hy]))
    rw [List.map_cons, List.map_cons, fzs, a, b]
theorem get_app {M X : Store} {k : Nat} : (M ++ X)[M.length + k]? = X[k]? := by
  rw [List.getElem?_append_right (by omega)]
  congr 1
  omega
theorem set_app' {M X : Store} {k : Nat} {c : Tg × List D} : (M ++ X).set (M.length + k) c = M ++ X.set k c := by
  rw [List.set_append, if_neg (by omega)]
  congr 2
  omega
end DL
namespace Lw
open PySem L2 DL
def encL (x : Nat × Int × Nat) : D := .tup [nI x.1, .int x.2.1, nI x.2.2]
abbrev Rows := List (List (Nat × Int × Nat))
def rowD (r : List (Nat × Int × Nat)) : D := .lst (r.map encL)
def rowC (r : List (Nat × Int × Nat)) : Tg × List D := (.lst, r.map encL)
def lput (L : Rows) (k : Nat) (x : Nat × Int × Nat) : Rows := L.set k (L.getD k [] ++ [x])
def lstep (es : List (Nat × Nat)) (L : Rows) (i : Nat) : Rows := lput (lput L (es.getD i (0, 0)).1 (i, 1, (es.getD i (0, 0)).2)) (es.getD i (0, 0)).2 (i, -1, (es.getD i (0, 0)).1)
def linksA (n : Nat) (es : List (Nat × Nat)) (fs : List Nat) : Rows := fs.foldl (lstep es) (List.replicate n [])
theorem lput_len (L : Rows) (k : Nat) (x : Nat × Int × Nat) : (lput L k x).length = L.length := by simp [lput]
theorem lput_row {L : Rows} {k b : Nat} {x : Nat × Int × Nat} (h : ∀ r ∈ L, r.length ≤ b) : ∀ r ∈ lput L k x, r.length ≤ b + 1 := by
  intro r hr
  unfold lput at hr
  rcases List.mem_or_eq_of_mem_set hr with z | z
  · have := h r z; omega
  · subst z
    rw [List.length_append, List.length_singleton]
    have : (L.getD k []).length ≤ b := by
      rw [List.getD_eq_getElem?_getD]
      cases q : L[k]? with
      | none => simp
      | some r' => simpa using h r' (List.mem_of_getElem? q)
    omega
theorem linksA_ok (n : Nat) (es : List (Nat × Nat)) (fs : List Nat) : (linksA n es fs).length = n ∧ ∀ r ∈ linksA n es fs, r.length ≤ 2 * fs.length := by
  have gen : ∀ (fs : List Nat) (L : Rows) (b : Nat), (∀ r ∈ L, r.length ≤ b) → (fs.foldl (lstep es) L).length = L.length ∧ ∀ r ∈ fs.foldl (lstep es) L, r.length ≤ b + 2 * fs.length := by
    intro fs
    induction fs with
    | nil => intro L b h; exact ⟨rfl, by simpa using h⟩
    | cons i fs ih =>
      intro L b h
      obtain ⟨a, c⟩ := ih (lstep es L i) (b + 1 + 1) (lput_row (lput_row h))
      refine ⟨by rw [List.foldl_cons, a]; unfold lstep; rw [lput_len, lput_len], fun r hr => ?_⟩
      have := c r (by rw [List.foldl_cons] at hr; exact hr)
      rw [List.length_cons]
      omega
  have := gen fs (List.replicate n []) 0 (fun r hr => by rw [(List.mem_replicate.mp hr).2]; exact Nat.le_refl _)
  refine ⟨by rw [linksA, this.1]; simp, fun r hr => by have := this.2 r hr; omega⟩
theorem linksA_snoc (n : Nat) (es : List (Nat × Nat)) (fs : List Nat) (i : Nat) : linksA n es (fs ++ [i]) = lstep es (linksA n es fs) i := by
  unfold linksA
  rw [List.foldl_append]
  rfl
/-- one row longer -/
theorem put_ok {M : Store} {L : Rows} {k : Nat} {fo : Lo → Ev D} {fa : Lo → Ev (List D)} {S : Lo} {x : Nat × Int × Nat} (hk : k < L.length) (h1 : fo S (M ++ L.map rowC) = .ok (.ref (M.length + k)) (M ++ L.map rowC)) (h2 : fa S (M ++ L.map rowC) = .ok [encL x] (M ++ L.map rowC)) (hl : ∀ r ∈ L, r.length < 1000) :
    eBm (cellM opAppend) fo fa S (M ++ L.map rowC) = .ok .non (M ++ (lput L k x).map rowC) := by
  have g : (M ++ L.map rowC)[M.length + k]? = some (.lst, (L.getD k []).map encL) := by
    rw [get_app, List.getElem?_map, List.getElem?_eq_getElem hk, List.getD_eq_getElem?_getD, List.getElem?_eq_getElem hk]
    rfl
  have a := append_ok h1 g h2 g (by
    rw [List.length_map]
    have : (L.getD k []) ∈ L := by
      rw [List.getD_eq_getElem?_getD, List.getElem?_eq_getElem hk]
      exact List.getElem_mem hk
    exact hl _ this)
  rw [a, set_app']
  unfold lput
  rw [List.map_set]
  unfold rowC
  rw [List.map_append]
  rfl
def refsD (b n : Nat) : D := .lst ((List.range n).map fun i => .ref (b + i))
theorem links_body {n : Nat} {es : List (Nat × Nat)} {fl : D} {L : Rows} {i : Nat} {M : Store} {o5 o6 : Option D} (hL : L.length = n) (hi : i < es.length) (h : ∀ e ∈ es, e.1 < n ∧ e.2 < n) (hr : ∀ r ∈ L, r.length < 900) (S : Lo) (hS : S = [some (nI n), some (.lst (es.map encE)), some fl, some (refsD M.length n), some (nI i), o5, o6, none]) :
    sSeq (sAsg (e2 ixE (eVar 1) (eVar 4)) (gTp 2 (gCn (gNm 5) (gCn (gNm 6) gNl)))) (sSeq (sExp (eBm (cellM opAppend) (e2 ixE (eVar 3) (eVar 5)) (eAc (eF (nNew .tup (eAc (eVar 4) (eAc (eC (.int 1)) (eAc (eVar 6) eA0))))) eA0))) (sExp (eBm (cellM opAppend) (e2 ixE (eVar 3) (eVar 6)) (eAc (eF (nNew .tup (eAc (eVar 4) (eAc (e1 negE (eC (.int 1))) (eAc (eVar 5) eA0))))) eA0)))) S (M ++ L.map rowC) =
      .ok (.nx [some (nI n), some (.lst (es.map encE)), some fl, some (refsD M.length n), some (nI i), some (nI (es.getD i (0, 0)).1), some (nI (es.getD i (0, 0)).2), none]) (M ++ (lstep es L i).map rowC) := by
  subst hS
  have he : es[i]? = some (es.getD i (0, 0)) := by
    rw [List.getD_eq_getElem?_getD, List.getElem?_eq_getElem hi]
    rfl
  obtain ⟨h1, h2⟩ := h _ (List.mem_of_getElem? he)
  unfold lstep
  generalize es.getD i (0, 0) = e at he h1 h2 ⊢
  have ge : (es.map encE)[i]? = some (encE e) := by rw [List.getElem?_map, he]; rfl
  refine Eq.trans (seq_nx (asg_g (e2_ret (v_ok rfl) (v_ok rfl) (ix_ret rfl ge)) (gtp2 (g_nm _ _ _ _) (g_nm _ _ _ _)))) ?_
  have rf : ∀ k, k < n → ((List.range n).map fun i => D.ref (M.length + i))[k]? = some (.ref (M.length + k)) := fun k hk => by
    rw [List.getElem?_map, List.getElem?_range hk]
    rfl
  refine Eq.trans (seq_nx (exp_ok (put_ok (k := e.1) (x := (i, 1, e.2)) (by omega) (e2_ret (v_ok rfl) (v_ok rfl) (ix_ret rfl (rf _ h1))) (ac_ok (tup_ok (ac_ok (v_ok rfl) (ac_ok (c_ok _ _ _) (ac_ok (v_ok rfl) a0_ok))) (by simp)) a0_ok) (fun r z => by have := hr r z; omega)))) ?_
  have ng : e1 negE (eC (.int 1)) [some (nI n), some (.lst (es.map encE)), some fl, some (refsD M.length n), some (nI i), some (nI e.1), some (nI e.2), none] (M ++ (lput L e.1 (i, 1, e.2)).map rowC) = .ok (.int (-1)) (M ++ (lput L e.1 (i, 1, e.2)).map rowC) := rfl
  exact exp_ok (put_ok (k := e.2) (x := (i, -1, e.1)) (by rw [lput_len]; omega) (e2_ret (v_ok rfl) (v_ok rfl) (ix_ret rfl (rf _ h2))) (ac_ok (tup_ok (ac_ok (v_ok rfl) (ac_ok ng (ac_ok (v_ok rfl) a0_ok))) (by simp)) a0_ok) (fun r z => by have := lput_row (b := 900) (fun r z => by have := hr r z; omega) r z; omega))
theorem links_made {n : Nat} {es : List (Nat × Nat)} {fs : List Nat} (M : Store) (hn : n ≤ 900) (hf : fs.length ≤ 400) (hi : ∀ i ∈ fs, i < es.length) (h : ∀ e ∈ es, e.1 < n ∧ e.2 < n) : F_links_of [nI n, .lst (es.map encE), .lst (fs.map nI)] M = .ok (refsD M.length n) (M ++ (linksA n es fs).map rowC) := by
  have cm := comp_inv (enc := nI) (tg := gNm 7) (tt := tYesD) (te := eCl (nNew .lst eA0)) (g := none) (S := [some (nI n), some (.lst (es.map encE)), some (.lst (fs.map nI)), none, none, none, none, none])
    (fun pre o M' => M' = M ++ (List.replicate pre.length []).map rowC ∧ o = (List.range pre.length).map fun i => .ref (M.length + i)) (List.range n) (M := M) ⟨by simp, rfl⟩ (fun _ _ _ _ => grd_none _) (fun pre x post o M' e j => by
      obtain ⟨rfl, rfl⟩ := j
      refine ⟨_, _, _, _, g_nm _ _ _ _, rfl, fun _ => ⟨_, _, cl_ok (new_ok a0_ok (by simp)), ?_, ?_⟩, fun z => by cases z⟩
      · rw [List.append_assoc, List.length_append, List.length_singleton, List.replicate_succ', List.map_append]
        rfl
      · have e1 : (pre ++ [x]).length = pre.length + 1 := by simp
        rw [e1, List.range_succ, List.map_append, List.length_append, List.length_map, List.length_replicate]
        rfl)
  obtain ⟨ys, M', hc, rfl, rfl⟩ := cm
  rw [List.length_range] at hc
  have lp := for_inv (enc := nI) (g := none) (tg := gNm 4) (body := sSeq (sAsg (e2 ixE (eVar 1) (eVar 4)) (gTp 2 (gCn (gNm 5) (gCn (gNm 6) gNl)))) (sSeq (sExp (eBm (cellM opAppend) (e2 ixE (eVar 3) (eVar 5)) (eAc (eF (nNew .tup (eAc (eVar 4) (eAc (eC (.int 1)) (eAc (eVar 6) eA0))))) eA0))) (sExp (eBm (cellM opAppend) (e2 ixE (eVar 3) (eVar 6)) (eAc (eF (nNew .tup (eAc (eVar 4) (eAc (e1 negE (eC (.int 1))) (eAc (eVar 5) eA0))))) eA0)))))
    (fun pre S M' => ∃ o4 o5 o6, S = [some (nI n), some (.lst (es.map encE)), some (.lst (fs.map nI)), some (refsD M.length n), o4, o5, o6, none] ∧ M' = M ++ (linksA n es pre).map rowC) fs (S := [some (nI n), some (.lst (es.map encE)), some (.lst (fs.map nI)), some (refsD M.length n), none, none, none, none]) (M := M ++ (List.replicate n []).map rowC) ⟨none, none, none, rfl, rfl⟩ (fun _ _ _ _ => grd_none _) (fun pre x post S M' e j => by
      obtain ⟨o4, o5, o6, rfl, rfl⟩ := j
      have hx : x ∈ fs := by rw [e]; simp
      have hp : pre.length ≤ fs.length := by rw [e]; simp
      have lk := linksA_ok n es pre
      have b := links_body (fl := .lst (fs.map nI)) (o5 := o5) (o6 := o6) (M := M) lk.1 (hi x hx) h (fun r z => by have := lk.2 r z; omega) _ rfl
      refine ⟨_, _, _, _, g_nm _ _ _ _, b, some (nI x), some (nI (es.getD x (0, 0)).1), some (nI (es.getD x (0, 0)).2), rfl, ?_⟩
      rw [linksA_snoc])
  obtain ⟨S', M', hl, o4, o5, o6, rfl, rfl⟩ := lp
  refine run_rt ?_
  show g_links_of [some (nI n), some (.lst (es.map encE)), some (.lst (fs.map nI)), none, none, none, none, none] M = _
  unfold g_links_of
  have lc := lc_ok (vs := [7]) (ir1_ok (f := eAc (eVar 0) eA0) (S := [some (nI n), some (.lst (es.map encE)), some (.lst (fs.map nI)), none, none, none, none, none]) (M := M) (ac_ok (v_ok rfl) a0_ok) (by omega)) (sl_le (by rw [List.length_map, List.length_range]; omega)) hc
  refine Eq.trans (seq_nx (asg_nm (M1 := M ++ (List.replicate n []).map rowC) (d := refsD M.length n) (by rw [bnd_ok lc]; rfl))) ?_
  refine Eq.trans (seq_nx (Eq.trans (sfor_ok (iseq_nd (v_ok rfl) rfl)) hl)) ?_
  exact ret_ok (v_ok rfl)
theorem links_fz {n : Nat} {L : Rows} (M : Store) (hL : L.length = n) : fz (M ++ L.map rowC) M.length 9 (refsD M.length n) = some (.lst (L.map rowD)) := by
  have e : L.map rowD = (List.range n).map fun i => rowD (L.getD i []) := by
    apply List.ext_getElem?
    intro i
    rw [List.getElem?_map, List.getElem?_map]
    by_cases q : i < n
    · rw [List.getElem?_range q, Option.map_some, List.getD_eq_getElem?_getD, List.getElem?_eq_getElem (by omega)]
      rfl
    · rw [List.getElem?_eq_none (by omega), List.getElem?_eq_none (by rw [List.length_range]; omega)]
      rfl
  rw [e]
  refine fz_nd (fzs_map _ _ _ fun i hi => ?_)
  have hi : i < L.length := by rw [List.mem_range] at hi; omega
  refine fz_ref (by omega) (t := .lst) (l := (L.getD i []).map encL) ?_ (fzs_map _ _ _ fun x _ => fz_id _ _ _ _ ?_)
  · rw [get_app, List.getElem?_map, List.getD_eq_getElem?_getD, List.getElem?_eq_getElem hi]
    rfl
  · simp [encL, rlt, rlts]
end Lw

set_option Elab.async false
set_option linter.all false
set_option maxRecDepth 100000
set_option maxHeartbeats 400000
/-! MF: a Web made. -/
namespace DL
open PySem L2
theorem putD_new {f : Str} {d : D} : ∀ {ns : List Str} {l : List D}, f ∉ ns → ns.length = l.length → putD f d ns l = (ns ++ [f], l ++ [d])
  | [], [], _, _ => rfl
  | n :: ns, y :: l, h, hl => by
    have h1 : ¬ n = f := fun z => h (by simp [z])
    have ih := putD_new (f := f) (d := d) (ns := ns) (l := l) (fun z => h (by simp [z])) (by simpa using hl)
    unfold putD
    rw [if_neg h1, ih]
    rfl
  | [], _ :: _, _, hl => by simp at hl
  | _ :: _, [], _, hl => by simp at hl
theorem fld_st {cn f : Str} {fo fv : Lo → Ev D} {S : Lo} {M : Store} {ns : List Str} {l : List D} {d : D} (hv : fv S (M ++ [(.obj cn ns, l)]) = .ok d (M ++ [(.obj cn ns, l)])) (ho : fo S (M ++ [(.obj cn ns, l)]) = .ok (.ref M.length) (M ++ [(.obj cn ns, l)])) (hn : f ∉ ns) (hl : ns.length = l.length) (h1 : ns.length < 1000) :
    sFldD cn f fo fv S (M ++ [(.obj cn ns, l)]) = .ok (.nx S) (M ++ [(.obj cn (ns ++ [f]), l ++ [d])]) := by
  have e : stE cn f d (.ref M.length) (M ++ [(.obj cn ns, l)]) = .ok () (M ++ [(.obj cn (ns ++ [f]), l ++ [d])]) := by
    unfold stE
    simp only [get_last, putD_new hn hl]
    rw [if_pos ⟨trivial, h1⟩, set_last]
  unfold sFldD
  simp only [Ev.fl, hv, ho]
  rw [bnd_ok e]
  rfl
theorem fld_ref {cn f : Str} {n : Nat} {ns : List Str} {l : List D} {d : D} {M : Store} (hm : M[n]? = some (.obj cn ns, l)) (h : (ns.zip l).lookup f = some d) : fldE cn f (.ref n) M = .ok d M := by
  simp only [fldE, vw, Ev.bnd, hm, Out.bnd, h, if_true, Ev.ret]
theorem fld_nd {cn f : Str} {ns : List Str} {l : List D} {d : D} (h : (ns.zip l).lookup f = some d) : fldE cn f (.nd (.obj cn ns) l) = Ev.ret d := by
  funext M
  simp only [fldE, vw, Ev.bnd, Ev.ret, Out.bnd, h, if_true]
theorem e1_ok {op : D → Ev D} {f : Lo → Ev D} {S : Lo} {M M1 : Store} {x : D} {o : Out D} (h : f S M = .ok x M1) (ho : op x M1 = o) : e1 op f S M = o := by
  unfold e1
  rw [bnd_ok h, ho]
theorem if_no {c : Lo → Ev Bool} {f : Lo → Ev Fl} {S : Lo} {M : Store} (h : c S M = .ok false M) : sIf c f sNext S M = .ok (.nx S) M := by rw [if_f h]; rfl
theorem fz_last {M : Store} {t : Tg} {l : List D} (hl : rlts M.length l = true) : fz (M ++ [(t, l)]) M.length 9 (.ref M.length) = some (.nd t l) := fz_ref (Nat.le_refl _) get_last (fzs_id _ _ _ _ hl)
end DL
namespace Lw
open PySem L2 DL
theorem fstep_mem (s : List Nat × List Nat) (x : (Nat × Nat) × Nat) : ∀ i ∈ (fstep s x).2, i ∈ s.2 ∨ i = x.2 := by
  intro i hi
  unfold fstep at hi
  split at hi
  · exact .inl hi
  · simpa using hi
theorem forestM_lt (n : Nat) (es : List (Nat × Nat)) : ∀ i ∈ forestM n es, i < es.length := by
  have gen : ∀ (xs : List ((Nat × Nat) × Nat)) (s : List Nat × List Nat) (b : Nat), (∀ i ∈ s.2, i < b) → (∀ x ∈ xs, x.2 < b) → ∀ i ∈ (xs.foldl fstep s).2, i < b := by
    intro xs
    induction xs with
    | nil => intro s b h _; exact h
    | cons x xs ih =>
      intro s b h hx
      refine ih (fstep s x) b (fun i hi => ?_) (fun y hy => hx y (by simp [hy]))
      rcases fstep_mem s x i hi with z | z
      · exact h i z
      · rw [z]; exact hx x (by simp)
  refine gen es.zipIdx (List.range n, []) es.length (by simp) (fun x hx => ?_)
  have := List.snd_lt_of_mem_zipIdx hx
  omega
theorem forestM_len (n : Nat) (es : List (Nat × Nat)) : (forestM n es).length ≤ es.length := by
  have := (fAll_len n es.zipIdx).2
  rw [List.length_zipIdx] at this
  exact this
theorem rl_map {α : Type} (n : Nat) (f : α → D) (h : ∀ x, rlt n (f x) = true) : ∀ xs : List α, rlts n (xs.map f) = true
  | [] => by simp [rlts]
  | x :: xs => by rw [List.map_cons, rlts, h x, rl_map n f h xs]; rfl
theorem rl_nI (n k : Nat) : rlt n (nI k) = true := by simp [rlt]
theorem rl_encE (n : Nat) (e : Nat × Nat) : rlt n (encE e) = true := by simp [encE, rlt, rlts]
theorem rl_encL (n : Nat) (e : Nat × Int × Nat) : rlt n (encL e) = true := by simp [encL, rlt, rlts]
theorem rl_rowD (n : Nat) (r : List (Nat × Int × Nat)) : rlt n (rowD r) = true := by
  unfold rowD
  rw [rlt]
  exact rl_map n encL (rl_encL n) r
abbrev linksM (n : Nat) (es : List (Nat × Nat)) : Rows := linksA n es (forestM n es)
abbrev webN : List Str := ["own_size", "own_edges", "own_modulus", "own_forest", "links"]
def webL (n m : Nat) (es : List (Nat × Nat)) : List D := [nI n, .lst (es.map encE), nI m, .lst ((forestM n es).map nI), .lst ((linksM n es).map rowD)]
def webD (n m : Nat) (es : List (Nat × Nat)) : D := .nd (.obj "Web" webN) (webL n m es)
theorem webL_rl (k n m : Nat) (es : List (Nat × Nat)) : rlts k (webL n m es) = true := by
  unfold webL
  simp only [rlts, rlt, rl_map k encE (rl_encE k), rl_map k nI (rl_nI k), rl_map k rowD (rl_rowD k), Bool.and_self]
theorem init_ok {n m : Nat} {es : List (Nat × Nat)} (M : Store) (h1 : 1 ≤ n) (hn : n ≤ 30) (hm : m ≤ 60) (hm1 : m ≠ 1) (hl : es.length ≤ 60) (h : ∀ e ∈ es, e.1 < n ∧ e.2 < n) :
    F_Web___init__ [.ref M.length, nI n, .lst (es.map encE), nI m] (M ++ [(.obj "Web" [], [])]) = .ok .non (M ++ [(.obj "Web" webN, webL n m es)]) := by
  have fo : ∀ Mx : Store, eFz (eCall (callD 2 F_forest_of) (eAc (eVar 1) (eAc (eVar 2) eA0))) [some (.ref M.length), some (nI n), some (.lst (es.map encE)), some (nI m)] Mx = .ok (.lst ((forestM n es).map nI)) Mx := fun Mx =>
    fcall_app (ac_ok (v_ok rfl) (ac_ok (v_ok rfl) a0_ok)) rfl (forest_ok Mx (by omega) (by omega) h) (fz_last (rl_map _ nI (rl_nI _) _))
  have li : ∀ Mx : Store, Mx[M.length]? = some (.obj "Web" ["own_size", "own_edges", "own_modulus", "own_forest"], [nI n, .lst (es.map encE), nI m, .lst ((forestM n es).map nI)]) →
      eFz (eCall (callD 3 F_links_of) (eAc (eVar 1) (eAc (eVar 2) (eAc (e1 (fldE ("Web" : Str) ("own_forest" : Str)) (eVar 0)) eA0)))) [some (.ref M.length), some (nI n), some (.lst (es.map encE)), some (nI m)] Mx = .ok (.lst ((linksM n es).map rowD)) Mx := fun Mx hx =>
    fcall_app (ac_ok (v_ok rfl) (ac_ok (v_ok rfl) (ac_ok (e1_ok (v_ok rfl) (fld_ref hx rfl)) a0_ok))) rfl (links_made Mx (by omega) (by have := forestM_len n es; omega) (forestM_lt n es) h) (links_fz Mx (linksA_ok n es _).1)
  have ls : ∀ Mx : Store, eF (nCall (op1 listN) (eAc (eVar 2) eA0)) [some (.ref M.length), some (nI n), some (.lst (es.map encE)), some (nI m)] Mx = .ok (.lst (es.map encE)) Mx := fun Mx => by
    refine fl_ok ?_
    unfold nCall
    rw [bnd_ok (ac_ok (v_ok rfl) a0_ok)]
    rfl
  refine run_nx (S := [some (.ref M.length), some (nI n), some (.lst (es.map encE)), some (nI m)]) ?_
  have st : ∀ a b c d : D, startD 4 [a, b, c, d] = [some a, some b, some c, some d] := fun _ _ _ _ => rfl
  rw [st]
  unfold g_Web___init__
  refine Eq.trans (seq_nx (if_no (not_ok (tru_ok (fcall_same (ac_ok (v_ok rfl) (ac_ok (c_ok _ _ _) (ac_ok (c_ok _ _ _) a0_ok))) rfl (is_within_ok _ (by omega) (by omega)) rfl))))) ?_
  refine Eq.trans (seq_nx (exp_ok (fcall_same (ac_ok (v_ok rfl) (ac_ok (v_ok rfl) a0_ok)) rfl (check_edges_ok _ hl h) rfl))) ?_
  refine Eq.trans (seq_nx (if_no (not_ok (tru_ok (fcall_same (ac_ok (v_ok rfl) a0_ok) rfl (is_modulus_ok _ hm hm1) rfl))))) ?_
  have f1 := fld_st (cn := "Web") (f := "own_size") (fo := eVar 0) (fv := eVar 1) (S := [some (.ref M.length), some (nI n), some (.lst (es.map encE)), some (nI m)]) (M := M) (ns := []) (l := []) (d := nI n) (v_ok rfl) (v_ok rfl) (by decide +kernel) rfl (by decide)
  have f2 := fld_st (cn := "Web") (f := "own_edges") (fo := eVar 0) (fv := eF (nCall (op1 listN) (eAc (eVar 2) eA0))) (S := [some (.ref M.length), some (nI n), some (.lst (es.map encE)), some (nI m)]) (M := M) (ns := ["own_size"]) (l := [nI n]) (d := .lst (es.map encE)) (ls _) (v_ok rfl) (by decide +kernel) rfl (by show 1 < 1000; decide)
  have f3 := fld_st (cn := "Web") (f := "own_modulus") (fo := eVar 0) (fv := eVar 3) (S := [some (.ref M.length), some (nI n), some (.lst (es.map encE)), some (nI m)]) (M := M) (ns := ["own_size", "own_edges"]) (l := [nI n, .lst (es.map encE)]) (d := nI m) (v_ok rfl) (v_ok rfl) (by decide +kernel) rfl (by show 2 < 1000; decide)
  have f4 := fld_st (cn := "Web") (f := "own_forest") (fo := eVar 0) (S := [some (.ref M.length), some (nI n), some (.lst (es.map encE)), some (nI m)]) (M := M) (ns := ["own_size", "own_edges", "own_modulus"]) (l := [nI n, .lst (es.map encE), nI m]) (fo _) (v_ok rfl) (by decide +kernel) rfl (by show 3 < 1000; decide)
  have f5 := fld_st (cn := "Web") (f := "links") (fo := eVar 0) (S := [some (.ref M.length), some (nI n), some (.lst (es.map encE)), some (nI m)]) (M := M) (ns := ["own_size", "own_edges", "own_modulus", "own_forest"]) (l := [nI n, .lst (es.map encE), nI m, .lst ((forestM n es).map nI)]) (li _ get_last) (v_ok rfl) (by decide +kernel) rfl (by show 4 < 1000; decide)
  exact Eq.trans (seq_nx f1) (Eq.trans (seq_nx f2) (Eq.trans (seq_nx f3) (Eq.trans (seq_nx f4) f5)))
theorem make_ok {n m : Nat} {es : List (Nat × Nat)} (M : Store) (h1 : 1 ≤ n) (hn : n ≤ 30) (hm : m ≤ 60) (hm1 : m ≠ 1) (hl : es.length ≤ 60) (h : ∀ e ∈ es, e.1 < n ∧ e.2 < n) :
    makeD "Web" F_Web___init__ (fun d => d :: ([nI n, .lst (es.map encE)] ++ [nI m])) M = .ok (.ref M.length) (M ++ [(.obj "Web" webN, webL n m es)]) := by
  unfold makeD
  have := init_ok M h1 hn hm hm1 hl h
  simp only [List.cons_append, List.nil_append]
  rw [this]
end Lw

set_option Elab.async false
set_option linter.all false
set_option maxRecDepth 100000
set_option maxHeartbeats 400000
/-! MG: walk_paths. -/
namespace DL
open PySem L2
theorem nodup_lt : ∀ (n : Nat) (l : List Nat), l.Nodup → (∀ x ∈ l, x < n) → l.length ≤ n
  | 0, l, _, h => by
    cases l with
    | nil => exact Nat.le_refl _
    | cons x l => exact absurd (h x (by simp)) (by omega)
  | n + 1, l, nd, h => by
    by_cases q : n ∈ l
    · have a := nodup_lt n (l.erase n) (nd.erase n) (fun x hx => by
        have := (nd.mem_erase_iff).mp hx
        have := h x this.2
        omega)
      rw [List.length_erase_of_mem q] at a
      omega
    · have a := nodup_lt n l nd (fun x hx => by
        have h1 := h x hx
        have : x ≠ n := fun z => q (z ▸ hx)
        omega)
      omega
abbrev Path := List (Nat × Int)
abbrev Paths := List (Nat × Path)
def encS (x : Nat × Int) : D := .tup [nI x.1, .int x.2]
def pathD (p : Path) : D := .lst (p.map encS)
def pKD (p : Nat × Path) : Key × D := (.inl (p.1 : Int), pathD p.2)
def pcell (P : Paths) : Tg × List D := (.dct (P.map fun p => .inl (p.1 : Int)), P.map fun p => pathD p.2)
def hasK (P : Paths) (k : Nat) : Bool := P.any fun p => decide (p.1 = k)
def pathOf (P : Paths) (k : Nat) : Path := ((P.find? fun p => decide (p.1 = k)).map (·.2)).getD []
theorem zipP : ∀ P : Paths, ((P.map fun p => (Sum.inl (p.1 : Int) : Key)).zip (P.map fun p => pathD p.2)) = P.map pKD
  | [] => rfl
  | p :: P => by rw [List.map_cons, List.map_cons, List.zip_cons_cons, zipP P]; rfl
theorem kdec (a b : Nat) : decide ((Sum.inl (a : Int) : Key) = Sum.inl (b : Int)) = decide (a = b) := by
  rw [decide_eq_decide, Sum.inl.injEq]; omega
theorem vdP (k : Nat) : ∀ P : Paths, vd (P.map pKD) (.inl (k : Int)) = (P.find? fun p => decide (p.1 = k)).map fun p => pathD p.2
  | [] => rfl
  | p :: P => by
    have ih := vdP k P
    unfold vd at ih ⊢
    rw [List.map_cons, List.find?_cons, List.find?_cons]
    have : decide ((pKD p).1 = Sum.inl (k : Int)) = decide (p.1 = k) := kdec p.1 k
    rw [this]
    cases decide (p.1 = k) with
    | true => rfl
    | false => exact ih
theorem hasK_find (P : Paths) (k : Nat) : (P.find? fun p => decide (p.1 = k)).isSome = hasK P k := by
  unfold hasK
  induction P with
  | nil => rfl
  | cons p P ih =>
    rw [List.find?_cons, List.any_cons]
    cases decide (p.1 = k) with
    | true => rfl
    | false => simpa using ih
theorem toK_nI (k : Nat) : toK (nI k) = some (.inl (k : Int)) := rfl
theorem in_ref {M : Store} {q : Nat} {P : Paths} {k : Nat} {neg : Bool} (h : M[q]? = some (pcell P)) : inK neg (nI k) (.ref q) M = .ok (.bl (neg ^^ hasK P k)) M := by
  unfold inK
  have : vw (.ref q) M = .ok (pcell P) M := by simp only [vw, h]
  rw [bnd_ok this]
  simp only [pcell, toK_nI, zipP, vdP, Option.isSome_map, hasK_find, Ev.ret]
theorem get_ref {M : Store} {q : Nat} {P : Paths} {k : Nat} (h : M[q]? = some (pcell P)) (hk : hasK P k = true) : getK (.ref q) (nI k) M = .ok (pathD (pathOf P k)) M := by
  unfold getK
  have : vw (.ref q) M = .ok (pcell P) M := by simp only [vw, h]
  rw [bnd_ok this]
  rw [← hasK_find] at hk
  unfold pathOf
  simp only [pcell, toK_nI, zipP, vdP]
  cases e : P.find? fun p => decide (p.1 = k) with
  | none => rw [e] at hk; cases hk
  | some p => rfl
theorem pk_new (P : Paths) (k : Nat) (p : Path) (hk : hasK P k = false) : pk (P.map pKD) (.inl (k : Int)) (pathD p) = (P ++ [(k, p)]).map pKD := by
  unfold pk
  have : ((P.map pKD).any fun p => decide (p.1 = Sum.inl (k : Int))) = hasK P k := by
    unfold hasK
    rw [List.any_map]
    congr 1
    funext p
    exact kdec p.1 k
  rw [this, hk, if_neg (by decide), List.map_append]
  rfl
theorem put_ref {M : Store} {q : Nat} {P : Paths} {k : Nat} {p : Path} (h : M[q]? = some (pcell P)) (hk : hasK P k = false) (hl : P.length < 1000) : putE (pathD p) (.ref q) (nI k) M = .ok () (M.set q (pcell (P ++ [(k, p)]))) := by
  unfold putE
  simp only [toK_nI, h, pcell, zipP, pk_new P k p hk]
  rw [if_pos ⟨by rw [List.length_map]; exact lt_sl hl, by rw [List.length_map, List.length_map]⟩]
  simp only [List.map_map]
  rfl
theorem dput_ok {fo fi fv : Lo → Ev D} {S : Lo} {M M2 : Store} {d x y : D} (hv : fv S M = .ok d M) (ho : fo S M = .ok x M) (hi : fi S M = .ok y M) (hp : putE d x y M = .ok () M2) : sDPutD fo fi fv S M = .ok (.nx S) M2 := by
  unfold sDPutD
  simp only [Ev.fl, hv, ho, hi]
  rw [bnd_ok hp]
  rfl
theorem add_lst {fa fb : Lo → Ev D} {S : Lo} {M M1 M2 : Store} {x y : List D} (ha : fa S M = .ok (.lst x) M1) (hb : fb S M1 = .ok (.lst y) M2) (hl : x.length + y.length ≤ 1000) : eF (n2 addN fa fb) S M = .ok (.lst (x ++ y)) M2 := by
  have h : n2 addN fa fb S M = .ok (.n .lst (x ++ y)) M2 := by
    unfold n2
    rw [bnd_ok ha, bnd_ok hb]
    simp only [addN, vw, Ev.bnd, Ev.ret, Out.bnd]
    rw [if_pos (sl_le hl)]
    rfl
  exact fl_ok h
end DL
namespace Lw
open PySem L2 DL
def wstep (node : Nat) (s : Paths × List Nat) (x : Nat × Int × Nat) : Paths × List Nat :=
  if hasK s.1 x.2.2 = true then s else (s.1 ++ [(x.2.2, pathOf s.1 node ++ [(x.1, x.2.1)])], s.2 ++ [x.2.2])
def wnode (L : Rows) (s : Paths × List Nat) (node : Nat) : Paths × List Nat := (L.getD node []).foldl (wstep node) s
def wlevel (L : Rows) (P : Paths) (level : List Nat) : Paths × List Nat := level.foldl (wnode L) (P, [])
def wrun (L : Rows) : Nat → Paths → List Nat → Option Paths
  | 0, _, _ => none
  | k + 1, P, level => if level = [] then some P else wrun L k (wlevel L P level).1 (wlevel L P level).2
structure Kp (n : Nat) (P : Paths) : Prop where
  nd : (P.map (·.1)).Nodup
  lt : ∀ k ∈ P.map (·.1), k < n
  pl : ∀ p ∈ P, p.2.length < P.length
theorem Kp.len {n : Nat} {P : Paths} (h : Kp n P) : P.length ≤ n := by
  have := nodup_lt n _ h.nd h.lt
  rwa [List.length_map] at this
theorem hasK_iff {P : Paths} {k : Nat} : hasK P k = true ↔ k ∈ P.map (·.1) := by
  unfold hasK
  rw [List.any_eq_true, List.mem_map]
  constructor
  · rintro ⟨p, h1, h2⟩; exact ⟨p, h1, of_decide_eq_true h2⟩
  · rintro ⟨p, h1, h2⟩; exact ⟨p, h1, decide_eq_true h2⟩
theorem pathOf_mem {P : Paths} {k : Nat} (h : hasK P k = true) : ∃ p ∈ P, p.1 = k ∧ p.2 = pathOf P k := by
  rw [← hasK_find] at h
  unfold pathOf
  cases e : P.find? fun p => decide (p.1 = k) with
  | none => rw [e] at h; cases h
  | some p => exact ⟨p, List.mem_of_find?_eq_some e, (by have := List.find?_some e; exact of_decide_eq_true this), rfl⟩
theorem Kp.add {n : Nat} {P : Paths} {node k i : Nat} {w : Int} (h : Kp n P) (hn : hasK P node = true) (hk : hasK P k = false) (hl : k < n) : Kp n (P ++ [(k, pathOf P node ++ [(i, w)])]) := by
  have hk' : k ∉ P.map (·.1) := fun z => by rw [hasK_iff.mpr z] at hk; cases hk
  obtain ⟨p0, h0, _, e0⟩ := pathOf_mem hn
  have l0 := h.pl p0 h0
  refine ⟨?_, ?_, ?_⟩
  · rw [List.map_append, List.nodup_append]
    exact ⟨h.nd, by simp, fun a ha b hb => by simp at hb; subst hb; exact fun z => hk' (z ▸ ha)⟩
  · intro x hx
    rw [List.map_append, List.mem_append] at hx
    rcases hx with z | z
    · exact h.lt x z
    · simp at z; omega
  · intro p hp
    rw [List.length_append, List.length_singleton]
    rw [List.mem_append] at hp
    rcases hp with z | z
    · have := h.pl p z; omega
    · simp at z
      subst z
      show (pathOf P node ++ [(i, w)]).length < _
      rw [List.length_append, List.length_singleton, ← e0]
      omega
def stW (M : Store) (P : Paths) (Z : Store) (lt : List Nat) : Store := M ++ (pcell P :: (Z ++ [(Tg.lst, lt.map nI)]))
theorem stW_p (M : Store) (P : Paths) (Z : Store) (lt : List Nat) : (stW M P Z lt)[M.length]? = some (pcell P) := by
  unfold stW
  have := get_app (M := M) (X := pcell P :: (Z ++ [(Tg.lst, lt.map nI)])) (k := 0)
  simpa using this
theorem stW_l (M : Store) (P : Paths) (Z : Store) (lt : List Nat) : (stW M P Z lt)[M.length + (Z.length + 1)]? = some (Tg.lst, lt.map nI) := by
  unfold stW
  rw [get_app]
  simp
theorem stW_z (M : Store) (P : Paths) (Z : Store) (lt : List Nat) (j : Nat) (hj : j < Z.length) : (stW M P Z lt)[M.length + (j + 1)]? = Z[j]? := by
  unfold stW
  rw [get_app, List.getElem?_cons_succ, List.getElem?_append_left hj]
theorem stW_setp (M : Store) (P P' : Paths) (Z : Store) (lt : List Nat) : (stW M P Z lt).set M.length (pcell P') = stW M P' Z lt := by
  unfold stW
  have := set_app' (M := M) (X := pcell P :: (Z ++ [(Tg.lst, lt.map nI)])) (k := 0) (c := pcell P')
  simpa using this
theorem stW_setl (M : Store) (P : Paths) (Z : Store) (lt lt' : List Nat) : (stW M P Z lt).set (M.length + (Z.length + 1)) (Tg.lst, lt'.map nI) = stW M P Z lt' := by
  unfold stW
  rw [set_app']
  simp
abbrev wS (M Z : Store) (lk lv : D) (st : Nat) (o5 o6 o7 o8 : Option D) : Lo := [some lk, some (nI st), some (.ref M.length), some lv, some (.ref (M.length + (Z.length + 1))), o5, o6, o7, o8]
theorem w_if {M Z : Store} {P : Paths} {lt : List Nat} {lk lv : D} {st node i o n : Nat} {w : Int} (hk : Kp n P) (hn : n ≤ 100) (hl : lt.length < 900) (hnd : hasK P node = true) :
    sIf (eB (e2 (inK true) (eVar 8) (eVar 2))) (sSeq (sDPutD (eVar 2) (eVar 8) (eF (n2 addN (e2 getK (eVar 2) (eVar 5)) (eF (nNew .lst (eAc (eF (nNew .tup (eAc (eVar 6) (eAc (eVar 7) eA0)))) eA0)))))) (sExp (eBm (cellM opAppend) (eVar 4) (eAc (eVar 8) eA0)))) sNext
      (wS M Z lk lv st (some (nI node)) (some (nI i)) (some (.int w)) (some (nI o))) (stW M P Z lt) = .ok (.nx (wS M Z lk lv st (some (nI node)) (some (nI i)) (some (.int w)) (some (nI o)))) (stW M (wstep node (P, lt) (i, w, o)).1 Z (wstep node (P, lt) (i, w, o)).2) := by
  have e2x : ∀ {op : D → D → Ev D} {fa fb : Lo → Ev D} {S : Lo} {M : Store} {x y : D} {r : Out D}, fa S M = .ok x M → fb S M = .ok y M → op x y M = r → e2 op fa fb S M = r := fun ha hb ho => by
    unfold e2
    rw [bnd_ok ha, bnd_ok hb, ho]
  have t := b_ok (e2x (op := inK true) (fa := eVar 8) (fb := eVar 2) (S := wS M Z lk lv st (some (nI node)) (some (nI i)) (some (.int w)) (some (nI o))) (M := stW M P Z lt) (v_ok rfl) (v_ok rfl) (in_ref (k := o) (stW_p M P Z lt)))
  refine Eq.trans (if_ok t) ?_
  by_cases q : hasK P o = true
  · have e0 : wstep node (P, lt) (i, w, o) = (P, lt) := by unfold wstep; rw [if_pos q]
    rw [q, if_neg (by decide), e0]
    rfl
  · have e0 : wstep node (P, lt) (i, w, o) = (P ++ [(o, pathOf P node ++ [(i, w)])], lt ++ [o]) := by unfold wstep; rw [if_neg q]
    have q : hasK P o = false := by simpa using q
    rw [q, if_pos (by decide), e0]
    obtain ⟨p0, h0, _, ep⟩ := pathOf_mem hnd
    have l0 := hk.pl p0 h0
    have ln := hk.len
    have ad := add_lst (fa := e2 getK (eVar 2) (eVar 5)) (fb := eF (nNew .lst (eAc (eF (nNew .tup (eAc (eVar 6) (eAc (eVar 7) eA0)))) eA0))) (S := wS M Z lk lv st (some (nI node)) (some (nI i)) (some (.int w)) (some (nI o))) (M := stW M P Z lt) (M1 := stW M P Z lt) (M2 := stW M P Z lt) (x := (pathOf P node).map encS) (y := [encS (i, w)])
      (e2x (v_ok rfl) (v_ok rfl) (get_ref (stW_p M P Z lt) hnd)) (fl_ok (new_ok (ac_ok (tup_ok (ac_ok (v_ok rfl) (ac_ok (v_ok rfl) a0_ok)) (by simp)) a0_ok) (by simp))) (by rw [List.length_map, ← ep]; simp; omega)
    have pu := put_ref (M := stW M P Z lt) (k := o) (p := pathOf P node ++ [(i, w)]) (stW_p M P Z lt) q (by omega)
    rw [stW_setp] at pu
    have ad' : eF (n2 addN (e2 getK (eVar 2) (eVar 5)) (eF (nNew .lst (eAc (eF (nNew .tup (eAc (eVar 6) (eAc (eVar 7) eA0)))) eA0)))) (wS M Z lk lv st (some (nI node)) (some (nI i)) (some (.int w)) (some (nI o))) (stW M P Z lt) = .ok (pathD (pathOf P node ++ [(i, w)])) (stW M P Z lt) := by
      rw [ad]
      unfold pathD
      rw [List.map_append]
      rfl
    refine Eq.trans (seq_nx (dput_ok ad' (v_ok rfl) (v_ok rfl) pu)) ?_
    have ap := append_ok (fo := eVar 4) (fa := eAc (eVar 8) eA0) (S := wS M Z lk lv st (some (nI node)) (some (nI i)) (some (.int w)) (some (nI o))) (M := stW M (P ++ [(o, pathOf P node ++ [(i, w)])]) Z lt) (v_ok rfl) (stW_l _ _ _ _) (ac_ok (v_ok rfl) a0_ok) (stW_l _ _ _ _) (by rw [List.length_map]; omega)
    have e9 : lt.map nI ++ [nI o] = (lt ++ [o]).map nI := by simp
    rw [e9, stW_setl] at ap
    exact exp_ok ap
theorem wstep_kp {n node : Nat} {s : Paths × List Nat} {x : Nat × Int × Nat} (h : Kp n s.1) (hn : hasK s.1 node = true) (hl : s.2.length ≤ s.1.length) (hx : x.2.2 < n) : Kp n (wstep node s x).1 ∧ (wstep node s x).2.length ≤ (wstep node s x).1.length ∧ (∀ k, hasK s.1 k = true → hasK (wstep node s x).1 k = true) ∧ (∀ k ∈ (wstep node s x).2, k ∈ s.2 ∨ hasK (wstep node s x).1 k = true) := by
  unfold wstep
  by_cases q : hasK s.1 x.2.2 = true
  · rw [if_pos q]
    exact ⟨h, hl, fun _ z => z, fun _ z => .inl z⟩
  · rw [if_neg q]
    refine ⟨h.add hn (by simpa using q) hx, by simp; exact hl, fun k hk => ?_, fun k hk => ?_⟩
    · rw [hasK_iff] at hk ⊢
      rw [List.map_append, List.mem_append]
      exact .inl hk
    · rw [List.mem_append] at hk
      rcases hk with z | z
      · exact .inl z
      · right
        simp at z
        subst z
        rw [hasK_iff]
        simp
def RowsOk (n : Nat) (L : Rows) : Prop := L.length = n ∧ ∀ r ∈ L, ∀ x ∈ r, x.2.2 < n
theorem RowsOk.row {n : Nat} {L : Rows} (h : RowsOk n L) (k : Nat) : ∀ x ∈ L.getD k [], x.2.2 < n := by
  intro x hx
  rw [List.getD_eq_getElem?_getD] at hx
  cases q : L[k]? with
  | none => rw [q] at hx; simp at hx
  | some r => rw [q] at hx; exact h.2 r (List.mem_of_getElem? q) x hx
noncomputable abbrev wInner : Lo → Ev Fl := sFor (iSeq (e2 ixE (eVar 0) (eVar 5))) (gTp 3 (gCn (gNm 6) (gCn (gNm 7) (gCn (gNm 8) gNl)))) (sIf (eB (e2 (inK true) (eVar 8) (eVar 2))) (sSeq (sDPutD (eVar 2) (eVar 8) (eF (n2 addN (e2 getK (eVar 2) (eVar 5)) (eF (nNew .lst (eAc (eF (nNew .tup (eAc (eVar 6) (eAc (eVar 7) eA0)))) eA0)))))) (sExp (eBm (cellM opAppend) (eVar 4) (eAc (eVar 8) eA0)))) sNext)
/-- what holds of the paths while they grow -/
structure Gr (n : Nat) (P0 : Paths) (s : Paths × List Nat) : Prop where
  kp : Kp n s.1
  le : s.2.length ≤ s.1.length
  up : ∀ k, hasK P0 k = true → hasK s.1 k = true
  lt : ∀ k ∈ s.2, hasK s.1 k = true
theorem w_row {M Z : Store} {P0 : Paths} {L : Rows} {lv : D} {st node n : Nat} {o6 o7 o8 : Option D} {s : Paths × List Nat} (hL : RowsOk n L) (hn : n ≤ 100) (hnn : node < n) (g : Gr n P0 s) (hnd : hasK P0 node = true) :
    ∃ o6' o7' o8', wInner (wS M Z (.lst (L.map rowD)) lv st (some (nI node)) o6 o7 o8) (stW M s.1 Z s.2) = .ok (.nx (wS M Z (.lst (L.map rowD)) lv st (some (nI node)) o6' o7' o8')) (stW M (wnode L s node).1 Z (wnode L s node).2) ∧ Gr n P0 (wnode L s node) := by
  have lp := for_fold (enc := encL) (g := none) (tg := gTp 3 (gCn (gNm 6) (gCn (gNm 7) (gCn (gNm 8) gNl)))) (body := sIf (eB (e2 (inK true) (eVar 8) (eVar 2))) (sSeq (sDPutD (eVar 2) (eVar 8) (eF (n2 addN (e2 getK (eVar 2) (eVar 5)) (eF (nNew .lst (eAc (eF (nNew .tup (eAc (eVar 6) (eAc (eVar 7) eA0)))) eA0)))))) (sExp (eBm (cellM opAppend) (eVar 4) (eAc (eVar 8) eA0)))) sNext)
    (fun (s : Paths × List Nat) S M' => ∃ o6 o7 o8, S = wS M Z (.lst (L.map rowD)) lv st (some (nI node)) o6 o7 o8 ∧ M' = stW M s.1 Z s.2 ∧ Gr n P0 s) (wstep node) (L.getD node []) (b := s) (S := wS M Z (.lst (L.map rowD)) lv st (some (nI node)) o6 o7 o8) (M := stW M s.1 Z s.2) ⟨o6, o7, o8, rfl, rfl, g⟩ (fun _ _ _ _ => grd_none _) (fun s x S M' hx j => by
      obtain ⟨o6, o7, o8, rfl, rfl, g⟩ := j
      have hx' := hL.row node x hx
      have ln := g.kp.len
      have hns := g.up node hnd
      obtain ⟨k1, k2, k3, k4⟩ := wstep_kp (x := x) g.kp hns g.le hx'
      refine ⟨_, _, _, _, gtp3 (g_nm _ _ _ _) (g_nm _ _ _ _) (g_nm _ _ _ _), w_if (n := n) g.kp hn (by have := g.le; omega) hns, some (nI x.1), some (.int x.2.1), some (nI x.2.2), rfl, rfl, k1, k2, fun k z => k3 k (g.up k z), fun k z => ?_⟩
      rcases k4 k z with y | y
      · exact k3 k (g.lt k y)
      · exact y)
  obtain ⟨S', M', hf, o6', o7', o8', rfl, rfl, g'⟩ := lp
  refine ⟨o6', o7', o8', ?_, g'⟩
  have hr : (L.map rowD)[node]? = some (rowD (L.getD node [])) := by
    rw [List.getElem?_map, List.getD_eq_getElem?_getD, List.getElem?_eq_getElem (by rw [hL.1]; exact hnn)]
    rfl
  exact Eq.trans (sfor_ok (iseq_nd (e2_ret (v_ok rfl) (v_ok rfl) (ix_ret rfl hr)) rfl)) hf
end Lw

set_option Elab.async false
set_option linter.all false
set_option maxRecDepth 100000
set_option maxHeartbeats 400000
/-! MH: walk_paths, the levels. -/
namespace Lw
open PySem L2 DL
def LvOk (M Z : Store) (lv : D) (ls : List Nat) : Prop := lv = .lst (ls.map nI) ∨ ∃ j, j < Z.length ∧ lv = .ref (M.length + (j + 1)) ∧ Z[j]? = some (.lst, ls.map nI)
theorem lv_iter {M Z : Store} {lv : D} {ls : List Nat} (h : LvOk M Z lv ls) {f : Lo → Ev D} {S : Lo} {P : Paths} {lt : List Nat} (hf : f S (stW M P Z lt) = .ok lv (stW M P Z lt)) : ∃ g, iSeq f S (stW M P Z lt) = .ok (ls.map nI, g) (stW M P Z lt) ∧ ∀ P' lt', grd g (stW M P' Z lt') := by
  rcases h with rfl | ⟨j, hj, rfl, hz⟩
  · exact ⟨none, iseq_nd hf rfl, fun _ _ => grd_none _⟩
  · refine ⟨some (M.length + (j + 1), (.lst, ls.map nI)), ?_, fun P' lt' => ?_⟩
    · have h1 : vw (.ref (M.length + (j + 1))) (stW M P Z lt) = .ok (.lst, ls.map nI) (stW M P Z lt) := by simp only [vw, stW_z _ _ _ _ _ hj, hz]
      unfold iSeq
      rw [bnd_ok hf]
      unfold itSq
      rw [bnd_ok h1]
      rfl
    · show (stW M P' Z lt')[M.length + (j + 1)]? = _
      rw [stW_z _ _ _ _ _ hj, hz]
theorem w_level {M Z : Store} {P : Paths} {L : Rows} {lv : D} {ls : List Nat} {st n : Nat} {o5 o6 o7 o8 : Option D} (hL : RowsOk n L) (hn : n ≤ 100) (hk : Kp n P) (hls : ∀ k ∈ ls, hasK P k = true) (hv : LvOk M Z lv ls) :
    ∃ o5' o6' o7' o8', sFor (iSeq (eVar 3)) (gNm 5) wInner (wS M Z (.lst (L.map rowD)) lv st o5 o6 o7 o8) (stW M P Z []) = .ok (.nx (wS M Z (.lst (L.map rowD)) lv st o5' o6' o7' o8')) (stW M (wlevel L P ls).1 Z (wlevel L P ls).2) ∧ Gr n P (wlevel L P ls) := by
  obtain ⟨g, hi, hg⟩ := lv_iter (lt := []) (P := P) (f := eVar 3) (S := wS M Z (.lst (L.map rowD)) lv st o5 o6 o7 o8) hv (v_ok rfl)
  have lp := for_fold (enc := nI) (g := g) (tg := gNm 5) (body := wInner)
    (fun (s : Paths × List Nat) S M' => ∃ o5 o6 o7 o8, S = wS M Z (.lst (L.map rowD)) lv st o5 o6 o7 o8 ∧ M' = stW M s.1 Z s.2 ∧ Gr n P s) (wnode L) ls (b := (P, [])) (S := wS M Z (.lst (L.map rowD)) lv st o5 o6 o7 o8) (M := stW M P Z []) ⟨o5, o6, o7, o8, rfl, rfl, hk, Nat.zero_le _, fun _ z => z, fun _ z => by simp at z⟩ (fun s S M' j => by
      obtain ⟨_, _, _, _, _, rfl, _⟩ := j
      exact hg _ _) (fun s x S M' hx j => by
      obtain ⟨o5, o6, o7, o8, rfl, rfl, g'⟩ := j
      have hxk := hls x hx
      have hxn : x < n := hk.lt x (hasK_iff.mp hxk)
      obtain ⟨o6', o7', o8', h1, h2⟩ := w_row (M := M) (Z := Z) (lv := lv) (st := st) (o6 := o6) (o7 := o7) (o8 := o8) hL hn hxn g' hxk
      exact ⟨_, _, _, _, g_nm _ _ _ _, h1, some (nI x), o6', o7', o8', rfl, rfl, h2⟩)
  obtain ⟨S', M', hf, o5', o6', o7', o8', rfl, rfl, g'⟩ := lp
  exact ⟨o5', o6', o7', o8', Eq.trans (sfor_ok hi) hf, g'⟩
def stL (M : Store) (P : Paths) (Z : Store) : Store := M ++ (pcell P :: Z)
theorem stL_len (M : Store) (P : Paths) (Z : Store) : (stL M P Z).length = M.length + (Z.length + 1) := by simp [stL]
theorem stL_app (M : Store) (P : Paths) (Z : Store) (lt : List Nat) : stL M P Z ++ [(Tg.lst, lt.map nI)] = stW M P Z lt := by simp [stL, stW]
theorem stL_snoc (M : Store) (P : Paths) (Z : Store) (lt : List Nat) : stW M P Z lt = stL M P (Z ++ [(Tg.lst, lt.map nI)]) := rfl
theorem stL_p (M : Store) (P : Paths) (Z : Store) : (stL M P Z)[M.length]? = some (pcell P) := by
  unfold stL
  have := get_app (M := M) (X := pcell P :: Z) (k := 0)
  simpa using this
theorem lv_tru {M Z : Store} {lv : D} {ls : List Nat} (h : LvOk M Z lv ls) {f : Lo → Ev D} {S : Lo} {P : Paths} (hf : f S (stL M P Z) = .ok lv (stL M P Z)) : eTru f S (stL M P Z) = .ok (!ls.isEmpty) (stL M P Z) := by
  unfold eTru
  rw [bnd_ok hf]
  rcases h with rfl | ⟨j, hj, rfl, hz⟩
  · simp only [truE, vw, Ev.bnd, Ev.ret, Out.bnd, List.isEmpty_map]
  · have : (stL M P Z)[M.length + (j + 1)]? = some (.lst, ls.map nI) := by
      unfold stL
      rw [get_app, List.getElem?_cons_succ, hz]
    simp only [truE, vw, Ev.bnd, Ev.ret, Out.bnd, this, List.isEmpty_map]
noncomputable abbrev wBody : Lo → Ev Fl := sSeq (sAsg (eCl (nNew .lst eA0)) (gNm 4)) (sSeq (sFor (iSeq (eVar 3)) (gNm 5) wInner) (sAsg (eVar 4) (gNm 3)))
theorem w_while {M : Store} {L : Rows} {st n : Nat} (hL : RowsOk n L) (hn : n ≤ 100) : ∀ (k : Nat) (P : Paths) (ls : List Nat) (Z : Store) (lv : D) (o4 o5 o6 o7 o8 : Option D) (P' : Paths), Kp n P → (∀ k ∈ ls, hasK P k = true) → LvOk M Z lv ls → wrun L k P ls = some P' →
    ∃ S' Z', whileL (eTru (eVar 3)) wBody k [some (.lst (L.map rowD)), some (nI st), some (.ref M.length), some lv, o4, o5, o6, o7, o8] (stL M P Z) = .ok (.nx S') (stL M P' Z') ∧ S'[2]? = some (some (.ref M.length))
  | 0, _, _, _, _, _, _, _, _, _, _, _, _, _, h => by cases h
  | k + 1, P, ls, Z, lv, o4, o5, o6, o7, o8, P', hk, hls, hv, h => by
    have t := lv_tru (P := P) (f := eVar 3) (S := [some (.lst (L.map rowD)), some (nI st), some (.ref M.length), some lv, o4, o5, o6, o7, o8]) hv (v_ok rfl)
    rw [whileL]
    unfold Ev.flB
    rw [t]
    unfold wrun at h
    by_cases q : ls = []
    · rw [if_pos q] at h
      cases h
      subst q
      exact ⟨_, Z, rfl, rfl⟩
    · rw [if_neg q] at h
      have q' : (!ls.isEmpty) = true := by cases ls with
        | nil => exact absurd rfl q
        | cons _ _ => rfl
      rw [q']
      have a1 := asg_nm (i := 4) (cl_ok (new_ok (t := .lst) (f := eA0) (S := [some (.lst (L.map rowD)), some (nI st), some (.ref M.length), some lv, o4, o5, o6, o7, o8]) (M := stL M P Z) a0_ok (by simp)))
      rw [stL_len] at a1
      have ea : stL M P Z ++ [(Tg.lst, ([] : List D))] = stW M P Z [] := stL_app M P Z []
      rw [ea] at a1
      obtain ⟨o5', o6', o7', o8', h2, g2⟩ := w_level (M := M) (Z := Z) (st := st) (o5 := o5) (o6 := o6) (o7 := o7) (o8 := o8) hL hn hk hls hv
      obtain ⟨S', Z', h3, h4⟩ := w_while hL hn k (wlevel L P ls).1 (wlevel L P ls).2 (Z ++ [(Tg.lst, (wlevel L P ls).2.map nI)]) (.ref (M.length + (Z.length + 1))) (some (.ref (M.length + (Z.length + 1)))) o5' o6' o7' o8' P' g2.kp g2.lt (.inr ⟨Z.length, by simp, rfl, by simp⟩) h
      refine ⟨S', Z', ?_, h4⟩
      have b : wBody [some (.lst (L.map rowD)), some (nI st), some (.ref M.length), some lv, o4, o5, o6, o7, o8] (stL M P Z) = .ok (.nx [some (.lst (L.map rowD)), some (nI st), some (.ref M.length), some (.ref (M.length + (Z.length + 1))), some (.ref (M.length + (Z.length + 1))), o5', o6', o7', o8']) (stW M (wlevel L P ls).1 Z (wlevel L P ls).2) :=
        Eq.trans (seq_nx a1) (Eq.trans (seq_nx h2) (asg_nm (v_ok rfl)))
      show ((wBody _).bnd _) _ = _
      rw [bnd_ok b]
      exact h3
theorem walk_ok {M : Store} {L : Rows} {st n : Nat} {P' : Paths} (hL : RowsOk n L) (hn : n ≤ 100) (hst : st < n) (h : wrun L 1000 [(st, [])] [st] = some P') : ∃ Z, F_walk_paths [.lst (L.map rowD), nI st] M = .ok (.ref M.length) (M ++ (pcell P' :: Z)) := by
  have kp : Kp n [(st, [])] := ⟨by simp, by simpa using hst, by simp⟩
  obtain ⟨S', Z', hw, hs⟩ := w_while (M := M) (st := st) hL hn 1000 [(st, [])] [st] [] (.lst ([st].map nI)) none none none none none P' kp (by simp [hasK]) (.inl rfl) h
  refine ⟨Z', run_rt ?_⟩
  have e : startD 9 [.lst (L.map rowD), nI st] = [some (.lst (L.map rowD)), some (nI st), none, none, none, none, none, none, none] := rfl
  rw [e]
  unfold g_walk_paths
  have d1 : eCl (nDisp (pCons (eVar 1) (eF (nNew .lst eA0)) pNil)) [some (.lst (L.map rowD)), some (nI st), none, none, none, none, none, none, none] M = .ok (.ref M.length) (stL M [(st, [])] []) := by
    have p1 : pCons (eVar 1) (eF (nNew .lst eA0)) pNil [some (.lst (L.map rowD)), some (nI st), none, none, none, none, none, none, none] M = .ok [(.inl (st : Int), .lst [])] M := by
      unfold pCons
      rw [bnd_ok (v_ok (d := nI st) rfl), bnd_ok (fl_ok (new_ok a0_ok (by simp)))]
      rfl
    unfold eCl nDisp
    simp only [Ev.bnd, p1, Out.bnd]
    rfl
  refine Eq.trans (seq_nx (asg_nm d1)) ?_
  refine Eq.trans (seq_nx (asg_nm (fl_ok (new_ok (ac_ok (v_ok rfl) a0_ok) (by simp))))) ?_
  refine Eq.trans (seq_nx hw) ?_
  exact ret_ok (v_ok hs)
end Lw

set_option Elab.async false
set_option linter.all false
set_option maxRecDepth 100000
set_option maxHeartbeats 400000
/-! MI: components_of. -/
namespace DL
open PySem L2
def tr (K : List Nat) : List (Key × D) := K.map fun k : Nat => (.inl (k : Int), .bl true)
def kone (K : List Nat) (k : Nat) : List Nat := if k ∈ K then K else K ++ [k]
def kadd (K xs : List Nat) : List Nat := xs.foldl kone K
theorem tr_any (K : List Nat) (k : Nat) : ((tr K).any fun p => decide (p.1 = Sum.inl (k : Int))) = decide (k ∈ K) := by
  unfold tr
  rw [List.any_map]
  induction K with
  | nil => simp
  | cons a K ih =>
    have : ((fun p : Key × D => decide (p.1 = Sum.inl (k : Int))) ∘ fun k : Nat => ((Sum.inl (k : Int) : Key), D.bl true)) a = decide (a = k) := kdec a k
    rw [List.any_cons, ih, this]
    by_cases q : a = k
    · subst q; simp
    · have : ¬ k = a := fun z => q z.symm
      simp [q, this]
theorem tr_pk (K : List Nat) (k : Nat) : pk (tr K) (.inl (k : Int)) (.bl true) = tr (kone K k) := by
  unfold pk
  rw [tr_any]
  unfold kone
  by_cases q : k ∈ K
  · rw [if_pos q, if_pos (by simpa using q)]
    unfold tr
    rw [List.map_map]
    apply List.map_congr_left
    intro a _
    show (if (Sum.inl (a : Int) : Key) = Sum.inl (k : Int) then _ else _) = _
    split <;> rfl
  · rw [if_neg q, if_neg (by simpa using q)]
    unfold tr
    rw [List.map_append]
    rfl
theorem kone_len (K : List Nat) (k : Nat) : (kone K k).length ≤ K.length + 1 := by unfold kone; split <;> simp
theorem kadd_len : ∀ (xs K : List Nat), (kadd K xs).length ≤ K.length + xs.length
  | [], K => by simp [kadd]
  | x :: xs, K => by
    have := kadd_len xs (kone K x)
    have h := kone_len K x
    show (kadd (kone K x) xs).length ≤ _
    rw [List.length_cons]
    omega
theorem mem_kone {K : List Nat} {k x : Nat} : x ∈ kone K k ↔ x ∈ K ∨ x = k := by
  unfold kone
  split
  · constructor
    · exact .inl
    · rintro (h | h)
      · exact h
      · subst h; assumption
  · simp
theorem mem_kadd {x : Nat} : ∀ {xs K : List Nat}, x ∈ kadd K xs ↔ x ∈ K ∨ x ∈ xs
  | [], K => by simp [kadd]
  | y :: xs, K => by
    have := mem_kadd (x := x) (xs := xs) (K := kone K y)
    show x ∈ kadd (kone K y) xs ↔ _
    rw [this, mem_kone, List.mem_cons]
    constructor
    · rintro ((h | h) | h)
      · exact .inl h
      · exact .inr (.inl h)
      · exact .inr (.inr h)
    · rintro (h | h | h)
      · exact .inl (.inl h)
      · exact .inl (.inr h)
      · exact .inr h
theorem nodup_kone {K : List Nat} {k : Nat} (h : K.Nodup) : (kone K k).Nodup := by
  unfold kone
  split
  · exact h
  · rename_i q
    rw [List.nodup_append]
    exact ⟨h, by simp, fun a ha b hb => by simp at hb; subst hb; exact fun z => q (z ▸ ha)⟩
theorem nodup_kadd : ∀ {xs K : List Nat}, K.Nodup → (kadd K xs).Nodup
  | [], K, h => h
  | x :: xs, K, h => nodup_kadd (xs := xs) (nodup_kone h)
theorem compK_tr {g : Gd} {S : Lo} {M : Store} {i : Nat} (hg : grd g M) (hi : ∀ k : Nat, (S.set i (some (nI k)))[i]? = some (some (nI k))) : ∀ (xs K : List Nat), K.length + xs.length ≤ 900 → compK (gNm i) tYesD (eVar i) (eC (.bl true)) g S (xs.map nI) (tr K) M = .ok (tr (kadd K xs)) M
  | [], K, _ => by rw [List.map_nil, compK, chk_ok hg]; rfl
  | x :: xs, K, h => by
    rw [List.length_cons] at h
    have hk := kone_len K x
    have ih := compK_tr hg hi xs (kone K x) (by omega)
    have hl : (tr K).length < sizeLine := lt_sl (by unfold tr; rw [List.length_map]; omega)
    rw [List.map_cons, compK, chk_ok hg, bnd_ok (nox_ok (g_nm i (nI x) S M)), bnd_ok (nox_ok (show tYesD (S.set i (some (nI x))) M = .ok true M from rfl)), if_pos rfl, bnd_ok (nox_ok (v_ok (hi x))), bnd_ok (nox_ok (c_ok (.bl true) _ M))]
    simp only [toK_nI]
    rw [if_pos hl, tr_pk]
    exact ih
theorem zip_tr : ∀ K : List Nat, ((K.map fun k : Nat => (Sum.inl (k : Int) : Key)).zip (K.map fun _ => D.bl true)) = tr K
  | [] => rfl
  | k :: K => by rw [List.map_cons, List.map_cons, List.zip_cons_cons, zip_tr K]; rfl
def tcell (K : List Nat) : Tg × List D := (.dct (K.map fun k : Nat => .inl (k : Int)), K.map fun _ => .bl true)
theorem tr_cell (K : List Nat) : ((Tg.dct ((tr K).map (·.1)), (tr K).map (·.2)) : Tg × List D) = tcell K := by
  unfold tr tcell
  rw [List.map_map, List.map_map]
  rfl
theorem tr_merge : ∀ (xs K : List Nat), (tr xs).foldl (fun acc q => pk acc q.1 q.2) (tr K) = tr (kadd K xs)
  | [], K => rfl
  | x :: xs, K => by
    show (tr xs).foldl (fun acc q => pk acc q.1 q.2) (pk (tr K) (.inl (x : Int)) (.bl true)) = _
    rw [tr_pk, tr_merge xs]
    rfl
theorem tr_vd (K : List Nat) (k : Nat) : (vd (tr K) (.inl (k : Int))).isSome = decide (k ∈ K) := by
  rw [← tr_any]
  unfold vd
  rw [Option.isSome_map]
  generalize tr K = l
  induction l with
  | nil => rfl
  | cons p l ih =>
    rw [List.find?_cons, List.any_cons]
    cases decide (p.1 = Sum.inl (k : Int)) with
    | true => rfl
    | false => simpa using ih
theorem in_tr {M : Store} {q : Nat} {K : List Nat} {k : Nat} {neg : Bool} (h : M[q]? = some (tcell K)) : inK neg (nI k) (.ref q) M = .ok (.bl (neg ^^ decide (k ∈ K))) M := by
  unfold inK
  have : vw (.ref q) M = .ok (tcell K) M := by simp only [vw, h]
  rw [bnd_ok this]
  simp only [tcell, toK_nI, zip_tr, tr_vd, Ev.ret]
theorem upd_tr {M : Store} {q : Nat} {K xs : List Nat} (h : M[q]? = some (tcell K)) (hl : K.length + xs.length ≤ 900) : updE (.ref q) [.nd (tcell xs).1 (tcell xs).2] M = .ok .non (M.set q (tcell (kadd K xs))) := by
  have hs : K.length + xs.length ≤ sizeLine := sl_le (by omega)
  unfold updE
  simp only [vw, Ev.bnd, Ev.ret, Out.bnd, h, tcell, zip_tr, tr_merge]
  rw [if_pos ⟨rfl, by rw [List.length_map, List.length_map], by rw [List.length_map, List.length_map], by rw [List.length_map, List.length_map]; exact hs⟩]
  have := tr_cell (kadd K xs)
  unfold tcell at this
  rw [this]
end DL

set_option Elab.async false
set_option linter.all false
set_option maxRecDepth 100000
set_option maxHeartbeats 400000
/-! MJ: components_of evaluated. -/
namespace Lw
open PySem L2 DL
def ccell (c : List Nat) : Tg × List D := (.lst, c.map nI)
def fcell (b : Nat) (C : List (List Nat)) : Tg × List D := (.lst, (List.range C.length).map fun j => .ref (b + (j + 2)))
def stC (M : Store) (C : List (List Nat)) (K : List Nat) : Store := M ++ (fcell M.length C :: tcell K :: C.map ccell)
def reach (L : Rows) (node : Nat) : List Nat := ((wrun L 1000 [(node, [])] [node]).getD []).map (·.1)
def srtN (l : List Nat) : List Nat := (srt (l.map fun k : Nat => (k : Int))).map Int.toNat
def cstep (L : Rows) (s : List (List Nat) × List Nat) (node : Nat) : List (List Nat) × List Nat :=
  if node ∈ s.2 then s else (s.1 ++ [srtN (reach L node)], kadd s.2 (kadd [] (srtN (reach L node))))
def compsA (L : Rows) (n : Nat) : List (List Nat) × List Nat := (List.range n).foldl (cstep L) ([], [])
theorem srtN_eq (l : List Nat) : (srt (l.map fun k : Nat => (k : Int))).map D.int = (srtN l).map nI := by
  unfold srtN
  rw [List.map_map]
  apply List.map_congr_left
  intro z hz
  have := (List.mem_mergeSort.mp hz)
  rw [List.mem_map] at this
  obtain ⟨k, _, rfl⟩ := this
  rfl
theorem srtN_perm (l : List Nat) : (srtN l).Perm l := by
  unfold srtN
  have p : (srt (l.map fun k : Nat => (k : Int))).Perm (l.map fun k : Nat => (k : Int)) := List.mergeSort_perm _ _
  have := p.map Int.toNat
  rw [List.map_map] at this
  have e : (l.map (Int.toNat ∘ fun k : Nat => (k : Int))) = l := by
    conv => rhs; rw [← List.map_id l]
    apply List.map_congr_left
    intro k _
    rfl
  rw [e] at this
  exact this
theorem intKeys_nat : ∀ l : List Nat, intKeys (l.map fun k : Nat => (Sum.inl (k : Int) : Key)) = some (l.map fun k : Nat => (k : Int))
  | [] => rfl
  | k :: l => by rw [List.map_cons, intKeys, intKeys_nat l]; rfl
def pD (P : Paths) : D := .nd (pcell P).1 (pcell P).2
theorem sorted_p (P : Paths) (h : P.length < 64) : sortedN (pD P) = Ev.ret (.n .lst ((srtN (P.map (·.1))).map nI)) := by
  funext M
  have e : (P.map fun p => (Sum.inl (p.1 : Int) : Key)) = (P.map (·.1)).map fun k : Nat => (Sum.inl (k : Int) : Key) := by rw [List.map_map]; rfl
  unfold sortedN pD
  simp only [vw, Ev.bnd, Ev.ret, Out.bnd, pcell]
  rw [e, intKeys_nat]
  simp only
  rw [if_pos ⟨by rw [List.length_map, List.length_map]; exact h, by rw [List.length_map, List.length_map, List.length_map]⟩, srtN_eq]
  rfl
theorem rl_pcell (k : Nat) (P : Paths) : rlts k (pcell P).2 = true := rl_map k _ (fun p => by
  unfold pathD
  rw [rlt]
  exact rl_map k encS (fun x => by simp [encS, rlt, rlts]) _) P
theorem stC_f (M : Store) (C : List (List Nat)) (K : List Nat) (X : Store) : (stC M C K ++ X)[M.length]? = some (fcell M.length C) := by
  unfold stC
  rw [List.append_assoc]
  have := get_app (M := M) (X := (fcell M.length C :: tcell K :: C.map ccell) ++ X) (k := 0)
  simpa using this
theorem stC_k (M : Store) (C : List (List Nat)) (K : List Nat) (X : Store) : (stC M C K ++ X)[M.length + 1]? = some (tcell K) := by
  unfold stC
  rw [List.append_assoc]
  have := get_app (M := M) (X := (fcell M.length C :: tcell K :: C.map ccell) ++ X) (k := 1)
  simpa using this
theorem stC_len (M : Store) (C : List (List Nat)) (K : List Nat) : (stC M C K).length = M.length + (C.length + 2) := by simp [stC]
/-- the walk of a node, frozen -/
theorem walk_fz {L : Rows} {n node : Nat} {P : Paths} (hL : RowsOk n L) (hn : n ≤ 60) (hnode : node < n) (h : wrun L 1000 [(node, [])] [node] = some P) {f : Lo → Ev (List D)} {S : Lo} {M : Store} (hf : f S M = .ok [.lst (L.map rowD), nI node] M) : eFz (eCall (callD 2 F_walk_paths) f) S M = .ok (pD P) M := by
  obtain ⟨Z, hw⟩ := walk_ok (M := M) hL (by omega) hnode h
  refine fcall_app hf rfl hw ?_
  have g : (M ++ (pcell P :: Z))[M.length]? = some (pcell P) := by
    have := get_app (M := M) (X := pcell P :: Z) (k := 0)
    simpa using this
  exact fz_ref (Nat.le_refl _) g (fzs_id _ _ _ _ (rl_pcell _ P))
noncomputable abbrev cBody : Lo → Ev Fl := sIf (eB (e2 (inK true) (eVar 3) (eVar 2))) (sSeq (sAsg (eCl (nCall (op1 sortedN) (eAc (eFz (eCall (callD 2 F_walk_paths) (eAc (eVar 0) (eAc (eVar 3) eA0)))) eA0))) (gNm 4)) (sSeq (sExp (eBk updE (eVar 2) (eAc (eF (nDc (iSeq (eVar 4)) (gNm 5) tYesD (eVar 5) (eC (.bl true)) [5])) eA0))) (sExp (eBm (cellM opAppend) (eVar 1) (eAc (eVar 4) eA0))))) sNext
theorem c_body {M : Store} {L : Rows} {n node : Nat} {C : List (List Nat)} {K : List Nat} {o4 : Option D} (hL : RowsOk n L) (hn : n ≤ 60) (hnode : node < n) (hw : ∃ P, wrun L 1000 [(node, [])] [node] = some P ∧ Kp n P) (hK : K.length ≤ 100) (hC : C.length ≤ 100) :
    ∃ o4', cBody [some (.lst (L.map rowD)), some (.ref M.length), some (.ref (M.length + 1)), some (nI node), o4, none] (stC M C K) = .ok (.nx [some (.lst (L.map rowD)), some (.ref M.length), some (.ref (M.length + 1)), some (nI node), o4', none]) (stC M (cstep L (C, K) node).1 (cstep L (C, K) node).2) := by
  obtain ⟨P, hP, kp⟩ := hw
  have lP := kp.len
  have er : reach L node = P.map (·.1) := by unfold reach; rw [hP]; rfl
  have k0 : (stC M C K)[M.length + 1]? = some (tcell K) := by have := stC_k M C K []; rwa [List.append_nil] at this
  have t : eB (e2 (inK true) (eVar 3) (eVar 2)) [some (.lst (L.map rowD)), some (.ref M.length), some (.ref (M.length + 1)), some (nI node), o4, none] (stC M C K) = .ok (true ^^ decide (node ∈ K)) (stC M C K) := by
    refine b_ok ?_
    unfold e2
    rw [bnd_ok (v_ok (d := nI node) rfl), bnd_ok (v_ok (d := .ref (M.length + 1)) rfl)]
    exact in_tr k0
  by_cases q : node ∈ K
  · refine ⟨o4, Eq.trans (if_ok t) ?_⟩
    have e0 : cstep L (C, K) node = (C, K) := by unfold cstep; rw [if_pos q]
    rw [decide_eq_true q, if_neg (by decide), e0]
    rfl
  · refine ⟨some (.ref (M.length + (C.length + 2))), Eq.trans (if_ok t) ?_⟩
    have e0 : cstep L (C, K) node = (C ++ [srtN (reach L node)], kadd K (kadd [] (srtN (reach L node)))) := by unfold cstep; rw [if_neg q]
    rw [decide_eq_false q, if_pos (by decide), e0, er]
    have lc : (srtN (P.map (·.1))).length = P.length := by rw [(srtN_perm _).length_eq, List.length_map]
    generalize hc : srtN (P.map (·.1)) = c at lc ⊢
    have s1 : eCl (nCall (op1 sortedN) (eAc (eFz (eCall (callD 2 F_walk_paths) (eAc (eVar 0) (eAc (eVar 3) eA0)))) eA0)) [some (.lst (L.map rowD)), some (.ref M.length), some (.ref (M.length + 1)), some (nI node), o4, none] (stC M C K) = .ok (.ref (M.length + (C.length + 2))) (stC M C K ++ [ccell c]) := by
      rw [← stC_len M C K]
      refine cl_ok ?_
      unfold nCall
      rw [bnd_ok (ac_ok (walk_fz hL hn hnode hP (ac_ok (v_ok rfl) (ac_ok (v_ok rfl) a0_ok))) a0_ok)]
      show sortedN (pD P) _ = _
      rw [sorted_p P (by omega), hc]
      rfl
    refine Eq.trans (seq_nx (asg_nm s1)) ?_
    have gl : (stC M C K ++ [ccell c])[M.length + (C.length + 2)]? = some (ccell c) := by rw [← stC_len M C K]; exact get_last
    have dc : eF (nDc (iSeq (eVar 4)) (gNm 5) tYesD (eVar 5) (eC (.bl true)) [5]) [some (.lst (L.map rowD)), some (.ref M.length), some (.ref (M.length + 1)), some (nI node), some (.ref (M.length + (C.length + 2))), none] (stC M C K ++ [ccell c]) = .ok (.nd (tcell (kadd [] c)).1 (tcell (kadd [] c)).2) (stC M C K ++ [ccell c]) := by
      have h1 : iSeq (eVar 4) [some (.lst (L.map rowD)), some (.ref M.length), some (.ref (M.length + 1)), some (nI node), some (.ref (M.length + (C.length + 2))), none] (stC M C K ++ [ccell c]) = .ok (c.map nI, some (M.length + (C.length + 2), ccell c)) (stC M C K ++ [ccell c]) := by
        have h0 : vw (.ref (M.length + (C.length + 2))) (stC M C K ++ [ccell c]) = .ok (ccell c) (stC M C K ++ [ccell c]) := by simp only [vw, gl]
        unfold iSeq
        rw [bnd_ok (v_ok (d := .ref (M.length + (C.length + 2))) rfl)]
        unfold itSq
        rw [bnd_ok h0]
        rfl
      have h2 := compK_tr (g := some (M.length + (C.length + 2), ccell c)) (S := [some (.lst (L.map rowD)), some (.ref M.length), some (.ref (M.length + 1)), some (nI node), some (.ref (M.length + (C.length + 2))), none]) (M := stC M C K ++ [ccell c]) (i := 5) gl (fun k => rfl) c [] (by simp; omega)
      have h3 : nDc (iSeq (eVar 4)) (gNm 5) tYesD (eVar 5) (eC (.bl true)) [5] [some (.lst (L.map rowD)), some (.ref M.length), some (.ref (M.length + 1)), some (nI node), some (.ref (M.length + (C.length + 2))), none] (stC M C K ++ [ccell c]) = .ok (.n (tcell (kadd [] c)).1 (tcell (kadd [] c)).2) (stC M C K ++ [ccell c]) := by
        unfold nDc
        rw [bnd_ok h1]
        refine Eq.trans (bnd_ok h2) ?_
        have := tr_cell (kadd [] c)
        rw [← this]
        rfl
      unfold eF
      rw [bnd_ok h3]
      unfold tcell frz
      simp only [List.length_map, if_true]
      rfl
    have lk : (kadd [] c).length ≤ c.length := by have := kadd_len c []; simpa using this
    have u : eBk updE (eVar 2) (eAc (eF (nDc (iSeq (eVar 4)) (gNm 5) tYesD (eVar 5) (eC (.bl true)) [5])) eA0) [some (.lst (L.map rowD)), some (.ref M.length), some (.ref (M.length + 1)), some (nI node), some (.ref (M.length + (C.length + 2))), none] (stC M C K ++ [ccell c]) = .ok .non (stC M C (kadd K (kadd [] c)) ++ [ccell c]) := by
      have ic : isCellK (.ref (M.length + 1)) (stC M C K ++ [ccell c]) = .ok () (stC M C K ++ [ccell c]) := by
        unfold isCellK
        simp only [stC_k M C K [ccell c], tcell]
      unfold eBk
      rw [bnd_ok (v_ok (d := .ref (M.length + 1)) rfl), bnd_ok ic, bnd_ok (ac_ok dc a0_ok), upd_tr (stC_k M C K [ccell c]) (by omega)]
      congr 1
      unfold stC
      rw [List.append_assoc, List.append_assoc]
      have := set_app' (M := M) (X := (fcell M.length C :: tcell K :: C.map ccell) ++ [ccell c]) (k := 1) (c := tcell (kadd K (kadd [] c)))
      simpa using this
    refine Eq.trans (seq_nx (exp_ok u)) ?_
    have ap := append_ok (fo := eVar 1) (fa := eAc (eVar 4) eA0) (S := [some (.lst (L.map rowD)), some (.ref M.length), some (.ref (M.length + 1)), some (nI node), some (.ref (M.length + (C.length + 2))), none]) (M := stC M C (kadd K (kadd [] c)) ++ [ccell c]) (v_ok rfl) (stC_f M C _ [ccell c]) (ac_ok (v_ok rfl) a0_ok) (stC_f M C _ [ccell c]) (by rw [List.length_map, List.length_range]; omega)
    refine Eq.trans (exp_ok ap) ?_
    congr 1
    have e5 : ((Tg.lst, ((List.range C.length).map fun j => D.ref (M.length + (j + 2))) ++ [D.ref (M.length + (C.length + 2))]) : Tg × List D) = fcell M.length (C ++ [c]) := by
      unfold fcell
      rw [List.length_append, List.length_singleton, List.range_succ, List.map_append]
      rfl
    rw [e5]
    unfold stC
    rw [List.append_assoc]
    have := set_app' (M := M) (X := (fcell M.length C :: tcell (kadd K (kadd [] c)) :: C.map ccell) ++ [ccell c]) (k := 0) (c := fcell M.length (C ++ [c]))
    simpa using this
/-- every node's walk comes to an end -/
def Walks (L : Rows) (n : Nat) : Prop := ∀ node < n, ∃ P, wrun L 1000 [(node, [])] [node] = some P ∧ Kp n P
theorem Walks.reach {L : Rows} {n node : Nat} (h : Walks L n) (hn : node < n) : (reach L node).Nodup ∧ ∀ k ∈ reach L node, k < n := by
  obtain ⟨P, hP, kp⟩ := h node hn
  have er : Lw.reach L node = P.map (·.1) := by unfold Lw.reach; rw [hP]; rfl
  rw [er]
  exact ⟨kp.nd, kp.lt⟩
theorem cstep_inv {L : Rows} {n node : Nat} (h : Walks L n) (hn : node < n) {s : List (List Nat) × List Nat} (hK : s.2.Nodup ∧ ∀ k ∈ s.2, k < n) : (cstep L s node).2.Nodup ∧ ∀ k ∈ (cstep L s node).2, k < n := by
  unfold cstep
  split
  · exact hK
  · refine ⟨nodup_kadd hK.1, fun k hk => ?_⟩
    rw [mem_kadd, mem_kadd] at hk
    rcases hk with z | z | z
    · exact hK.2 k z
    · simp at z
    · exact (h.reach hn).2 k ((srtN_perm _).mem_iff.mp z)
theorem cstep_len (L : Rows) (s : List (List Nat) × List Nat) (node : Nat) : (cstep L s node).1.length ≤ s.1.length + 1 := by
  unfold cstep
  split <;> simp
theorem comps_ok {M : Store} {L : Rows} {n : Nat} (hL : RowsOk n L) (hn : n ≤ 60) (hw : Walks L n) : F_components_of [.lst (L.map rowD)] M = .ok (.ref M.length) (stC M (compsA L n).1 (compsA L n).2) := by
  have lp := for_inv (enc := nI) (g := none) (tg := gNm 3) (body := cBody)
    (fun pre S M' => ∃ o3 o4, S = [some (.lst (L.map rowD)), some (.ref M.length), some (.ref (M.length + 1)), o3, o4, none] ∧ M' = stC M (pre.foldl (cstep L) ([], [])).1 (pre.foldl (cstep L) ([], [])).2 ∧ ((pre.foldl (cstep L) ([], [])).2.Nodup ∧ ∀ k ∈ (pre.foldl (cstep L) ([], [])).2, k < n) ∧ (pre.foldl (cstep L) ([], [])).1.length ≤ pre.length)
    (List.range n) (S := [some (.lst (L.map rowD)), some (.ref M.length), some (.ref (M.length + 1)), none, none, none]) (M := stC M [] []) ⟨none, none, rfl, rfl, ⟨List.nodup_nil, by simp⟩, Nat.le_refl _⟩ (fun _ _ _ _ => grd_none _) (fun pre x post S M' e j => by
      obtain ⟨o3, o4, rfl, rfl, hK, hC⟩ := j
      have hx : x < n := by
        have : x ∈ List.range n := by rw [e]; simp
        exact List.mem_range.mp this
      have hp : pre.length < n := by
        have : (List.range n).length = pre.length + (post.length + 1) := by rw [e]; simp
        rw [List.length_range] at this
        omega
      have lK := nodup_lt n _ hK.1 hK.2
      obtain ⟨o4', hb⟩ := c_body (M := M) (o4 := o4) hL hn hx (hw x hx) (Nat.le_trans lK (by omega)) (Nat.le_trans hC (by omega))
      refine ⟨_, _, _, _, g_nm _ _ _ _, hb, some (nI x), o4', rfl, ?_, ?_, ?_⟩
      · rw [List.foldl_append]; rfl
      · rw [List.foldl_append]; exact cstep_inv hw hx hK
      · rw [List.foldl_append, List.length_append, List.length_singleton]
        have := cstep_len L (pre.foldl (cstep L) ([], [])) x
        exact Nat.le_trans this (by omega))
  obtain ⟨S', M', hf, o3, o4, rfl, rfl, hK, _⟩ := lp
  refine run_rt ?_
  have e : startD 6 [.lst (L.map rowD)] = [some (.lst (L.map rowD)), none, none, none, none, none] := rfl
  rw [e]
  unfold g_components_of
  refine Eq.trans (seq_nx (asg_nm (cl_ok (new_ok a0_ok (by simp))))) ?_
  have d1 : eCl (fun _ => Ev.ret (NR.n (.dct []) [])) [some (.lst (L.map rowD)), some (.ref M.length), none, none, none, none] (M ++ [(Tg.lst, [])]) = .ok (.ref (M.length + 1)) (stC M [] []) := by
    have : stC M [] [] = (M ++ [(Tg.lst, [])]) ++ [(Tg.dct [], [])] := by simp [stC, fcell, tcell]
    rw [this]
    unfold eCl
    simp only [Ev.bnd, Ev.ret, Out.bnd, cel, List.length_nil, if_true, List.length_append, List.length_cons, Nat.zero_add]
  refine Eq.trans (seq_nx (asg_nm d1)) ?_
  have ln : lenE (.lst (L.map rowD)) = Ev.ret (nI n) := by rw [len_nd rfl, List.length_map, hL.1]
  refine Eq.trans (seq_nx (Eq.trans (sfor_ok (ir1_ok (n := n) (ac_ok (op1_ok (ac_ok (v_ok rfl) a0_ok) ln) a0_ok) (by omega))) hf)) ?_
  exact ret_ok (v_ok rfl)
end Lw

set_option Elab.async false
set_option linter.all false
set_option maxRecDepth 100000
set_option maxHeartbeats 400000
/-! MK: _law_groups. -/
namespace DL
open PySem L2
theorem toVs_nI : ∀ a : List Nat, toVs (a.map nI) = some (a.map fun k : Nat => V.int (k : Int))
  | [] => rfl
  | k :: a => by rw [List.map_cons, toVs, toVs_nI a]; rfl
theorem inV_nat (k : Nat) : ∀ a : List Nat, inV (.int (k : Int)) (a.map fun k : Nat => V.int (k : Int)) = decide (k ∈ a)
  | [] => by simp [inV]
  | b :: a => by
    have ih := inV_nat k a
    unfold inV at ih ⊢
    rw [List.map_cons, List.any_cons, ih]
    have : eqV (.int (b : Int)) (.int (k : Int)) = decide (b = k) := by
      show ((b : Int) == (k : Int)) = _
      rw [Bool.eq_iff_iff]; simp; omega
    rw [this]
    by_cases q : b = k
    · subst q; simp
    · have : ¬ k = b := fun z => q z.symm
      simp [q, this]
theorem in_nd {t : Tg} {a : List Nat} {k : Nat} (ht : FC.isSeq t = true) : inE false (nI k) (.nd t (a.map nI)) = Ev.ret (.bl (decide (k ∈ a))) := by
  funext M
  simp only [inE, sq, vw, Ev.bnd, Ev.ret, Out.bnd, ht, if_true, toVs_nI, toV, inV_nat, Bool.false_eq_true, if_false]
theorem in_refL {M : Store} {q : Nat} {a : List Nat} {k : Nat} (h : M[q]? = some (.lst, a.map nI)) : inE false (nI k) (.ref q) M = .ok (.bl (decide (k ∈ a))) M := by
  have h1 : vw (.ref q) M = .ok (.lst, a.map nI) M := by simp only [vw, h]
  have h2 : sq (.ref q) M = .ok (a.map nI) M := by
    unfold sq
    rw [bnd_ok h1]
    rfl
  unfold inE
  rw [bnd_ok h2]
  simp only [toVs_nI, toV, inV_nat, Bool.false_eq_true, if_false, Ev.ret]
theorem e2x {op : D → D → Ev D} {fa fb : Lo → Ev D} {S : Lo} {M : Store} {x y : D} {r : Out D} (ha : fa S M = .ok x M) (hb : fb S M = .ok y M) (ho : op x y M = r) : e2 op fa fb S M = r := by
  unfold e2
  rw [bnd_ok ha, bnd_ok hb, ho]
theorem min_nat (a b : Nat) : minE (nI a) (nI b) = Ev.ret (nI (if b < a then b else a)) := by
  show Ev.ret (D.int (if (b : Int) < a then (b : Int) else a)) = _
  by_cases q : b < a
  · rw [if_pos (by omega), if_pos q]
  · rw [if_neg (by omega), if_neg q]
theorem set_ok {fo fi : Lo → Ev D} {S : Lo} {M : Store} {n k : Nat} {l : List D} {d : D} (ho : fo S M = .ok (.ref n) M) (hi : fi S M = .ok (nI k) M) (hm : M[n]? = some (.lst, l)) (hk : k < l.length) : gSet fo fi d S M = .ok S (M.set n (.lst, l.set k d)) := by
  have e : setE (.ref n) (nI k) d M = .ok () (M.set n (.lst, l.set k d)) := by
    have : ixN l.length (k : Int) = some k := by
      unfold ixN
      rw [if_pos (by omega), if_pos (by omega)]
      rfl
    unfold setE
    simp only [hm, this]
  unfold gSet
  rw [bnd_ok (nox_ok ho), bnd_ok (nox_ok hi), bnd_ok e]
  rfl
end DL
namespace Lw
open PySem L2 DL
def mstep (a : List Nat) (e : Nat × Nat) : List Nat := (a.set e.1 (if a.getD e.2 0 < a.getD e.1 0 then a.getD e.2 0 else a.getD e.1 0)).set e.2 (if a.getD e.2 0 < a.getD e.1 0 then a.getD e.2 0 else a.getD e.1 0)
def mround (es : List (Nat × Nat)) (a : List Nat) : List Nat := es.foldl mstep a
def namesM (n : Nat) (es : List (Nat × Nat)) : List Nat := (List.range n).foldl (fun a _ => mround es a) (List.range n)
def groupsM (n : Nat) (es : List (Nat × Nat)) : List (List Nat) := ((List.range n).filter fun f => decide (f ∈ namesM n es)).map fun f => (List.range n).filter fun v => decide ((namesM n es).getD v 0 = f)
theorem mstep_len (a : List Nat) (e : Nat × Nat) : (mstep a e).length = a.length := by simp [mstep]
theorem mround_len (es : List (Nat × Nat)) (a : List Nat) : (mround es a).length = a.length := by
  unfold mround
  induction es generalizing a with
  | nil => rfl
  | cons e es ih => rw [List.foldl_cons, ih, mstep_len]
def rowN (g : List Nat) : D := .lst (g.map nI)
noncomputable abbrev mBody : Lo → Ev Fl := sSeq (sAsg (eCall (op2 minE) (eAc (e2 ixE (eVar 2) (eVar 4)) (eAc (e2 ixE (eVar 2) (eVar 5)) eA0))) (gNm 6)) (sSeq (sAsg (eVar 6) (gSet (eVar 2) (eVar 4))) (sAsg (eVar 6) (gSet (eVar 2) (eVar 5))))
theorem m_body {M : Store} {n : Nat} {lk : D} {a : List Nat} {e : Nat × Nat} {o3 o6 : Option D} (h1 : e.1 < a.length) (h2 : e.2 < a.length) :
    mBody [some (nI n), some lk, some (.ref M.length), o3, some (nI e.1), some (nI e.2), o6, none, none] (M ++ [(.lst, a.map nI)]) = .ok (.nx [some (nI n), some lk, some (.ref M.length), o3, some (nI e.1), some (nI e.2), some (nI (if a.getD e.2 0 < a.getD e.1 0 then a.getD e.2 0 else a.getD e.1 0)), none, none]) (M ++ [(.lst, (mstep a e).map nI)]) := by
  have i1 : e2 ixE (eVar 2) (eVar 4) [some (nI n), some lk, some (.ref M.length), o3, some (nI e.1), some (nI e.2), o6, none, none] (M ++ [(.lst, a.map nI)]) = .ok (nI (a.getD e.1 0)) (M ++ [(.lst, a.map nI)]) := e2x (v_ok rfl) (v_ok rfl) (ix_ref get_last rfl (getD_nI h1))
  have i2 : e2 ixE (eVar 2) (eVar 5) [some (nI n), some lk, some (.ref M.length), o3, some (nI e.1), some (nI e.2), o6, none, none] (M ++ [(.lst, a.map nI)]) = .ok (nI (a.getD e.2 0)) (M ++ [(.lst, a.map nI)]) := e2x (v_ok rfl) (v_ok rfl) (ix_ref get_last rfl (getD_nI h2))
  refine Eq.trans (seq_nx (asg_nm (op2_ok (ac_ok i1 (ac_ok i2 a0_ok)) (min_nat _ _)))) ?_
  unfold mstep
  generalize (if a.getD e.2 0 < a.getD e.1 0 then a.getD e.2 0 else a.getD e.1 0) = m
  have s1 := set_ok (fo := eVar 2) (fi := eVar 4) (S := [some (nI n), some lk, some (.ref M.length), o3, some (nI e.1), some (nI e.2), some (nI m), none, none]) (M := M ++ [(Tg.lst, a.map nI)]) (d := nI m) (v_ok rfl) (v_ok rfl) get_last (by rw [List.length_map]; exact h1)
  rw [set_last, ← List.map_set] at s1
  have s2 := set_ok (fo := eVar 2) (fi := eVar 5) (S := [some (nI n), some lk, some (.ref M.length), o3, some (nI e.1), some (nI e.2), some (nI m), none, none]) (M := M ++ [(Tg.lst, (a.set e.1 m).map nI)]) (d := nI m) (v_ok rfl) (v_ok rfl) get_last (by rw [List.length_map, List.length_set]; exact h2)
  rw [set_last, ← List.map_set] at s2
  exact Eq.trans (seq_nx (asg_g (v_ok rfl) s1)) (asg_g (v_ok rfl) s2)
theorem m_round {M : Store} {n : Nat} {es : List (Nat × Nat)} {a : List Nat} {o3 o4 o5 o6 : Option D} (ha : a.length = n) (h : ∀ e ∈ es, e.1 < n ∧ e.2 < n) :
    ∃ o4' o5' o6', sFor (iSeq (eVar 1)) (gTp 2 (gCn (gNm 4) (gCn (gNm 5) gNl))) mBody [some (nI n), some (.lst (es.map encE)), some (.ref M.length), o3, o4, o5, o6, none, none] (M ++ [(.lst, a.map nI)]) = .ok (.nx [some (nI n), some (.lst (es.map encE)), some (.ref M.length), o3, o4', o5', o6', none, none]) (M ++ [(.lst, (mround es a).map nI)]) := by
  have lp := for_fold (enc := encE) (g := none) (tg := gTp 2 (gCn (gNm 4) (gCn (gNm 5) gNl))) (body := mBody)
    (fun (a : List Nat) S M' => ∃ o4 o5 o6, S = [some (nI n), some (.lst (es.map encE)), some (.ref M.length), o3, o4, o5, o6, none, none] ∧ M' = M ++ [(.lst, a.map nI)] ∧ a.length = n) mstep es (b := a) (S := [some (nI n), some (.lst (es.map encE)), some (.ref M.length), o3, o4, o5, o6, none, none]) (M := M ++ [(Tg.lst, a.map nI)]) ⟨o4, o5, o6, rfl, rfl, ha⟩ (fun _ _ _ _ => grd_none _) (fun a x S M' hx j => by
      obtain ⟨o4, o5, o6, rfl, rfl, ha⟩ := j
      obtain ⟨x1, x2⟩ := h x hx
      exact ⟨_, _, _, _, gtp2 (g_nm _ _ _ _) (g_nm _ _ _ _), m_body (by omega) (by omega), some (nI x.1), some (nI x.2), _, rfl, rfl, by rw [mstep_len, ha]⟩)
  obtain ⟨S', M', hf, o4', o5', o6', rfl, rfl, _⟩ := lp
  exact ⟨o4', o5', o6', Eq.trans (sfor_ok (iseq_nd (v_ok rfl) rfl)) hf⟩
theorem groups_ok {M : Store} {n : Nat} {es : List (Nat × Nat)} (hn : n ≤ 900) (h : ∀ e ∈ es, e.1 < n ∧ e.2 < n) :
    F__law_groups [nI n, .lst (es.map encE)] M = .ok (.ref (M.length + 1)) (M ++ [(.lst, (namesM n es).map nI), (.lst, (groupsM n es).map rowN)]) := by
  have lp := for_fold (enc := nI) (g := none) (tg := gNm 3) (body := sFor (iSeq (eVar 1)) (gTp 2 (gCn (gNm 4) (gCn (gNm 5) gNl))) mBody)
    (fun (a : List Nat) S M' => ∃ o3 o4 o5 o6, S = [some (nI n), some (.lst (es.map encE)), some (.ref M.length), o3, o4, o5, o6, none, none] ∧ M' = M ++ [(.lst, a.map nI)] ∧ a.length = n) (fun a _ => mround es a) (List.range n) (b := List.range n) (S := [some (nI n), some (.lst (es.map encE)), some (.ref M.length), none, none, none, none, none, none]) (M := M ++ [(Tg.lst, (List.range n).map nI)]) ⟨none, none, none, none, rfl, rfl, by simp⟩ (fun _ _ _ _ => grd_none _) (fun a x S M' hx j => by
      obtain ⟨o3, o4, o5, o6, rfl, rfl, ha⟩ := j
      obtain ⟨o4', o5', o6', hr⟩ := m_round (M := M) (o3 := some (nI x)) (o4 := o4) (o5 := o5) (o6 := o6) ha h
      exact ⟨_, _, _, _, g_nm _ _ _ _, hr, some (nI x), o4', o5', o6', rfl, rfl, by rw [mround_len, ha]⟩)
  obtain ⟨S', M', hf, o3, o4, o5, o6, rfl, rfl, hlen⟩ := lp
  have hf : forL (gNm 3) (sFor (iSeq (eVar 1)) (gTp 2 (gCn (gNm 4) (gCn (gNm 5) gNl))) mBody) none ((List.range n).map nI) [some (nI n), some (.lst (es.map encE)), some (.ref M.length), none, none, none, none, none, none] (M ++ [(.lst, (List.range n).map nI)]) = .ok (.nx [some (nI n), some (.lst (es.map encE)), some (.ref M.length), o3, o4, o5, o6, none, none]) (M ++ [(.lst, (namesM n es).map nI)]) := hf
  have hlen : (namesM n es).length = n := hlen
  have inner : ∀ (f : Nat), eF (nLc (iR1 (eAc (eVar 0) eA0)) (gNm 8) (eB (e2 (eqE false) (e2 ixE (eVar 2) (eVar 8)) (eVar 7))) (eVar 8) [8]) [some (nI n), some (.lst (es.map encE)), some (.ref M.length), o3, o4, o5, o6, some (nI f), none] (M ++ [(.lst, (namesM n es).map nI)]) = .ok (rowN ((List.range n).filter fun v => decide ((namesM n es).getD v 0 = f))) (M ++ [(.lst, (namesM n es).map nI)]) := fun f => by
    have cm := DL.comp_map (enc := nI) (tg := gNm 8) (tt := eB (e2 (eqE false) (e2 ixE (eVar 2) (eVar 8)) (eVar 7))) (te := eVar 8) (g := none) (S := [some (nI n), some (.lst (es.map encE)), some (.ref M.length), o3, o4, o5, o6, some (nI f), none]) (M := M ++ [(Tg.lst, (namesM n es).map nI)])
      (fun v => decide ((namesM n es).getD v 0 = f)) nI (grd_none _) (List.range n) (fun v hv => ⟨_, g_nm _ _ _ _, (by
        have := b_ok (e2_ret (fa := e2 ixE (eVar 2) (eVar 8)) (fb := eVar 7) (S := [some (nI n), some (.lst (es.map encE)), some (.ref M.length), o3, o4, o5, o6, some (nI f), some (nI v)]) (e2x (M := M ++ [(Tg.lst, (namesM n es).map nI)]) (v_ok rfl) (v_ok rfl) (ix_ref (k := v) (t := .lst) (l := (namesM n es).map nI) get_last rfl (getD_nI (by rw [hlen]; exact List.mem_range.mp hv)))) (v_ok rfl) (eq_nat false _ f))
        rw [Bool.false_xor] at this
        exact this), fun _ => v_ok rfl⟩)
    exact fl_ok (lc_ok (vs := [8]) (ir1_ok (n := n) (ac_ok (v_ok rfl) a0_ok) (by omega)) (sl_le (by rw [List.length_map, List.length_range]; omega)) cm)
  have outer := DL.comp_map (enc := nI) (tg := gNm 7) (tt := eB (e2 (inE false) (eVar 7) (eVar 2))) (te := eF (nLc (iR1 (eAc (eVar 0) eA0)) (gNm 8) (eB (e2 (eqE false) (e2 ixE (eVar 2) (eVar 8)) (eVar 7))) (eVar 8) [8])) (g := none) (S := [some (nI n), some (.lst (es.map encE)), some (.ref M.length), o3, o4, o5, o6, none, none]) (M := M ++ [(Tg.lst, (namesM n es).map nI)])
    (fun f => decide (f ∈ namesM n es)) (fun f => rowN ((List.range n).filter fun v => decide ((namesM n es).getD v 0 = f))) (grd_none _) (List.range n) (fun f _ => ⟨_, g_nm _ _ _ _, b_ok (e2x (v_ok rfl) (v_ok rfl) (in_refL get_last)), fun _ => inner f⟩)
  have fin := cl_ok (lc_ok (vs := [7]) (ir1_ok (f := eAc (eVar 0) eA0) (S := [some (nI n), some (.lst (es.map encE)), some (.ref M.length), o3, o4, o5, o6, none, none]) (M := M ++ [(Tg.lst, (namesM n es).map nI)]) (n := n) (ac_ok (v_ok rfl) a0_ok) (by omega)) (sl_le (by rw [List.length_map, List.length_range]; omega)) outer)
  refine run_rt ?_
  have e : startD 9 [nI n, .lst (es.map encE)] = [some (nI n), some (.lst (es.map encE)), none, none, none, none, none, none, none] := rfl
  rw [e]
  unfold g__law_groups
  refine Eq.trans (seq_nx (asg_nm (cl_ok (lr_ok (v_ok rfl) (by omega))))) ?_
  refine Eq.trans (seq_nx (Eq.trans (sfor_ok (ir1_ok (n := n) (ac_ok (v_ok rfl) a0_ok) (by omega))) hf)) ?_
  refine Eq.trans (ret_ok fin) ?_
  have e1 : (M ++ [(Tg.lst, (namesM n es).map nI)]).length = M.length + 1 := by simp
  rw [e1, List.append_assoc]
  unfold groupsM
  rw [List.map_map]
  rfl
end Lw

set_option Elab.async false
set_option linter.all false
set_option maxRecDepth 100000
set_option maxHeartbeats 400000
/-! MP: plain law: who is connected. -/
namespace Lw
open DL
abbrev Es := List (Nat × Nat)
inductive Conn (es : Es) (a : Nat) : Nat → Prop
  | refl : Conn es a a
  | step {b c : Nat} : Conn es a b → ((b, c) ∈ es ∨ (c, b) ∈ es) → Conn es a c
theorem Conn.trans {es : Es} {a b c : Nat} (h : Conn es a b) (k : Conn es b c) : Conn es a c := by
  induction k with
  | refl => exact h
  | step _ e ih => exact .step ih e
theorem Conn.edge {es : Es} {a b : Nat} (h : (a, b) ∈ es ∨ (b, a) ∈ es) : Conn es a b := .step .refl h
theorem Conn.symm {es : Es} {a b : Nat} (h : Conn es a b) : Conn es b a := by
  induction h with
  | refl => exact .refl
  | step _ e ih => exact (Conn.edge e.symm).trans ih
theorem Conn.mono {es es' : Es} {a b : Nat} (hs : ∀ e ∈ es, e ∈ es') (h : Conn es a b) : Conn es' a b := by
  induction h with
  | refl => exact .refl
  | step _ e ih => exact .step ih (e.imp (hs _) (hs _))
theorem Conn.lt {es : Es} {n a b : Nat} (hb : ∀ e ∈ es, e.1 < n ∧ e.2 < n) (h : Conn es a b) (ha : a < n) : b < n := by
  induction h with
  | refl => exact ha
  | step _ e ih => exact e.elim (fun z => (hb _ z).2) (fun z => (hb _ z).1)
/-- a way without a node twice -/
inductive Pth (es : Es) (u : Nat) : List Nat → Nat → Prop
  | one : Pth es u [u] u
  | snoc {p : List Nat} {v w : Nat} : Pth es u p v → ((v, w) ∈ es ∨ (w, v) ∈ es) → w ∉ p → Pth es u (p ++ [w]) w
theorem Pth.cut {es : Es} {u v w : Nat} {p : List Nat} (h : Pth es u p v) (hw : w ∈ p) : ∃ p', Pth es u p' w := by
  induction h with
  | one => simp at hw; subst hw; exact ⟨_, .one⟩
  | snoc k e n ih =>
    rw [List.mem_append] at hw
    rcases hw with z | z
    · exact ih z
    · simp at z; subst z; exact ⟨_, .snoc k e n⟩
theorem Conn.pth {es : Es} {u v : Nat} (h : Conn es u v) : ∃ p, Pth es u p v := by
  induction h with
  | refl => exact ⟨_, .one⟩
  | step _ e ih =>
    rename_i b c _
    obtain ⟨p, hp⟩ := ih
    by_cases q : c ∈ p
    · exact hp.cut q
    · exact ⟨_, .snoc hp e q⟩
theorem Pth.facts {es : Es} {n u v : Nat} {p : List Nat} (hb : ∀ e ∈ es, e.1 < n ∧ e.2 < n) (hu : u < n) (h : Pth es u p v) : p.Nodup ∧ ∀ x ∈ p, x < n := by
  induction h with
  | one => exact ⟨by simp, by simpa using hu⟩
  | snoc k e q ih =>
    rename_i p v w
    refine ⟨?_, fun x hx => ?_⟩
    · rw [List.nodup_append]
      exact ⟨ih.1, by simp, fun a ha b hb => by simp at hb; subst hb; exact fun z => q (z ▸ ha)⟩
    · rw [List.mem_append] at hx
      rcases hx with z | z
      · exact ih.2 x z
      · simp at z; subst z
        exact e.elim (fun z => (hb _ z).2) (fun z => (hb _ z).1)
/-! ### the least of a class, by going round -/
abbrev at_ (a : List Nat) (v : Nat) : Nat := a.getD v 0
theorem at_set {a : List Nat} {i v x : Nat} (hi : i < a.length) : at_ (a.set i x) v = if v = i then x else at_ a v := by
  unfold at_
  rw [List.getD_eq_getElem?_getD, List.getD_eq_getElem?_getD]
  by_cases q : v = i
  · subst q; rw [List.getElem?_set_self hi, if_pos rfl]; rfl
  · rw [List.getElem?_set_ne (fun z => q z.symm), if_neg q]
theorem at_mstep {a : List Nat} {e : Nat × Nat} {v : Nat} (h1 : e.1 < a.length) (h2 : e.2 < a.length) : at_ (mstep a e) v = if v = e.1 ∨ v = e.2 then min (at_ a e.1) (at_ a e.2) else at_ a v := by
  unfold mstep
  have m : (if a.getD e.2 0 < a.getD e.1 0 then a.getD e.2 0 else a.getD e.1 0) = min (at_ a e.1) (at_ a e.2) := by
    unfold at_
    split <;> omega
  rw [m, at_set (by rw [List.length_set]; exact h2), at_set h1]
  by_cases q : v = e.2
  · rw [if_pos q, if_pos (.inr q)]
  · rw [if_neg q]
    by_cases z : v = e.1
    · rw [if_pos z, if_pos (.inl z)]
    · rw [if_neg z, if_neg (by rintro (y | y); exact z y; exact q y)]
structure Lab (n : Nat) (es : Es) (a : List Nat) : Prop where
  len : a.length = n
  con : ∀ v < n, Conn es v (at_ a v)
theorem Lab.mstep {n : Nat} {es : Es} {a : List Nat} {e : Nat × Nat} (h : Lab n es a) (he : e ∈ es) (h1 : e.1 < n) (h2 : e.2 < n) : Lab n es (mstep a e) := by
  refine ⟨by rw [mstep_len, h.len], fun v hv => ?_⟩
  rw [at_mstep (by rw [h.len]; exact h1) (by rw [h.len]; exact h2)]
  split
  · rename_i q
    have c1 : Conn es v e.1 := by
      rcases q with q | q
      · rw [q]; exact .refl
      · rw [q]; exact .edge (.inr he)
    have c2 : Conn es e.1 e.2 := .edge (.inl he)
    rcases Nat.le_total (at_ a e.1) (at_ a e.2) with z | z
    · rw [Nat.min_eq_left z]; exact c1.trans (h.con _ h1)
    · rw [Nat.min_eq_right z]; exact (c1.trans c2).trans (h.con _ h2)
  · exact h.con v hv
theorem mstep_le {n : Nat} {a : List Nat} {e : Nat × Nat} (hl : a.length = n) (h1 : e.1 < n) (h2 : e.2 < n) (v : Nat) : at_ (mstep a e) v ≤ at_ a v := by
  rw [at_mstep (by omega) (by omega)]
  split
  · rename_i q
    rcases q with q | q <;> subst q
    · exact Nat.min_le_left _ _
    · exact Nat.min_le_right _ _
  · exact Nat.le_refl _
theorem round_ok {n : Nat} {es : Es} (hb : ∀ e ∈ es, e.1 < n ∧ e.2 < n) : ∀ (xs : Es), (∀ e ∈ xs, e ∈ es) → ∀ a, Lab n es a → Lab n es (xs.foldl Lw.mstep a) ∧ (∀ v, at_ (xs.foldl Lw.mstep a) v ≤ at_ a v) ∧ ∀ e ∈ xs, at_ (xs.foldl Lw.mstep a) e.1 ≤ at_ a e.2 ∧ at_ (xs.foldl Lw.mstep a) e.2 ≤ at_ a e.1
  | [], _, a, h => ⟨h, fun _ => Nat.le_refl _, by simp⟩
  | e :: xs, hs, a, h => by
    have he := hs e (by simp)
    obtain ⟨e1, e2⟩ := hb e he
    have h' := h.mstep he e1 e2
    obtain ⟨i1, i2, i3⟩ := round_ok hb xs (fun z hz => hs z (by simp [hz])) (Lw.mstep a e) h'
    have le := mstep_le (a := a) h.len e1 e2
    refine ⟨i1, fun v => Nat.le_trans (i2 v) (le v), fun z hz => ?_⟩
    rw [List.mem_cons] at hz
    rcases hz with rfl | hz
    · have a1 := at_mstep (a := a) (e := z) (v := z.1) (by rw [h.len]; exact e1) (by rw [h.len]; exact e2)
      have a2 := at_mstep (a := a) (e := z) (v := z.2) (by rw [h.len]; exact e1) (by rw [h.len]; exact e2)
      rw [if_pos (.inl rfl)] at a1
      rw [if_pos (.inr rfl)] at a2
      have b1 := i2 z.1
      have b2 := i2 z.2
      rw [List.foldl_cons]
      constructor
      · have := Nat.min_le_right (at_ a z.1) (at_ a z.2); omega
      · have := Nat.min_le_left (at_ a z.1) (at_ a z.2); omega
    · obtain ⟨c1, c2⟩ := i3 z hz
      exact ⟨Nat.le_trans c1 (le _), Nat.le_trans c2 (le _)⟩
def rounds (es : Es) (n : Nat) : Nat → List Nat
  | 0 => List.range n
  | k + 1 => mround es (rounds es n k)
theorem at_range {n v : Nat} (h : v < n) : at_ (List.range n) v = v := by
  unfold at_
  rw [List.getD_eq_getElem?_getD, List.getElem?_range h]
  rfl
theorem rounds_lab {n : Nat} {es : Es} (hb : ∀ e ∈ es, e.1 < n ∧ e.2 < n) : ∀ k, Lab n es (rounds es n k)
  | 0 => ⟨by simp [rounds], fun v hv => by
      show Conn es v (at_ (List.range n) v)
      rw [at_range hv]; exact .refl⟩
  | k + 1 => (round_ok hb es (fun _ z => z) _ (rounds_lab hb k)).1
theorem rounds_low {n u v : Nat} {es : Es} {p : List Nat} (hb : ∀ e ∈ es, e.1 < n ∧ e.2 < n) (hu : u < n) (h : Pth es u p v) : ∀ k, p.length ≤ k + 1 → at_ (rounds es n k) v ≤ u := by
  induction h with
  | one =>
    intro k _
    induction k with
    | zero => show at_ (List.range n) u ≤ u; rw [at_range hu]; exact Nat.le_refl _
    | succ k ih => exact Nat.le_trans ((round_ok hb es (fun _ z => z) _ (rounds_lab hb k)).2.1 u) (ih (by simp))
  | snoc hp e q ih =>
    rename_i p v w
    intro k hk
    rw [List.length_append, List.length_singleton] at hk
    cases k with
    | zero =>
      have : p ≠ [] := by cases hp <;> simp
      have := List.length_pos_iff.mpr this
      omega
    | succ k =>
      have i := ih k (by omega)
      have r := (round_ok hb es (fun _ z => z) _ (rounds_lab hb k)).2.2
      rcases e with e | e
      · exact Nat.le_trans (r _ e).2 i
      · exact Nat.le_trans (r _ e).1 i
theorem namesM_rounds (n : Nat) (es : Es) : namesM n es = rounds es n n := by
  have gen : ∀ (xs : List Nat) (k : Nat), xs.foldl (fun a _ => mround es a) (rounds es n k) = rounds es n (k + xs.length) := by
    intro xs
    induction xs with
    | nil => intro k; rfl
    | cons x xs ih =>
      intro k
      rw [List.foldl_cons, List.length_cons]
      have := ih (k + 1)
      rw [show k + 1 + xs.length = k + (xs.length + 1) by omega] at this
      exact this
  have := gen (List.range n) 0
  rw [List.length_range, Nat.zero_add] at this
  exact this
/-- labels tell who is connected -/
def Tells (n : Nat) (E : Es) (gs : List Nat) : Prop := gs.length = n ∧ ∀ a b, a < n → b < n → (at_ gs a = at_ gs b ↔ Conn E a b)
/-- the name of a node is the least of its class -/
theorem names_ok {n : Nat} {es : Es} (hb : ∀ e ∈ es, e.1 < n ∧ e.2 < n) : (namesM n es).length = n ∧ (∀ v < n, Conn es v (at_ (namesM n es) v)) ∧ ∀ u v, u < n → Conn es u v → at_ (namesM n es) v ≤ u := by
  rw [namesM_rounds]
  have l := rounds_lab hb n
  refine ⟨l.len, l.con, fun u v hu h => ?_⟩
  obtain ⟨p, hp⟩ := h.pth
  have f := hp.facts hb hu
  exact rounds_low hb hu hp n (Nat.le_trans (nodup_lt n p f.1 f.2) (by omega))
theorem names_eq {n u v : Nat} {es : Es} (hb : ∀ e ∈ es, e.1 < n ∧ e.2 < n) (hu : u < n) (hv : v < n) : at_ (namesM n es) u = at_ (namesM n es) v ↔ Conn es u v := by
  obtain ⟨_, h1, h2⟩ := names_ok hb
  constructor
  · intro e
    have a := h1 u hu
    have b := h1 v hv
    rw [← e] at b
    exact a.trans b.symm
  · intro c
    have a := h2 (at_ (namesM n es) u) v ((h1 u hu).lt hb hu) ((h1 u hu).symm.trans c)
    have b := h2 (at_ (namesM n es) v) u ((h1 v hv).lt hb hv) ((h1 v hv).symm.trans c.symm)
    omega
theorem at_map {gs : List Nat} {f : Nat → Nat} {v : Nat} (h : v < gs.length) : at_ (gs.map f) v = f (at_ gs v) := by
  unfold at_
  rw [List.getD_eq_getElem?_getD, List.getD_eq_getElem?_getD, List.getElem?_map, List.getElem?_eq_getElem h]
  rfl
theorem tells_range (n : Nat) : Tells n [] (List.range n) := by
  refine ⟨by simp, fun a b ha hb => ?_⟩
  rw [at_range ha, at_range hb]
  constructor
  · intro e; subst e; exact .refl
  · intro c
    cases c with
    | refl => rfl
    | step _ e => simp at e
theorem conn_sub {E E' : Es} {a b : Nat} (h : ∀ z ∈ E', Conn E z.1 z.2) (k : Conn E' a b) : Conn E a b := by
  induction k with
  | refl => exact .refl
  | step _ e ih =>
    rcases e with e | e
    · exact ih.trans (h _ e)
    · exact ih.trans (h _ e).symm
theorem tells_same {n : Nat} {E : Es} {gs : List Nat} {e : Nat × Nat} (h : Tells n E gs) (h1 : e.1 < n) (h2 : e.2 < n) (q : at_ gs e.1 = at_ gs e.2) : Tells n (E ++ [e]) gs := by
  refine ⟨h.1, fun a b ha hb => ?_⟩
  rw [h.2 a b ha hb]
  have c := (h.2 _ _ h1 h2).mp q
  constructor
  · exact Conn.mono (fun z hz => by simp [hz])
  · refine conn_sub fun z hz => ?_
    rw [List.mem_append] at hz
    rcases hz with y | y
    · exact .edge (.inl y)
    · simp at y; subst y; exact c
theorem tells_join {n : Nat} {E : Es} {gs : List Nat} {e : Nat × Nat} (h : Tells n E gs) (hb : ∀ z ∈ E, z.1 < n ∧ z.2 < n) (h1 : e.1 < n) (h2 : e.2 < n) : Tells n (E ++ [e]) (gs.map fun g => if g = at_ gs e.2 then at_ gs e.1 else g) := by
  have hl := h.1
  refine ⟨by simp [hl], fun a b ha hb' => ?_⟩
  rw [at_map (by omega), at_map (by omega)]
  have up : ∀ {x y : Nat}, x < n → y < n → at_ gs x = at_ gs y → Conn (E ++ [e]) x y := fun hx hy q => Conn.mono (fun z hz => by simp [hz]) ((h.2 _ _ hx hy).mp q)
  have je : Conn (E ++ [e]) e.1 e.2 := .edge (.inl (by simp))
  constructor
  · intro q
    by_cases qa : at_ gs a = at_ gs e.2
    · by_cases qb : at_ gs b = at_ gs e.2
      · exact up ha hb' (qa.trans qb.symm)
      · rw [if_pos qa, if_neg qb] at q
        exact ((up ha h2 qa).trans je.symm).trans (up h1 hb' q)
    · by_cases qb : at_ gs b = at_ gs e.2
      · rw [if_neg qa, if_pos qb] at q
        exact ((up ha h1 q).trans je).trans (up h2 hb' qb.symm)
      · rw [if_neg qa, if_neg qb] at q
        exact up ha hb' q
  · intro k
    have key : ∀ z ∈ E ++ [e], (if at_ gs z.1 = at_ gs e.2 then at_ gs e.1 else at_ gs z.1) = (if at_ gs z.2 = at_ gs e.2 then at_ gs e.1 else at_ gs z.2) := by
      intro z hz
      rw [List.mem_append] at hz
      rcases hz with y | y
      · have := hb z y
        have q := (h.2 z.1 z.2 this.1 this.2).mpr (.edge (.inl y))
        rw [q]
      · simp at y; subst y
        rw [if_pos rfl]
        split <;> rfl
    clear ha hb'
    induction k with
    | refl => rfl
    | step _ e' ih =>
      rcases e' with e' | e'
      · exact ih.trans (key _ e')
      · exact ih.trans (key _ e').symm
/-- what forest_of's labels tell, of the edges so far and of those chosen -/
theorem fAll_tells {n : Nat} (es : Es) (hb : ∀ e ∈ es, e.1 < n ∧ e.2 < n) : ∀ (xs : List ((Nat × Nat) × Nat)), (∀ x ∈ xs, es[x.2]? = some x.1) →
    Tells n (xs.map (·.1)) (fAll n xs).1 ∧ Tells n ((fAll n xs).2.map fun i => es.getD i (0, 0)) (fAll n xs).1 := by
  have gen : ∀ (k : Nat) (xs : List ((Nat × Nat) × Nat)), xs.length = k → (∀ x ∈ xs, es[x.2]? = some x.1) →
      Tells n (xs.map (·.1)) (fAll n xs).1 ∧ Tells n ((fAll n xs).2.map fun i => es.getD i (0, 0)) (fAll n xs).1 ∧ ∀ i ∈ (fAll n xs).2, ∃ x ∈ xs, x.2 = i := by
    intro k
    induction k with
    | zero =>
      intro xs hk _
      have : xs = [] := List.length_eq_zero_iff.mp hk
      subst this
      exact ⟨tells_range n, tells_range n, by simp [fAll]⟩
    | succ k ih =>
      intro xs hk hx
      have hne : xs ≠ [] := by intro z; subst z; simp at hk
      obtain ⟨ys, y, rfl⟩ : ∃ ys y, xs = ys ++ [y] := ⟨xs.dropLast, xs.getLast hne, (List.dropLast_concat_getLast hne).symm⟩
      obtain ⟨i1, i2, i3⟩ := ih ys (by simpa using hk) (fun z hz => hx z (by simp [hz]))
      have hy := hx y (by simp)
      have hm : y.1 ∈ es := List.mem_of_getElem? hy
      obtain ⟨b1, b2⟩ := hb _ hm
      have hg : es.getD y.2 (0, 0) = y.1 := by rw [List.getD_eq_getElem?_getD, hy]; rfl
      have bE : ∀ z ∈ ys.map (·.1), z.1 < n ∧ z.2 < n := fun z hz => by
        rw [List.mem_map] at hz
        obtain ⟨w, hw, rfl⟩ := hz
        exact hb _ (List.mem_of_getElem? (hx w (by simp [hw])))
      have bF : ∀ z ∈ ((fAll n ys).2.map fun i => es.getD i (0, 0)), z.1 < n ∧ z.2 < n := fun z hz => by
        rw [List.mem_map] at hz
        obtain ⟨i, hi, rfl⟩ := hz
        obtain ⟨x, hx', rfl⟩ := i3 i hi
        have := hx x (by simp [hx'])
        rw [List.getD_eq_getElem?_getD, this]
        exact hb _ (List.mem_of_getElem? this)
      rw [fAll_snoc, List.map_append]
      unfold fstep
      by_cases q : (fAll n ys).1.getD y.1.1 0 = (fAll n ys).1.getD y.1.2 0
      · rw [if_pos q]
        refine ⟨tells_same i1 b1 b2 q, i2, fun i hi => ?_⟩
        obtain ⟨x, h1, h2⟩ := i3 i hi
        exact ⟨x, by simp [h1], h2⟩
      · rw [if_neg q]
        refine ⟨tells_join i1 bE b1 b2, ?_, fun i hi => ?_⟩
        · rw [List.map_append]
          show Tells n (_ ++ [es.getD y.2 (0, 0)]) _
          rw [hg]
          exact tells_join i2 bF b1 b2
        · rw [List.mem_append] at hi
          rcases hi with z | z
          · obtain ⟨x, h1, h2⟩ := i3 i z
            exact ⟨x, by simp [h1], h2⟩
          · simp at z; exact ⟨y, by simp, z.symm⟩
  exact fun xs hx => ⟨(gen _ xs rfl hx).1, (gen _ xs rfl hx).2.1⟩
end Lw

set_option Elab.async false
set_option linter.all false
set_option maxRecDepth 100000
set_option maxHeartbeats 400000
/-! MQ: what walk_paths reaches. -/
namespace Lw
open DL
abbrev keys (P : Paths) : List Nat := P.map (·.1)
def AdjL (L : Rows) (v w : Nat) : Prop := ∃ x ∈ L.getD v [], x.2.2 = w
structure Stp (A : Nat → Prop) (s s' : Paths × List Nat) : Prop where
  up : ∀ k ∈ keys s.1, k ∈ keys s'.1
  lup : ∀ k ∈ s.2, k ∈ s'.2
  new : ∀ k ∈ keys s'.1, k ∈ keys s.1 ∨ (k ∈ s'.2 ∧ A k)
  cnt : s'.1.length + s.2.length = s.1.length + s'.2.length
theorem Stp.refl (A : Nat → Prop) (s : Paths × List Nat) : Stp A s s := ⟨fun _ h => h, fun _ h => h, fun _ h => .inl h, rfl⟩
theorem Stp.trans {A : Nat → Prop} {s s1 s2 : Paths × List Nat} (h : Stp A s s1) (k : Stp A s1 s2) : Stp A s s2 := by
  refine ⟨fun x hx => k.up x (h.up x hx), fun x hx => k.lup x (h.lup x hx), fun x hx => ?_, ?_⟩
  · rcases k.new x hx with z | z
    · rcases h.new x z with y | y
      · exact .inl y
      · exact .inr ⟨k.lup x y.1, y.2⟩
    · exact .inr z
  · have := h.cnt; have := k.cnt; omega
theorem Stp.imp {A A' : Nat → Prop} {s s1 : Paths × List Nat} (h : Stp A s s1) (i : ∀ k, A k → A' k) : Stp A' s s1 := ⟨h.up, h.lup, fun x hx => (h.new x hx).imp id (fun z => ⟨z.1, i x z.2⟩), h.cnt⟩
theorem stp_step (node : Nat) (s : Paths × List Nat) (x : Nat × Int × Nat) : Stp (fun k => k = x.2.2) s (wstep node s x) ∧ x.2.2 ∈ keys (wstep node s x).1 := by
  unfold wstep
  by_cases q : hasK s.1 x.2.2 = true
  · rw [if_pos q]
    exact ⟨Stp.refl _ s, hasK_iff.mp q⟩
  · rw [if_neg q]
    refine ⟨⟨fun k hk => ?_, fun k hk => ?_, fun k hk => ?_, ?_⟩, ?_⟩
    · show k ∈ (s.1 ++ _).map (·.1)
      rw [List.map_append, List.mem_append]; exact .inl hk
    · show k ∈ s.2 ++ _
      rw [List.mem_append]; exact .inl hk
    · have hk : k ∈ (s.1 ++ [(x.2.2, pathOf s.1 node ++ [(x.1, x.2.1)])]).map (·.1) := hk
      rw [List.map_append, List.mem_append] at hk
      rcases hk with z | z
      · exact .inl z
      · simp at z
        subst z
        exact .inr ⟨by simp, rfl⟩
    · simp; omega
    · simp
theorem stp_row (node : Nat) : ∀ (xs : List (Nat × Int × Nat)) (s : Paths × List Nat), Stp (fun k => ∃ x ∈ xs, x.2.2 = k) s (xs.foldl (wstep node) s) ∧ ∀ x ∈ xs, x.2.2 ∈ keys (xs.foldl (wstep node) s).1
  | [], s => ⟨Stp.refl _ s, by simp⟩
  | x :: xs, s => by
    obtain ⟨a1, a2⟩ := stp_step node s x
    obtain ⟨b1, b2⟩ := stp_row node xs (wstep node s x)
    refine ⟨(a1.imp fun k hk => ⟨x, by simp, hk.symm⟩).trans (b1.imp fun k ⟨y, h1, h2⟩ => ⟨y, by simp [h1], h2⟩), fun y hy => ?_⟩
    rw [List.mem_cons] at hy
    rcases hy with rfl | hy
    · exact b1.up _ a2
    · exact b2 y hy
theorem stp_level (L : Rows) : ∀ (ls : List Nat) (s : Paths × List Nat), Stp (fun k => ∃ v ∈ ls, AdjL L v k) s (ls.foldl (wnode L) s) ∧ ∀ v ∈ ls, ∀ w, AdjL L v w → w ∈ keys (ls.foldl (wnode L) s).1
  | [], s => ⟨Stp.refl _ s, by simp⟩
  | v :: ls, s => by
    obtain ⟨a1, a2⟩ := stp_row v (L.getD v []) s
    obtain ⟨b1, b2⟩ := stp_level L ls (wnode L s v)
    refine ⟨(a1.imp fun k hk => ⟨v, by simp, hk⟩).trans (b1.imp fun k ⟨y, h1, h2⟩ => ⟨y, by simp [h1], h2⟩), fun y hy w hw => ?_⟩
    rw [List.mem_cons] at hy
    rcases hy with rfl | hy
    · obtain ⟨x, hx, rfl⟩ := hw
      exact b1.up _ (a2 x hx)
    · exact b2 y hy w hw
theorem gr_row {n node : Nat} {P0 : Paths} : ∀ (xs : List (Nat × Int × Nat)) (s : Paths × List Nat), (∀ x ∈ xs, x.2.2 < n) → hasK P0 node = true → Gr n P0 s → Gr n P0 (xs.foldl (wstep node) s)
  | [], s, _, _, g => g
  | x :: xs, s, h, hk, g => by
    obtain ⟨k1, k2, k3, k4⟩ := wstep_kp (x := x) g.kp (g.up node hk) g.le (h x (by simp))
    refine gr_row xs (wstep node s x) (fun y hy => h y (by simp [hy])) hk ⟨k1, k2, fun k z => k3 k (g.up k z), fun k z => ?_⟩
    rcases k4 k z with y | y
    · exact k3 k (g.lt k y)
    · exact y
theorem gr_level {n : Nat} {P0 : Paths} {L : Rows} (hL : RowsOk n L) : ∀ (ls : List Nat) (s : Paths × List Nat), (∀ v ∈ ls, hasK P0 v = true) → Gr n P0 s → Gr n P0 (ls.foldl (wnode L) s)
  | [], s, _, g => g
  | v :: ls, s, h, g => gr_level hL ls (wnode L s v) (fun y hy => h y (by simp [hy])) (gr_row (L.getD v []) s (hL.row v) (h v (by simp)) g)
theorem wrun_ok {n : Nat} {L : Rows} (hL : RowsOk n L) (Q : Nat → Prop) (hQ : ∀ v w, Q v → AdjL L v w → Q w) : ∀ (k : Nat) (P : Paths) (ls : List Nat), Kp n P → (∀ v ∈ ls, hasK P v = true) → (∀ v ∈ keys P, v ∈ ls ∨ ∀ w, AdjL L v w → w ∈ keys P) → (∀ v ∈ keys P, Q v) →
    ((ls = [] ∧ 1 ≤ k) ∨ n + 2 ≤ k + P.length) → ∃ P', wrun L k P ls = some P' ∧ Kp n P' ∧ (∀ v ∈ keys P, v ∈ keys P') ∧ (∀ v ∈ keys P', ∀ w, AdjL L v w → w ∈ keys P') ∧ ∀ v ∈ keys P', Q v
  | 0, P, ls, hk, _, _, _, hf => by
    have := hk.len
    rcases hf with z | z <;> omega
  | k + 1, P, ls, hk, hls, hc, hq, hf => by
    unfold wrun
    by_cases q : ls = []
    · rw [if_pos q]
      subst q
      refine ⟨P, rfl, hk, fun _ z => z, fun v hv w hw => ?_, hq⟩
      rcases hc v hv with z | z
      · simp at z
      · exact z w hw
    · rw [if_neg q]
      obtain ⟨s1, s2⟩ := stp_level L ls (P, [])
      have g := gr_level (P0 := P) hL ls (P, []) hls ⟨hk, Nat.zero_le _, fun _ z => z, fun _ z => by simp at z⟩
      have ln := hk.len
      have hf : n + 2 ≤ k + 1 + P.length := by
        rcases hf with z | z
        · exact absurd z.1 q
        · exact z
      have cnt := s1.cnt
      have e : wlevel L P ls = ls.foldl (wnode L) (P, []) := rfl
      rw [← e] at s1 s2 g cnt
      obtain ⟨P', r1, r2, r3, r4, r5⟩ := wrun_ok hL Q hQ k (wlevel L P ls).1 (wlevel L P ls).2 g.kp g.lt (fun v hv => by
        rcases s1.new v hv with z | z
        · rcases hc v z with y | y
          · exact .inr (fun w hw => s2 v y w hw)
          · exact .inr (fun w hw => s1.up w (y w hw))
        · exact .inl z.1) (fun v hv => by
        rcases s1.new v hv with z | z
        · exact hq v z
        · obtain ⟨u, hu, ha⟩ := z.2
          exact hQ u v (hq u (hasK_iff.mp (hls u hu))) ha) (by
        simp at cnt
        cases z : (wlevel L P ls).2 with
        | nil => exact .inl ⟨rfl, by omega⟩
        | cons a l =>
          right
          rw [z] at cnt
          simp at cnt
          omega)
      exact ⟨P', r1, r2, fun v hv => r3 v (s1.up v hv), r4, r5⟩
/-- what a walk reaches -/
theorem reach_ok {n : Nat} {L : Rows} {FE : Es} (hL : RowsOk n L) (hn : n ≤ 900) (hA : ∀ v < n, ∀ w, AdjL L v w ↔ ((v, w) ∈ FE ∨ (w, v) ∈ FE)) (hb : ∀ e ∈ FE, e.1 < n ∧ e.2 < n) : Walks L n ∧ ∀ v < n, (reach L v).Nodup ∧ ∀ w, w ∈ reach L v ↔ Conn FE v w := by
  have main : ∀ v < n, ∃ P', wrun L 1000 [(v, [])] [v] = some P' ∧ Kp n P' ∧ ∀ w, w ∈ keys P' ↔ Conn FE v w := by
    intro v hv
    obtain ⟨P', r1, r2, r3, r4, r5⟩ := wrun_ok hL (fun w => Conn FE v w) (fun a b ha hab => ha.step ((hA a (ha.lt hb hv) b).mp hab)) 1000 [(v, [])] [v] ⟨by simp, by simpa using hv, by simp⟩ (by simp [hasK]) (fun w hw => .inl (by simpa using hw)) (fun w hw => by simp at hw; subst hw; exact .refl) (.inr (by simp; omega))
    refine ⟨P', r1, r2, fun w => ⟨r5 w, fun c => ?_⟩⟩
    induction c with
    | refl => exact r3 v (by simp)
    | step c e ih => exact r4 _ ih _ ((hA _ (c.lt hb hv) _).mpr e)
  refine ⟨fun v hv => ?_, fun v hv => ?_⟩
  · obtain ⟨P', r1, r2, _⟩ := main v hv
    exact ⟨P', r1, r2⟩
  · obtain ⟨P', r1, r2, r3⟩ := main v hv
    have e : reach L v = keys P' := by unfold reach; rw [r1]; rfl
    rw [e]
    exact ⟨r2.nd, r3⟩
end Lw

set_option Elab.async false
set_option linter.all false
set_option maxRecDepth 100000
set_option maxHeartbeats 400000
/-! MR: the components are the groups. -/
namespace Lw
open DL
theorem getD_set {L : Rows} {k v : Nat} {r : List (Nat × Int × Nat)} (hk : k < L.length) : (L.set k r).getD v [] = if v = k then r else L.getD v [] := by
  rw [List.getD_eq_getElem?_getD, List.getD_eq_getElem?_getD]
  by_cases q : v = k
  · subst q; rw [List.getElem?_set_self hk, if_pos rfl]; rfl
  · rw [List.getElem?_set_ne (fun z => q z.symm), if_neg q]
theorem adj_lput {L : Rows} {k v w : Nat} {x : Nat × Int × Nat} (hk : k < L.length) : AdjL (lput L k x) v w ↔ AdjL L v w ∨ (v = k ∧ x.2.2 = w) := by
  unfold AdjL lput
  rw [getD_set hk]
  by_cases q : v = k
  · subst q
    rw [if_pos rfl]
    constructor
    · rintro ⟨y, hy, e⟩
      rw [List.mem_append] at hy
      rcases hy with z | z
      · exact .inl ⟨y, z, e⟩
      · simp at z; subst z; exact .inr ⟨rfl, e⟩
    · rintro (⟨y, hy, e⟩ | ⟨_, e⟩)
      · exact ⟨y, List.mem_append.mpr (.inl hy), e⟩
      · exact ⟨x, List.mem_append.mpr (.inr (by simp)), e⟩
  · rw [if_neg q]
    constructor
    · exact .inl
    · rintro (h | ⟨h, _⟩)
      · exact h
      · exact absurd h q
abbrev FE (es : Es) (fs : List Nat) : Es := fs.map fun i => es.getD i (0, 0)
theorem adj_links {n : Nat} {es : Es} (hb : ∀ e ∈ es, e.1 < n ∧ e.2 < n) : ∀ (k : Nat) (fs : List Nat), fs.length = k → (∀ i ∈ fs, i < es.length) → ∀ v w, AdjL (linksA n es fs) v w ↔ ((v, w) ∈ FE es fs ∨ (w, v) ∈ FE es fs) := by
  intro k
  induction k with
  | zero =>
    intro fs hk _ v w
    have : fs = [] := List.length_eq_zero_iff.mp hk
    subst this
    constructor
    · rintro ⟨x, hx, _⟩
      have : (List.replicate n ([] : List (Nat × Int × Nat))).getD v [] = [] := by
        rw [List.getD_eq_getElem?_getD, List.getElem?_replicate]
        split <;> rfl
      have hx : x ∈ (List.replicate n ([] : List (Nat × Int × Nat))).getD v [] := hx
      rw [this] at hx
      simp at hx
    · rintro (h | h) <;> simp [FE] at h
  | succ k ih =>
    intro fs hk hf v w
    have hne : fs ≠ [] := by intro z; subst z; simp at hk
    obtain ⟨ys, y, rfl⟩ : ∃ ys y, fs = ys ++ [y] := ⟨fs.dropLast, fs.getLast hne, (List.dropLast_concat_getLast hne).symm⟩
    have i1 := ih ys (by simpa using hk) (fun i hi => hf i (by simp [hi])) v w
    have hy := hf y (by simp)
    have he : es.getD y (0, 0) ∈ es := by
      rw [List.getD_eq_getElem?_getD, List.getElem?_eq_getElem hy]
      exact List.getElem_mem hy
    obtain ⟨b1, b2⟩ := hb _ he
    have ll := (linksA_ok n es ys).1
    rw [linksA_snoc]
    unfold lstep FE
    rw [adj_lput (by rw [lput_len]; omega), adj_lput (by omega), i1, List.map_append, List.map_cons, List.map_nil]
    generalize es.getD y (0, 0) = e at *
    obtain ⟨t, h⟩ := e
    simp only [List.mem_append, List.map_cons, List.map_nil, List.mem_singleton, Prod.mk.injEq]
    constructor
    · rintro (((z | z) | ⟨z1, z2⟩) | ⟨z1, z2⟩)
      · exact .inl (.inl z)
      · exact .inr (.inl z)
      · exact .inl (.inr ⟨z1, z2.symm⟩)
      · exact .inr (.inr ⟨z2.symm, z1⟩)
    · rintro ((z | ⟨z1, z2⟩) | (z | ⟨z1, z2⟩))
      · exact .inl (.inl (.inl z))
      · exact .inl (.inr ⟨z1, z2.symm⟩)
      · exact .inl (.inl (.inr z))
      · exact .inr ⟨z2, z1.symm⟩
theorem fe_lt {n : Nat} {es : Es} (hb : ∀ e ∈ es, e.1 < n ∧ e.2 < n) {fs : List Nat} (hf : ∀ i ∈ fs, i < es.length) : ∀ e ∈ FE es fs, e.1 < n ∧ e.2 < n := by
  intro e he
  rw [List.mem_map] at he
  obtain ⟨i, hi, rfl⟩ := he
  have := hf i hi
  refine hb _ ?_
  rw [List.getD_eq_getElem?_getD, List.getElem?_eq_getElem this]
  exact List.getElem_mem this
theorem rows_ok {n : Nat} {es : Es} (hb : ∀ e ∈ es, e.1 < n ∧ e.2 < n) : RowsOk n (linksM n es) := by
  refine ⟨(linksA_ok n es _).1, fun r hr x hx => ?_⟩
  obtain ⟨v, hv, rfl⟩ := List.getElem_of_mem hr
  have : AdjL (linksM n es) v x.2.2 := ⟨x, by rw [List.getD_eq_getElem?_getD, List.getElem?_eq_getElem hv]; exact hx, rfl⟩
  have fl := fe_lt hb (forestM_lt n es)
  rcases (adj_links hb _ _ rfl (forestM_lt n es) v x.2.2).mp this with z | z
  · exact (fl _ z).2
  · exact (fl _ z).1
theorem zip_ok (es : Es) : ∀ x ∈ es.zipIdx, es[x.2]? = some x.1 := fun x hx => by
  have := List.mem_zipIdx_iff_getElem?.mp (show (x.1, x.2) ∈ es.zipIdx from hx)
  exact this
theorem conn_fe {n : Nat} {es : Es} (hb : ∀ e ∈ es, e.1 < n ∧ e.2 < n) {a b : Nat} (ha : a < n) (hb' : b < n) : Conn (FE es (forestM n es)) a b ↔ Conn es a b := by
  obtain ⟨t1, t2⟩ := fAll_tells (n := n) es hb es.zipIdx (zip_ok es)
  have e : es.zipIdx.map (·.1) = es := by simp
  rw [e] at t1
  exact (t2.2 a b ha hb').symm.trans (t1.2 a b ha hb')
theorem reach_es {n : Nat} {es : Es} (hn : n ≤ 900) (hb : ∀ e ∈ es, e.1 < n ∧ e.2 < n) : Walks (linksM n es) n ∧ ∀ v < n, (reach (linksM n es) v).Nodup ∧ ∀ w, w ∈ reach (linksM n es) v ↔ (w < n ∧ Conn es v w) := by
  have fl := fe_lt hb (forestM_lt n es)
  obtain ⟨h1, h2⟩ := reach_ok (rows_ok hb) hn (fun v _ w => adj_links hb _ _ rfl (forestM_lt n es) v w) fl
  refine ⟨h1, fun v hv => ⟨(h2 v hv).1, fun w => ?_⟩⟩
  rw [(h2 v hv).2]
  constructor
  · intro c
    have := c.lt fl hv
    exact ⟨this, (conn_fe hb hv this).mp c⟩
  · rintro ⟨l, c⟩
    exact (conn_fe hb hv l).mpr c
theorem sorted_ext : ∀ (l1 l2 : List Nat), l1.Pairwise (· < ·) → l2.Pairwise (· < ·) → (∀ a, a ∈ l1 ↔ a ∈ l2) → l1 = l2
  | [], [], _, _, _ => rfl
  | [], b :: l2, _, _, h => by have := (h b).mpr (by simp); simp at this
  | a :: l1, [], _, _, h => by have := (h a).mp (by simp); simp at this
  | a :: l1, b :: l2, p1, p2, h => by
    rw [List.pairwise_cons] at p1 p2
    have e : a = b := by
      have h1 := (h a).mp (by simp)
      have h2 := (h b).mpr (by simp)
      rw [List.mem_cons] at h1 h2
      rcases h1 with z | z
      · exact z
      · rcases h2 with y | y
        · exact y.symm
        · have := p2.1 a z
          have := p1.1 b y
          omega
    subst e
    congr 1
    refine sorted_ext l1 l2 p1.2 p2.2 (fun x => ⟨fun hx => ?_, fun hx => ?_⟩)
    · have := (h x).mp (by simp [hx])
      rw [List.mem_cons] at this
      rcases this with z | z
      · have := p1.1 x hx; omega
      · exact z
    · have := (h x).mpr (by simp [hx])
      rw [List.mem_cons] at this
      rcases this with z | z
      · have := p2.1 x hx; omega
      · exact z
theorem srtN_lt {l : List Nat} (h : l.Nodup) : (srtN l).Pairwise (· < ·) := by
  have le : (srtN l).Pairwise (· ≤ ·) := by
    unfold srtN
    have := List.pairwise_mergeSort (le := fun a b : Int => decide (a ≤ b)) (fun a b c h1 h2 => by simp at *; omega) (fun a b => by simp; omega) (l.map fun k : Nat => (k : Int))
    rw [List.pairwise_map]
    refine this.imp (fun {a b} hab => ?_)
    have := of_decide_eq_true hab
    omega
  have nd : (srtN l).Nodup := (srtN_perm l).nodup_iff.mpr h
  unfold List.Nodup at nd
  have := le.and nd
  exact this.imp (fun {a b} hab => by omega)
theorem range_lt (n : Nat) : (List.range n).Pairwise (· < ·) := List.pairwise_lt_range
def cls (n : Nat) (es : Es) (r : Nat) : List Nat := (List.range n).filter fun v => decide (at_ (namesM n es) v = r)
theorem cls_eq {n : Nat} {es : Es} (hn : n ≤ 900) (hb : ∀ e ∈ es, e.1 < n ∧ e.2 < n) {r : Nat} (hr : r < n) (q : at_ (namesM n es) r = r) : srtN (reach (linksM n es) r) = cls n es r := by
  obtain ⟨_, h2⟩ := reach_es hn hb
  obtain ⟨nd, hm⟩ := h2 r hr
  refine sorted_ext _ _ (srtN_lt nd) ((range_lt n).filter _) (fun a => ?_)
  rw [(srtN_perm _).mem_iff, hm, cls, List.mem_filter, List.mem_range, decide_eq_true_eq]
  constructor
  · rintro ⟨l, c⟩
    exact ⟨l, by rw [← (names_eq hb hr l).mpr c, q]⟩
  · rintro ⟨l, e⟩
    exact ⟨l, (names_eq hb hr l).mp (by rw [q, e])⟩
theorem comps_groups {n : Nat} {es : Es} (hn : n ≤ 900) (hb : ∀ e ∈ es, e.1 < n ∧ e.2 < n) : (compsA (linksM n es) n).1 = groupsM n es := by
  obtain ⟨nl, nc, nlow⟩ := names_ok hb
  obtain ⟨_, h2⟩ := reach_es hn hb
  have gen : ∀ m, m ≤ n → ((List.range m).foldl (cstep (linksM n es)) ([], [])).1 = ((List.range m).filter fun f => decide (at_ (namesM n es) f = f)).map (cls n es) ∧ ∀ k, k ∈ ((List.range m).foldl (cstep (linksM n es)) ([], [])).2 ↔ (k < n ∧ ∃ j < m, Conn es j k) := by
    intro m
    induction m with
    | zero => intro _; exact ⟨rfl, fun k => by simp⟩
    | succ m ih =>
      intro hm
      obtain ⟨i1, i2⟩ := ih (by omega)
      have hmn : m < n := by omega
      rw [List.range_succ, List.foldl_append, List.filter_append, List.map_append]
      show (cstep _ ((List.range m).foldl (cstep (linksM n es)) ([], [])) m).1 = _ ∧ ∀ k, k ∈ (cstep _ ((List.range m).foldl (cstep (linksM n es)) ([], [])) m).2 ↔ _
      generalize (List.range m).foldl (cstep (linksM n es)) ([], []) = s at i1 i2 ⊢
      have key : m ∈ s.2 ↔ ¬ at_ (namesM n es) m = m := by
        rw [i2]
        constructor
        · rintro ⟨_, j, hj, c⟩
          have := nlow j m (by omega) c
          omega
        · intro q
          have := nlow m m hmn .refl
          exact ⟨hmn, at_ (namesM n es) m, by omega, (nc m hmn).symm⟩
      unfold cstep
      by_cases q : m ∈ s.2
      · rw [if_pos q]
        have q' := key.mp q
        refine ⟨?_, fun k => ?_⟩
        · have ff : ([m].filter fun f => decide (at_ (namesM n es) f = f)) = [] := by rw [List.filter_cons, decide_eq_false q']; rfl
          rw [i1, ff, List.map_nil, List.append_nil]
        · rw [i2]
          constructor
          · rintro ⟨l, j, hj, c⟩; exact ⟨l, j, by omega, c⟩
          · rintro ⟨l, j, hj, c⟩
            refine ⟨l, ?_⟩
            by_cases e : j = m
            · subst e
              obtain ⟨_, j0, hj0, c0⟩ := (i2 j).mp q
              exact ⟨j0, hj0, c0.trans c⟩
            · exact ⟨j, by omega, c⟩
      · rw [if_neg q]
        have q' : at_ (namesM n es) m = m := Classical.byContradiction fun z => q (key.mpr z)
        refine ⟨?_, fun k => ?_⟩
        · show s.1 ++ [srtN (reach (linksM n es) m)] = _
          have ff : ([m].filter fun f => decide (at_ (namesM n es) f = f)) = [m] := by rw [List.filter_cons, decide_eq_true q']; rfl
          rw [i1, cls_eq hn hb hmn q', ff, List.map_cons, List.map_nil]
        · show k ∈ kadd s.2 (kadd [] (srtN (reach (linksM n es) m))) ↔ _
          rw [mem_kadd, mem_kadd, (srtN_perm _).mem_iff, (h2 m hmn).2, i2]
          constructor
          · rintro (⟨l, j, hj, c⟩ | z | ⟨l, c⟩)
            · exact ⟨l, j, by omega, c⟩
            · simp at z
            · exact ⟨l, m, by omega, c⟩
          · rintro ⟨l, j, hj, c⟩
            by_cases e : j = m
            · subst e; exact .inr (.inr ⟨l, c⟩)
            · exact .inl ⟨l, j, by omega, c⟩
  obtain ⟨g1, _⟩ := gen n (Nat.le_refl n)
  show ((List.range n).foldl (cstep (linksM n es)) ([], [])).1 = _
  rw [g1]
  unfold groupsM cls
  congr 1
  apply List.filter_congr
  intro f hf
  have hf : f < n := List.mem_range.mp hf
  rw [decide_eq_decide]
  constructor
  · intro e
    rw [← e]
    have : f < (namesM n es).length := by omega
    have e2 : at_ (namesM n es) f = (namesM n es)[f] := by
      unfold at_
      rw [List.getD_eq_getElem?_getD, List.getElem?_eq_getElem this]
      rfl
    rw [e2]
    exact List.getElem_mem this
  · intro h
    obtain ⟨v, hv, e⟩ := List.getElem_of_mem h
    have e2 : at_ (namesM n es) v = f := by
      unfold at_
      rw [List.getD_eq_getElem?_getD, List.getElem?_eq_getElem hv]
      exact e
    have c := nc v (by omega)
    rw [e2] at c
    have := (names_eq hb (by omega : v < n) hf).mpr c
    omega
end Lw

set_option Elab.async false
set_option linter.all false
set_option maxRecDepth 100000
set_option maxHeartbeats 400000
/-! MS: the edges chosen are the forest. -/
namespace Lw
open DL
def both (e : Nat × Nat) (g : List Nat) : Bool := decide (e.1 ∈ g) && decide (e.2 ∈ g)
def cstepL (n : Nat) (es : Es) (ch : List Nat) (i : Nat) : List Nat := if (groupsM n (es.take i)).filter (both (es.getD i (0, 0))) = [] then ch ++ [i] else ch
theorem apart {n : Nat} {es : Es} (hb : ∀ e ∈ es, e.1 < n ∧ e.2 < n) {e : Nat × Nat} (h1 : e.1 < n) (h2 : e.2 < n) : (groupsM n es).filter (both e) = [] ↔ ¬ Conn es e.1 e.2 := by
  obtain ⟨nl, nc, _⟩ := names_ok hb
  rw [← names_eq hb h1 h2, List.filter_eq_nil_iff]
  constructor
  · intro h q
    refine h ((List.range n).filter fun v => decide ((namesM n es).getD v 0 = at_ (namesM n es) e.1)) ?_ ?_
    · unfold groupsM
      rw [List.mem_map]
      refine ⟨at_ (namesM n es) e.1, ?_, rfl⟩
      rw [List.mem_filter, List.mem_range, decide_eq_true_eq]
      refine ⟨(nc _ h1).lt hb h1, ?_⟩
      have : e.1 < (namesM n es).length := by omega
      have e2 : at_ (namesM n es) e.1 = (namesM n es)[e.1] := by
        unfold at_
        rw [List.getD_eq_getElem?_getD, List.getElem?_eq_getElem this]
        rfl
      rw [e2]
      exact List.getElem_mem this
    · unfold both
      rw [Bool.and_eq_true, decide_eq_true_eq, decide_eq_true_eq, List.mem_filter, List.mem_filter, List.mem_range, List.mem_range, decide_eq_true_eq, decide_eq_true_eq]
      exact ⟨⟨h1, rfl⟩, h2, q.symm⟩
  · intro q g hg hh
    unfold groupsM at hg
    rw [List.mem_map] at hg
    obtain ⟨f, _, rfl⟩ := hg
    unfold both at hh
    rw [Bool.and_eq_true, decide_eq_true_eq, decide_eq_true_eq, List.mem_filter, List.mem_filter, decide_eq_true_eq, decide_eq_true_eq] at hh
    exact q (hh.1.2.trans hh.2.2.symm)
theorem chosen_eq {n : Nat} {es : Es} (hb : ∀ e ∈ es, e.1 < n ∧ e.2 < n) : (List.range es.length).foldl (cstepL n es) [] = forestM n es := by
  have gen : ∀ m, m ≤ es.length → (List.range m).foldl (cstepL n es) [] = (fAll n ((es.zipIdx).take m)).2 := by
    intro m
    induction m with
    | zero => intro _; rfl
    | succ m ih =>
      intro hm
      have i1 := ih (by omega)
      have hm' : m < es.length := by omega
      have hz : m < es.zipIdx.length := by rw [List.length_zipIdx]; exact hm'
      have ez : es.zipIdx[m] = (es[m], m) := by simp
      rw [List.range_succ, List.foldl_append, i1, List.take_succ_eq_append_getElem hz, fAll_snoc, ez]
      show cstepL n es _ m = _
      have he : es.getD m (0, 0) = es[m] := by rw [List.getD_eq_getElem?_getD, List.getElem?_eq_getElem hm']; rfl
      obtain ⟨h1, h2⟩ := hb _ (List.getElem_mem hm')
      have hb' : ∀ e ∈ es.take m, e.1 < n ∧ e.2 < n := fun e h => hb e (List.mem_of_mem_take h)
      obtain ⟨t1, _⟩ := fAll_tells (n := n) es hb (es.zipIdx.take m) (fun x hx => zip_ok es x (List.mem_of_mem_take hx))
      have et : (es.zipIdx.take m).map (·.1) = es.take m := by rw [List.map_take]; simp
      rw [et] at t1
      have ap := apart hb' (e := es[m]) h1 h2
      rw [← t1.2 _ _ h1 h2] at ap
      unfold cstepL fstep
      rw [he]
      by_cases q : (fAll n (es.zipIdx.take m)).1.getD es[m].1 0 = (fAll n (es.zipIdx.take m)).1.getD es[m].2 0
      · rw [if_pos q, if_neg (fun z => (ap.mp z) q)]
      · rw [if_neg q, if_pos (ap.mpr q)]
  have := gen es.length (Nat.le_refl _)
  rw [this]
  unfold forestM
  congr 2
  rw [List.take_of_length_le (by rw [List.length_zipIdx]; exact Nat.le_refl _)]
end Lw

set_option Elab.async false
set_option linter.all false
set_option maxRecDepth 100000
set_option maxHeartbeats 400000
/-! MT: the law's first walk: the edges chosen. -/
namespace DL
open PySem L2
theorem pys_map {α : Type} {M : Store} {k : Nat} (f : α → D) (g : α → PyData) : ∀ xs : List α, (∀ x ∈ xs, py M k (f x) = some (g x)) → pys M k (xs.map f) = some (xs.map g)
  | [], _ => by rw [List.map_nil, pys]; rfl
  | x :: xs, h => by
    rw [List.map_cons, pys, h x (by simp), pys_map f g xs (fun y hy => h y (by simp [hy]))]
    rfl
theorem py_lst {M : Store} {k : Nat} {l : List D} {as : List PyData} (h : pys M k l = some as) : py M (k + 1) (.lst l) = some (.list as) := by
  rw [py]
  simp only [h, Option.map_some]
theorem py_ref {M : Store} {k q : Nat} {l : List D} {as : List PyData} (hq : M[q]? = some (.lst, l)) (h : pys M k l = some as) : py M (k + 1) (.ref q) = some (.list as) := by
  rw [py]
  simp only [hq, h, Option.map_some]
abbrev pyN (k : Nat) : PyData := .int (k : Int)
def pyR (a : List Nat) : PyData := .list (a.map pyN)
theorem pys_nI (M : Store) (k : Nat) (a : List Nat) : pys M (k + 1) (a.map nI) = some (a.map pyN) := pys_map _ _ a (fun x _ => py_int M k x)
theorem eqvAll_self {α : Type} (f : α → PyData) (h : ∀ x, PyData.eqv (f x) (f x) = true) : ∀ xs : List α, PyData.eqvAll (xs.map f) (xs.map f) = true
  | [] => by rw [List.map_nil, PyData.eqvAll]
  | x :: xs => by rw [List.map_cons, PyData.eqvAll, h x, eqvAll_self f h xs]; rfl
theorem eqv_pyN (k : Nat) : PyData.eqv (pyN k) (pyN k) = true := by rw [PyData.eqv]; simp
theorem eqv_pyR (a : List Nat) : PyData.eqv (pyR a) (pyR a) = true := by
  unfold pyR
  rw [PyData.eqv]
  exact eqvAll_self _ eqv_pyN a
theorem eq_ok {neg : Bool} {x y : D} {a b : PyData} {M : Store} (hx : py M 9 x = some a) (hy : py M 9 y = some b) : eqE neg x y M = .ok (.bl (neg ^^ PyData.eqv a b)) M := by
  unfold eqE
  rw [hx, hy]
theorem and_ok {f g : Lo → Ev Bool} {S : Lo} {M : Store} {a b : Bool} (h : f S M = .ok a M) (k : g S M = .ok b M) : eAnd f g S M = .ok (a && b) M := by
  unfold eAnd
  rw [bnd_ok h]
  cases a with
  | true => exact k
  | false => rfl
theorem slice_ok {f g : Lo → Ev D} {S : Lo} {M : Store} {l : List D} {k : Nat} (h : f S M = .ok (.lst l) M) (hg : g S M = .ok (nI k) M) : eF (nSl f oNo (oSo g)) S M = .ok (.lst (l.take k)) M := by
  refine fl_ok ?_
  unfold nSl oNo oSo
  rw [bnd_ok h]
  have h2 : ((g S).bnd asI) M = .ok (some (k : Int)) M := by rw [bnd_ok hg]; rfl
  rw [bnd_ok (show Ev.ret (none : Option Int) M = .ok none M from rfl), bnd_ok h2]
  show Out.ok (NR.n .lst (cutD l none (some (k : Int)))) M = _
  unfold cutD
  rw [HT.sIx_none, HT.sIx_nat, Nat.sub_zero, List.drop_zero]
  congr 2
  rcases Nat.le_total k l.length with z | z
  · rw [Nat.min_eq_left z]
  · rw [Nat.min_eq_right z, List.take_of_length_le (Nat.le_refl _), List.take_of_length_le z]
theorem iseq_ref {f : Lo → Ev D} {S : Lo} {M : Store} {q : Nat} {l : List D} (hf : f S M = .ok (.ref q) M) (hq : M[q]? = some (.lst, l)) : iSeq f S M = .ok (l, some (q, (.lst, l))) M := by
  have h1 : vw (.ref q) M = .ok (.lst, l) M := by simp only [vw, hq]
  unfold iSeq
  rw [bnd_ok hf]
  unfold itSq
  rw [bnd_ok h1]
  rfl
end DL
namespace Lw
open PySem L2 DL
noncomputable abbrev aBody : Lo → Ev Fl := sSeq (sAsg (eCall (callD 2 F__law_groups) (eAc (eVar 3) (eAc (eF (nSl (eVar 4) oNo (oSo (eVar 7)))) eA0))) (gNm 8)) (sSeq (sAsg (e2 ixE (eVar 4) (eVar 7)) (gTp 2 (gCn (gNm 9) (gCn (gNm 10) gNl)))) (sIf (eB (e2 (eqE false) (eF (nLc (iSeq (eVar 8)) (gNm 13) (eAnd (eB (e2 (inE false) (eVar 9) (eVar 13))) (eB (e2 (inE false) (eVar 10) (eVar 13)))) (eVar 13) [13])) (eF (nNew .lst eA0)))) (sExp (eBm (cellM opAppend) (eVar 6) (eAc (eVar 7) eA0))) sNext))
theorem a_body {B Z : Store} {n i : Nat} {es : Es} {ch : List Nat} {d0 d1 d2 d5 : D} {o8 o9 o10 o11 o12 : Option D} (hn : n ≤ 900) (hb : ∀ e ∈ es, e.1 < n ∧ e.2 < n) (hi : i < es.length) (hc : ch.length < 900) :
    ∃ o8' o9' o10' Z', aBody [some d0, some d1, some d2, some (nI n), some (.lst (es.map encE)), some d5, some (.ref B.length), some (nI i), o8, o9, o10, o11, o12, none] (B ++ ((.lst, ch.map nI) :: Z)) = .ok (.nx [some d0, some d1, some d2, some (nI n), some (.lst (es.map encE)), some d5, some (.ref B.length), some (nI i), o8', o9', o10', o11, o12, none]) (B ++ ((.lst, (cstepL n es ch i).map nI) :: Z')) := by
  have hb' : ∀ e ∈ es.take i, e.1 < n ∧ e.2 < n := fun e h => hb e (List.mem_of_mem_take h)
  have he : es.getD i (0, 0) = es[i] := by rw [List.getD_eq_getElem?_getD, List.getElem?_eq_getElem hi]; rfl
  have ge : (es.map encE)[i]? = some (encE es[i]) := by rw [List.getElem?_map, List.getElem?_eq_getElem hi]; rfl
  generalize hX : B ++ (((Tg.lst, ch.map nI) : Tg × List D) :: Z) = X
  have gr := groups_ok (M := X) (n := n) (es := es.take i) hn hb'
  have sl := slice_ok (f := eVar 4) (g := eVar 7) (S := [some d0, some d1, some d2, some (nI n), some (.lst (es.map encE)), some d5, some (.ref B.length), some (nI i), o8, o9, o10, o11, o12, none]) (M := X) (l := es.map encE) (k := i) (v_ok rfl) (v_ok rfl)
  rw [← List.map_take] at sl
  generalize hX2 : X ++ [(Tg.lst, (namesM n (es.take i)).map nI), (Tg.lst, (groupsM n (es.take i)).map rowN)] = X2 at gr
  have gq : X2[X.length + 1]? = some (Tg.lst, (groupsM n (es.take i)).map rowN) := by rw [← hX2, get_app]; rfl
  have gc : X2[B.length]? = some (Tg.lst, ch.map nI) := by
    rw [← hX2, ← hX, List.append_assoc]
    have := get_app (M := B) (X := ((Tg.lst, ch.map nI) :: Z) ++ [(Tg.lst, (namesM n (es.take i)).map nI), (Tg.lst, (groupsM n (es.take i)).map rowN)]) (k := 0)
    simpa using this
  have cm := DL.comp_map (enc := rowN) (tg := gNm 13) (tt := eAnd (eB (e2 (inE false) (eVar 9) (eVar 13))) (eB (e2 (inE false) (eVar 10) (eVar 13)))) (te := eVar 13) (g := some (X.length + 1, (Tg.lst, (groupsM n (es.take i)).map rowN))) (S := [some d0, some d1, some d2, some (nI n), some (.lst (es.map encE)), some d5, some (.ref B.length), some (nI i), some (.ref (X.length + 1)), some (nI es[i].1), some (nI es[i].2), o11, o12, none]) (M := X2)
    (both es[i]) rowN gq (groupsM n (es.take i)) (fun g _ => ⟨_, g_nm _ _ _ _, and_ok (b_ok (e2_ret (v_ok rfl) (v_ok rfl) (in_nd rfl))) (b_ok (e2_ret (v_ok rfl) (v_ok rfl) (in_nd rfl))), fun _ => v_ok rfl⟩)
  by_cases big : (groupsM n (es.take i)).length ≤ 1000
  case neg =>
    exfalso
    apply big
    unfold groupsM
    rw [List.length_map]
    exact Nat.le_trans (List.length_filter_le _ _) (by rw [List.length_range]; omega)
  have lc := fl_ok (lc_ok (vs := [13]) (iseq_ref (f := eVar 8) (S := [some d0, some d1, some d2, some (nI n), some (.lst (es.map encE)), some d5, some (.ref B.length), some (nI i), some (.ref (X.length + 1)), some (nI es[i].1), some (nI es[i].2), o11, o12, none]) (v_ok rfl) gq) (sl_le (by rw [List.length_map]; exact big)) cm)
  have p1 : py X2 9 (.lst (((groupsM n (es.take i)).filter (both es[i])).map rowN)) = some (.list (((groupsM n (es.take i)).filter (both es[i])).map pyR)) := py_lst (pys_map _ _ _ fun g _ => py_lst (pys_nI X2 6 g))
  have p2 : py X2 9 (.lst []) = some (.list []) := py_lst (by rw [pys])
  have e0 := fl_ok (new_ok (t := .lst) (f := eA0) (S := [some d0, some d1, some d2, some (nI n), some (.lst (es.map encE)), some d5, some (.ref B.length), some (nI i), some (.ref (X.length + 1)), some (nI es[i].1), some (nI es[i].2), o11, o12, none]) (M := X2) a0_ok (by simp))
  have t := b_ok (e2x (op := eqE false) lc e0 (eq_ok (neg := false) p1 p2))
  have hd : (false ^^ PyData.eqv (.list (((groupsM n (es.take i)).filter (both es[i])).map pyR)) (.list [])) = decide ((groupsM n (es.take i)).filter (both es[i]) = []) := by
    rw [PyData.eqv, Bool.false_xor]
    cases (groupsM n (es.take i)).filter (both es[i]) with
    | nil => rw [List.map_nil, PyData.eqvAll]; simp
    | cons a l => rw [List.map_cons, PyData.eqvAll]; simp
  rw [hd] at t
  have r1 := asg_nm (i := 8) (call_okr (F := F__law_groups) (n := 2) (ac_ok (f := eVar 3) (v_ok (d := nI n) rfl) (ac_ok sl a0_ok)) gr rfl)
  have r2 := asg_g (f := e2 ixE (eVar 4) (eVar 7)) (g := gTp 2 (gCn (gNm 9) (gCn (gNm 10) gNl))) (S := [some d0, some d1, some d2, some (nI n), some (.lst (es.map encE)), some d5, some (.ref B.length), some (nI i), some (.ref (X.length + 1)), o9, o10, o11, o12, none]) (M := X2) (e2_ret (v_ok rfl) (v_ok rfl) (ix_ret rfl ge)) (gtp2 (g_nm _ _ _ _) (g_nm _ _ _ _))
  refine ⟨some (.ref (X.length + 1)), some (nI es[i].1), some (nI es[i].2), Z ++ [(Tg.lst, (namesM n (es.take i)).map nI), (Tg.lst, (groupsM n (es.take i)).map rowN)], ?_⟩
  refine Eq.trans (seq_nx r1) (Eq.trans (seq_nx r2) (Eq.trans (if_ok t) ?_))
  unfold cstepL
  rw [he]
  by_cases q : (groupsM n (es.take i)).filter (both es[i]) = []
  · rw [decide_eq_true q, if_pos rfl, if_pos q]
    have ap := append_ok (fo := eVar 6) (fa := eAc (eVar 7) eA0) (S := [some d0, some d1, some d2, some (nI n), some (.lst (es.map encE)), some d5, some (.ref B.length), some (nI i), some (.ref (X.length + 1)), some (nI es[i].1), some (nI es[i].2), o11, o12, none]) (M := X2) (v_ok rfl) gc (ac_ok (v_ok rfl) a0_ok) gc (by rw [List.length_map]; omega)
    refine Eq.trans (exp_ok ap) ?_
    congr 1
    rw [← hX2, ← hX, List.append_assoc]
    have := set_app' (M := B) (X := ((Tg.lst, ch.map nI) :: Z) ++ [(Tg.lst, (namesM n (es.take i)).map nI), (Tg.lst, (groupsM n (es.take i)).map rowN)]) (k := 0) (c := (Tg.lst, ch.map nI ++ [nI i]))
    simpa using this
  · rw [decide_eq_false q, if_neg (by decide), if_neg q, ← hX2, ← hX, List.append_assoc]
    rfl
end Lw

set_option Elab.async false
set_option linter.all false
set_option maxRecDepth 100000
set_option maxHeartbeats 400000
/-! MU: the law's second walk. -/
namespace Lw
open PySem L2 DL
theorem wcomps_ok {M : Store} {n m : Nat} {es : Es} (hn : n ≤ 60) (hb : ∀ e ∈ es, e.1 < n ∧ e.2 < n) : F_Web_components [webD n m es] M = .ok (.ref M.length) (stC M (groupsM n es) (compsA (linksM n es) n).2) := by
  have c := comps_ok (M := M) (rows_ok hb) hn (reach_es (by omega) hb).1
  rw [comps_groups (by omega) hb] at c
  refine run_rt ?_
  have e : startD 1 [webD n m es] = [some (webD n m es)] := rfl
  rw [e]
  unfold g_Web_components
  have f : fldE "Web" "links" (webD n m es) = Ev.ret (.lst ((linksM n es).map rowD)) := fld_nd (ns := webN) rfl
  exact ret_ok (call_okr (ac_ok (e1_ok (v_ok rfl) (by rw [f]; rfl)) a0_ok) c rfl)
theorem wforest_ok {M : Store} {n m : Nat} {es : Es} : F_Web_forest [webD n m es] M = .ok (.ref M.length) (M ++ [(.lst, (forestM n es).map nI)]) := by
  refine run_rt ?_
  have e : startD 1 [webD n m es] = [some (webD n m es)] := rfl
  rw [e]
  unfold g_Web_forest
  have f : fldE "Web" "own_forest" (webD n m es) = Ev.ret (.lst ((forestM n es).map nI)) := fld_nd (ns := webN) rfl
  refine ret_ok (cl_ok ?_)
  unfold nCall
  rw [bnd_ok (ac_ok (e1_ok (f := eVar 0) (v_ok rfl) (show fldE "Web" "own_forest" (webD n m es) M = .ok (.lst ((forestM n es).map nI)) M by rw [f]; rfl)) a0_ok)]
  rfl
theorem meth_ok {mt : Str} {F : List D → Ev D} {fo : Lo → Ev D} {S : Lo} {M M2 : Store} {n m : Nat} {es : Es} {d : D} (hm : mt ∉ webN) (ho : fo S M = .ok (webD n m es) M) (hF : F [webD n m es] M = .ok d M2) : eMeth "Web" mt 1 F [] fo eA0 S M = .ok d M2 := by
  have i : DL.isObj "Web" mt (webD n m es) M = .ok () M := by
    unfold DL.isObj webD
    simp only [vw, Ev.bnd, Ev.ret, Out.bnd]
    rw [if_pos ⟨trivial, hm⟩]
    rfl
  unfold eMeth
  rw [bnd_ok ho, bnd_ok i, bnd_ok a0_ok]
  simp only [List.append_nil, callD, List.length_cons, List.length_nil]
  exact hF
theorem clear_ok {fo : Lo → Ev D} {S : Lo} {M : Store} {q : Nat} {l : List D} (h : fo S M = .ok (.ref q) M) (hq : M[q]? = some (.lst, l)) : eBm (cellM opClear) fo eA0 S M = .ok .non (M.set q (.lst, [])) := by
  simp only [eBm, Ev.bnd, h, Out.bnd, isCellL, hq, a0_ok, cellM, opClear]
theorem groups_ne {n : Nat} {es : Es} (h1 : 1 ≤ n) (hb : ∀ e ∈ es, e.1 < n ∧ e.2 < n) : ∃ g gs, groupsM n es = g :: gs := by
  obtain ⟨nl, nc, nlow⟩ := names_ok hb
  have z : at_ (namesM n es) 0 = 0 := Nat.le_zero.mp (nlow 0 0 (by omega) .refl)
  have h0 : 0 < (namesM n es).length := by omega
  have m0 : 0 ∈ namesM n es := by
    have e2 : at_ (namesM n es) 0 = (namesM n es)[0] := by
      unfold at_
      rw [List.getD_eq_getElem?_getD, List.getElem?_eq_getElem h0]
      rfl
    rw [z] at e2
    rw [e2]
    exact List.getElem_mem h0
  have : ((List.range n).filter fun v => decide ((namesM n es).getD v 0 = 0)) ∈ groupsM n es := by
    unfold groupsM
    rw [List.mem_map]
    exact ⟨0, by rw [List.mem_filter, List.mem_range, decide_eq_true_eq]; exact ⟨by omega, m0⟩, rfl⟩
  cases q : groupsM n es with
  | nil => rw [q] at this; simp at this
  | cons g gs => exact ⟨g, gs, rfl⟩
theorem py_found {X Y : Store} {C : List (List Nat)} {K : List Nat} : py (stC X C K ++ Y) 9 (.ref X.length) = some (.list (C.map pyR)) := by
  have hf : (stC X C K ++ Y)[X.length]? = some (fcell X.length C) := stC_f X C K Y
  have e : C.map pyR = (List.range C.length).map fun j => pyR (C.getD j []) := by
    apply List.ext_getElem?
    intro i
    rw [List.getElem?_map, List.getElem?_map]
    by_cases q : i < C.length
    · rw [List.getElem?_range q, Option.map_some, List.getD_eq_getElem?_getD, List.getElem?_eq_getElem q]
      rfl
    · rw [List.getElem?_eq_none (by omega), List.getElem?_eq_none (by rw [List.length_range]; omega)]
      rfl
  rw [e]
  refine py_ref hf (pys_map _ _ _ fun j hj => ?_)
  have hj : j < C.length := List.mem_range.mp hj
  have hc : (stC X C K ++ Y)[X.length + (j + 2)]? = some (.lst, (C.getD j []).map nI) := by
    unfold stC
    rw [List.append_assoc, get_app, List.cons_append, List.cons_append, List.getElem?_cons_succ, List.getElem?_cons_succ, List.getElem?_append_left (by rw [List.length_map]; exact hj), List.getElem?_map, List.getD_eq_getElem?_getD, List.getElem?_eq_getElem hj]
    rfl
  exact py_ref hc (pys_nI _ 6 _)
noncomputable abbrev bBody : Lo → Ev Fl := sSeq (sPar 8 12 (eAc (eMeth ("Web" : Str) ("components" : Str) 1 F_Web_components [] (eVar 5) eA0) (eAc (eMeth ("Web" : Str) ("forest" : Str) 1 F_Web_forest [] (eVar 5) eA0) eA0))) (sSeq (sIf (eOr (eB (e2 (eqE true) (eVar 8) (eFz (eCall (callD 2 F__law_groups) (eAc (eVar 3) (eAc (eVar 4) eA0)))))) (eB (e2 (eqE true) (eVar 12) (eVar 6)))) (sRet (eC (.bl false))) sNext) (sSeq (sExp (eBm (cellM opClear) (e2 ixE (eVar 8) (eC (.int 0))) eA0)) (sSeq (sExp (eBm (cellM opClear) (eVar 8) eA0)) (sExp (eBm (cellM opAppend) (eVar 12) (eAc (eC (.int 0)) eA0))))))
theorem par_ok {i j : Nat} {fa : Lo → Ev (List D)} {S : Lo} {M M1 : Store} {x y : D} (h : fa S M = .ok [x, y] M1) : sPar i j fa S M = .ok (.nx ((S.set i (some x)).set j (some y))) M1 := by
  unfold sPar Ev.flG
  rw [h]
  rfl
theorem b_body {X : Store} {b n m : Nat} {es : Es} {d0 d1 d2 : D} {o7 o8 o9 o10 o11 o12 : Option D} (h1 : 1 ≤ n) (hn : n ≤ 60) (hl : es.length ≤ 60) (hb : ∀ e ∈ es, e.1 < n ∧ e.2 < n) (hc : X[b]? = some (.lst, (forestM n es).map nI)) :
    ∃ o8' o12' Y, bBody [some d0, some d1, some d2, some (nI n), some (.lst (es.map encE)), some (webD n m es), some (.ref b), o7, o8, o9, o10, o11, o12, none] X = .ok (.nx [some d0, some d1, some d2, some (nI n), some (.lst (es.map encE)), some (webD n m es), some (.ref b), o7, o8', o9, o10, o11, o12', none]) (X ++ Y) := by
  have c1 := wcomps_ok (M := X) (m := m) hn hb
  generalize (compsA (linksM n es) n).2 = K at c1
  generalize hM1 : stC X (groupsM n es) K = M1 at c1
  have c2 := wforest_ok (M := M1) (n := n) (m := m) (es := es)
  have a := par_ok (i := 8) (j := 12) (ac_ok (meth_ok (mt := "components") (fo := eVar 5) (S := [some d0, some d1, some d2, some (nI n), some (.lst (es.map encE)), some (webD n m es), some (.ref b), o7, o8, o9, o10, o11, o12, none]) (by decide +kernel) (v_ok rfl) c1) (ac_ok (meth_ok (mt := "forest") (fo := eVar 5) (by decide +kernel) (v_ok rfl) c2) a0_ok))
  generalize hM2 : M1 ++ [(Tg.lst, (forestM n es).map nI)] = M2 at a c2
  have bl : b < X.length := by
    rcases Nat.lt_or_ge b X.length with z | z
    · exact z
    · rw [List.getElem?_eq_none z] at hc; cases hc
  have M2e : M2 = X ++ ((fcell X.length (groupsM n es) :: tcell K :: (groupsM n es).map ccell) ++ [(Tg.lst, (forestM n es).map nI)]) := by rw [← hM2, ← hM1]; unfold stC; rw [List.append_assoc]
  have g := groups_ok (M := M2) (n := n) (es := es) (by omega) hb
  have gz : eFz (eCall (callD 2 F__law_groups) (eAc (eVar 3) (eAc (eVar 4) eA0))) [some d0, some d1, some d2, some (nI n), some (.lst (es.map encE)), some (webD n m es), some (.ref b), o7, some (.ref X.length), o9, o10, o11, some (.ref M1.length), none] M2 = .ok (.lst ((groupsM n es).map rowN)) M2 := by
    refine fcall_app (ac_ok (v_ok rfl) (ac_ok (v_ok rfl) a0_ok)) rfl g ?_
    exact fz_ref (by omega) (by rw [get_app]; rfl) (fzs_id _ _ _ _ (rl_map _ _ (fun r => by unfold rowN; rw [rlt]; exact rl_map _ nI (rl_nI _) r) _))
  have p1 : py M2 9 (.ref X.length) = some (.list ((groupsM n es).map pyR)) := by rw [← hM2, ← hM1]; exact py_found
  have p2 : py M2 9 (.lst ((groupsM n es).map rowN)) = some (.list ((groupsM n es).map pyR)) := py_lst (pys_map _ _ _ fun g _ => py_lst (pys_nI M2 6 g))
  have gf : M2[M1.length]? = some (Tg.lst, (forestM n es).map nI) := by rw [← hM2]; exact get_last
  have gb : M2[b]? = some (Tg.lst, (forestM n es).map nI) := by rw [M2e, List.getElem?_append_left bl]; exact hc
  have p3 : py M2 9 (.ref M1.length) = some (pyR (forestM n es)) := py_ref gf (pys_nI M2 7 _)
  have p4 : py M2 9 (.ref b) = some (pyR (forestM n es)) := py_ref gb (pys_nI M2 7 _)
  have t1 := b_ok (e2x (op := eqE true) (fa := eVar 8) (S := [some d0, some d1, some d2, some (nI n), some (.lst (es.map encE)), some (webD n m es), some (.ref b), o7, some (.ref X.length), o9, o10, o11, some (.ref M1.length), none]) (v_ok rfl) gz (eq_ok (neg := true) p1 p2))
  have q1 : PyData.eqv (.list ((groupsM n es).map pyR)) (.list ((groupsM n es).map pyR)) = true := by rw [PyData.eqv]; exact eqvAll_self _ eqv_pyR _
  rw [q1] at t1
  have t2 := b_ok (e2x (op := eqE true) (fa := eVar 12) (fb := eVar 6) (S := [some d0, some d1, some d2, some (nI n), some (.lst (es.map encE)), some (webD n m es), some (.ref b), o7, some (.ref X.length), o9, o10, o11, some (.ref M1.length), none]) (v_ok rfl) (v_ok rfl) (eq_ok (neg := true) p3 p4))
  rw [eqv_pyR] at t2
  obtain ⟨g0, gs, hg⟩ := groups_ne h1 hb
  have f0 : M2[X.length]? = some (fcell X.length (groupsM n es)) := by
    rw [M2e]
    have := get_app (M := X) (X := (fcell X.length (groupsM n es) :: tcell K :: (groupsM n es).map ccell) ++ [(Tg.lst, (forestM n es).map nI)]) (k := 0)
    simpa using this
  have i0 : e2 ixE (eVar 8) (eC (.int 0)) [some d0, some d1, some d2, some (nI n), some (.lst (es.map encE)), some (webD n m es), some (.ref b), o7, some (.ref X.length), o9, o10, o11, some (.ref M1.length), none] M2 = .ok (.ref (X.length + 2)) M2 := by
    refine e2x (v_ok rfl) (c_ok _ _ _) (ix_ref (k := 0) f0 rfl ?_)
    rw [hg, List.length_cons, List.getElem?_map, List.getElem?_range (by omega)]
    rfl
  have g2 : M2[X.length + 2]? = some (Tg.lst, g0.map nI) := by
    rw [M2e, get_app, hg]
    rfl
  have cl1 := clear_ok i0 g2
  have M3e : M2.set (X.length + 2) (Tg.lst, []) = X ++ ((fcell X.length (groupsM n es) :: tcell K :: (Tg.lst, []) :: gs.map ccell) ++ [(Tg.lst, (forestM n es).map nI)]) := by
    rw [M2e, set_app', hg]
    rfl
  generalize M2.set (X.length + 2) (Tg.lst, []) = M3 at cl1 M3e
  have f3 : M3[X.length]? = some (fcell X.length (groupsM n es)) := by
    rw [M3e]
    have := get_app (M := X) (X := (fcell X.length (groupsM n es) :: tcell K :: (Tg.lst, []) :: gs.map ccell) ++ [(Tg.lst, (forestM n es).map nI)]) (k := 0)
    simpa using this
  have cl2 := clear_ok (fo := eVar 8) (S := [some d0, some d1, some d2, some (nI n), some (.lst (es.map encE)), some (webD n m es), some (.ref b), o7, some (.ref X.length), o9, o10, o11, some (.ref M1.length), none]) (v_ok rfl) f3
  have M4e : M3.set X.length (Tg.lst, []) = X ++ (((Tg.lst, []) :: tcell K :: (Tg.lst, []) :: gs.map ccell) ++ [(Tg.lst, (forestM n es).map nI)]) := by
    rw [M3e]
    have := set_app' (M := X) (X := (fcell X.length (groupsM n es) :: tcell K :: (Tg.lst, []) :: gs.map ccell) ++ [(Tg.lst, (forestM n es).map nI)]) (k := 0) (c := (Tg.lst, []))
    simpa using this
  generalize M3.set X.length (Tg.lst, []) = M4 at cl2 M4e
  have lm : M1.length = X.length + (gs.length + 3) := by rw [← hM1, stC_len, hg, List.length_cons]
  have f4 : M4[M1.length]? = some (Tg.lst, (forestM n es).map nI) := by
    rw [M4e, lm, get_app]
    have := get_last (M := ((Tg.lst, []) :: tcell K :: (Tg.lst, []) :: gs.map ccell)) (c := (Tg.lst, (forestM n es).map nI))
    simpa using this
  have fl := forestM_len n es
  have ap := append_ok (fo := eVar 12) (fa := eAc (eC (.int 0)) eA0) (S := [some d0, some d1, some d2, some (nI n), some (.lst (es.map encE)), some (webD n m es), some (.ref b), o7, some (.ref X.length), o9, o10, o11, some (.ref M1.length), none]) (M := M4) (v_ok rfl) f4 (ac_ok (c_ok _ _ _) a0_ok) f4 (by rw [List.length_map]; omega)
  have e5 : M4.set M1.length (Tg.lst, (forestM n es).map nI ++ [D.int 0]) = X ++ ((((Tg.lst, []) :: tcell K :: (Tg.lst, []) :: gs.map ccell) ++ [(Tg.lst, (forestM n es).map nI)]).set (gs.length + 3) (Tg.lst, (forestM n es).map nI ++ [D.int 0])) := by rw [M4e, lm, set_app']
  rw [e5] at ap
  exact ⟨_, _, _, Eq.trans (seq_nx a) (Eq.trans (seq_nx (if_no (Eq.trans (or_f t1) t2))) (Eq.trans (seq_nx (exp_ok cl1)) (Eq.trans (seq_nx (exp_ok cl2)) (exp_ok ap))))⟩
end Lw

set_option Elab.async false
set_option linter.all false
set_option maxRecDepth 100000
set_option maxHeartbeats 400000
/-! MV: the law of k03. -/
namespace Lw
open PySem L2 DL
theorem pick_ok {f : Lo → Ev D} {S : Lo} {M M1 : Store} {a b r : Nat} (h : f S M = .ok (nI r) M1) (hr : r < 2) : e2 ixE (eF (nNew .lst (eAc (eC (nI a)) (eAc (eC (nI b)) eA0)))) f S M = .ok (nI (if r = 0 then a else b)) M1 := by
  refine e2_ret (fl_ok (new_ok (ac_ok (c_ok _ _ _) (ac_ok (c_ok _ _ _) a0_ok)) (by simp))) h (ix_ret rfl ?_)
  match r, hr with
  | 0, _ => rfl
  | 1, _ => rfl
theorem links_frozen {M M1 : Store} {f : Lo → Ev (List D)} {S : Lo} {p n most : Nat} (hf : f S M = .ok [.ref p, nI n, nI most] M1) (hp : PoolAt M p) (t : PT p M M1) (hn : 0 < n) (hn2 : n ≤ 1000) (hm : most ≤ 200) :
    ∃ (es : Es) (M' : Store), eFz (eCall (callD 3 F__law_links) f) S M = .ok (.lst (es.map encE)) M' ∧ PT p M M' ∧ es.length ≤ most ∧ ∀ e ∈ es, e.1 < n ∧ e.2 < n := by
  obtain ⟨es, M', h1, t1, h2, h3⟩ := links_ok (t.pool hp) hn hn2 hm
  refine ⟨es, M', fcall hf rfl t h1 t1 ?_, t.trans t1, h2, h3⟩
  refine fz_ref (by rw [t.len]; exact Nat.le_refl _) ?_ (fzs_id _ _ _ _ (rl_map _ encE (rl_encE _) _))
  rw [← t1.len]
  exact get_last
theorem web_frozen {M : Store} {S : Lo} {p n : Nat} {es : Es} (hp : PoolAt M p) (h1 : 1 ≤ n) (hn : n ≤ 30) (hl : es.length ≤ 60) (h : ∀ e ∈ es, e.1 < n ∧ e.2 < n) (s2 : S[2]? = some (some (.ref p))) (s3 : S[3]? = some (some (nI n))) (s4 : S[4]? = some (some (.lst (es.map encE)))) :
    ∃ (m : Nat) (M' : Store), eFz (eMake ("Web" : Str) 4 2 1 (fun d l z => d :: (l ++ z)) F_Web___init__ (eAc (eVar 3) (eAc (eVar 4) eA0)) (eAc (eFz (eCall (callD 1 F__law_modulus) (eAc (eVar 2) eA0))) eA0)) S M = .ok (webD n m es) M' ∧ PT p M M' := by
  obtain ⟨m, M', hm, t, m1, m2⟩ := modulus_ok hp
  have fm : eFz (eCall (callD 1 F__law_modulus) (eAc (eVar 2) eA0)) S M = .ok (nI m) M' := fcall (N := []) (ac_ok (v_ok s2) a0_ok) rfl (PT.refl hp) (by rw [List.append_nil]; exact hm) t (fz_id _ _ _ _ rfl)
  refine ⟨m, M', ?_, t⟩
  have mk : eMake ("Web" : Str) 4 2 1 (fun d l z => d :: (l ++ z)) F_Web___init__ (eAc (eVar 3) (eAc (eVar 4) eA0)) (eAc (eFz (eCall (callD 1 F__law_modulus) (eAc (eVar 2) eA0))) eA0) S M = .ok (.ref M'.length) (M' ++ [(.obj "Web" webN, webL n m es)]) := by
    unfold eMake
    rw [bnd_ok (ac_ok (v_ok s3) (ac_ok (v_ok s4) a0_ok)), bnd_ok (ac_ok fm a0_ok)]
    rw [if_pos ⟨rfl, rfl⟩]
    exact make_ok M' h1 hn m1 m2 hl h
  exact fzPT mk t (fz_ref (by rw [t.len]; exact Nat.le_refl _) get_last (fzs_id _ _ _ _ (webL_rl _ n m es)))
noncomputable abbrev kBody : Lo → Ev Fl := sSeq (sAsg (eCall (callD 2 F__law_pool) (eAc (eVar 0) (eAc (eVar 1) eA0))) (gNm 2)) (sSeq (sAsg (eF (n2 addN (eC (.int 1)) (eFz (eCall (callD 2 F__law_take) (eAc (eVar 2) (eAc (e2 ixE (eF (nNew .lst (eAc (eC (.int 4)) (eAc (eC (.int 30)) eA0)))) (eFz (eCall (callD 2 F__law_take) (eAc (eVar 2) (eAc (eC (.int 2)) eA0))))) eA0)))))) (gNm 3)) (sSeq (sAsg (eFz (eCall (callD 3 F__law_links) (eAc (eVar 2) (eAc (eVar 3) (eAc (e2 ixE (eF (nNew .lst (eAc (eC (.int 6)) (eAc (eC (.int 60)) eA0)))) (eFz (eCall (callD 2 F__law_take) (eAc (eVar 2) (eAc (eC (.int 2)) eA0))))) eA0))))) (gNm 4)) (sSeq (sAsg (eFz (eMake ("Web" : Str) 4 2 1 (fun d l z => d :: (l ++ z)) F_Web___init__ (eAc (eVar 3) (eAc (eVar 4) eA0)) (eAc (eFz (eCall (callD 1 F__law_modulus) (eAc (eVar 2) eA0))) eA0))) (gNm 5)) (sSeq (sAsg (eCl (nNew .lst eA0)) (gNm 6)) (sSeq (sFor (iR1 (eAc (eCall (op1 lenE) (eAc (eVar 4) eA0)) eA0)) (gNm 7) aBody) (sFor (iR1 (eAc (eC (.int 2)) eA0)) (gNm 11) bBody))))))
theorem k_body {M : Store} {ns : List Int} {k : Nat} {o2 o3 o4 o5 o6 o7 o8 o9 o10 o11 o12 : Option D} (hk : k < 100) :
    ∃ p2 p3 p4 p5 p6 p7 p8 p9 p10 p11 p12 M', kBody [some (scr ns), some (nI k), o2, o3, o4, o5, o6, o7, o8, o9, o10, o11, o12, none] M = .ok (.nx [some (scr ns), some (nI k), p2, p3, p4, p5, p6, p7, p8, p9, p10, p11, p12, none]) M' := by
  obtain ⟨c, hpool, hc⟩ := pool_ok (M := M) (ns := ns) hk
  have a1 := asg_nm (i := 2) (call_okr (F := F__law_pool) (n := 2) (f := eAc (eVar 0) (eAc (eVar 1) eA0)) (S := [some (scr ns), some (nI k), o2, o3, o4, o5, o6, o7, o8, o9, o10, o11, o12, none]) (ac_ok (v_ok (d := scr ns) rfl) (ac_ok (v_ok (d := nI k) rfl) a0_ok)) hpool rfl)
  generalize hM1 : M ++ [(Tg.lst, c)] = M1 at a1
  have pa : PoolAt M1 M.length := ⟨c, by rw [← hM1]; exact get_last, hc⟩
  generalize M.length = p at a1 pa
  -- how many nodes
  obtain ⟨r1, M2, h2, t2, b2⟩ := ftake 2 (f := eAc (eVar 2) (eAc (eC (.int 2)) eA0)) (S := [some (scr ns), some (nI k), some (.ref p), o3, o4, o5, o6, o7, o8, o9, o10, o11, o12, none]) (M := M1) (ac_ok (v_ok rfl) (ac_ok (c_ok _ _ _) a0_ok)) pa (PT.refl pa) (by decide) (by decide)
  have pk1 := pick_ok (a := 4) (b := 30) h2 (by omega)
  have bd : 1 ≤ (if r1 = 0 then 4 else 30) ∧ (if r1 = 0 then 4 else 30) ≤ 30 := by split <;> omega
  generalize (if r1 = 0 then 4 else 30) = w at pk1 bd
  obtain ⟨r2, M3, h3, t3, b3⟩ := ftake (w : Int) (f := eAc (eVar 2) (eAc (e2 ixE (eF (nNew .lst (eAc (eC (.int 4)) (eAc (eC (.int 30)) eA0)))) (eFz (eCall (callD 2 F__law_take) (eAc (eVar 2) (eAc (eC (.int 2)) eA0))))) eA0)) (S := [some (scr ns), some (nI k), some (.ref p), o3, o4, o5, o6, o7, o8, o9, o10, o11, o12, none]) (M := M1) (ac_ok (v_ok rfl) (ac_ok pk1 a0_ok)) pa t2 (by omega) (by omega)
  have a3 := asg_nm (i := 3) (add_ret (c_ok (.int 1) _ M1) h3)
  have en : (1 : Int) + (r2 : Int) = ((r2 + 1 : Nat) : Int) := by omega
  rw [en] at a3
  have hn1 : 1 ≤ r2 + 1 := by omega
  have hn2 : r2 + 1 ≤ 30 := by omega
  generalize r2 + 1 = n at a3 hn1 hn2
  have pa3 := t3.pool pa
  -- the links
  obtain ⟨r4, M4, h4, t4, b4⟩ := ftake 2 (f := eAc (eVar 2) (eAc (eC (.int 2)) eA0)) (S := [some (scr ns), some (nI k), some (.ref p), some (nI n), o4, o5, o6, o7, o8, o9, o10, o11, o12, none]) (M := M3) (ac_ok (v_ok rfl) (ac_ok (c_ok _ _ _) a0_ok)) pa3 (PT.refl pa3) (by decide) (by decide)
  have pk2 := pick_ok (a := 6) (b := 60) h4 (by omega)
  have bd2 : (if r4 = 0 then 6 else 60) ≤ 60 := by split <;> omega
  generalize (if r4 = 0 then 6 else 60) = w2 at pk2 bd2
  obtain ⟨es, M5, h5, t5, b5, c5⟩ := links_frozen (f := eAc (eVar 2) (eAc (eVar 3) (eAc (e2 ixE (eF (nNew .lst (eAc (eC (.int 6)) (eAc (eC (.int 60)) eA0)))) (eFz (eCall (callD 2 F__law_take) (eAc (eVar 2) (eAc (eC (.int 2)) eA0))))) eA0))) (S := [some (scr ns), some (nI k), some (.ref p), some (nI n), o4, o5, o6, o7, o8, o9, o10, o11, o12, none]) (M := M3) (M1 := M4) (p := p) (n := n) (most := w2) (ac_ok (v_ok rfl) (ac_ok (v_ok rfl) (ac_ok pk2 a0_ok))) pa3 t4 (by omega) (by omega) (by omega)
  have a5 := asg_nm (i := 4) h5
  have pa5 := t5.pool pa3
  -- the web
  obtain ⟨m, M6, h6, t6⟩ := web_frozen (S := [some (scr ns), some (nI k), some (.ref p), some (nI n), some (.lst (es.map encE)), o5, o6, o7, o8, o9, o10, o11, o12, none]) pa5 hn1 hn2 (Nat.le_trans b5 bd2) c5 rfl rfl rfl
  have a6 := asg_nm (i := 5) h6
  have a7 := asg_nm (i := 6) (cl_ok (new_ok (t := .lst) (f := eA0) (S := [some (scr ns), some (nI k), some (.ref p), some (nI n), some (.lst (es.map encE)), some (webD n m es), o6, o7, o8, o9, o10, o11, o12, none]) (M := M6) a0_ok (by simp)))
  have hes : es.length ≤ 60 := Nat.le_trans b5 bd2
  -- the chosen
  have lp := for_inv (enc := nI) (g := none) (tg := gNm 7) (body := aBody)
    (fun pre S M' => ∃ o7 o8 o9 o10 Z, S = [some (scr ns), some (nI k), some (.ref p), some (nI n), some (.lst (es.map encE)), some (webD n m es), some (.ref M6.length), o7, o8, o9, o10, o11, o12, none] ∧ M' = M6 ++ ((Tg.lst, (pre.foldl (cstepL n es) []).map nI) :: Z) ∧ (pre.foldl (cstepL n es) []).length ≤ pre.length) (List.range es.length)
    (S := [some (scr ns), some (nI k), some (.ref p), some (nI n), some (.lst (es.map encE)), some (webD n m es), some (.ref M6.length), o7, o8, o9, o10, o11, o12, none]) (M := M6 ++ [(Tg.lst, [])]) ⟨o7, o8, o9, o10, [], rfl, rfl, Nat.le_refl _⟩ (fun _ _ _ _ => grd_none _) (fun pre x post S M' e j => by
      obtain ⟨o7, o8, o9, o10, Z, rfl, rfl, hl⟩ := j
      have hx : x < es.length := by
        have : x ∈ List.range es.length := by rw [e]; simp
        exact List.mem_range.mp this
      have hp : pre.length < es.length := by
        have : (List.range es.length).length = pre.length + (post.length + 1) := by rw [e]; simp
        rw [List.length_range] at this
        omega
      obtain ⟨o8', o9', o10', Z', hb⟩ := a_body (B := M6) (Z := Z) (d0 := scr ns) (d1 := nI k) (d2 := .ref p) (d5 := webD n m es) (o8 := o8) (o9 := o9) (o10 := o10) (o11 := o11) (o12 := o12) (n := n) (by omega) c5 hx (Nat.lt_of_le_of_lt hl (by omega))
      refine ⟨_, _, _, _, g_nm _ _ _ _, hb, some (nI x), o8', o9', o10', Z', rfl, ?_, ?_⟩
      · rw [List.foldl_append]; rfl
      · rw [List.foldl_append, List.length_append, List.length_singleton]
        have : ∀ ch : List Nat, (cstepL n es ch x).length ≤ ch.length + 1 := fun ch => by unfold cstepL; split <;> simp
        exact Nat.le_trans (this _) (by omega))
  obtain ⟨S', M', hf, q7, q8, q9, q10, Z, rfl, rfl, _⟩ := lp
  rw [chosen_eq c5] at hf
  have ln : lenE (.lst (es.map encE)) = Ev.ret (nI es.length) := by rw [len_nd rfl, List.length_map]
  -- again
  have lp2 := for_inv (enc := nI) (g := none) (tg := gNm 11) (body := bBody)
    (fun pre S M' => ∃ o8 o11 o12 Z, S = [some (scr ns), some (nI k), some (.ref p), some (nI n), some (.lst (es.map encE)), some (webD n m es), some (.ref M6.length), q7, o8, q9, q10, o11, o12, none] ∧ M' = M6 ++ ((Tg.lst, (forestM n es).map nI) :: Z)) (List.range 2)
    (S := [some (scr ns), some (nI k), some (.ref p), some (nI n), some (.lst (es.map encE)), some (webD n m es), some (.ref M6.length), q7, q8, q9, q10, o11, o12, none]) (M := M6 ++ ((Tg.lst, (forestM n es).map nI) :: Z)) ⟨q8, o11, o12, Z, rfl, rfl⟩ (fun _ _ _ _ => grd_none _) (fun pre x post S M' e j => by
      obtain ⟨o8, o11, o12, Z, rfl, rfl⟩ := j
      have g : (M6 ++ ((Tg.lst, (forestM n es).map nI) :: Z))[M6.length]? = some (Tg.lst, (forestM n es).map nI) := by
        have := get_app (M := M6) (X := (Tg.lst, (forestM n es).map nI) :: Z) (k := 0)
        simpa using this
      obtain ⟨o8', o12', Y, hb⟩ := b_body (X := M6 ++ ((Tg.lst, (forestM n es).map nI) :: Z)) (b := M6.length) (m := m) (d0 := scr ns) (d1 := nI k) (d2 := .ref p) (o7 := q7) (o8 := o8) (o9 := q9) (o10 := q10) (o11 := some (nI x)) (o12 := o12) hn1 (by omega) hes c5 g
      exact ⟨_, _, _, _, g_nm _ _ _ _, hb, o8', some (nI x), o12', Z ++ Y, rfl, by rw [List.append_assoc]; rfl⟩)
  obtain ⟨S', M', hf2, q8', q11, q12, Z2, rfl, rfl⟩ := lp2
  refine ⟨_, _, _, _, _, _, _, _, _, _, _, _, Eq.trans (seq_nx a1) (Eq.trans (seq_nx a3) (Eq.trans (seq_nx a5) (Eq.trans (seq_nx a6) (Eq.trans (seq_nx a7) (Eq.trans (seq_nx (Eq.trans (sfor_ok (ir1_ok (n := es.length) (ac_ok (op1_ok (ac_ok (v_ok rfl) a0_ok) ln) a0_ok) (by omega))) hf)) (Eq.trans (sfor_ok (ir1_ok (n := 2) (ac_ok (c_ok _ _ _) a0_ok) (by omega))) hf2))))))⟩
theorem law_true (ns : List Int) : ∃ M', F_law [scr ns] [] = .ok (.bl true) M' := by
  have hc : ∃ j : Nat, j ≤ 6 ∧ iR1 (eAc (eCall (op2 maxE) (eAc (eC (.int 1)) (eAc (eCall (op2 minE) (eAc (eCall (op1 lenE) (eAc (eVar 0) eA0)) (eAc (eC (.int 6)) eA0))) eA0))) eA0) [some (scr ns), none, none, none, none, none, none, none, none, none, none, none, none, none] [] = .ok ((List.range j).map nI, none) [] := by
    have ln : lenE (scr ns) = Ev.ret (nI ns.length) := by rw [len_nd rfl, List.length_map]
    have mx : maxE (.int 1) (nI (if 6 < ns.length then 6 else ns.length)) = Ev.ret (nI (if (if 6 < ns.length then 6 else ns.length) > 1 then (if 6 < ns.length then 6 else ns.length) else 1)) := by
      show Ev.ret (D.int (if ((if 6 < ns.length then 6 else ns.length : Nat) : Int) > 1 then _ else 1)) = _
      generalize (if 6 < ns.length then 6 else ns.length) = z
      by_cases q : z > 1
      · rw [if_pos (by omega), if_pos q]
      · rw [if_neg (by omega), if_neg q]; rfl
    refine ⟨_, ?_, ir1_ok (ac_ok (op2_ok (ac_ok (c_ok _ _ _) (ac_ok (op2_ok (ac_ok (op1_ok (ac_ok (v_ok rfl) a0_ok) ln) (ac_ok (c_ok (nI 6) _ _) a0_ok)) (min_nat _ _)) a0_ok)) mx) a0_ok) ?_⟩
    · split <;> split <;> omega
    · split <;> split <;> omega
  obtain ⟨j, hj, hi⟩ := hc
  have lp := for_inv (enc := nI) (g := none) (tg := gNm 1) (body := kBody)
    (fun pre S M' => ∃ o1 o2 o3 o4 o5 o6 o7 o8 o9 o10 o11 o12, S = [some (scr ns), o1, o2, o3, o4, o5, o6, o7, o8, o9, o10, o11, o12, none]) (List.range j)
    (S := [some (scr ns), none, none, none, none, none, none, none, none, none, none, none, none, none]) (M := []) ⟨none, none, none, none, none, none, none, none, none, none, none, none, rfl⟩ (fun _ _ _ _ => grd_none _) (fun pre x post S M' e jj => by
      obtain ⟨o1, o2, o3, o4, o5, o6, o7, o8, o9, o10, o11, o12, rfl⟩ := jj
      have hx : x < j := by
        have : x ∈ List.range j := by rw [e]; simp
        exact List.mem_range.mp this
      obtain ⟨p2, p3, p4, p5, p6, p7, p8, p9, p10, p11, p12, M'', hb⟩ := k_body (M := M') (ns := ns) (k := x) (o2 := o2) (o3 := o3) (o4 := o4) (o5 := o5) (o6 := o6) (o7 := o7) (o8 := o8) (o9 := o9) (o10 := o10) (o11 := o11) (o12 := o12) (by omega)
      exact ⟨_, _, _, _, g_nm _ _ _ _, hb, some (nI x), p2, p3, p4, p5, p6, p7, p8, p9, p10, p11, p12, rfl⟩)
  obtain ⟨S', M', hf, _⟩ := lp
  refine ⟨M', run_rt ?_⟩
  have e : startD 14 [scr ns] = [some (scr ns), none, none, none, none, none, none, none, none, none, none, none, none, none] := rfl
  rw [e]
  unfold g_law
  exact Eq.trans (seq_nx (Eq.trans (sfor_ok hi) hf)) (ret_ok (c_ok _ _ _))
end Lw

set_option Elab.async false
set_option linter.all false
set_option maxRecDepth 100000
set_option maxHeartbeats 4000000
namespace Lw
open PySem L2 DL
def top (i : Nat) : Stmt := PySem.Challenge.pw_turnedties_k03_components_and_forest.main.body.getD i (.Pass ⟨0, 0, 0, 0⟩)
abbrev s_forest_of : Stmt := top 10
def d_forest_of : He.DefD := ⟨("forest_of", none), "forest_of", "forest_of", defArgs s_forest_of, defBody s_forest_of, defScope s_forest_of, [], []⟩
abbrev s_links_of : Stmt := top 11
def d_links_of : He.DefD := ⟨("links_of", none), "links_of", "links_of", defArgs s_links_of, defBody s_links_of, defScope s_links_of, [], []⟩
abbrev s_walk_paths : Stmt := top 12
def d_walk_paths : He.DefD := ⟨("walk_paths", none), "walk_paths", "walk_paths", defArgs s_walk_paths, defBody s_walk_paths, defScope s_walk_paths, [], []⟩
abbrev s_components_of : Stmt := top 13
def d_components_of : He.DefD := ⟨("components_of", none), "components_of", "components_of", defArgs s_components_of, defBody s_components_of, defScope s_components_of, [], []⟩
abbrev s_is_integer : Stmt := top 18
def d_is_integer : He.DefD := ⟨("is_integer", none), "is_integer", "is_integer", defArgs s_is_integer, defBody s_is_integer, defScope s_is_integer, [], []⟩
abbrev s_is_within : Stmt := top 19
def d_is_within : He.DefD := ⟨("is_within", none), "is_within", "is_within", defArgs s_is_within, defBody s_is_within, defScope s_is_within, [], []⟩
abbrev s_is_edge : Stmt := top 20
def d_is_edge : He.DefD := ⟨("is_edge", none), "is_edge", "is_edge", defArgs s_is_edge, defBody s_is_edge, defScope s_is_edge, [], []⟩
abbrev s_is_modulus : Stmt := top 21
def d_is_modulus : He.DefD := ⟨("is_modulus", none), "is_modulus", "is_modulus", defArgs s_is_modulus, defBody s_is_modulus, defScope s_is_modulus, [], []⟩
abbrev s_check_edges : Stmt := top 22
def d_check_edges : He.DefD := ⟨("check_edges", none), "check_edges", "check_edges", defArgs s_check_edges, defBody s_check_edges, defScope s_check_edges, [], []⟩
abbrev s_Web___init__ : Stmt := inClass (top 23) 0
def d_Web___init__ : He.DefD := ⟨("Web", some "__init__"), "__init__", "Web.__init__", defArgs s_Web___init__, defBody s_Web___init__, defScope s_Web___init__, [.adr (He.dflAt ("Web", some "__init__") 0)], [("modulus", .int 0)]⟩
abbrev s_Web_components : Stmt := inClass (top 23) 5
def d_Web_components : He.DefD := ⟨("Web", some "components"), "components", "Web.components", defArgs s_Web_components, defBody s_Web_components, defScope s_Web_components, [], []⟩
abbrev s_Web_forest : Stmt := inClass (top 23) 6
def d_Web_forest : He.DefD := ⟨("Web", some "forest"), "forest", "Web.forest", defArgs s_Web_forest, defBody s_Web_forest, defScope s_Web_forest, [], []⟩
abbrev s__law_pool : Stmt := top 26
def d__law_pool : He.DefD := ⟨("_law_pool", none), "_law_pool", "_law_pool", defArgs s__law_pool, defBody s__law_pool, defScope s__law_pool, [], []⟩
abbrev s__law_take : Stmt := top 27
def d__law_take : He.DefD := ⟨("_law_take", none), "_law_take", "_law_take", defArgs s__law_take, defBody s__law_take, defScope s__law_take, [], []⟩
abbrev s__law_modulus : Stmt := top 28
def d__law_modulus : He.DefD := ⟨("_law_modulus", none), "_law_modulus", "_law_modulus", defArgs s__law_modulus, defBody s__law_modulus, defScope s__law_modulus, [], []⟩
abbrev s__law_links : Stmt := top 29
def d__law_links : He.DefD := ⟨("_law_links", none), "_law_links", "_law_links", defArgs s__law_links, defBody s__law_links, defScope s__law_links, [], []⟩
abbrev s__law_groups : Stmt := top 30
def d__law_groups : He.DefD := ⟨("_law_groups", none), "_law_groups", "_law_groups", defArgs s__law_groups, defBody s__law_groups, defScope s__law_groups, [], []⟩
abbrev s_law : Stmt := top 31
def d_law : He.DefD := ⟨("law", none), "law", "law", defArgs s_law, defBody s_law, defScope s_law, [], []⟩
def fn : List He.DefD := [d_forest_of, d_links_of, d_walk_paths, d_components_of, d_is_integer, d_is_within, d_is_edge, d_is_modulus, d_check_edges, d_Web___init__, d_Web_components, d_Web_forest, d__law_pool, d__law_take, d__law_modulus, d__law_links, d__law_groups, d_law]
def fa : List He.Fa := [.free "len", .glo "_law_take", .free "range", .free "isinstance", .free "int", .free "bool", .glo "is_integer", .free "tuple", .glo "is_within", .free "list", .glo "is_edge", .int "MOST_EDGES" 60, .int "MOST_MODULUS" 60, .free "enumerate", .int "MOST_NODES" 30, .glo "check_edges", .glo "is_modulus", .glo "Web", .cls "Web", .noat "Web" "own_size", .noat "Web" "own_edges", .noat "Web" "own_modulus", .glo "forest_of", .noat "Web" "own_forest", .glo "links_of", .noat "Web" "links", .free "min", .free "sorted", .glo "walk_paths", .glo "components_of", .free "max", .glo "_law_pool", .glo "_law_links", .mkr "Web", .glo "_law_modulus", .glo "_law_groups", .meth "Web" "components", .meth "Web" "forest", .glo "law"]
theorem sc__law_pool : FnScope ["_law_script", "_law_k", "_law_cell", "_law_seed"] ["_law_script", "_law_k"] (defScope s__law_pool) := ⟨rfl, rfl, rfl, by decide +kernel, rfl, by decide +kernel, by decide +kernel⟩
theorem ok__law_pool {P : Program} {w : World} {K : PySem.W.Frag} {h : Heap} {mg : Str → Option Value} {base : Heap} (KX : K.In h) (G : h.Ns mainGlobals mg) (c : He.SaysD fa fn K) : ∃ fd, Binds K fd ["_law_script", "_law_k"] [] ∧ FnOk P w K mg base (L2.CX P w) 1 (He.fAd K d__law_pool.at_) fd ["_law_script", "_law_k"] (spD ⟨K, mg⟩ 2 F__law_pool) := by
  obtain ⟨fd, F⟩ := c.def_ 12 (d := d__law_pool) rfl
  have z_len : mg "len" = none := He.free_ok KX G (c.fact 0 rfl)
  refine ⟨fd, FunD.bindsN F (fun _ _ _ _ _ _ us hl => match us, hl with | [_, _], _ => rfl), fn_d (k := 0) F sc__law_pool (fun cdv A outer s H E hr tk => ?_)⟩
  have hx : Passes (L2.CX P w) (cxOf (L2.CX P w) P w K mg base ["_law_script", "_law_k", "_law_cell", "_law_seed"] d__law_pool.qual d__law_pool.scope (He.fAd K d__law_pool.at_) cdv A outer s H E) E := passes_call tk (fun _ _ _ _ z => z)
  have hu64 := hr.units
  have hu := hu_of hr
  exact dss_cons (st 2 sc__law_pool.nd de_int) (dss_cons (ds_if (dt_lt (dv 1) (de_len rfl z_len (da_cons (dv 0) da_nil))) (dss_one (st 2 sc__law_pool.nd (de_ix (dv 0) (dv 1) (fun _ _ => rfl)))) dss_nil) (dss_cons (st 3 sc__law_pool.nd (de_mod (de_mul (DN.frz (dn_add (DN.frz (dn_add (de_mod (dv 2) de_int) (de_mul (de_mul de_int (dv 1)) (dv 1)))) de_int)) de_int) de_int)) (dss_cons (ds_if (dt_lt (dv 2) (de_pow de_int de_int)) (dss_one (st 2 sc__law_pool.nd de_int)) dss_nil) (dss_one (ds_ret (DN.cel (dn_lst (da_cons (dv 2) (da_cons (DN.frz (dn_add (de_mod (de_mul (dv 3) (dv 3)) de_int) de_int)) da_nil)))))))))
theorem sc__law_take : FnScope ["_law_pool_here", "_law_sides", "_law_found"] ["_law_pool_here", "_law_sides"] (defScope s__law_take) := ⟨rfl, rfl, rfl, by decide +kernel, rfl, by decide +kernel, by decide +kernel⟩
theorem ok__law_take {P : Program} {w : World} {K : PySem.W.Frag} {h : Heap} {mg : Str → Option Value} {base : Heap} (KX : K.In h) (G : h.Ns mainGlobals mg) (c : He.SaysD fa fn K) : ∃ fd, Binds K fd ["_law_pool_here", "_law_sides"] [] ∧ FnOk P w K mg base (L2.CX P w) 1 (He.fAd K d__law_take.at_) fd ["_law_pool_here", "_law_sides"] (spD ⟨K, mg⟩ 2 F__law_take) := by
  obtain ⟨fd, F⟩ := c.def_ 13 (d := d__law_take) rfl
  refine ⟨fd, FunD.bindsN F (fun _ _ _ _ _ _ us hl => match us, hl with | [_, _], _ => rfl), fn_d (k := 0) F sc__law_take (fun cdv A outer s H E hr tk => ?_)⟩
  have hx : Passes (L2.CX P w) (cxOf (L2.CX P w) P w K mg base ["_law_pool_here", "_law_sides", "_law_found"] d__law_take.qual d__law_take.scope (He.fAd K d__law_take.at_) cdv A outer s H E) E := passes_call tk (fun _ _ _ _ z => z)
  have hu64 := hr.units
  have hu := hu_of hr
  exact dss_cons (ds_if (dt_gt (de_ix (dv 0) de_int (fun _ _ => rfl)) de_int) (dss_cons (st 2 sc__law_take.nd (de_mod (de_ix (dv 0) de_int (fun _ _ => rfl)) (dv 1))) (dss_cons (ds_asg (de_div (de_ix (dv 0) de_int (fun _ _ => rfl)) (dv 1)) (dg_sub (dv 0) de_int)) (dss_one (ds_ret (dv 2))))) dss_nil) (dss_cons (ds_asg (de_mod (DN.frz (dn_add (de_mul (de_ix (dv 0) de_int (fun _ _ => rfl)) de_int) de_int)) de_int) (dg_sub (dv 0) de_int)) (dss_one (ds_ret (de_mod (de_div (de_mod (de_mul (de_ix (dv 0) de_int (fun _ _ => rfl)) (de_ix (dv 0) de_int (fun _ _ => rfl))) de_int) de_int) (dv 1)))))
theorem sc__law_links : FnScope ["_law_pool_here", "_law_nodes", "_law_most", "_law_found", "_law_turn"] ["_law_pool_here", "_law_nodes", "_law_most"] (defScope s__law_links) := ⟨rfl, rfl, rfl, by decide +kernel, rfl, by decide +kernel, by decide +kernel⟩
theorem ok__law_links {P : Program} {w : World} {K : PySem.W.Frag} {h : Heap} {mg : Str → Option Value} {base : Heap} (KX : K.In h) (G : h.Ns mainGlobals mg) (c : He.SaysD fa fn K) : ∃ fd, Binds K fd ["_law_pool_here", "_law_nodes", "_law_most"] [] ∧ FnOk P w K mg base (L2.CX P w) 2 (He.fAd K d__law_links.at_) fd ["_law_pool_here", "_law_nodes", "_law_most"] (spD ⟨K, mg⟩ 3 F__law_links) := by
  obtain ⟨fd, F⟩ := c.def_ 15 (d := d__law_links) rfl
  obtain ⟨fd__law_take, b__law_take, FO__law_take⟩ := ok__law_take (P := P) (w := w) (base := base) KX G c
  have g_f__law_take : mg "_law_take" = some (.ref (He.ga K "_law_take")) := He.glo_ok KX G (c.fact 1 rfl)
  have kp__law_take : PySem.W.keepIn K (.ref (He.ga K "_law_take")) = true := by
    obtain ⟨_, FF⟩ := c.def_ 13 (d := d__law_take) rfl
    exact FF.kp
  have z_range : mg "range" = none := He.free_ok KX G (c.fact 2 rfl)
  refine ⟨fd, FunD.bindsN F (fun _ _ _ _ _ _ us hl => match us, hl with | [_, _, _], _ => rfl), fn_d (k := 1) F sc__law_links (fun cdv A outer s H E hr tk => ?_)⟩
  have hx : Passes (L2.CX P w) (cxOf (L2.CX P w) P w K mg base ["_law_pool_here", "_law_nodes", "_law_most", "_law_found", "_law_turn"] d__law_links.qual d__law_links.scope (He.fAd K d__law_links.at_) cdv A outer s H E) E := passes_call tk (fun _ _ _ _ z => z)
  have hu64 := hr.units
  have hu := hu_of hr
  exact dss_cons (st 3 sc__law_links.nd (DN.cel (dn_lst da_nil))) (dss_cons (ds_for hp_of rfl (di_range1 rfl z_range (da_cons (DE.fz (de_call FO__law_take (hr.mono (by decide)) rfl g_f__law_take kp__law_take b__law_take tk (da_cons (dv 0) (da_cons (DN.frz (dn_add (dv 2) de_int)) da_nil)))) da_nil)) (gn 4 sc__law_links.nd) (dss_one (ds_expr (de_append (dv 3) (da_cons (DN.frz (dn_tup (da_cons (DE.fz (de_call FO__law_take (hr.mono (by decide)) rfl g_f__law_take kp__law_take b__law_take tk (da_cons (dv 0) (da_cons (dv 1) da_nil)))) (da_cons (DE.fz (de_call FO__law_take (hr.mono (by decide)) rfl g_f__law_take kp__law_take b__law_take tk (da_cons (dv 0) (da_cons (dv 1) da_nil)))) da_nil)))) da_nil))))) (dss_one (ds_ret (dv 3))))
theorem sc_is_integer : FnScope ["thing"] ["thing"] (defScope s_is_integer) := ⟨rfl, rfl, rfl, by decide +kernel, rfl, by decide +kernel, by decide +kernel⟩
theorem ok_is_integer {P : Program} {w : World} {K : PySem.W.Frag} {h : Heap} {mg : Str → Option Value} {base : Heap} (KX : K.In h) (G : h.Ns mainGlobals mg) (c : He.SaysD fa fn K) : ∃ fd, Binds K fd ["thing"] [] ∧ FnOk P w K mg base (L2.CX P w) 1 (He.fAd K d_is_integer.at_) fd ["thing"] (spD ⟨K, mg⟩ 1 F_is_integer) := by
  obtain ⟨fd, F⟩ := c.def_ 4 (d := d_is_integer) rfl
  have z_isinstance : mg "isinstance" = none := He.free_ok KX G (c.fact 3 rfl)
  have z_int : mg "int" = none := He.free_ok KX G (c.fact 4 rfl)
  have z_bool : mg "bool" = none := He.free_ok KX G (c.fact 5 rfl)
  refine ⟨fd, FunD.bindsN F (fun _ _ _ _ _ _ us hl => match us, hl with | [_], _ => rfl), fn_d (k := 0) F sc_is_integer (fun cdv A outer s H E hr tk => ?_)⟩
  have hx : Passes (L2.CX P w) (cxOf (L2.CX P w) P w K mg base ["thing"] d_is_integer.qual d_is_integer.scope (He.fAd K d_is_integer.at_) cdv A outer s H E) E := passes_call tk (fun _ _ _ _ z => z)
  have hu64 := hr.units
  have hu := hu_of hr
  exact dss_one (ds_ret (de_and (de_isi rfl z_isinstance (da_cons (dv 0) (da_cons (de_ty rfl z_int (by decide +kernel)) da_nil))) (de_one (de_not (de_isi rfl z_isinstance (da_cons (dv 0) (da_cons (de_ty rfl z_bool (by decide +kernel)) da_nil)))))))
theorem sc_is_within : FnScope ["thing", "least", "most"] ["thing", "least", "most"] (defScope s_is_within) := ⟨rfl, rfl, rfl, by decide +kernel, rfl, by decide +kernel, by decide +kernel⟩
theorem ok_is_within {P : Program} {w : World} {K : PySem.W.Frag} {h : Heap} {mg : Str → Option Value} {base : Heap} (KX : K.In h) (G : h.Ns mainGlobals mg) (c : He.SaysD fa fn K) : ∃ fd, Binds K fd ["thing", "least", "most"] [] ∧ FnOk P w K mg base (L2.CX P w) 2 (He.fAd K d_is_within.at_) fd ["thing", "least", "most"] (spD ⟨K, mg⟩ 3 F_is_within) := by
  obtain ⟨fd, F⟩ := c.def_ 5 (d := d_is_within) rfl
  obtain ⟨fd_is_integer, b_is_integer, FO_is_integer⟩ := ok_is_integer (P := P) (w := w) (base := base) KX G c
  have g_f_is_integer : mg "is_integer" = some (.ref (He.ga K "is_integer")) := He.glo_ok KX G (c.fact 6 rfl)
  have kp_is_integer : PySem.W.keepIn K (.ref (He.ga K "is_integer")) = true := by
    obtain ⟨_, FF⟩ := c.def_ 4 (d := d_is_integer) rfl
    exact FF.kp
  refine ⟨fd, FunD.bindsN F (fun _ _ _ _ _ _ us hl => match us, hl with | [_, _, _], _ => rfl), fn_d (k := 1) F sc_is_within (fun cdv A outer s H E hr tk => ?_)⟩
  have hx : Passes (L2.CX P w) (cxOf (L2.CX P w) P w K mg base ["thing", "least", "most"] d_is_within.qual d_is_within.scope (He.fAd K d_is_within.at_) cdv A outer s H E) E := passes_call tk (fun _ _ _ _ z => z)
  have hu64 := hr.units
  have hu := hu_of hr
  exact dss_one (ds_ret (de_and (DE.fz (de_call FO_is_integer (hr.mono (by decide)) rfl g_f_is_integer kp_is_integer b_is_integer tk (da_cons (dv 0) da_nil))) (de_one (de_lele (dv 1) (dv 0) (dv 2)))))
theorem sc_is_edge : FnScope ["thing", "size"] ["thing", "size"] (defScope s_is_edge) := ⟨rfl, rfl, rfl, by decide +kernel, rfl, by decide +kernel, by decide +kernel⟩
theorem ok_is_edge {P : Program} {w : World} {K : PySem.W.Frag} {h : Heap} {mg : Str → Option Value} {base : Heap} (KX : K.In h) (G : h.Ns mainGlobals mg) (c : He.SaysD fa fn K) : ∃ fd, Binds K fd ["thing", "size"] [] ∧ FnOk P w K mg base (L2.CX P w) 3 (He.fAd K d_is_edge.at_) fd ["thing", "size"] (spD ⟨K, mg⟩ 2 F_is_edge) := by
  obtain ⟨fd, F⟩ := c.def_ 6 (d := d_is_edge) rfl
  have z_isinstance : mg "isinstance" = none := He.free_ok KX G (c.fact 3 rfl)
  have z_tuple : mg "tuple" = none := He.free_ok KX G (c.fact 7 rfl)
  have z_len : mg "len" = none := He.free_ok KX G (c.fact 0 rfl)
  obtain ⟨fd_is_within, b_is_within, FO_is_within⟩ := ok_is_within (P := P) (w := w) (base := base) KX G c
  have g_f_is_within : mg "is_within" = some (.ref (He.ga K "is_within")) := He.glo_ok KX G (c.fact 8 rfl)
  have kp_is_within : PySem.W.keepIn K (.ref (He.ga K "is_within")) = true := by
    obtain ⟨_, FF⟩ := c.def_ 5 (d := d_is_within) rfl
    exact FF.kp
  refine ⟨fd, FunD.bindsN F (fun _ _ _ _ _ _ us hl => match us, hl with | [_, _], _ => rfl), fn_d (k := 2) F sc_is_edge (fun cdv A outer s H E hr tk => ?_)⟩
  have hx : Passes (L2.CX P w) (cxOf (L2.CX P w) P w K mg base ["thing", "size"] d_is_edge.qual d_is_edge.scope (He.fAd K d_is_edge.at_) cdv A outer s H E) E := passes_call tk (fun _ _ _ _ z => z)
  have hu64 := hr.units
  have hu := hu_of hr
  exact dss_cons (ds_if (dt_w (dw_or (dt_not (dt_truth (de_isi rfl z_isinstance (da_cons (dv 0) (da_cons (de_ty rfl z_tuple (by decide +kernel)) da_nil))))) (dw_or1 (dt_ne hu64 (de_len rfl z_len (da_cons (dv 0) da_nil)) de_int)))) (dss_one (ds_ret de_bl)) dss_nil) (dss_one (ds_ret (de_and (DE.fz (de_call FO_is_within (hr.mono (by decide)) rfl g_f_is_within kp_is_within b_is_within tk (da_cons (de_ix (dv 0) de_int (fun _ _ => rfl)) (da_cons de_int (da_cons (de_sub (dv 1) de_int) da_nil))))) (de_one (DE.fz (de_call FO_is_within (hr.mono (by decide)) rfl g_f_is_within kp_is_within b_is_within tk (da_cons (de_ix (dv 0) de_int (fun _ _ => rfl)) (da_cons de_int (da_cons (de_sub (dv 1) de_int) da_nil)))))))))
theorem sc_check_edges : FnScope ["size", "edges", "edge"] ["size", "edges"] (defScope s_check_edges) := ⟨rfl, rfl, rfl, by decide +kernel, rfl, by decide +kernel, by decide +kernel⟩
theorem ok_check_edges {P : Program} {w : World} {K : PySem.W.Frag} {h : Heap} {mg : Str → Option Value} {base : Heap} (KX : K.In h) (G : h.Ns mainGlobals mg) (c : He.SaysD fa fn K) : ∃ fd, Binds K fd ["size", "edges"] [] ∧ FnOk P w K mg base (L2.CX P w) 4 (He.fAd K d_check_edges.at_) fd ["size", "edges"] (spD ⟨K, mg⟩ 2 F_check_edges) := by
  obtain ⟨fd, F⟩ := c.def_ 8 (d := d_check_edges) rfl
  have z_isinstance : mg "isinstance" = none := He.free_ok KX G (c.fact 3 rfl)
  have z_list : mg "list" = none := He.free_ok KX G (c.fact 9 rfl)
  have z_tuple : mg "tuple" = none := He.free_ok KX G (c.fact 7 rfl)
  obtain ⟨fd_is_edge, b_is_edge, FO_is_edge⟩ := ok_is_edge (P := P) (w := w) (base := base) KX G c
  have g_f_is_edge : mg "is_edge" = some (.ref (He.ga K "is_edge")) := He.glo_ok KX G (c.fact 10 rfl)
  have kp_is_edge : PySem.W.keepIn K (.ref (He.ga K "is_edge")) = true := by
    obtain ⟨_, FF⟩ := c.def_ 6 (d := d_is_edge) rfl
    exact FF.kp
  have z_len : mg "len" = none := He.free_ok KX G (c.fact 0 rfl)
  have i_MOST_EDGES : ∃ t, mg "MOST_EDGES" = some (.int 60 t) := He.int_ok KX G (c.fact 11 rfl)
  refine ⟨fd, FunD.bindsN F (fun _ _ _ _ _ _ us hl => match us, hl with | [_, _], _ => rfl), fn_d (k := 3) F sc_check_edges (fun cdv A outer s H E hr tk => ?_)⟩
  have hx : Passes (L2.CX P w) (cxOf (L2.CX P w) P w K mg base ["size", "edges", "edge"] d_check_edges.qual d_check_edges.scope (He.fAd K d_check_edges.at_) cdv A outer s H E) E := passes_call tk (fun _ _ _ _ z => z)
  have hu64 := hr.units
  have hu := hu_of hr
  exact dss_cons (ds_if (dt_not (dt_truth (de_isiT rfl z_isinstance (da_cons (dv 1) (da_cons (DN.frz (dn_tup (da_cons (de_ty rfl z_list (by decide +kernel)) (da_cons (de_ty rfl z_tuple (by decide +kernel)) da_nil)))) da_nil))))) (dss_one ds_never) dss_nil) (dss_cons (ds_for hp_of rfl (di_sq (dv 1)) (gn 2 sc_check_edges.nd) (dss_one (ds_if (dt_not (dt_truth (DE.fz (de_call FO_is_edge (hr.mono (by decide)) rfl g_f_is_edge kp_is_edge b_is_edge tk (da_cons (dv 2) (da_cons (dv 0) da_nil)))))) (dss_one ds_never) dss_nil))) (dss_one (ds_if (dt_gt (de_len rfl z_len (da_cons (dv 1) da_nil)) (de_globI rfl i_MOST_EDGES)) (dss_one ds_never) dss_nil)))
theorem sc_is_modulus : FnScope ["thing"] ["thing"] (defScope s_is_modulus) := ⟨rfl, rfl, rfl, by decide +kernel, rfl, by decide +kernel, by decide +kernel⟩
theorem ok_is_modulus {P : Program} {w : World} {K : PySem.W.Frag} {h : Heap} {mg : Str → Option Value} {base : Heap} (KX : K.In h) (G : h.Ns mainGlobals mg) (c : He.SaysD fa fn K) : ∃ fd, Binds K fd ["thing"] [] ∧ FnOk P w K mg base (L2.CX P w) 3 (He.fAd K d_is_modulus.at_) fd ["thing"] (spD ⟨K, mg⟩ 1 F_is_modulus) := by
  obtain ⟨fd, F⟩ := c.def_ 7 (d := d_is_modulus) rfl
  obtain ⟨fd_is_within, b_is_within, FO_is_within⟩ := ok_is_within (P := P) (w := w) (base := base) KX G c
  have g_f_is_within : mg "is_within" = some (.ref (He.ga K "is_within")) := He.glo_ok KX G (c.fact 8 rfl)
  have kp_is_within : PySem.W.keepIn K (.ref (He.ga K "is_within")) = true := by
    obtain ⟨_, FF⟩ := c.def_ 5 (d := d_is_within) rfl
    exact FF.kp
  have i_MOST_MODULUS : ∃ t, mg "MOST_MODULUS" = some (.int 60 t) := He.int_ok KX G (c.fact 12 rfl)
  refine ⟨fd, FunD.bindsN F (fun _ _ _ _ _ _ us hl => match us, hl with | [_], _ => rfl), fn_d (k := 2) F sc_is_modulus (fun cdv A outer s H E hr tk => ?_)⟩
  have hx : Passes (L2.CX P w) (cxOf (L2.CX P w) P w K mg base ["thing"] d_is_modulus.qual d_is_modulus.scope (He.fAd K d_is_modulus.at_) cdv A outer s H E) E := passes_call tk (fun _ _ _ _ z => z)
  have hu64 := hr.units
  have hu := hu_of hr
  exact dss_one (ds_ret (de_and (DE.fz (de_call FO_is_within (hr.mono (by decide)) rfl g_f_is_within kp_is_within b_is_within tk (da_cons (dv 0) (da_cons de_int (da_cons (de_globI rfl i_MOST_MODULUS) da_nil))))) (de_one (de_ne hu64 (dv 0) de_int))))
theorem sc_forest_of : FnScope ["size", "pairs", "groups", "found", "index", "tail", "head", "group"] ["size", "pairs"] (defScope s_forest_of) := ⟨rfl, rfl, rfl, by decide +kernel, rfl, by decide +kernel, by decide +kernel⟩
theorem ok_forest_of {P : Program} {w : World} {K : PySem.W.Frag} {h : Heap} {mg : Str → Option Value} {base : Heap} (KX : K.In h) (G : h.Ns mainGlobals mg) (c : He.SaysD fa fn K) : ∃ fd, Binds K fd ["size", "pairs"] [] ∧ FnOk P w K mg base (L2.CX P w) 1 (He.fAd K d_forest_of.at_) fd ["size", "pairs"] (spD ⟨K, mg⟩ 2 F_forest_of) := by
  obtain ⟨fd, F⟩ := c.def_ 0 (d := d_forest_of) rfl
  have z_list : mg "list" = none := He.free_ok KX G (c.fact 9 rfl)
  have z_range : mg "range" = none := He.free_ok KX G (c.fact 2 rfl)
  have z_enumerate : mg "enumerate" = none := He.free_ok KX G (c.fact 13 rfl)
  refine ⟨fd, FunD.bindsN F (fun _ _ _ _ _ _ us hl => match us, hl with | [_, _], _ => rfl), fn_d (k := 0) F sc_forest_of (fun cdv A outer s H E hr tk => ?_)⟩
  have hx : Passes (L2.CX P w) (cxOf (L2.CX P w) P w K mg base ["size", "pairs", "groups", "found", "index", "tail", "head", "group"] d_forest_of.qual d_forest_of.scope (He.fAd K d_forest_of.at_) cdv A outer s H E) E := passes_call tk (fun _ _ _ _ z => z)
  have hu64 := hr.units
  have hu := hu_of hr
  exact dss_cons (st 2 sc_forest_of.nd (DN.frz (dn_listRg rfl rfl z_list (dr_1 rfl z_range (dv 0))))) (dss_cons (st 3 sc_forest_of.nd (DN.cel (dn_lst da_nil))) (dss_cons (ds_for hp_of rfl (di_enum rfl z_enumerate (da_cons (dv 1) da_nil)) (dg_tup rfl (dgs_cons (gn 4 sc_forest_of.nd) (dgs_cons (dg_tup rfl (dgs_cons (gn 5 sc_forest_of.nd) (dgs_cons (gn 6 sc_forest_of.nd) dgs_nil))) dgs_nil))) (dss_one (ds_if (dt_ne hu64 (de_ix (dv 2) (dv 5) (fun _ _ => rfl)) (de_ix (dv 2) (dv 6) (fun _ _ => rfl))) (dss_cons (ds_expr (de_append (dv 3) (da_cons (dv 4) da_nil))) (dss_one (st 2 sc_forest_of.nd (DN.frz (dn_lc (own := [(("group" : Str), 7)]) rfl sc_forest_of.nd (di_sq (dv 2)) (blkOk_by rfl) (fun _ _ _ _ _ => gn 7 sc_forest_of.nd) (fun _ _ _ _ _ => dts_nil) (fun _ _ _ _ _ => de_ifExp (dt_eq hu64 (dv 7) (de_ix (dv 2) (dv 6) (fun _ _ => rfl))) (de_ix (dv 2) (dv 5) (fun _ _ => rfl)) (dv 7)) (rs_mem rfl)))))) dss_nil))) (dss_one (ds_ret (dv 3)))))
theorem sc_links_of : FnScope ["size", "pairs", "forest", "found", "index", "tail", "head", "node"] ["size", "pairs", "forest"] (defScope s_links_of) := ⟨rfl, rfl, rfl, by decide +kernel, rfl, by decide +kernel, by decide +kernel⟩
theorem ok_links_of {P : Program} {w : World} {K : PySem.W.Frag} {h : Heap} {mg : Str → Option Value} {base : Heap} (KX : K.In h) (G : h.Ns mainGlobals mg) (c : He.SaysD fa fn K) : ∃ fd, Binds K fd ["size", "pairs", "forest"] [] ∧ FnOk P w K mg base (L2.CX P w) 1 (He.fAd K d_links_of.at_) fd ["size", "pairs", "forest"] (spD ⟨K, mg⟩ 3 F_links_of) := by
  obtain ⟨fd, F⟩ := c.def_ 1 (d := d_links_of) rfl
  have z_range : mg "range" = none := He.free_ok KX G (c.fact 2 rfl)
  refine ⟨fd, FunD.bindsN F (fun _ _ _ _ _ _ us hl => match us, hl with | [_, _, _], _ => rfl), fn_d (k := 0) F sc_links_of (fun cdv A outer s H E hr tk => ?_)⟩
  have hx : Passes (L2.CX P w) (cxOf (L2.CX P w) P w K mg base ["size", "pairs", "forest", "found", "index", "tail", "head", "node"] d_links_of.qual d_links_of.scope (He.fAd K d_links_of.at_) cdv A outer s H E) E := passes_call tk (fun _ _ _ _ z => z)
  have hu64 := hr.units
  have hu := hu_of hr
  exact dss_cons (ds_setLc (own := [(("node" : Str), 7)]) kN_frz rfl sc_links_of.nd (show _ from rfl) rfl (sw_true rfl rfl rfl (by decide +kernel)) (di_range1 rfl z_range (da_cons (dv 0) da_nil)) (blkOk_by rfl) (fun _ _ _ _ _ => gn 7 sc_links_of.nd) (fun _ _ _ _ _ => dts_nil) (fun _ _ _ _ _ => DN.cel (dn_lst da_nil)) (rs_mem rfl)) (dss_cons (ds_for hp_of rfl (di_sq (dv 2)) (gn 4 sc_links_of.nd) (dss_cons (ds_asg (de_ix (dv 1) (dv 4) (fun _ _ => rfl)) (dg_tup rfl (dgs_cons (gn 5 sc_links_of.nd) (dgs_cons (gn 6 sc_links_of.nd) dgs_nil)))) (dss_cons (ds_expr (de_append (de_ix (dv 3) (dv 5) (fun _ _ => rfl)) (da_cons (DN.frz (dn_tup (da_cons (dv 4) (da_cons de_int (da_cons (dv 6) da_nil))))) da_nil))) (dss_one (ds_expr (de_append (de_ix (dv 3) (dv 6) (fun _ _ => rfl)) (da_cons (DN.frz (dn_tup (da_cons (dv 4) (da_cons (de_neg de_int) (da_cons (dv 5) da_nil))))) da_nil))))))) (dss_one (ds_ret (dv 3))))
theorem sc_Web___init__ : FnScope ["self", "size", "edges", "modulus"] ["self", "size", "edges", "modulus"] (defScope s_Web___init__) := ⟨rfl, rfl, rfl, by decide +kernel, rfl, by decide +kernel, by decide +kernel⟩
theorem ok_Web___init__ {P : Program} {w : World} {K : PySem.W.Frag} {h : Heap} {mg : Str → Option Value} {base : Heap} (KX : K.In h) (G : h.Ns mainGlobals mg) (c : He.SaysD fa fn K) : ∃ fd, FunD K d_Web___init__.name d_Web___init__.qual d_Web___init__.params d_Web___init__.body d_Web___init__.scope (d_Web___init__.dvs K) (d_Web___init__.kws K) (He.fAd K d_Web___init__.at_) fd ∧ FnOk P w K mg base (L2.CX P w) 5 (He.fAd K d_Web___init__.at_) fd ["self", "size", "edges", "modulus"] (spD ⟨K, mg⟩ 4 F_Web___init__) := by
  obtain ⟨fd, F⟩ := c.def_ 9 (d := d_Web___init__) rfl
  obtain ⟨fd_is_within, b_is_within, FO_is_within⟩ := ok_is_within (P := P) (w := w) (base := base) KX G c
  have g_f_is_within : mg "is_within" = some (.ref (He.ga K "is_within")) := He.glo_ok KX G (c.fact 8 rfl)
  have kp_is_within : PySem.W.keepIn K (.ref (He.ga K "is_within")) = true := by
    obtain ⟨_, FF⟩ := c.def_ 5 (d := d_is_within) rfl
    exact FF.kp
  have i_MOST_NODES : ∃ t, mg "MOST_NODES" = some (.int 30 t) := He.int_ok KX G (c.fact 14 rfl)
  obtain ⟨fd_check_edges, b_check_edges, FO_check_edges⟩ := ok_check_edges (P := P) (w := w) (base := base) KX G c
  have g_f_check_edges : mg "check_edges" = some (.ref (He.ga K "check_edges")) := He.glo_ok KX G (c.fact 15 rfl)
  have kp_check_edges : PySem.W.keepIn K (.ref (He.ga K "check_edges")) = true := by
    obtain ⟨_, FF⟩ := c.def_ 8 (d := d_check_edges) rfl
    exact FF.kp
  obtain ⟨fd_is_modulus, b_is_modulus, FO_is_modulus⟩ := ok_is_modulus (P := P) (w := w) (base := base) KX G c
  have g_f_is_modulus : mg "is_modulus" = some (.ref (He.ga K "is_modulus")) := He.glo_ok KX G (c.fact 16 rfl)
  have kp_is_modulus : PySem.W.keepIn K (.ref (He.ga K "is_modulus")) = true := by
    obtain ⟨_, FF⟩ := c.def_ 7 (d := d_is_modulus) rfl
    exact FF.kp
  have gc_Web : mg "Web" = some (.ref (He.ga K "Web")) := He.glo_ok KX G (c.fact 17 rfl)
  have cl_Web : Cls K (He.ga K "Web") := He.cls_ok (c.fact 18 rfl)
  have n_Web_own_size : NoAttr K (He.ga K "Web") "own_size" := He.noat_ok (c.fact 19 rfl)
  have z_list : mg "list" = none := He.free_ok KX G (c.fact 9 rfl)
  have n_Web_own_edges : NoAttr K (He.ga K "Web") "own_edges" := He.noat_ok (c.fact 20 rfl)
  have n_Web_own_modulus : NoAttr K (He.ga K "Web") "own_modulus" := He.noat_ok (c.fact 21 rfl)
  obtain ⟨fd_forest_of, b_forest_of, FO_forest_of⟩ := ok_forest_of (P := P) (w := w) (base := base) KX G c
  have g_f_forest_of : mg "forest_of" = some (.ref (He.ga K "forest_of")) := He.glo_ok KX G (c.fact 22 rfl)
  have kp_forest_of : PySem.W.keepIn K (.ref (He.ga K "forest_of")) = true := by
    obtain ⟨_, FF⟩ := c.def_ 0 (d := d_forest_of) rfl
    exact FF.kp
  have n_Web_own_forest : NoAttr K (He.ga K "Web") "own_forest" := He.noat_ok (c.fact 23 rfl)
  obtain ⟨fd_links_of, b_links_of, FO_links_of⟩ := ok_links_of (P := P) (w := w) (base := base) KX G c
  have g_f_links_of : mg "links_of" = some (.ref (He.ga K "links_of")) := He.glo_ok KX G (c.fact 24 rfl)
  have kp_links_of : PySem.W.keepIn K (.ref (He.ga K "links_of")) = true := by
    obtain ⟨_, FF⟩ := c.def_ 1 (d := d_links_of) rfl
    exact FF.kp
  have n_Web_links : NoAttr K (He.ga K "Web") "links" := He.noat_ok (c.fact 25 rfl)
  refine ⟨fd, F, fn_d (k := 4) F sc_Web___init__ (fun cdv A outer s H E hr tk => ?_)⟩
  have hx : Passes (L2.CX P w) (cxOf (L2.CX P w) P w K mg base ["self", "size", "edges", "modulus"] d_Web___init__.qual d_Web___init__.scope (He.fAd K d_Web___init__.at_) cdv A outer s H E) E := passes_call tk (fun _ _ _ _ z => z)
  have hu64 := hr.units
  have hu := hu_of hr
  have c_Web : ∀ {Y : Cx}, Y.mg = mg → Y.K = K → ClsD Y "Web" (He.ga K "Web") := fun h1 h2 => ⟨by rw [h1]; exact gc_Web, by rw [h2]; exact cl_Web⟩
  exact dss_cons (ds_if (dt_not (dt_truth (DE.fz (de_call FO_is_within (hr.mono (by decide)) rfl g_f_is_within kp_is_within b_is_within tk (da_cons (dv 1) (da_cons de_int (da_cons (de_globI rfl i_MOST_NODES) da_nil))))))) (dss_one ds_never) dss_nil) (dss_cons (ds_expr (DE.fz (de_call FO_check_edges (hr.mono (by decide)) rfl g_f_check_edges kp_check_edges b_check_edges tk (da_cons (dv 1) (da_cons (dv 2) da_nil))))) (dss_cons (ds_if (dt_not (dt_truth (DE.fz (de_call FO_is_modulus (hr.mono (by decide)) rfl g_f_is_modulus kp_is_modulus b_is_modulus tk (da_cons (dv 3) da_nil))))) (dss_one ds_never) dss_nil) (dss_cons (ds_fld (c_Web rfl rfl) n_Web_own_size (dv 0) (dv 1)) (dss_cons (ds_fld (c_Web rfl rfl) n_Web_own_edges (dv 0) (DN.frz (dn_list rfl z_list (da_cons (dv 2) da_nil)))) (dss_cons (ds_fld (c_Web rfl rfl) n_Web_own_modulus (dv 0) (dv 3)) (dss_cons (ds_fld (c_Web rfl rfl) n_Web_own_forest (dv 0) (DE.fz (de_call FO_forest_of (hr.mono (by decide)) rfl g_f_forest_of kp_forest_of b_forest_of tk (da_cons (dv 1) (da_cons (dv 2) da_nil))))) (dss_one (ds_fld (c_Web rfl rfl) n_Web_links (dv 0) (DE.fz (de_call FO_links_of (hr.mono (by decide)) rfl g_f_links_of kp_links_of b_links_of tk (da_cons (dv 1) (da_cons (dv 2) (da_cons (de_fld (c_Web rfl rfl) n_Web_own_forest (dv 0)) da_nil)))))))))))))
theorem sc__law_modulus : FnScope ["_law_pool_here"] ["_law_pool_here"] (defScope s__law_modulus) := ⟨rfl, rfl, rfl, by decide +kernel, rfl, by decide +kernel, by decide +kernel⟩
theorem ok__law_modulus {P : Program} {w : World} {K : PySem.W.Frag} {h : Heap} {mg : Str → Option Value} {base : Heap} (KX : K.In h) (G : h.Ns mainGlobals mg) (c : He.SaysD fa fn K) : ∃ fd, Binds K fd ["_law_pool_here"] [] ∧ FnOk P w K mg base (L2.CX P w) 2 (He.fAd K d__law_modulus.at_) fd ["_law_pool_here"] (spD ⟨K, mg⟩ 1 F__law_modulus) := by
  obtain ⟨fd, F⟩ := c.def_ 14 (d := d__law_modulus) rfl
  obtain ⟨fd__law_take, b__law_take, FO__law_take⟩ := ok__law_take (P := P) (w := w) (base := base) KX G c
  have g_f__law_take : mg "_law_take" = some (.ref (He.ga K "_law_take")) := He.glo_ok KX G (c.fact 1 rfl)
  have kp__law_take : PySem.W.keepIn K (.ref (He.ga K "_law_take")) = true := by
    obtain ⟨_, FF⟩ := c.def_ 13 (d := d__law_take) rfl
    exact FF.kp
  refine ⟨fd, FunD.bindsN F (fun _ _ _ _ _ _ us hl => match us, hl with | [_], _ => rfl), fn_d (k := 1) F sc__law_modulus (fun cdv A outer s H E hr tk => ?_)⟩
  have hx : Passes (L2.CX P w) (cxOf (L2.CX P w) P w K mg base ["_law_pool_here"] d__law_modulus.qual d__law_modulus.scope (He.fAd K d__law_modulus.at_) cdv A outer s H E) E := passes_call tk (fun _ _ _ _ z => z)
  have hu64 := hr.units
  have hu := hu_of hr
  exact dss_one (ds_ret (de_ix (DN.frz (dn_lst (da_cons de_int (da_cons de_int (da_cons de_int (da_cons de_int (da_cons de_int (da_cons de_int (da_cons de_int (da_cons de_int da_nil)))))))))) (DE.fz (de_call FO__law_take (hr.mono (by decide)) rfl g_f__law_take kp__law_take b__law_take tk (da_cons (dv 0) (da_cons de_int da_nil)))) (fun _ _ => rfl)))
theorem sc__law_groups : FnScope ["_law_nodes", "_law_links_here", "_law_names", "_law_turn", "_law_tail", "_law_head", "_law_least", "_law_first", "_law_node"] ["_law_nodes", "_law_links_here"] (defScope s__law_groups) := ⟨rfl, rfl, rfl, by decide +kernel, rfl, by decide +kernel, by decide +kernel⟩
theorem ok__law_groups {P : Program} {w : World} {K : PySem.W.Frag} {h : Heap} {mg : Str → Option Value} {base : Heap} (KX : K.In h) (G : h.Ns mainGlobals mg) (c : He.SaysD fa fn K) : ∃ fd, Binds K fd ["_law_nodes", "_law_links_here"] [] ∧ FnOk P w K mg base (L2.CX P w) 1 (He.fAd K d__law_groups.at_) fd ["_law_nodes", "_law_links_here"] (spD ⟨K, mg⟩ 2 F__law_groups) := by
  obtain ⟨fd, F⟩ := c.def_ 16 (d := d__law_groups) rfl
  have z_list : mg "list" = none := He.free_ok KX G (c.fact 9 rfl)
  have z_range : mg "range" = none := He.free_ok KX G (c.fact 2 rfl)
  have z_min : mg "min" = none := He.free_ok KX G (c.fact 26 rfl)
  refine ⟨fd, FunD.bindsN F (fun _ _ _ _ _ _ us hl => match us, hl with | [_, _], _ => rfl), fn_d (k := 0) F sc__law_groups (fun cdv A outer s H E hr tk => ?_)⟩
  have hx : Passes (L2.CX P w) (cxOf (L2.CX P w) P w K mg base ["_law_nodes", "_law_links_here", "_law_names", "_law_turn", "_law_tail", "_law_head", "_law_least", "_law_first", "_law_node"] d__law_groups.qual d__law_groups.scope (He.fAd K d__law_groups.at_) cdv A outer s H E) E := passes_call tk (fun _ _ _ _ z => z)
  have hu64 := hr.units
  have hu := hu_of hr
  exact dss_cons (st 2 sc__law_groups.nd (DN.cel (dn_listRg rfl rfl z_list (dr_1 rfl z_range (dv 0))))) (dss_cons (ds_for hp_of rfl (di_range1 rfl z_range (da_cons (dv 0) da_nil)) (gn 3 sc__law_groups.nd) (dss_one (ds_for hp_of rfl (di_sq (dv 1)) (dg_tup rfl (dgs_cons (gn 4 sc__law_groups.nd) (dgs_cons (gn 5 sc__law_groups.nd) dgs_nil))) (dss_cons (st 6 sc__law_groups.nd (de_min2 rfl rfl z_min (da_cons (de_ix (dv 2) (dv 4) (fun _ _ => rfl)) (da_cons (de_ix (dv 2) (dv 5) (fun _ _ => rfl)) da_nil)))) (dss_cons (ds_asg (dv 6) (dg_sub (dv 2) (dv 4))) (dss_one (ds_asg (dv 6) (dg_sub (dv 2) (dv 5))))))))) (dss_one (ds_ret (DN.cel (dn_lc (own := [(("_law_first" : Str), 7)]) rfl sc__law_groups.nd (di_range1 rfl z_range (da_cons (dv 0) da_nil)) (blkOk_by rfl) (fun _ _ _ _ _ => gn 7 sc__law_groups.nd) (fun _ _ _ _ _ => dts_one (dt_in (dv 7) (dv 2))) (fun _ _ _ _ _ => DN.frz (dn_lc (own := [(("_law_node" : Str), 8)]) rfl sc__law_groups.nd (di_range1 rfl z_range (da_cons (dv 0) da_nil)) (blkOk_by rfl) (fun _ _ _ _ _ => gn 8 sc__law_groups.nd) (fun _ _ _ _ _ => dts_one (dt_eq hu64 (de_ix (dv 2) (dv 8) (fun _ _ => rfl)) (dv 7))) (fun _ _ _ _ _ => dv 8) (rs_mem rfl))) (rs_mem rfl))))))
theorem sc_walk_paths : FnScope ["links", "start", "paths", "level", "later", "node", "index", "way", "other"] ["links", "start"] (defScope s_walk_paths) := ⟨rfl, rfl, rfl, by decide +kernel, rfl, by decide +kernel, by decide +kernel⟩
theorem ok_walk_paths {P : Program} {w : World} {K : PySem.W.Frag} {h : Heap} {mg : Str → Option Value} {base : Heap} (KX : K.In h) (G : h.Ns mainGlobals mg) (c : He.SaysD fa fn K) : ∃ fd, Binds K fd ["links", "start"] [] ∧ FnOk P w K mg base (L2.CX P w) 1 (He.fAd K d_walk_paths.at_) fd ["links", "start"] (spD ⟨K, mg⟩ 2 F_walk_paths) := by
  obtain ⟨fd, F⟩ := c.def_ 2 (d := d_walk_paths) rfl
  refine ⟨fd, FunD.bindsN F (fun _ _ _ _ _ _ us hl => match us, hl with | [_, _], _ => rfl), fn_d (k := 0) F sc_walk_paths (fun cdv A outer s H E hr tk => ?_)⟩
  have hx : Passes (L2.CX P w) (cxOf (L2.CX P w) P w K mg base ["links", "start", "paths", "level", "later", "node", "index", "way", "other"] d_walk_paths.qual d_walk_paths.scope (He.fAd K d_walk_paths.at_) cdv A outer s H E) E := passes_call tk (fun _ _ _ _ z => z)
  have hu64 := hr.units
  have hu := hu_of hr
  exact dss_cons (st 2 sc_walk_paths.nd (DN.cel (dn_disp (dps_cons (dv 1) (DN.frz (dn_lst da_nil)) dps_nil)))) (dss_cons (st 3 sc_walk_paths.nd (DN.frz (dn_lst (da_cons (dv 1) da_nil)))) (dss_cons (ds_while 1000 hp_of (dt_truth (dv 3)) (dss_cons (st 4 sc_walk_paths.nd (DN.cel (dn_lst da_nil))) (dss_cons (ds_for hp_of rfl (di_sq (dv 3)) (gn 5 sc_walk_paths.nd) (dss_one (ds_for hp_of rfl (di_sq (de_ix (dv 0) (dv 5) (fun _ _ => rfl))) (dg_tup rfl (dgs_cons (gn 6 sc_walk_paths.nd) (dgs_cons (gn 7 sc_walk_paths.nd) (dgs_cons (gn 8 sc_walk_paths.nd) dgs_nil)))) (dss_one (ds_if (dt_dnotin hu (dv 8) (dv 2)) (dss_cons (ds_dput hu (dv 2) (dv 8) (DN.frz (dn_add (de_dget hu (dv 2) (dv 5) (fun _ _ => rfl)) (DN.frz (dn_lst (da_cons (DN.frz (dn_tup (da_cons (dv 6) (da_cons (dv 7) da_nil)))) da_nil)))))) (dss_one (ds_expr (de_append (dv 4) (da_cons (dv 8) da_nil))))) dss_nil))))) (dss_one (st 3 sc_walk_paths.nd (dv 4)))))) (dss_one (ds_ret (dv 2)))))
theorem sc_components_of : FnScope ["links", "found", "seen", "node", "component", "other"] ["links"] (defScope s_components_of) := ⟨rfl, rfl, rfl, by decide +kernel, rfl, by decide +kernel, by decide +kernel⟩
theorem ok_components_of {P : Program} {w : World} {K : PySem.W.Frag} {h : Heap} {mg : Str → Option Value} {base : Heap} (KX : K.In h) (G : h.Ns mainGlobals mg) (c : He.SaysD fa fn K) : ∃ fd, Binds K fd ["links"] [] ∧ FnOk P w K mg base (L2.CX P w) 2 (He.fAd K d_components_of.at_) fd ["links"] (spD ⟨K, mg⟩ 1 F_components_of) := by
  obtain ⟨fd, F⟩ := c.def_ 3 (d := d_components_of) rfl
  have z_len : mg "len" = none := He.free_ok KX G (c.fact 0 rfl)
  have z_range : mg "range" = none := He.free_ok KX G (c.fact 2 rfl)
  have z_sorted : mg "sorted" = none := He.free_ok KX G (c.fact 27 rfl)
  obtain ⟨fd_walk_paths, b_walk_paths, FO_walk_paths⟩ := ok_walk_paths (P := P) (w := w) (base := base) KX G c
  have g_f_walk_paths : mg "walk_paths" = some (.ref (He.ga K "walk_paths")) := He.glo_ok KX G (c.fact 28 rfl)
  have kp_walk_paths : PySem.W.keepIn K (.ref (He.ga K "walk_paths")) = true := by
    obtain ⟨_, FF⟩ := c.def_ 2 (d := d_walk_paths) rfl
    exact FF.kp
  refine ⟨fd, FunD.bindsN F (fun _ _ _ _ _ _ us hl => match us, hl with | [_], _ => rfl), fn_d (k := 1) F sc_components_of (fun cdv A outer s H E hr tk => ?_)⟩
  have hx : Passes (L2.CX P w) (cxOf (L2.CX P w) P w K mg base ["links", "found", "seen", "node", "component", "other"] d_components_of.qual d_components_of.scope (He.fAd K d_components_of.at_) cdv A outer s H E) E := passes_call tk (fun _ _ _ _ z => z)
  have hu64 := hr.units
  have hu := hu_of hr
  exact dss_cons (st 1 sc_components_of.nd (DN.cel (dn_lst da_nil))) (dss_cons (st 2 sc_components_of.nd (DN.cel dn_dnew)) (dss_cons (ds_for hp_of rfl (di_range1 rfl z_range (da_cons (de_len rfl z_len (da_cons (dv 0) da_nil)) da_nil)) (gn 3 sc_components_of.nd) (dss_one (ds_if (dt_dnotin hu (dv 3) (dv 2)) (dss_cons (st 4 sc_components_of.nd (DN.cel (dn_sorted rfl rfl z_sorted (da_cons (DE.fz (de_call FO_walk_paths (hr.mono (by decide)) rfl g_f_walk_paths kp_walk_paths b_walk_paths tk (da_cons (dv 0) (da_cons (dv 3) da_nil)))) da_nil)))) (dss_cons (ds_expr (de_update (dv 2) (da_cons (DN.frz (dn_dc (own := [(("other" : Str), 5)]) rfl sc_components_of.nd (di_sq (dv 4)) (blkOk_by rfl) (fun _ _ _ _ _ => gn 5 sc_components_of.nd) (fun _ _ _ _ _ => dts_nil) (fun _ _ _ _ _ => dv 5) (fun _ _ _ _ _ => de_bl) (rs_mem rfl))) da_nil))) (dss_one (ds_expr (de_append (dv 1) (da_cons (dv 4) da_nil)))))) dss_nil))) (dss_one (ds_ret (dv 1)))))
theorem sc_Web_components : FnScope ["self"] ["self"] (defScope s_Web_components) := ⟨rfl, rfl, rfl, by decide +kernel, rfl, by decide +kernel, by decide +kernel⟩
theorem ok_Web_components {P : Program} {w : World} {K : PySem.W.Frag} {h : Heap} {mg : Str → Option Value} {base : Heap} (KX : K.In h) (G : h.Ns mainGlobals mg) (c : He.SaysD fa fn K) : ∃ fd, Binds K fd ["self"] [] ∧ FnOk P w K mg base (L2.CX P w) 3 (He.fAd K d_Web_components.at_) fd ["self"] (spD ⟨K, mg⟩ 1 F_Web_components) := by
  obtain ⟨fd, F⟩ := c.def_ 10 (d := d_Web_components) rfl
  obtain ⟨fd_components_of, b_components_of, FO_components_of⟩ := ok_components_of (P := P) (w := w) (base := base) KX G c
  have g_f_components_of : mg "components_of" = some (.ref (He.ga K "components_of")) := He.glo_ok KX G (c.fact 29 rfl)
  have kp_components_of : PySem.W.keepIn K (.ref (He.ga K "components_of")) = true := by
    obtain ⟨_, FF⟩ := c.def_ 3 (d := d_components_of) rfl
    exact FF.kp
  have gc_Web : mg "Web" = some (.ref (He.ga K "Web")) := He.glo_ok KX G (c.fact 17 rfl)
  have cl_Web : Cls K (He.ga K "Web") := He.cls_ok (c.fact 18 rfl)
  have n_Web_links : NoAttr K (He.ga K "Web") "links" := He.noat_ok (c.fact 25 rfl)
  refine ⟨fd, FunD.bindsN F (fun _ _ _ _ _ _ us hl => match us, hl with | [_], _ => rfl), fn_d (k := 2) F sc_Web_components (fun cdv A outer s H E hr tk => ?_)⟩
  have hx : Passes (L2.CX P w) (cxOf (L2.CX P w) P w K mg base ["self"] d_Web_components.qual d_Web_components.scope (He.fAd K d_Web_components.at_) cdv A outer s H E) E := passes_call tk (fun _ _ _ _ z => z)
  have hu64 := hr.units
  have hu := hu_of hr
  have c_Web : ∀ {Y : Cx}, Y.mg = mg → Y.K = K → ClsD Y "Web" (He.ga K "Web") := fun h1 h2 => ⟨by rw [h1]; exact gc_Web, by rw [h2]; exact cl_Web⟩
  exact dss_one (ds_ret (de_call FO_components_of (hr.mono (by decide)) rfl g_f_components_of kp_components_of b_components_of tk (da_cons (de_fld (c_Web rfl rfl) n_Web_links (dv 0)) da_nil)))
theorem sc_Web_forest : FnScope ["self"] ["self"] (defScope s_Web_forest) := ⟨rfl, rfl, rfl, by decide +kernel, rfl, by decide +kernel, by decide +kernel⟩
theorem ok_Web_forest {P : Program} {w : World} {K : PySem.W.Frag} {h : Heap} {mg : Str → Option Value} {base : Heap} (KX : K.In h) (G : h.Ns mainGlobals mg) (c : He.SaysD fa fn K) : ∃ fd, Binds K fd ["self"] [] ∧ FnOk P w K mg base (L2.CX P w) 1 (He.fAd K d_Web_forest.at_) fd ["self"] (spD ⟨K, mg⟩ 1 F_Web_forest) := by
  obtain ⟨fd, F⟩ := c.def_ 11 (d := d_Web_forest) rfl
  have z_list : mg "list" = none := He.free_ok KX G (c.fact 9 rfl)
  have gc_Web : mg "Web" = some (.ref (He.ga K "Web")) := He.glo_ok KX G (c.fact 17 rfl)
  have cl_Web : Cls K (He.ga K "Web") := He.cls_ok (c.fact 18 rfl)
  have n_Web_own_forest : NoAttr K (He.ga K "Web") "own_forest" := He.noat_ok (c.fact 23 rfl)
  refine ⟨fd, FunD.bindsN F (fun _ _ _ _ _ _ us hl => match us, hl with | [_], _ => rfl), fn_d (k := 0) F sc_Web_forest (fun cdv A outer s H E hr tk => ?_)⟩
  have hx : Passes (L2.CX P w) (cxOf (L2.CX P w) P w K mg base ["self"] d_Web_forest.qual d_Web_forest.scope (He.fAd K d_Web_forest.at_) cdv A outer s H E) E := passes_call tk (fun _ _ _ _ z => z)
  have hu64 := hr.units
  have hu := hu_of hr
  have c_Web : ∀ {Y : Cx}, Y.mg = mg → Y.K = K → ClsD Y "Web" (He.ga K "Web") := fun h1 h2 => ⟨by rw [h1]; exact gc_Web, by rw [h2]; exact cl_Web⟩
  exact dss_one (ds_ret (DN.cel (dn_list rfl z_list (da_cons (de_fld (c_Web rfl rfl) n_Web_own_forest (dv 0)) da_nil))))
theorem sc_law : FnScope ["_law_script", "_law_k", "_law_pool_here", "_law_nodes", "_law_links_here", "_law_web", "_law_chosen", "_law_at", "_law_groups_here", "_law_tail", "_law_head", "_law_again", "_law_forest", "_law_group"] ["_law_script"] (defScope s_law) := ⟨rfl, rfl, rfl, by decide +kernel, rfl, by decide +kernel, by decide +kernel⟩
theorem ok_law {P : Program} {w : World} {K : PySem.W.Frag} {h : Heap} {mg : Str → Option Value} (KX : K.In h) (G : h.Ns mainGlobals mg) (c : He.SaysD fa fn K) : ∃ fd, (∀ (s : Shared) (v : Value), BindsTo s fd ⟨[v], []⟩ [("_law_script", v)]) ∧ ∀ base : Heap, FnOk P w K mg base CX0 7 (He.fAd K d_law.at_) fd ["_law_script"] (spL ⟨K, mg⟩ 1 F_law) := by
  obtain ⟨fd, F⟩ := c.def_ 17 (d := d_law) rfl
  refine ⟨fd, fun s v => FunD.bindsA (ps := ["_law_script"]) F (fun _ _ _ _ _ _ us hl => match us, hl with | [_], _ => rfl) s [v] rfl, fun base => ?_⟩
  have z_max : mg "max" = none := He.free_ok KX G (c.fact 30 rfl)
  have z_min : mg "min" = none := He.free_ok KX G (c.fact 26 rfl)
  have z_len : mg "len" = none := He.free_ok KX G (c.fact 0 rfl)
  have z_range : mg "range" = none := He.free_ok KX G (c.fact 2 rfl)
  obtain ⟨fd__law_pool, b__law_pool, FO__law_pool⟩ := ok__law_pool (P := P) (w := w) (base := base) KX G c
  have g_f__law_pool : mg "_law_pool" = some (.ref (He.ga K "_law_pool")) := He.glo_ok KX G (c.fact 31 rfl)
  have kp__law_pool : PySem.W.keepIn K (.ref (He.ga K "_law_pool")) = true := by
    obtain ⟨_, FF⟩ := c.def_ 12 (d := d__law_pool) rfl
    exact FF.kp
  obtain ⟨fd__law_take, b__law_take, FO__law_take⟩ := ok__law_take (P := P) (w := w) (base := base) KX G c
  have g_f__law_take : mg "_law_take" = some (.ref (He.ga K "_law_take")) := He.glo_ok KX G (c.fact 1 rfl)
  have kp__law_take : PySem.W.keepIn K (.ref (He.ga K "_law_take")) = true := by
    obtain ⟨_, FF⟩ := c.def_ 13 (d := d__law_take) rfl
    exact FF.kp
  obtain ⟨fd__law_links, b__law_links, FO__law_links⟩ := ok__law_links (P := P) (w := w) (base := base) KX G c
  have g_f__law_links : mg "_law_links" = some (.ref (He.ga K "_law_links")) := He.glo_ok KX G (c.fact 32 rfl)
  have kp__law_links : PySem.W.keepIn K (.ref (He.ga K "_law_links")) = true := by
    obtain ⟨_, FF⟩ := c.def_ 15 (d := d__law_links) rfl
    exact FF.kp
  obtain ⟨fd_Web___init__, b_Web___init__, FO_Web___init__⟩ := ok_Web___init__ (P := P) (w := w) (base := base) KX G c
  have gc_Web : mg "Web" = some (.ref (He.ga K "Web")) := He.glo_ok KX G (c.fact 17 rfl)
  have cl_Web : Cls K (He.ga K "Web") := He.cls_ok (c.fact 18 rfl)
  have k_Web : Mk K (He.ga K "Web") (He.ma K (He.ga K "Web") "__init__") := He.mkr_ok (c.fact 33 rfl)
  obtain ⟨fd__law_modulus, b__law_modulus, FO__law_modulus⟩ := ok__law_modulus (P := P) (w := w) (base := base) KX G c
  have g_f__law_modulus : mg "_law_modulus" = some (.ref (He.ga K "_law_modulus")) := He.glo_ok KX G (c.fact 34 rfl)
  have kp__law_modulus : PySem.W.keepIn K (.ref (He.ga K "_law_modulus")) = true := by
    obtain ⟨_, FF⟩ := c.def_ 14 (d := d__law_modulus) rfl
    exact FF.kp
  obtain ⟨fd__law_groups, b__law_groups, FO__law_groups⟩ := ok__law_groups (P := P) (w := w) (base := base) KX G c
  have g_f__law_groups : mg "_law_groups" = some (.ref (He.ga K "_law_groups")) := He.glo_ok KX G (c.fact 35 rfl)
  have kp__law_groups : PySem.W.keepIn K (.ref (He.ga K "_law_groups")) = true := by
    obtain ⟨_, FF⟩ := c.def_ 16 (d := d__law_groups) rfl
    exact FF.kp
  obtain ⟨fd_Web_components, b_Web_components, FO_Web_components⟩ := ok_Web_components (P := P) (w := w) (base := base) KX G c
  have m_Web_components : Meth K (He.ga K "Web") "components" (He.ma K (He.ga K "Web") "components") := He.meth_ok (c.fact 36 rfl)
  obtain ⟨fd_Web_forest, b_Web_forest, FO_Web_forest⟩ := ok_Web_forest (P := P) (w := w) (base := base) KX G c
  have m_Web_forest : Meth K (He.ga K "Web") "forest" (He.ma K (He.ga K "Web") "forest") := He.meth_ok (c.fact 37 rfl)
  obtain ⟨its_kb_Web___init___2_modulus, kb_Web___init___2_modulus⟩ := FunD.kbindsD (ps := ["self", "size", "edges", "modulus"]) b_Web___init__ 3 ["modulus"] (fun us _ ws => us ++ ws) (by intro z; cases z) (fun r1 _ r3 => r1.append r3) (fun T kV doc pm an cdv ct us its ws l1 l2 l3 => match us, its, ws, l1, l2, l3 with | [_, _, _], [_], [_], _, _, _ => ⟨_, rfl, rfl⟩)
  refine fn_l (k := 6) F sc_law (fun cdv A outer s H E hr => ?_)
  have tk : Takes (cxOf CX0 P w K mg base ["_law_script", "_law_k", "_law_pool_here", "_law_nodes", "_law_links_here", "_law_web", "_law_chosen", "_law_at", "_law_groups_here", "_law_tail", "_law_head", "_law_again", "_law_forest", "_law_group"] d_law.qual d_law.scope (He.fAd K d_law.at_) cdv A outer s H E) (WF E0) := takes0
  have hx : Passes (L2.CX P w) (cxOf CX0 P w K mg base ["_law_script", "_law_k", "_law_pool_here", "_law_nodes", "_law_links_here", "_law_web", "_law_chosen", "_law_at", "_law_groups_here", "_law_tail", "_law_head", "_law_again", "_law_forest", "_law_group"] d_law.qual d_law.scope (He.fAd K d_law.at_) cdv A outer s H E) E0 := passL
  have hu64 := hr.units
  have hu := hu_of hr
  have c_Web : ∀ {Y : Cx}, Y.mg = mg → Y.K = K → ClsD Y "Web" (He.ga K "Web") := fun h1 h2 => ⟨by rw [h1]; exact gc_Web, by rw [h2]; exact cl_Web⟩
  exact dss_cons (ds_for hp_of rfl (di_range1 rfl z_range (da_cons (de_max2 rfl rfl z_max (da_cons de_int (da_cons (de_min2 rfl rfl z_min (da_cons (de_len rfl z_len (da_cons (dv 0) da_nil)) (da_cons de_int da_nil))) da_nil))) da_nil)) (gn 1 sc_law.nd) (dss_cons (st 2 sc_law.nd (de_call FO__law_pool (hr.mono (by decide)) rfl g_f__law_pool kp__law_pool b__law_pool tk (da_cons (dv 0) (da_cons (dv 1) da_nil)))) (dss_cons (st 3 sc_law.nd (DN.frz (dn_add de_int (DE.fz (de_call FO__law_take (hr.mono (by decide)) rfl g_f__law_take kp__law_take b__law_take tk (da_cons (dv 2) (da_cons (de_ix (DN.frz (dn_lst (da_cons de_int (da_cons de_int da_nil)))) (DE.fz (de_call FO__law_take (hr.mono (by decide)) rfl g_f__law_take kp__law_take b__law_take tk (da_cons (dv 2) (da_cons de_int da_nil)))) (fun _ _ => rfl)) da_nil))))))) (dss_cons (st 4 sc_law.nd (DE.fz (de_call FO__law_links (hr.mono (by decide)) rfl g_f__law_links kp__law_links b__law_links tk (da_cons (dv 2) (da_cons (dv 3) (da_cons (de_ix (DN.frz (dn_lst (da_cons de_int (da_cons de_int da_nil)))) (DE.fz (de_call FO__law_take (hr.mono (by decide)) rfl g_f__law_take kp__law_take b__law_take tk (da_cons (dv 2) (da_cons de_int da_nil)))) (fun _ _ => rfl)) da_nil)))))) (dss_cons (st 5 sc_law.nd (DE.fz (de_makeN (c_Web rfl rfl) k_Web FO_Web___init__ (hr.mono (by decide)) rfl kb_Web___init___2_modulus (fun d l z h1 h2 => by simp [h1, h2]) (fun B as v d vs zs l z r r1 r2 => .cons r (r1.app r2)) hx (da_cons (dv 3) (da_cons (dv 4) da_nil)) (dk_cons (DE.fz (de_call FO__law_modulus (hr.mono (by decide)) rfl g_f__law_modulus kp__law_modulus b__law_modulus tk (da_cons (dv 2) da_nil))) dk_nil)))) (dss_cons (st 6 sc_law.nd (DN.cel (dn_lst da_nil))) (dss_cons (ds_for hp_of rfl (di_range1 rfl z_range (da_cons (de_len rfl z_len (da_cons (dv 4) da_nil)) da_nil)) (gn 7 sc_law.nd) (dss_cons (st 8 sc_law.nd (de_call FO__law_groups (hr.mono (by decide)) rfl g_f__law_groups kp__law_groups b__law_groups tk (da_cons (dv 3) (da_cons (DN.frz (dn_slice (dv 4) do_none (do_some (dv 7)))) da_nil)))) (dss_cons (ds_asg (de_ix (dv 4) (dv 7) (fun _ _ => rfl)) (dg_tup rfl (dgs_cons (gn 9 sc_law.nd) (dgs_cons (gn 10 sc_law.nd) dgs_nil)))) (dss_one (ds_if (dt_eq hu64 (DN.frz (dn_lc (own := [(("_law_group" : Str), 13)]) rfl sc_law.nd (di_sq (dv 8)) (blkOk_by rfl) (fun _ _ _ _ _ => gn 13 sc_law.nd) (fun _ _ _ _ _ => dts_one (dt_w (dw_and (dt_in (dv 9) (dv 13)) (dw_and1 (dt_in (dv 10) (dv 13)))))) (fun _ _ _ _ _ => dv 13) (rs_mem rfl))) (DN.frz (dn_lst da_nil))) (dss_one (ds_expr (de_append (dv 6) (da_cons (dv 7) da_nil)))) dss_nil))))) (dss_one (ds_for hp_of rfl (di_range1 rfl z_range (da_cons de_int da_nil)) (gn 11 sc_law.nd) (dss_cons (ds_par rfl sc_law.nd (show _ from rfl) (show _ from rfl) (by decide) rfl rfl (da_cons (de_meth0 (pl := _) (c_Web rfl rfl) m_Web_components FO_Web_components (hr.mono (by decide)) b_Web_components .nil (fun _ _ => .nil) hx (dv 5)) (da_cons (de_meth0 (pl := _) (c_Web rfl rfl) m_Web_forest FO_Web_forest (hr.mono (by decide)) b_Web_forest .nil (fun _ _ => .nil) hx (dv 5)) da_nil)) (by rfl)) (dss_cons (ds_if (dt_w (dw_or (dt_ne hu64 (dv 8) (DE.fz (de_call FO__law_groups (hr.mono (by decide)) rfl g_f__law_groups kp__law_groups b__law_groups tk (da_cons (dv 3) (da_cons (dv 4) da_nil))))) (dw_or1 (dt_ne hu64 (dv 12) (dv 6))))) (dss_one (ds_ret de_bl)) dss_nil) (dss_cons (ds_expr (de_clear (de_ix (dv 8) de_int (fun _ _ => rfl)))) (dss_cons (ds_expr (de_clear (dv 8))) (dss_one (ds_expr (de_append (dv 12) (da_cons de_int da_nil))))))))))))))))) (dss_one (ds_ret de_bl))
end Lw

set_option Elab.async false
set_option linter.all false
set_option maxRecDepth 100000
set_option maxHeartbeats 0
namespace Lw
open PySem PySem.Spec PyProof.Rows L2
def loose0 : List Str := ["_wall", "__name__", "WebError", "InvalidModulus", "InvalidSize", "InvalidEdge", "InvalidNode", "NoEdge", "TooMany", "forest_of", "links_of", "walk_paths", "components_of", "MOST_NODES", "MOST_EDGES", "MOST_MODULUS", "is_integer", "is_within", "is_edge", "is_modulus", "check_edges", "Web", "check_node", "_law_pool", "_law_take", "_law_modulus", "_law_links", "_law_groups"]
def loose : List Str := loose0
abbrev rowR : PySem.W.OpenRow := PySem.W.OpenLaw.row PySem.Challenge.rw_turnedties_k03_components_and_forest
abbrev hkD : PySem.W.Hook := He.hookD 4 fa fn
def obD (s : PySem.W.SharedT) : He.AlD := He.obsDG 4 fa fn (HandSHeadRun.getT s)
theorem obD_eq (s : PySem.W.SharedT) : obD s = hkD.obs s.abs := He.obsDG_eq (HandSHeadRun.getT_eq s)
theorem runD (w : World) : HandSHeadRun.RunEq rowR (PySem.W.view rowR.prog [31]) hkD obD 100000 loose w := by
  intro os
  kernel_rfl
end Lw
open PySem PySem.W PySem.Calls PyProof.Rows
theorem PySem.Challenge.cw_turnedties_k03_components_and_forest_holds : PySem.Challenge.rw_turnedties_k03_components_and_forest.Holds := by
  w_on; o_law
  refine HandSHeadRun.head_any (r := OpenLaw.row PySem.Challenge.rw_turnedties_k03_components_and_forest) (q := view (OpenLaw.row PySem.Challenge.rw_turnedties_k03_components_and_forest).prog [31]) (H := Lw.hkD) (ob := Lw.obD) (M := 100000) (loose := Lw.loose) (d := HandSHeadRun.topDef (OpenLaw.row PySem.Challenge.rw_turnedties_k03_components_and_forest).prog 31) (kwd := []) Lw.obD_eq
    (by kernel_rfl) (fun s => by kernel_rfl) Lw.runD (by kernel_rfl) (by kernel_rfl) (by kernel_rfl) (by rfl) (by first | assumption | decide +kernel) (by decide +kernel) ⟨rfl, rfl, rfl, rfl, rfl, by decide +kernel⟩ ?hw ?hc
  case hw => w_witness2
  case hc =>
    refine L2.walk_ofE (l := PySem.Challenge.rw_turnedties_k03_components_and_forest) (n := 63) (k := 7) (x := "_law_script") (CX := L2.CX0) rfl (by decide) (by kernel_rfl) ⟨rfl, by decide, by decide⟩ ?F (fun _ _ _ _ z => z)
    intro w mg fa0 h Y G hmg0
    obtain ⟨K, KX, c⟩ := Y
    have hmg : mg ("law" : PySem.Str) = some (.ref fa0) := by
      have e : (HandSHeadRun.topDef (OpenLaw.row PySem.Challenge.rw_turnedties_k03_components_and_forest).prog 31).name = ("law" : PySem.Str) := by kernel_rfl
      rw [← e]
      exact hmg0
    have e := hmg.symm.trans (He.glo_ok KX G (c.fact 38 (f := .glo "law") rfl))
    cases e
    obtain ⟨fd, hb, hF⟩ := Lw.ok_law (P := (PySem.Challenge.rw_turnedties_k03_components_and_forest).prog) (w := w) KX G c
    exact ⟨K, fd, _, KX, hb, fun H a ns hl _ hS => let ⟨M1, hM⟩ := Lw.law_true ns; DL.spL_script hS hM, fun base _ _ => hF base⟩
