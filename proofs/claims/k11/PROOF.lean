import PyProof.Rows.All
import Wide.All
import OpenK.AllK
import Wide.FinOn
import KE.KStateDown
import Lean
import HandS.ForMost
import HandS.More
import HandS.WordsExc
import HandS.Defaults
import HandS.Wide
import HandS.Head0
import HandS.Head1
import HandS.Head2
import HandS.HeadEnd
import HandS.HeadHook1
import HandS.HeadHook2
import HandS.Conv
import HandS.SortInts
import HandS.MakeKw
import HandS.MakeKwOnly
import HandS.CallSlots
import HandS.IsInst
import HandS.DictComp
import HandS.Zip
import HandS.Style
import HandS.NamedTupGet
import PySem.Challenge.RW_turnedties_k11_whole_switches_in_any_ord
set_option Elab.async false
set_option linter.all false
set_option maxRecDepth 100000
set_option maxHeartbeats 4000000
/-! DL1: data trees, the store, judgements whose index is a deterministic function. -/
namespace DL
open PySem L2

/-- a node's tag -/
inductive Tg where
  | lst | slst | tup | dct (ks : List Key) | obj (c : Str) (ns : List Str)
/-- data: scalars, built-in classes, globals by name, a cell of the store, a frozen node -/
inductive D where
  | non | bl (b : Bool) | int (i : Int) | str (x : Str) | ty (n : String) | gl (x : Str) | ref (n : Nat) | nd (t : Tg) (l : List D)
abbrev Store := List (Tg × List D)
abbrev D.lst (l : List D) : D := .nd .lst l
abbrev D.tup (l : List D) : D := .nd .tup l
/-- outcomes -/
inductive Out (α : Type) where
  | ok (a : α) (M : Store) | exc (c : Str) (d : D) (M : Store) | stuck
abbrev Ev (α : Type) := Store → Out α
def Ev.ret {α : Type} (a : α) : Ev α := fun M => .ok a M
def Ev.no {α : Type} : Ev α := fun _ => .stuck
def Out.bnd {α β : Type} (o : Out α) (k : α → Ev β) : Out β := match o with
  | .ok a M => k a M
  | .exc c d M => .exc c d M
  | .stuck => .stuck
def Ev.bnd {α β : Type} (m : Ev α) (k : α → Ev β) : Ev β := fun M => (m M).bnd k
theorem ret_bnd {α β : Type} (a : α) (k : α → Ev β) : (Ev.ret a).bnd k = k a := rfl
theorem bnd_bnd {α β γ : Type} (m : Ev α) (k : α → Ev β) (j : β → Ev γ) : (m.bnd k).bnd j = m.bnd fun a => (k a).bnd j := by
  funext M; unfold Ev.bnd; cases m M <;> rfl
theorem no_bnd {α β : Type} (k : α → Ev β) : (Ev.no : Ev α).bnd k = Ev.no := rfl
theorem bnd_apply {α β : Type} (m : Ev α) (k : α → Ev β) (M : Store) : (m.bnd k) M = (m M).bnd k := rfl
theorem ok_bnd {α β : Type} (a : α) (M : Store) (k : α → Ev β) : (Out.ok a M).bnd k = k a M := rfl
theorem ret_apply {α : Type} (a : α) (M : Store) : Ev.ret a M = .ok a M := rfl
/-- a local frame -/
abbrev Lo := List (Option D)
inductive Fl where
  | nx (S : Lo) | rt (d : D) | bk (S : Lo) | ct (S : Lo) | xc (c : Str) (d : D) (S : Lo)

structure Gx where
  K : PySem.W.Frag
  mg : Str → Option Value
abbrev gx (X : Cx) : Gx := ⟨X.K, X.mg⟩

/-- a frozen node at p -/
def FC (G : Gx) (B : Hp) (p : Addr) : Tg → List V → Prop
  | .lst, vs => B p = some (.lst vs)
  | .slst, vs => SqL G.K B p vs
  | .tup, vs => SqT G.K B p vs
  | .dct ks, vs => B p = some (.dK (ks.zip vs)) ∧ ks.length = vs.length
  | .obj c ns, vs => ∃ C dx, G.mg c = some (.ref C) ∧ B p = some (.ins C dx (ns.zip vs)) ∧ ns.length = vs.length
/-- a cell at a -/
def MC (G : Gx) (H : Hp) (a : Addr) : Tg → List V → Prop
  | .lst, vs => H a = some (.lst vs)
  | .slst, _ => False
  | .tup, _ => False
  | .dct ks, vs => H a = some (.dK (ks.zip vs)) ∧ ks.length = vs.length
  | .obj c ns, vs => ∃ C dx, G.mg c = some (.ref C) ∧ H a = some (.ins C dx (ns.zip vs)) ∧ ns.length = vs.length
mutual
inductive R (G : Gx) (B : Hp) (as : List Addr) : V → D → Prop
  | non : R G B as .non .non
  | bl (b : Bool) : R G B as (.bl b) (.bl b)
  | int (i : Int) : R G B as (.int i) (.int i)
  | str (x : Str) : R G B as (.str x) (.str x)
  | ty (n : String) : R G B as (.ty n) (.ty n)
  | gl {x : Str} {a : Addr} : G.mg x = some (.ref a) → R G B as (.ref a) (.gl x)
  | ref {n : Nat} {a : Addr} : as[n]? = some a → R G B as (.ref a) (.ref n)
  | nd {t : Tg} {p : Addr} {vs : List V} {l : List D} : FC G B p t vs → Rs G B as vs l → R G B as (.ref p) (.nd t l)
inductive Rs (G : Gx) (B : Hp) (as : List Addr) : List V → List D → Prop
  | nil : Rs G B as [] []
  | cons {v : V} {vs : List V} {d : D} {l : List D} : R G B as v d → Rs G B as vs l → Rs G B as (v :: vs) (d :: l)
end
theorem pre_get {α : Type} {l l' : List α} (p : l <+: l') {n : Nat} {a : α} (h : l[n]? = some a) : l'[n]? = some a := by
  obtain ⟨t, rfl⟩ := p
  rw [List.getElem?_append_left (List.getElem?_eq_some_iff.mp h).1]; exact h
theorem sqT_mono {K : PySem.W.Frag} {B B' : Hp} {a : Addr} {xs : List V} (e : Same B B') (h : SqT K B a xs) : SqT K B' a xs := by
  rcases h with h | h
  · rcases h with h | ⟨o, h⟩
    · exact .inl (.inl (e _ _ h))
    · exact .inl (.inr ⟨o, e _ _ h⟩)
  · exact .inr h
theorem FC.mono {G : Gx} {B B' : Hp} {p : Addr} (e : Same B B') : ∀ {t : Tg} {vs : List V}, FC G B p t vs → FC G B' p t vs
  | .lst, _, h => e _ _ h
  | .slst, _, h => e.seq h
  | .tup, _, h => sqT_mono e h
  | .dct _, _, h => ⟨e _ _ h.1, h.2⟩
  | .obj _ _, _, h => let ⟨C, dx, a, b, c⟩ := h; ⟨C, dx, a, e _ _ b, c⟩
mutual
theorem R.mono {G : Gx} {B B' : Hp} {as as' : List Addr} (e : Same B B') (p : as <+: as') : ∀ {v : V} {d : D}, R G B as v d → R G B' as' v d
  | _, _, .non => .non
  | _, _, .bl b => .bl b
  | _, _, .int i => .int i
  | _, _, .str x => .str x
  | _, _, .ty n => .ty n
  | _, _, .gl h => .gl h
  | _, _, .ref h => .ref (pre_get p h)
  | _, _, .nd h r => .nd (h.mono e) (Rs.mono e p r)
theorem Rs.mono {G : Gx} {B B' : Hp} {as as' : List Addr} (e : Same B B') (p : as <+: as') : ∀ {vs : List V} {l : List D}, Rs G B as vs l → Rs G B' as' vs l
  | _, _, .nil => .nil
  | _, _, .cons h r => .cons (R.mono e p h) (Rs.mono e p r)
end
section
variable {G : Gx} {Fr B B' : Hp} {as as' : List Addr}
theorem Rs.length : ∀ {vs : List V} {l : List D}, Rs G B as vs l → vs.length = l.length
  | _, _, .nil => rfl
  | _, _, .cons _ r => congrArg (· + 1) r.length
theorem Rs.get : ∀ {vs : List V} {l : List D} {i : Nat} {d : D}, Rs G B as vs l → l[i]? = some d → ∃ v, vs[i]? = some v ∧ R G B as v d
  | _, _, _, _, .nil, e => by simp at e
  | _, _, 0, _, .cons h _, e => by simp at e; subst e; exact ⟨_, rfl, h⟩
  | _, _, i + 1, d, .cons _ r, e => by
    obtain ⟨v, h1, h2⟩ := Rs.get (i := i) (d := d) r (by simpa using e)
    exact ⟨v, by simpa using h1, h2⟩
theorem Rs.getV : ∀ {vs : List V} {l : List D} {i : Nat} {v : V}, Rs G B as vs l → vs[i]? = some v → ∃ d, l[i]? = some d ∧ R G B as v d
  | _, _, _, _, .nil, e => by simp at e
  | _, _, 0, _, .cons h _, e => by simp at e; subst e; exact ⟨_, rfl, h⟩
  | _, _, i + 1, d, .cons _ r, e => by
    obtain ⟨v, h1, h2⟩ := Rs.getV (i := i) (v := d) r (by simpa using e)
    exact ⟨v, by simpa using h1, h2⟩
theorem Rs.app : ∀ {vs ws : List V} {l m : List D}, Rs G B as vs l → Rs G B as ws m → Rs G B as (vs ++ ws) (l ++ m)
  | _, _, _, _, .nil, r => r
  | _, _, _, _, .cons h t, r => .cons h (Rs.app t r)
theorem Rs.set {v : V} {d : D} (h : R G B as v d) : ∀ {vs : List V} {l : List D} (i : Nat), Rs G B as vs l → Rs G B as (vs.set i v) (l.set i d)
  | _, _, _, .nil => .nil
  | _, _, 0, .cons _ t => .cons h t
  | _, _, i + 1, .cons q t => .cons q (Rs.set h i t)
theorem Rs.take : ∀ {vs : List V} {l : List D} (n : Nat), Rs G B as vs l → Rs G B as (vs.take n) (l.take n)
  | _, _, 0, _ => .nil
  | _, _, _ + 1, .nil => .nil
  | _, _, n + 1, .cons h t => .cons h (Rs.take n t)
theorem Rs.drop : ∀ {vs : List V} {l : List D} (n : Nat), Rs G B as vs l → Rs G B as (vs.drop n) (l.drop n)
  | _, _, 0, r => r
  | _, _, _ + 1, .nil => .nil
  | _, _, n + 1, .cons _ t => Rs.drop n t
theorem Rs.one {v : V} {d : D} (h : R G B as v d) : Rs G B as [v] [d] := .cons h .nil
theorem Rs.inv1 {vs : List V} {d : D} (h : Rs G B as vs [d]) : ∃ v, vs = [v] ∧ R G B as v d := by
  cases h with | cons h t => cases t; exact ⟨_, rfl, h⟩
theorem Rs.inv2 {vs : List V} {d e : D} (h : Rs G B as vs [d, e]) : ∃ v w, vs = [v, w] ∧ R G B as v d ∧ R G B as w e := by
  cases h with | cons h t => obtain ⟨w, rfl, q⟩ := t.inv1; exact ⟨_, _, rfl, h, q⟩
theorem Rs.inv3 {vs : List V} {d e f : D} (h : Rs G B as vs [d, e, f]) : ∃ v w u, vs = [v, w, u] ∧ R G B as v d ∧ R G B as w e ∧ R G B as u f := by
  cases h with | cons h t => obtain ⟨w, u, rfl, q, r⟩ := t.inv2; exact ⟨_, _, _, rfl, h, q, r⟩
theorem Rs.nilD {vs : List V} (h : Rs G B as vs []) : vs = [] := by cases h; rfl

/-- the heap bears the store -/
structure Rep (G : Gx) (Fr B : Hp) (as : List Addr) (H : Hp) (M : Store) : Prop where
  sub : Same B H
  frm : Same Fr H
  fout : ∀ a ∈ as, Fr a = none
  dis : ∀ a o, Fr a = some o → B a = none
  nd : as.Nodup
  out : ∀ a ∈ as, B a = none
  len : as.length = M.length
  cell : ∀ (n : Nat) (a : Addr) (c : Tg × List D), as[n]? = some a → M[n]? = some c → ∃ vs, MC G H a c.1 vs ∧ Rs G B as vs c.2
/-- the slots hold the frame -/
structure RS (G : Gx) (B : Hp) (as : List Addr) (σ : St) (S : Lo) : Prop where
  len : σ.length = S.length
  at_ : ∀ (i : Nat) (d : D), S[i]? = some (some d) → ∃ v, σ[i]? = some (some v) ∧ R G B as v d
theorem RS.mono {σ : St} {S : Lo} (h : RS G B as σ S) (e : Same B B') (p : as <+: as') : RS G B' as' σ S :=
  ⟨h.len, fun i d q => let ⟨v, a, r⟩ := h.at_ i d q; ⟨v, a, r.mono e p⟩⟩
theorem RS.set {σ : St} {S : Lo} {v : V} {d : D} (h : RS G B as σ S) (r : R G B as v d) (i : Nat) : RS G B as (σ.set i (some v)) (S.set i (some d)) := by
  refine ⟨by simp [h.len], fun j e q => ?_⟩
  by_cases hj : i = j
  · subst hj
    by_cases hi : i < S.length
    · rw [List.getElem?_set_self hi] at q
      cases q
      exact ⟨v, by rw [List.getElem?_set_self (by rw [h.len]; exact hi)], r⟩
    · rw [List.getElem?_eq_none (by simpa using hi)] at q; cases q
  · rw [List.getElem?_set_ne hj] at q
    obtain ⟨w, a, b⟩ := h.at_ j e q
    exact ⟨w, by rw [List.getElem?_set_ne hj]; exact a, b⟩
theorem Rep.fresh {H : Hp} {M : Store} {p : Addr} (h : Rep G Fr B as H M) (n : H p = none) : B p = none ∧ p ∉ as := by
  refine ⟨h.sub.free n, fun hp => ?_⟩
  obtain ⟨k, hk, e⟩ := List.getElem_of_mem hp
  have hM : k < M.length := by rw [← h.len]; exact hk
  obtain ⟨vs, c, _⟩ := h.cell k p M[k] (by rw [List.getElem?_eq_getElem hk, e]) (List.getElem?_eq_getElem hM)
  cases t : M[k].1 with
  | lst => rw [t] at c; have c' : H p = some (.lst vs) := c; rw [n] at c'; cases c'
  | slst => rw [t] at c; exact c
  | tup => rw [t] at c; exact c
  | dct ks => rw [t] at c; have c' := c.1; rw [n] at c'; cases c'
  | obj a b => rw [t] at c; obtain ⟨_, _, _, c', _⟩ := c; rw [n] at c'; cases c'
theorem MC.upd {H : Hp} {a p : Addr} {o : HO} (hp : a ≠ p) : ∀ {t : Tg} {vs : List V}, MC G H a t vs → MC G (upd H p o) a t vs
  | .lst, _, h => by show L2.upd H p o a = _; rw [upd_ne hp]; exact h
  | .slst, _, h => h
  | .tup, _, h => h
  | .dct _, _, h => ⟨by rw [upd_ne hp]; exact h.1, h.2⟩
  | .obj _ _, _, h => let ⟨C, dx, a', b, c⟩ := h; ⟨C, dx, a', by rw [upd_ne hp]; exact b, c⟩
theorem MC.keep {H H' : Hp} {a : Addr} (hp : ∀ o, H a = some o → H' a = some o) : ∀ {t : Tg} {vs : List V}, MC G H a t vs → MC G H' a t vs
  | .lst, _, h => hp _ h
  | .slst, _, h => h
  | .tup, _, h => h
  | .dct _, _, h => ⟨hp _ h.1, h.2⟩
  | .obj _ _, _, h => let ⟨C, dx, a', b, c⟩ := h; ⟨C, dx, a', hp _ b, c⟩
theorem same_upd {p : Addr} {o : HO} (n : B p = none) : Same B (L2.upd B p o) := fun b u e => by
  rw [upd_ne (ne_of_none e n)]; exact e
theorem same_upd2 {H : Hp} {p : Addr} {o : HO} (s : Same B H) : Same (L2.upd B p o) (L2.upd H p o) := fun b u e => by
  by_cases hb : b = p
  · subst hb; rw [upd_same] at e ⊢; exact e
  · rw [upd_ne hb] at e ⊢; exact s b u e
/-- a new thing laid and frozen -/
theorem Rep.froze {H : Hp} {M : Store} {p : Addr} {o : HO} (h : Rep G Fr B as H M) (n : H p = none) : Rep G Fr (L2.upd B p o) as (L2.upd H p o) M := by
  obtain ⟨nb, na⟩ := h.fresh n
  refine ⟨same_upd2 h.sub, h.frm.trans (same_upd n), h.fout, fun b u e => by rw [upd_ne (ne_of_none e (h.frm.free n))]; exact h.dis b u e, h.nd, fun a ha => ?_, h.len, fun k a c ha hc => ?_⟩
  · rw [upd_ne (fun e => na (by rw [← e]; exact ha))]; exact h.out a ha
  · obtain ⟨vs, m, r⟩ := h.cell k a c ha hc
    exact ⟨vs, m.upd (fun e => na (by rw [← e]; exact List.mem_of_getElem? ha)), r.mono (same_upd nb) (List.prefix_refl _)⟩
/-- a thing laid that nobody tracks as data -/
theorem Rep.laid {H : Hp} {M : Store} {p : Addr} {o : HO} (h : Rep G Fr B as H M) (n : H p = none) : Rep G Fr B as (L2.upd H p o) M := by
  obtain ⟨nb, na⟩ := h.fresh n
  refine ⟨h.sub.trans (same_upd n), h.frm.trans (same_upd n), h.fout, h.dis, h.nd, h.out, h.len, fun k a c ha hc => ?_⟩
  obtain ⟨vs, m, r⟩ := h.cell k a c ha hc
  exact ⟨vs, m.upd (fun e => na (by rw [← e]; exact List.mem_of_getElem? ha)), r⟩
/-- a new cell -/
theorem Rep.push {H : Hp} {M : Store} {p : Addr} {o : HO} {t : Tg} {vs : List V} {l : List D} (h : Rep G Fr B as H M) (n : H p = none) (c : MC G (L2.upd H p o) p t vs) (r : Rs G B as vs l) :
    Rep G Fr B (as ++ [p]) (L2.upd H p o) (M ++ [(t, l)]) := by
  obtain ⟨nb, na⟩ := h.fresh n
  refine ⟨h.sub.trans (same_upd n), h.frm.trans (same_upd n), fun a ha => ?_, h.dis, ?_, fun a ha => ?_, by simp [h.len], fun k a q ha hc => ?_⟩
  · rcases List.mem_append.mp ha with z | z
    · exact h.fout a z
    · simp at z; subst z; exact h.frm.free n
  · rw [List.nodup_append]
    exact ⟨h.nd, by simp, fun x hx y hy e => by simp at hy; subst hy; exact na (by rw [← e]; exact hx)⟩
  · rcases List.mem_append.mp ha with z | z
    · exact h.out a z
    · simp at z; subst z; exact nb
  · have pre : as <+: as ++ [p] := List.prefix_append _ _
    by_cases hk : k < as.length
    · rw [List.getElem?_append_left hk] at ha
      rw [List.getElem?_append_left (by rw [← h.len]; exact hk)] at hc
      obtain ⟨vs', m, r'⟩ := h.cell k a q ha hc
      exact ⟨vs', m.upd (fun e => na (by rw [← e]; exact List.mem_of_getElem? ha)), r'.mono (Same.refl _) pre⟩
    · have hk' : k = as.length := by
        have := (List.getElem?_eq_some_iff.mp ha).1
        simp at this; omega
      subst hk'
      rw [List.getElem?_append_right (Nat.le_refl _)] at ha
      rw [h.len, List.getElem?_append_right (Nat.le_refl _)] at hc
      simp at ha hc
      subst ha; subst hc
      exact ⟨vs, c, r.mono (Same.refl _) pre⟩
theorem pre_push {p : Addr} : as <+: as ++ [p] := List.prefix_append _ _
theorem nodup_ixA {l : List Addr} {i j : Nat} {x : Addr} (hl : l.Nodup) (a : l[i]? = some x) (b : l[j]? = some x) : i = j := by
  obtain ⟨h1, e1⟩ := List.getElem?_eq_some_iff.mp a
  obtain ⟨h2, e2⟩ := List.getElem?_eq_some_iff.mp b
  exact (List.getElem_inj hl).mp (e1.trans e2.symm)
/-- a cell is written -/
theorem Rep.write {H : Hp} {M : Store} {n : Nat} {a : Addr} {o : HO} {t : Tg} {vs : List V} {l : List D} (h : Rep G Fr B as H M) (ha : as[n]? = some a) (c : MC G (L2.upd H a o) a t vs) (r : Rs G B as vs l) :
    Rep G Fr B as (L2.upd H a o) (M.set n (t, l)) := by
  have hn := (List.getElem?_eq_some_iff.mp ha).1
  refine ⟨fun b u e => ?_, fun b u e => ?_, h.fout, h.dis, h.nd, h.out, by simp [h.len], fun k b q hb hc => ?_⟩
  · have : b ≠ a := ne_of_none e (h.out a (List.mem_of_getElem? ha))
    rw [upd_ne this]; exact h.sub b u e
  · have : b ≠ a := ne_of_none e (h.fout a (List.mem_of_getElem? ha))
    rw [upd_ne this]; exact h.frm b u e
  · by_cases hk : n = k
    · subst hk
      rw [ha] at hb; cases hb
      rw [List.getElem?_set_self (by rw [← h.len]; exact hn)] at hc
      cases hc
      exact ⟨vs, c, r⟩
    · rw [List.getElem?_set_ne hk] at hc
      obtain ⟨vs', m, r'⟩ := h.cell k b q hb hc
      refine ⟨vs', m.upd fun e => hk ?_, r'⟩
      subst e
      exact nodup_ixA h.nd ha hb
end

/-- what is wanted behind an outcome -/
def Post {α : Type} (B : Hp) (as : List Addr) (o : Out α) (k : α → Store → Hp → List Addr → Prop) (x : Str → D → Store → Hp → List Addr → Prop) : Prop :=
  match o with
  | .ok a M => ∀ B' as', Same B B' → as <+: as' → k a M B' as'
  | .exc c d M => ∀ B' as', Same B B' → as <+: as' → x c d M B' as'
  | .stuck => False
theorem Post.mono {α : Type} {B B' : Hp} {as as' : List Addr} {o : Out α} {k : α → Store → Hp → List Addr → Prop} {x : Str → D → Store → Hp → List Addr → Prop} (h : Post B as o k x) (e : Same B B') (p : as <+: as') : Post B' as' o k x := by
  cases o with
  | ok a M => exact fun B2 as2 e2 p2 => h B2 as2 (e.trans e2) (p.trans p2)
  | exc c d M => exact fun B2 as2 e2 p2 => h B2 as2 (e.trans e2) (p.trans p2)
  | stuck => exact h
theorem Post.imp {α : Type} {B : Hp} {as : List Addr} {o : Out α} {k k' : α → Store → Hp → List Addr → Prop} {x : Str → D → Store → Hp → List Addr → Prop} (h : Post B as o k x)
    (f : ∀ a M B' as', Same B B' → as <+: as' → k a M B' as' → k' a M B' as') : Post B as o k' x := by
  cases o with
  | ok a M => exact fun B2 as2 e2 p2 => f a M B2 as2 e2 p2 (h B2 as2 e2 p2)
  | exc c d M => exact h
  | stuck => exact h
theorem Post.bnd {α β : Type} {B : Hp} {as : List Addr} {m : Ev α} {f : α → Ev β} {M : Store} {k : β → Store → Hp → List Addr → Prop} {x : Str → D → Store → Hp → List Addr → Prop} (h : Post B as ((m.bnd f) M) k x) :
    Post B as (m M) (fun a M' B' as' => Post B' as' (f a M') k x) x := by
  unfold Ev.bnd at h
  cases e : m M with
  | ok a M' => rw [e] at h; exact fun B2 as2 e2 p2 => Post.mono (o := f a M') h e2 p2
  | exc c d M' => rw [e] at h; exact h
  | stuck => rw [e] at h; exact h
theorem Post.unbnd {α β : Type} {B : Hp} {as : List Addr} {m : Ev α} {f : α → Ev β} {M : Store} {k : β → Store → Hp → List Addr → Prop} {x : Str → D → Store → Hp → List Addr → Prop}
    (h : Post B as (m M) (fun a M' B' as' => Post B' as' (f a M') k x) x) : Post B as ((m.bnd f) M) k x := by
  unfold Ev.bnd
  cases e : m M with
  | ok a M' => rw [e] at h; exact h B as (Same.refl _) (List.prefix_refl _)
  | exc c d M' => rw [e] at h; exact h
  | stuck => rw [e] at h; exact h
theorem Post.ok {α : Type} {B : Hp} {as : List Addr} {a : α} {M : Store} {k : α → Store → Hp → List Addr → Prop} {x : Str → D → Store → Hp → List Addr → Prop} (h : Post B as (.ok a M) k x) : k a M B as := h B as (Same.refl _) (List.prefix_refl _)
theorem Post.ret {α : Type} {B : Hp} {as : List Addr} {a : α} {M : Store} {k : α → Store → Hp → List Addr → Prop} {x : Str → D → Store → Hp → List Addr → Prop} (h : Post B as (Ev.ret a M) k x) : k a M B as := Post.ok h

/-- an exception of the class named c whose field value is d -/
def XR (G : Gx) (B : Hp) (as : List Addr) (H : Hp) (c : Str) (d : D) (cls : Value) (dx : Option Addr) : Prop :=
  ∃ C a v, cls = .ref C ∧ G.mg c = some (.ref C) ∧ dx = some a ∧ H a = some (.xd [("value", v)]) ∧ R G B as v d
section
variable (X : Cx) (W : WX)
def kD (Fr : Hp) (Q : VK) : D → Store → Hp → List Addr → Prop := fun d M B as => ∀ v H, Rep (gx X) Fr B as H M → R (gx X) B as v d → Q v H
def kB (Fr : Hp) (Q : Bool → Hp → Prop) : Bool → Store → Hp → List Addr → Prop := fun b M B as => ∀ H, Rep (gx X) Fr B as H M → Q b H
def kA (Fr : Hp) (Q : List V → Hp → Prop) : List D → Store → Hp → List Addr → Prop := fun l M B as => ∀ vs H, Rep (gx X) Fr B as H M → Rs (gx X) B as vs l → Q vs H
def kX (Fr : Hp) (W : WX) (σ : St) : Str → D → Store → Hp → List Addr → Prop := fun c d M B as => ∀ cls dx H, Rep (gx X) Fr B as H M → XR (gx X) B as H c d cls dx → W cls dx σ H
def kF (Fr : Hp) (W : WX) (D : Ends) : Fl → Store → Hp → List Addr → Prop := fun fl M B as => match fl with
  | .nx S => ∀ σ H, Rep (gx X) Fr B as H M → RS (gx X) B as σ S → D.nx σ H
  | .rt d => ∀ v H, Rep (gx X) Fr B as H M → R (gx X) B as v d → D.rt v H
  | .bk S => ∀ σ H, Rep (gx X) Fr B as H M → RS (gx X) B as σ S → D.bk σ H
  | .ct S => ∀ σ H, Rep (gx X) Fr B as H M → RS (gx X) B as σ S → D.ct σ H
  | .xc c d S => ∀ σ cls dx H, Rep (gx X) Fr B as H M → RS (gx X) B as σ S → XR (gx X) B as H c d cls dx → W cls dx σ H
/-- an expression -/
def DE (e : Expr) (f : Lo → Ev D) : Prop := ∃ t, PE X e t ∧ ∀ Fr B as σ H S M Q, RS (gx X) B as σ S → Rep (gx X) Fr B as H M → Post B as (f S M) (kD X Fr Q) (kX X Fr W σ) → t σ H Q
def DT (e : Expr) (f : Lo → Ev Bool) : Prop := ∃ t, PT X e t ∧ ∀ Fr B as σ H S M Q, RS (gx X) B as σ S → Rep (gx X) Fr B as H M → Post B as (f S M) (kB X Fr Q) (kX X Fr W σ) → t σ H Q
def DW (e : Expr) (f : Lo → Ev Bool) : Prop := ∃ t, PW X e t ∧ ∀ Fr B as σ H S M Q, RS (gx X) B as σ S → Rep (gx X) Fr B as H M → Post B as (f S M) (kB X Fr Q) (kX X Fr W σ) → t σ H Q
def DA (es : List Expr) (f : Lo → Ev (List D)) : Prop := ∃ t, PA X es t ∧ ∀ Fr B as σ H S M Q, RS (gx X) B as σ S → Rep (gx X) Fr B as H M → Post B as (f S M) (kA X Fr Q) (kX X Fr W σ) → t σ H Q
/-- statements -/
def DS (st : Stmt) (f : Lo → Ev Fl) : Prop := ∃ t, PS X st t ∧ ∀ Fr B as σ H S M D, RS (gx X) B as σ S → Rep (gx X) Fr B as H M → Post B as (f S M) (kF X Fr W D) (fun _ _ _ _ _ => False) → t D σ H
def DSs (st : List Stmt) (f : Lo → Ev Fl) : Prop := ∃ t, PSs X st t ∧ ∀ Fr B as σ H S M D, RS (gx X) B as σ S → Rep (gx X) Fr B as H M → Post B as (f S M) (kF X Fr W D) (fun _ _ _ _ _ => False) → t D σ H
end

/-! ### readings of expressions -/
def eVar (i : Nat) : Lo → Ev D := fun S => match S[i]? with
  | some (some d) => Ev.ret d
  | _ => Ev.no
def eC (d : D) : Lo → Ev D := fun _ => Ev.ret d
def e2 (op : D → D → Ev D) (fa fb : Lo → Ev D) : Lo → Ev D := fun S => (fa S).bnd fun x => (fb S).bnd fun y => op x y
def e1 (op : D → Ev D) (fa : Lo → Ev D) : Lo → Ev D := fun S => (fa S).bnd op
def eA0 : Lo → Ev (List D) := fun _ => Ev.ret []
def eAc (fa : Lo → Ev D) (fr : Lo → Ev (List D)) : Lo → Ev (List D) := fun S => (fa S).bnd fun x => (fr S).bnd fun l => Ev.ret (x :: l)
def asB : D → Ev Bool
  | .bl b => Ev.ret b
  | _ => Ev.no
def eB (f : Lo → Ev D) : Lo → Ev Bool := fun S => (f S).bnd asB
def eAnd (f g : Lo → Ev Bool) : Lo → Ev Bool := fun S => (f S).bnd fun b => if b = true then g S else Ev.ret false
def eOr (f g : Lo → Ev Bool) : Lo → Ev Bool := fun S => (f S).bnd fun b => if b = true then Ev.ret true else g S
def eNot (f : Lo → Ev Bool) : Lo → Ev Bool := fun S => (f S).bnd fun b => Ev.ret (!b)
def eAndV (f g : Lo → Ev D) : Lo → Ev D := fun S => (f S).bnd fun x => (asB x).bnd fun b => if b = true then g S else Ev.ret (.bl false)
def eOrV (f g : Lo → Ev D) : Lo → Ev D := fun S => (f S).bnd fun x => (asB x).bnd fun b => if b = true then Ev.ret (.bl true) else g S
def eNotV (f : Lo → Ev D) : Lo → Ev D := fun S => (f S).bnd fun x => (asB x).bnd fun b => Ev.ret (.bl (!b))
def eIf (c : Lo → Ev Bool) (f g : Lo → Ev D) : Lo → Ev D := fun S => (c S).bnd fun b => if b = true then f S else g S
section
variable {X : Cx} {W : WX} {e a b c : Expr} {pos : Pos}
theorem de_var {i : Nat} {x : Str} (hN : X.N[i]? = some x) (hv : Vis X.env.scope x) (hd : (x == ("__debug__" : Str)) = false := by decide) (hcd : (x == ("__classdict__" : Str)) = false := by decide) : DE X W (.Name x pos) (eVar i) := by
  refine ⟨_, pe_var hN hv hd hcd, fun Fr B as σ H S M Q rs rp h => ?_⟩
  unfold eVar at h
  cases q : S[i]? with
  | none => rw [q] at h; exact h.elim
  | some o =>
    cases o with
    | none => rw [q] at h; exact h.elim
    | some d =>
      rw [q] at h
      obtain ⟨v, hv, r⟩ := rs.at_ i d q
      exact ⟨v, hv, h.ret v H rp r⟩
theorem de_int {i j} : DE X W (.Constant (.int i) j pos) (eC (.int i)) := ⟨_, pe_int, fun _ _ _ _ _ _ _ _ _ rp h => h.ret _ _ rp (.int i)⟩
theorem de_bl {b j} : DE X W (.Constant (.bool b) j pos) (eC (.bl b)) := ⟨_, pe_bl, fun _ _ _ _ _ _ _ _ _ rp h => h.ret _ _ rp (.bl b)⟩
theorem de_non {j} : DE X W (.Constant .none j pos) (eC .non) := ⟨_, pe_non, fun _ _ _ _ _ _ _ _ _ rp h => h.ret _ _ rp .non⟩
theorem de_str {x j} : DE X W (.Constant (.str x) j pos) (eC (.str x)) := ⟨_, pe_str, fun _ _ _ _ _ _ _ _ _ rp h => h.ret _ _ rp (.str x)⟩
theorem de_glob {x : Str} {a : Addr} (hg : Gl X x) (hm : X.mg x = some (.ref a)) (hd : (x == ("__debug__" : Str)) = false := by decide) : DE X W (.Name x pos) (eC (.gl x)) :=
  ⟨_, pe_glob (v := .ref a) hg hm rfl hd, fun _ _ _ _ _ _ _ _ _ rp h => h.ret _ _ rp (.gl hm)⟩
theorem de_globI {x : Str} {i : Int} (hg : Gl X x) (hm : ∃ t, X.mg x = some (.int i t)) (hd : (x == ("__debug__" : Str)) = false := by decide) : DE X W (.Name x pos) (eC (.int i)) :=
  ⟨_, pe_glob (v := .int i) hg hm.choose_spec ⟨_, rfl⟩ hd, fun _ _ _ _ _ _ _ _ _ rp h => h.ret _ _ rp (.int i)⟩
theorem de_globS {x : Str} {z : Str} (hg : Gl X x) (hm : ∃ t, X.mg x = some (.str z t)) (hd : (x == ("__debug__" : Str)) = false := by decide) : DE X W (.Name x pos) (eC (.str z)) :=
  ⟨_, pe_glob (v := .str z) hg hm.choose_spec ⟨_, rfl⟩ hd, fun _ _ _ _ _ _ _ _ _ rp h => h.ret _ _ rp (.str z)⟩
theorem de_ty {x : Str} {n : String} (hg : Gl X x) (hm : X.mg x = none) (hv : bootBuiltins x = some (.type n)) (hn : x ≠ "__name__" := by decide) (hd : (x == ("__debug__" : Str)) = false := by decide) : DE X W (.Name x pos) (eC (.ty n)) :=
  ⟨_, pe_bltn (v := .ty n) hg hm hv rfl hn hd, fun _ _ _ _ _ _ _ _ _ rp h => h.ret _ _ rp (.ty n)⟩
/-- a binary operation by values -/
def Op2 (X : Cx) (W : WX) (r : R2) (op : D → D → Ev D) : Prop := ∀ Fr B as σ H M v w x y Q, Rep (gx X) Fr B as H M → R (gx X) B as v x → R (gx X) B as w y → Post B as (op x y M) (kD X Fr Q) (kX X Fr W σ) → r v w H Q
def Op1 (X : Cx) (W : WX) (r : V → Hp → VK → Prop) (op : D → Ev D) : Prop := ∀ Fr B as σ H M v x Q, Rep (gx X) Fr B as H M → R (gx X) B as v x → Post B as (op x M) (kD X Fr Q) (kX X Fr W σ) → r v H Q
def OpN (X : Cx) (W : WX) (r : List V → Hp → VK → Prop) (op : List D → Ev D) : Prop := ∀ Fr B as σ H M vs l Q, Rep (gx X) Fr B as H M → Rs (gx X) B as vs l → Post B as (op l M) (kD X Fr Q) (kX X Fr W σ) → r vs H Q
theorem post_two {Fr B : Hp} {as : List Addr} {σ : St} {H : Hp} {S : Lo} {M : Store} {Q : VK} {fa fb : Lo → Ev D} {ta tb : TE} {r : R2} {op : D → D → Ev D}
    (ha : ∀ Fr B as σ H S M Q, RS (gx X) B as σ S → Rep (gx X) Fr B as H M → Post B as (fa S M) (kD X Fr Q) (kX X Fr W σ) → ta σ H Q)
    (hb : ∀ Fr B as σ H S M Q, RS (gx X) B as σ S → Rep (gx X) Fr B as H M → Post B as (fb S M) (kD X Fr Q) (kX X Fr W σ) → tb σ H Q)
    (ho : Op2 X W r op) (rs : RS (gx X) B as σ S) (rp : Rep (gx X) Fr B as H M) (h : Post B as (e2 op fa fb S M) (kD X Fr Q) (kX X Fr W σ)) : tOp r ta tb σ H Q := by
  refine ha Fr B as σ H S M _ rs rp (h.bnd.imp fun x M1 B1 as1 s1 p1 h1 v H1 rp1 r1 => ?_)
  refine hb Fr B1 as1 σ H1 S M1 _ (rs.mono s1 p1) rp1 (h1.bnd.imp fun y M2 B2 as2 s2 p2 h2 w H2 rp2 r2 => ?_)
  exact ho Fr B2 as2 σ H2 M2 v w x y Q rp2 (r1.mono s2 p2) r2 h2
theorem de_op {op : Operator} {r : R2} {fo : D → D → Ev D} {fa fb : Lo → Ev D} (hr : OpR X (binaryOp op) r) (ho : Op2 X W r fo) (ha : DE X W a fa) (hb : DE X W b fb) : DE X W (.BinOp a op b pos) (e2 fo fa fb) := by
  obtain ⟨ta, pa, sa⟩ := ha
  obtain ⟨tb, pb, sb⟩ := hb
  exact ⟨_, pe_op hr pa pb, fun Fr B as σ H S M Q rs rp h => post_two sa sb ho rs rp h⟩
theorem de_cmp {op : CmpOp} {r : R2} {fo : D → D → Ev D} {fa fb : Lo → Ev D} (hr : OpR X (compareOp op) r) (ho : Op2 X W r fo) (ha : DE X W a fa) (hb : DE X W b fb) (hm : behindInMarks op b = false) : DE X W (.Compare a [op] [b] pos) (e2 fo fa fb) := by
  obtain ⟨ta, pa, sa⟩ := ha
  obtain ⟨tb, pb, sb⟩ := hb
  exact ⟨_, pe_cmpR hr pa pb hm, fun Fr B as σ H S M Q rs rp h => post_two sa sb ho rs rp h⟩
theorem dt_cmp {op : CmpOp} {r : R2} {fo : D → D → Ev D} {fa fb : Lo → Ev D} (hr : OpR X (compareOp op) r) (ho : Op2 X W r fo) (ha : DE X W a fa) (hb : DE X W b fb) (hm : behindInMarks op b = false) : DT X W (.Compare a [op] [b] pos) (eB (e2 fo fa fb)) := by
  obtain ⟨ta, pa, sa⟩ := ha
  obtain ⟨tb, pb, sb⟩ := hb
  refine ⟨_, pt_cmpR hr pa pb hm, fun Fr B as σ H S M Q rs rp h => ?_⟩
  refine post_two sa sb ho rs rp (h.bnd.imp fun x M1 B1 as1 s1 p1 h1 v H1 rp1 r1 => ?_)
  cases x <;> first | exact h1.elim | skip
  cases r1
  exact ⟨_, rfl, h1.ret H1 rp1⟩
theorem de_un {op : UnaryOp} {r : V → Hp → VK → Prop} {fo : D → Ev D} {fa : Lo → Ev D} (hr : UnR X (unaryOp op) r) (ho : Op1 X W r fo) (ha : DE X W a fa) : DE X W (.UnaryOp op a pos) (e1 fo fa) := by
  obtain ⟨ta, pa, sa⟩ := ha
  refine ⟨_, pe_un hr pa, fun Fr B as σ H S M Q rs rp h => ?_⟩
  exact sa Fr B as σ H S M _ rs rp (h.bnd.imp fun x M1 B1 as1 s1 p1 h1 v H1 rp1 r1 => ho Fr B1 as1 σ H1 M1 v x Q rp1 r1 h1)
theorem dt_val {f : Lo → Ev D} (h : DE X W e f) (he : ∀ whole, isTrue e X.env whole = (do let v ← whole; standAt e.pos; holding [v] (truthy v)) := by intro _; rfl) : DT X W e (eB f) := by
  obtain ⟨t, p, s⟩ := h
  refine ⟨_, pt_val p he, fun Fr B as σ H S M Q rs rp h => ?_⟩
  refine s Fr B as σ H S M _ rs rp (h.bnd.imp fun x M1 B1 as1 s1 p1 h1 v H1 rp1 r1 => ?_)
  cases x <;> first | exact h1.elim | skip
  cases r1
  exact ⟨_, rfl, h1.ret H1 rp1⟩
theorem dw_and1 {f : Lo → Ev Bool} (h : DT X W a f) : DW X W (.BoolOp .And [a] pos) f := by
  obtain ⟨t, p, s⟩ := h
  exact ⟨_, pw_and1 p, s⟩
theorem dw_or1 {f : Lo → Ev Bool} (h : DT X W a f) : DW X W (.BoolOp .Or [a] pos) f := by
  obtain ⟨t, p, s⟩ := h
  exact ⟨_, pw_or1 p, s⟩
theorem dw_and {rest : List Expr} {f g : Lo → Ev Bool} (ha : DT X W a f) (hb : DW X W (.BoolOp .And (b :: rest) pos) g) : DW X W (.BoolOp .And (a :: b :: rest) pos) (eAnd f g) := by
  obtain ⟨t, p, s⟩ := ha
  obtain ⟨t', p', s'⟩ := hb
  refine ⟨_, pw_and p p', fun Fr B as σ H S M Q rs rp h => ?_⟩
  refine s Fr B as σ H S M _ rs rp (h.bnd.imp fun x M1 B1 as1 s1 p1 h1 H1 rp1 => ?_)
  cases x with
  | true => rw [if_pos rfl] at h1 ⊢; exact s' Fr B1 as1 σ H1 S M1 _ (rs.mono s1 p1) rp1 h1
  | false => rw [if_neg Bool.false_ne_true] at h1 ⊢; exact h1.ret H1 rp1
theorem dw_or {rest : List Expr} {f g : Lo → Ev Bool} (ha : DT X W a f) (hb : DW X W (.BoolOp .Or (b :: rest) pos) g) : DW X W (.BoolOp .Or (a :: b :: rest) pos) (eOr f g) := by
  obtain ⟨t, p, s⟩ := ha
  obtain ⟨t', p', s'⟩ := hb
  refine ⟨_, pw_or p p', fun Fr B as σ H S M Q rs rp h => ?_⟩
  refine s Fr B as σ H S M _ rs rp (h.bnd.imp fun x M1 B1 as1 s1 p1 h1 H1 rp1 => ?_)
  cases x with
  | true => rw [if_pos rfl] at h1 ⊢; exact h1.ret H1 rp1
  | false => rw [if_neg Bool.false_ne_true] at h1 ⊢; exact s' Fr B1 as1 σ H1 S M1 _ (rs.mono s1 p1) rp1 h1
theorem dt_w {f : Lo → Ev Bool} (h : DW X W e f) : DT X W e f := by
  obtain ⟨t, p, s⟩ := h
  exact ⟨_, p.pt, s⟩
theorem dt_not {f : Lo → Ev Bool} (h : DT X W a f) : DT X W (.UnaryOp .Not a pos) (eNot f) := by
  obtain ⟨t, p, s⟩ := h
  refine ⟨_, pt_not p, fun Fr B as σ H S M Q rs rp h => ?_⟩
  exact s Fr B as σ H S M _ rs rp (h.bnd.imp fun x M1 B1 as1 s1 p1 h1 H1 rp1 => h1.ret H1 rp1)
theorem de_one {op} {f : Lo → Ev D} (h : DE X W a f) : DE X W (.BoolOp op [a] pos) f := by
  obtain ⟨t, p, s⟩ := h
  exact ⟨_, pe_one p, s⟩
theorem de_and {rest : List Expr} {f g : Lo → Ev D} (ha : DE X W a f) (hb : DE X W (.BoolOp .And (b :: rest) pos) g) : DE X W (.BoolOp .And (a :: b :: rest) pos) (eAndV f g) := by
  obtain ⟨t, p, s⟩ := ha
  obtain ⟨t', p', s'⟩ := hb
  refine ⟨_, pe_and p p', fun Fr B as σ H S M Q rs rp h => ?_⟩
  refine s Fr B as σ H S M _ rs rp (h.bnd.imp fun x M1 B1 as1 s1 p1 h1 v H1 rp1 r1 => ?_)
  cases x <;> first | exact h1.elim | skip
  rename_i c
  cases r1
  refine ⟨c, rfl, ?_⟩
  cases c with
  | true => rw [if_pos rfl]; exact s' Fr B1 as1 σ H1 S M1 _ (rs.mono s1 p1) rp1 h1
  | false => rw [if_neg Bool.false_ne_true]; exact (Post.ret (a := D.bl false) h1) _ H1 rp1 (.bl false)
theorem de_or {rest : List Expr} {f g : Lo → Ev D} (ha : DE X W a f) (hb : DE X W (.BoolOp .Or (b :: rest) pos) g) : DE X W (.BoolOp .Or (a :: b :: rest) pos) (eOrV f g) := by
  obtain ⟨t, p, s⟩ := ha
  obtain ⟨t', p', s'⟩ := hb
  refine ⟨_, pe_or p p', fun Fr B as σ H S M Q rs rp h => ?_⟩
  refine s Fr B as σ H S M _ rs rp (h.bnd.imp fun x M1 B1 as1 s1 p1 h1 v H1 rp1 r1 => ?_)
  cases x <;> first | exact h1.elim | skip
  rename_i c
  cases r1
  refine ⟨c, rfl, ?_⟩
  cases c with
  | true => rw [if_pos rfl]; exact (Post.ret (a := D.bl true) h1) _ H1 rp1 (.bl true)
  | false => rw [if_neg Bool.false_ne_true]; exact s' Fr B1 as1 σ H1 S M1 _ (rs.mono s1 p1) rp1 h1
theorem de_not {f : Lo → Ev D} (ha : DE X W a f) : DE X W (.UnaryOp .Not a pos) (eNotV f) := by
  obtain ⟨t, p, s⟩ := ha
  refine ⟨_, pe_not p, fun Fr B as σ H S M Q rs rp h => ?_⟩
  refine s Fr B as σ H S M _ rs rp (h.bnd.imp fun x M1 B1 as1 s1 p1 h1 v H1 rp1 r1 => ?_)
  cases x <;> first | exact h1.elim | skip
  rename_i c
  cases r1
  exact ⟨c, rfl, (Post.ret (a := D.bl (!c)) h1) _ H1 rp1 (.bl _)⟩
theorem de_ifExp {f : Lo → Ev Bool} {g h : Lo → Ev D} (hc : DT X W c f) (ha : DE X W a g) (hb : DE X W b h) : DE X W (.IfExp c a b pos) (eIf f g h) := by
  obtain ⟨t, p, s⟩ := hc
  obtain ⟨t', p', s'⟩ := ha
  obtain ⟨t'', p'', s''⟩ := hb
  refine ⟨_, pe_ifExp p p' p'', fun Fr B as σ H S M Q rs rp h => ?_⟩
  refine s Fr B as σ H S M _ rs rp (h.bnd.imp fun x M1 B1 as1 s1 p1 h1 H1 rp1 => ?_)
  cases x with
  | true => rw [if_pos rfl] at h1 ⊢; exact s' Fr B1 as1 σ H1 S M1 _ (rs.mono s1 p1) rp1 h1
  | false => rw [if_neg Bool.false_ne_true] at h1 ⊢; exact s'' Fr B1 as1 σ H1 S M1 _ (rs.mono s1 p1) rp1 h1
theorem da_nil : DA X W [] eA0 := ⟨_, pa_nil, fun _ _ _ _ _ _ _ _ _ rp h => h.ret [] _ rp .nil⟩
theorem da_cons {es : List Expr} {f : Lo → Ev D} {g : Lo → Ev (List D)} (ha : DE X W e f) (hr : DA X W es g) (hs : starEach (e :: es) X.env = (false, eval e X.env) :: starEach es X.env := by rfl) : DA X W (e :: es) (eAc f g) := by
  obtain ⟨t, p, s⟩ := ha
  obtain ⟨t', p', s'⟩ := hr
  refine ⟨_, pa_cons p p' hs, fun Fr B as σ H S M Q rs rp h => ?_⟩
  refine s Fr B as σ H S M _ rs rp (h.bnd.imp fun x M1 B1 as1 s1 p1 h1 v H1 rp1 r1 => ?_)
  refine s' Fr B1 as1 σ H1 S M1 _ (rs.mono s1 p1) rp1 (h1.bnd.imp fun l M2 B2 as2 s2 p2 h2 vs H2 rp2 r2 => ?_)
  exact h2.ret _ H2 rp2 (.cons (r1.mono s2 p2) r2)
end
end DL

set_option Elab.async false
set_option linter.all false
set_option maxRecDepth 100000
set_option maxHeartbeats 4000000
/-! DL2: new nodes, views, operators. -/
namespace DL
open PySem L2

/-- a value, or a new node -/
inductive NR where
  | v (d : D) | n (t : Tg) (l : List D)
def hoT : Tg → List V → HO
  | .lst, vs => .lst vs
  | .tup, vs => .tup vs
  | .dct ks, vs => .dK (ks.zip vs)
  | _, vs => .lst vs
/-- a new node is frozen; becomes a cell -/
def frz : NR → Ev D
  | .v d => Ev.ret d
  | .n .lst l => Ev.ret (.nd .lst l)
  | .n .tup l => Ev.ret (.nd .tup l)
  | .n (.dct ks) l => if ks.length = l.length then Ev.ret (.nd (.dct ks) l) else Ev.no
  | _ => Ev.no
def cel : NR → Ev D
  | .v d => Ev.ret d
  | .n .lst l => fun M => .ok (.ref M.length) (M ++ [(.lst, l)])
  | .n (.dct ks) l => if ks.length = l.length then fun M => .ok (.ref M.length) (M ++ [(.dct ks, l)]) else Ev.no
  | _ => Ev.no
def kN (X : Cx) (Fr : Hp) (Q : VK) : NR → Store → Hp → List Addr → Prop := fun r M B as => match r with
  | .v d => kD X Fr Q d M B as
  | .n t l => ∀ vs H p, Rep (gx X) Fr B as H M → Rs (gx X) B as vs l → H p = none → Q (.ref p) (upd H p (hoT t vs))
def DN (X : Cx) (W : WX) (e : Expr) (f : Lo → Ev NR) : Prop := ∃ t, PE X e t ∧ ∀ Fr B as σ H S M Q, RS (gx X) B as σ S → Rep (gx X) Fr B as H M → Post B as (f S M) (kN X Fr Q) (kX X Fr W σ) → t σ H Q
def eF (f : Lo → Ev NR) : Lo → Ev D := fun S => (f S).bnd frz
def eCl (f : Lo → Ev NR) : Lo → Ev D := fun S => (f S).bnd cel
section
variable {X : Cx} {W : WX} {e a b : Expr} {pos : Pos}
theorem kN_frz {Fr B : Hp} {as : List Addr} {σ : St} {r : NR} {M : Store} {Q : VK} (h : Post B as (frz r M) (kD X Fr Q) (kX X Fr W σ)) : kN X Fr Q r M B as := by
  have go : ∀ (t : Tg) (l : List D) (vs : List V) (H : Hp) (p : Addr), FC (gx X) (upd B p (hoT t vs)) p t vs → (∀ B' as', Same B B' → as <+: as' → kD X Fr Q (.nd t l) M B' as') → Rep (gx X) Fr B as H M → Rs (gx X) B as vs l → H p = none → Q (.ref p) (upd H p (hoT t vs)) :=
    fun t l vs H p fc h rp rs n => by
      have nb := (rp.fresh n).1
      exact h (upd B p (hoT t vs)) as (same_upd nb) (List.prefix_refl _) _ _ (rp.froze n) (.nd fc (rs.mono (same_upd nb) (List.prefix_refl _)))
  cases r with
  | v d => exact h.ret
  | n t l =>
    cases t with
    | lst => exact fun vs H p => go .lst l vs H p upd_same h
    | tup => exact fun vs H p => go .tup l vs H p (SqT.of upd_same) h
    | dct ks =>
      unfold DL.frz at h; dsimp only at h
      by_cases hl : ks.length = l.length
      · rw [if_pos hl] at h
        exact fun vs H p rp rs n => go (.dct ks) l vs H p ⟨upd_same, hl.trans rs.length.symm⟩ h rp rs n
      · rw [if_neg hl] at h; exact h.elim
    | slst => exact h.elim
    | obj c ns => exact h.elim
theorem kN_cel {Fr B : Hp} {as : List Addr} {σ : St} {r : NR} {M : Store} {Q : VK} (h : Post B as (cel r M) (kD X Fr Q) (kX X Fr W σ)) : kN X Fr Q r M B as := by
  have go : ∀ (t : Tg) (l : List D) (vs : List V) (H : Hp) (p : Addr), MC (gx X) (upd H p (hoT t vs)) p t vs → (∀ B' as', Same B B' → as <+: as' → kD X Fr Q (.ref M.length) (M ++ [(t, l)]) B' as') → Rep (gx X) Fr B as H M → Rs (gx X) B as vs l → H p = none → Q (.ref p) (upd H p (hoT t vs)) :=
    fun t l vs H p mc h rp rs n => by
      exact h B (as ++ [p]) (Same.refl _) pre_push _ _ (rp.push n mc rs) (.ref (by rw [← rp.len]; simp))
  cases r with
  | v d => exact h.ret
  | n t l =>
    cases t with
    | lst => exact fun vs H p => go .lst l vs H p upd_same h
    | tup => exact h.elim
    | dct ks =>
      unfold DL.cel at h; dsimp only at h
      by_cases hl : ks.length = l.length
      · rw [if_pos hl] at h
        exact fun vs H p rp rs n => go (.dct ks) l vs H p ⟨upd_same, hl.trans rs.length.symm⟩ h rp rs n
      · rw [if_neg hl] at h; exact h.elim
    | slst => exact h.elim
    | obj c ns => exact h.elim
theorem DN.frz {f : Lo → Ev NR} (h : DN X W e f) : DE X W e (eF f) := by
  obtain ⟨t, p, s⟩ := h
  exact ⟨t, p, fun Fr B as σ H S M Q rs rp h => s Fr B as σ H S M Q rs rp (h.bnd.imp fun r M1 B1 as1 _ _ h1 => kN_frz h1)⟩
theorem DN.cel {f : Lo → Ev NR} (h : DN X W e f) : DE X W e (eCl f) := by
  obtain ⟨t, p, s⟩ := h
  exact ⟨t, p, fun Fr B as σ H S M Q rs rp h => s Fr B as σ H S M Q rs rp (h.bnd.imp fun r M1 B1 as1 _ _ h1 => kN_cel h1)⟩
theorem kN_v {Fr B : Hp} {as : List Addr} {M : Store} {Q : VK} {d : D} {H : Hp} {v : V} (h : kN X Fr Q (.v d) M B as) (rp : Rep (gx X) Fr B as H M) (r : R (gx X) B as v d) : Q v H := h v H rp r

/-! ### views -/
def vw : D → Ev (Tg × List D)
  | .nd t l => Ev.ret (t, l)
  | .ref n => fun M => match M[n]? with
    | some c => .ok c M
    | none => .stuck
  | _ => Ev.no
theorem FC.sub {G : Gx} {B H : Hp} {p : Addr} {t : Tg} {vs : List V} (s : Same B H) (h : FC G B p t vs) : FC G H p t vs := h.mono s
theorem MC.fc {G : Gx} {H : Hp} {p : Addr} : ∀ {t : Tg} {vs : List V}, MC G H p t vs → FC G H p t vs
  | .lst, _, h => h
  | .slst, _, h => h.elim
  | .tup, _, h => h.elim
  | .dct _, _, h => h
  | .obj _ _, _, h => h
theorem Post.vw {α : Type} {G : Gx} {Fr B : Hp} {as : List Addr} {d : D} {f : Tg × List D → Ev α} {M : Store} {H : Hp} {v : V} {k : α → Store → Hp → List Addr → Prop} {x : Str → D → Store → Hp → List Addr → Prop} (h : Post B as (((DL.vw d).bnd f) M) k x)
    (rp : Rep G Fr B as H M) (r : R G B as v d) : ∃ t l p vs, v = .ref p ∧ FC G H p t vs ∧ Rs G B as vs l ∧ Post B as (f (t, l) M) k x ∧ (∀ n, d = .ref n → as[n]? = some p ∧ M[n]? = some (t, l) ∧ MC G H p t vs) := by
  cases r with
  | nd fc rs => exact ⟨_, _, _, _, rfl, fc.sub rp.sub, rs, h, fun n e => by cases e⟩
  | ref ha =>
    rename_i n a
    unfold Ev.bnd DL.vw at h
    cases q : M[n]? with
    | none => simp only [q] at h; exact h.elim
    | some c =>
      simp only [q] at h
      obtain ⟨vs, mc, rs⟩ := rp.cell n a c ha q
      exact ⟨c.1, c.2, a, vs, rfl, mc.fc, rs, h, fun m e => by cases e; exact ⟨ha, q, mc⟩⟩
  | _ => exact h.elim
/-- a sequence: a list or a tuple -/
def FC.isSeq : Tg → Bool
  | .lst => true
  | .slst => true
  | .tup => true
  | _ => false
def sq (d : D) : Ev (List D) := (vw d).bnd fun c => if FC.isSeq c.1 = true then Ev.ret c.2 else Ev.no
theorem Post.sq {α : Type} {G : Gx} {Fr B : Hp} {as : List Addr} {d : D} {f : List D → Ev α} {M : Store} {H : Hp} {v : V} {k : α → Store → Hp → List Addr → Prop} {x : Str → D → Store → Hp → List Addr → Prop} (h : Post B as (((DL.sq d).bnd f) M) k x)
    (rp : Rep G Fr B as H M) (r : R G B as v d) : ∃ l p vs, v = .ref p ∧ (SqL G.K H p vs ∨ SqT G.K H p vs) ∧ Rs G B as vs l ∧ Post B as (f l M) k x := by
  unfold DL.sq at h
  rw [bnd_bnd] at h
  obtain ⟨t, l, p, vs, e, fc, rs, h, _⟩ := h.vw rp r
  cases t with
  | lst => exact ⟨l, p, vs, e, .inl (SqL.of fc), rs, h⟩
  | slst => exact ⟨l, p, vs, e, .inl fc, rs, h⟩
  | tup => exact ⟨l, p, vs, e, .inr fc, rs, h⟩
  | _ => exact h.elim

/-! ### scalars -/
def toV : D → Option V
  | .non => some .non
  | .bl b => some (.bl b)
  | .int i => some (.int i)
  | .str x => some (.str x)
  | _ => none
theorem R.toV {G : Gx} {B : Hp} {as : List Addr} {v w : V} {d : D} (r : R G B as v d) (h : DL.toV d = some w) : v = w ∧ flatV w = true := by
  cases r <;> first | (cases h; exact ⟨rfl, rfl⟩) | (cases h)
def toVs : List D → Option (List V)
  | [] => some []
  | d :: l => match toV d, toVs l with
    | some v, some vs => some (v :: vs)
    | _, _ => none
theorem Rs.toVs {G : Gx} {B : Hp} {as : List Addr} : ∀ {vs ws : List V} {l : List D}, Rs G B as vs l → DL.toVs l = some ws → vs = ws ∧ ws.all flatV = true
  | _, _, _, .nil, h => by cases h; exact ⟨rfl, rfl⟩
  | _, ws, _, .cons r t, h => by
    rename_i d l
    unfold DL.toVs at h
    cases q : DL.toV d with
    | none => simp only [q] at h; cases h
    | some v =>
      cases q2 : DL.toVs l with
      | none => simp only [q, q2] at h; cases h
      | some vs =>
        simp only [q, q2] at h
        cases h
        obtain ⟨e1, f1⟩ := r.toV q
        obtain ⟨e2, f2⟩ := Rs.toVs t q2
        exact ⟨by rw [e1, e2], by simp [f1, f2]⟩
def intsOf : List D → Option (List Int)
  | [] => some []
  | .int i :: l => (intsOf l).map (i :: ·)
  | _ => none
theorem intsOf_map (ns : List Int) : intsOf (ns.map D.int) = some ns := by
  induction ns with
  | nil => rfl
  | cons n l ih => simp [intsOf, ih]
theorem intsOf_eq : ∀ {l : List D} {ns : List Int}, intsOf l = some ns → l = ns.map D.int
  | [], _, h => by cases h; rfl
  | .int i :: l, _, h => by
    unfold intsOf at h
    cases q : intsOf l with
    | none => rw [q] at h; cases h
    | some ms => rw [q] at h; cases h; rw [intsOf_eq q]; rfl
  | .non :: _, _, h | .bl _ :: _, _, h | .str _ :: _, _, h | .ty _ :: _, _, h | .gl _ :: _, _, h | .ref _ :: _, _, h | .nd _ _ :: _, _, h => by cases h
theorem Rs.ints {G : Gx} {B : Hp} {as : List Addr} : ∀ {vs : List V} {ns : List Int}, Rs G B as vs (ns.map D.int) → vs = ns.map V.int
  | _, [], h => by cases h; rfl
  | _, n :: ns, h => by
    cases h with
    | cons r t => cases r; rw [Rs.ints t]; rfl
theorem Rs.ofInts {G : Gx} {B : Hp} {as : List Addr} : ∀ (ns : List Int), Rs G B as (ns.map V.int) (ns.map D.int)
  | [] => .nil
  | n :: ns => .cons (.int n) (Rs.ofInts ns)
def blsOf : List D → Option (List Bool)
  | [] => some []
  | .bl i :: l => (blsOf l).map (i :: ·)
  | _ => none
theorem blsOf_map (ns : List Bool) : blsOf (ns.map D.bl) = some ns := by
  induction ns with
  | nil => rfl
  | cons n l ih => simp [blsOf, ih]
theorem blsOf_eq : ∀ {l : List D} {ns : List Bool}, blsOf l = some ns → l = ns.map D.bl
  | [], _, h => by cases h; rfl
  | .bl i :: l, _, h => by
    unfold blsOf at h
    cases q : blsOf l with
    | none => rw [q] at h; cases h
    | some ms => rw [q] at h; cases h; rw [blsOf_eq q]; rfl
  | .non :: _, _, h | .int _ :: _, _, h | .str _ :: _, _, h | .ty _ :: _, _, h | .gl _ :: _, _, h | .ref _ :: _, _, h | .nd _ _ :: _, _, h => by cases h
theorem Rs.bls {G : Gx} {B : Hp} {as : List Addr} : ∀ {vs : List V} {ns : List Bool}, Rs G B as vs (ns.map D.bl) → vs = ns.map V.bl
  | _, [], h => by cases h; rfl
  | _, n :: ns, h => by
    cases h with
    | cons r t => cases r; rw [Rs.bls t]; rfl

/-! ### deep data -/
mutual
def py (M : Store) : Nat → D → Option PyData
  | 0, _ => none
  | k + 1, d => match d with
    | .non => some .none
    | .bl b => some (.bool b)
    | .int i => some (.int i)
    | .str x => if PyData.strOk x = true then some (.str x) else none
    | .nd .lst l => (pys M k l).map .list
    | .nd .slst l => (pys M k l).map .list
    | .nd .tup l => (pys M k l).map .tuple
    | .ref n => match M[n]? with
      | some (.lst, l) => (pys M k l).map .list
      | _ => none
    | _ => none
  termination_by k _ => (k, 0)
def pys (M : Store) : Nat → List D → Option (List PyData)
  | _, [] => some []
  | k, d :: l => match py M k d, pys M k l with
    | some a, some as => some (a :: as)
    | _, _ => none
  termination_by k l => (k, l.length + 1)
end
mutual
theorem py_ok {G : Gx} {Fr B H : Hp} {as : List Addr} {M : Store} (rp : Rep G Fr B as H M) : ∀ (k : Nat) (d : D) (v : V) (a : PyData), R G B as v d → py M k d = some a → Dp G.K H v a ∧ a.canLay0 = true ∧ a.depth ≤ k
  | 0, d, v, a, r, h => by unfold py at h; cases h
  | k + 1, d, v, a, r, h => by
    have one : ∀ (p : Addr) (vs : List V) (l : List D) (a : PyData), SqL G.K H p vs → Rs G B as vs l → (pys M k l).map PyData.list = some a → Dp G.K H (.ref p) a ∧ a.canLay0 = true ∧ a.depth ≤ k + 1 := fun p vs l a sl rs h => by
      cases q : pys M k l with
      | none => rw [q] at h; cases h
      | some ds =>
        rw [q] at h; cases h
        obtain ⟨h1, h2, h3⟩ := pys_ok rp k l vs ds rs q
        exact ⟨.lst sl h1, by unfold PyData.canLay0; exact h2, by unfold PyData.depth; omega⟩
    cases r with
    | non => unfold py at h; cases h; exact ⟨.non, by unfold PyData.canLay0; rfl, by unfold PyData.depth; omega⟩
    | bl b => unfold py at h; cases h; exact ⟨.bl b, by unfold PyData.canLay0; rfl, by unfold PyData.depth; omega⟩
    | int i => unfold py at h; cases h; exact ⟨.int i, by unfold PyData.canLay0; rfl, by unfold PyData.depth; omega⟩
    | str x =>
      unfold py at h; dsimp only at h
      by_cases c : PyData.strOk x = true
      · rw [if_pos c] at h; cases h; exact ⟨.str x, by unfold PyData.canLay0; exact c, by unfold PyData.depth; omega⟩
      · rw [if_neg c] at h; cases h
    | ty n => unfold py at h; cases h
    | gl x => unfold py at h; cases h
    | ref ha =>
      rename_i n p
      unfold py at h; dsimp only at h
      cases q : M[n]? with
      | none => rw [q] at h; cases h
      | some c =>
        obtain ⟨t, l⟩ := c
        rw [q] at h
        obtain ⟨vs, mc, rs⟩ := rp.cell n p (t, l) ha q
        cases t <;> first | (cases h; done) | skip
        exact one p vs l a (SqL.of mc) rs h
    | nd fc rs =>
      rename_i t p vs l
      unfold py at h
      cases t with
      | lst => exact one p vs l a (SqL.of (rp.sub _ _ fc)) rs h
      | slst => exact one p vs l a (rp.sub.seq fc) rs h
      | tup =>
        dsimp only at h
        cases q : pys M k l with
        | none => rw [q] at h; cases h
        | some ds =>
          rw [q] at h; cases h
          obtain ⟨h1, h2, h3⟩ := pys_ok rp k l vs ds rs q
          exact ⟨.tup (sqT_mono rp.sub fc) h1, by unfold PyData.canLay0; exact h2, by unfold PyData.depth; omega⟩
      | dct ks => cases h
      | obj c ns => cases h
  termination_by k _ => (k, 0)
theorem pys_ok {G : Gx} {Fr B H : Hp} {as : List Addr} {M : Store} (rp : Rep G Fr B as H M) : ∀ (k : Nat) (l : List D) (vs : List V) (ds : List PyData), Rs G B as vs l → pys M k l = some ds → DpAll G.K H vs ds ∧ PyData.canLayAll0 ds = true ∧ PyData.depthAll ds ≤ k
  | k, [], vs, ds, rs, h => by
    unfold pys at h; cases h; cases rs
    exact ⟨.nil, by unfold PyData.canLayAll0; rfl, by unfold PyData.depthAll; omega⟩
  | k, d :: l, vs, ds, rs, h => by
    cases rs with
    | cons r t =>
      unfold pys at h
      cases q1 : py M k d with
      | none => simp only [q1] at h; cases h
      | some a =>
        cases q2 : pys M k l with
        | none => simp only [q1, q2] at h; cases h
        | some as' =>
          simp only [q1, q2] at h
          cases h
          obtain ⟨a1, a2, a3⟩ := py_ok rp k d _ a r q1
          obtain ⟨b1, b2, b3⟩ := pys_ok rp k l _ as' t q2
          exact ⟨.cons a1 b1, by unfold PyData.canLayAll0; rw [a2, b2]; rfl, by unfold PyData.depthAll; exact Nat.max_le.mpr ⟨a3, b3⟩⟩
  termination_by k l => (k, l.length + 1)
end
/-- == of data; not equal -/
def eqE (neg : Bool) (x y : D) : Ev D := fun M => match py M 9 x, py M 9 y with
  | some a, some b => .ok (.bl (neg ^^ PyData.eqv a b)) M
  | _, _ => .stuck
theorem o_eq {X : Cx} {W : WX} : Op2 X W (rEqD X.K) (eqE false) := by
  intro Fr B as σ H M v w x y Q rp r1 r2 h
  unfold eqE at h
  cases q1 : py M 9 x with
  | none => simp only [q1] at h; exact h.elim
  | some a =>
    cases q2 : py M 9 y with
    | none => simp only [q1, q2] at h; exact h.elim
    | some b =>
      simp only [q1, q2] at h
      obtain ⟨a1, a2, a3⟩ := py_ok rp 9 x v a r1 q1
      obtain ⟨b1, b2, b3⟩ := py_ok rp 9 y w b r2 q2
      refine ⟨a, b, a1, b1, ?_, ?_, ?_⟩
      · unfold SeqAt.shaped; rw [a2, decide_eq_true (by omega)]; rfl
      · unfold SeqAt.shaped; rw [b2, decide_eq_true (by omega)]; rfl
      · have := h.ok _ H rp (.bl _)
        simpa using this
theorem o_ne {X : Cx} {W : WX} : Op2 X W (rNeD X.K) (eqE true) := by
  intro Fr B as σ H M v w x y Q rp r1 r2 h
  unfold eqE at h
  cases q1 : py M 9 x with
  | none => simp only [q1] at h; exact h.elim
  | some a =>
    cases q2 : py M 9 y with
    | none => simp only [q1, q2] at h; exact h.elim
    | some b =>
      simp only [q1, q2] at h
      obtain ⟨a1, a2, a3⟩ := py_ok rp 9 x v a r1 q1
      obtain ⟨b1, b2, b3⟩ := py_ok rp 9 y w b r2 q2
      refine ⟨a, b, a1, b1, ?_, ?_, ?_⟩
      · unfold SeqAt.shaped; rw [a2, decide_eq_true (by omega)]; rfl
      · unfold SeqAt.shaped; rw [b2, decide_eq_true (by omega)]; rfl
      · have := h.ok _ H rp (.bl _)
        simpa using this
end
end DL

set_option Elab.async false
set_option linter.all false
set_option maxRecDepth 100000
set_option maxHeartbeats 4000000
/-! DL3: arithmetic, comparisons, displays, subscripts, slices, built-in calls. -/
namespace DL
open PySem L2
section
variable {X : Cx} {W : WX} {e a b c : Expr} {pos : Pos}
def n2 (op : D → D → Ev NR) (fa fb : Lo → Ev D) : Lo → Ev NR := fun S => (fa S).bnd fun x => (fb S).bnd fun y => op x y
def Op2N (X : Cx) (W : WX) (r : R2) (op : D → D → Ev NR) : Prop := ∀ Fr B as σ H M v w x y Q, Rep (gx X) Fr B as H M → R (gx X) B as v x → R (gx X) B as w y → Post B as (op x y M) (kN X Fr Q) (kX X Fr W σ) → r v w H Q
def OpNN (X : Cx) (W : WX) (r : List V → Hp → VK → Prop) (op : List D → Ev NR) : Prop := ∀ Fr B as σ H M vs l Q, Rep (gx X) Fr B as H M → Rs (gx X) B as vs l → Post B as (op l M) (kN X Fr Q) (kX X Fr W σ) → r vs H Q
theorem post_twoN {Fr B : Hp} {as : List Addr} {σ : St} {H : Hp} {S : Lo} {M : Store} {Q : VK} {fa fb : Lo → Ev D} {ta tb : TE} {r : R2} {op : D → D → Ev NR}
    (ha : ∀ Fr B as σ H S M Q, RS (gx X) B as σ S → Rep (gx X) Fr B as H M → Post B as (fa S M) (kD X Fr Q) (kX X Fr W σ) → ta σ H Q)
    (hb : ∀ Fr B as σ H S M Q, RS (gx X) B as σ S → Rep (gx X) Fr B as H M → Post B as (fb S M) (kD X Fr Q) (kX X Fr W σ) → tb σ H Q)
    (ho : Op2N X W r op) (rs : RS (gx X) B as σ S) (rp : Rep (gx X) Fr B as H M) (h : Post B as (n2 op fa fb S M) (kN X Fr Q) (kX X Fr W σ)) : tOp r ta tb σ H Q := by
  refine ha Fr B as σ H S M _ rs rp (h.bnd.imp fun x M1 B1 as1 s1 p1 h1 v H1 rp1 r1 => ?_)
  refine hb Fr B1 as1 σ H1 S M1 _ (rs.mono s1 p1) rp1 (h1.bnd.imp fun y M2 B2 as2 s2 p2 h2 w H2 rp2 r2 => ?_)
  exact ho Fr B2 as2 σ H2 M2 v w x y Q rp2 (r1.mono s2 p2) r2 h2
theorem dn_op {op : Operator} {r : R2} {fo : D → D → Ev NR} {fa fb : Lo → Ev D} (hr : OpR X (binaryOp op) r) (ho : Op2N X W r fo) (ha : DE X W a fa) (hb : DE X W b fb) : DN X W (.BinOp a op b pos) (n2 fo fa fb) := by
  obtain ⟨ta, pa, sa⟩ := ha
  obtain ⟨tb, pb, sb⟩ := hb
  exact ⟨_, pe_op hr pa pb, fun Fr B as σ H S M Q rs rp h => post_twoN sa sb ho rs rp h⟩
def iop (f : Int → Int → Ev D) : D → D → Ev D
  | .int i, .int j => f i j
  | _, _ => Ev.no
theorem o_int0 {g : Int → Int → V} {f : Int → Int → D} (hg : ∀ G B as i j, R G B as (g i j) (f i j)) : Op2 X W (rI0 g) (iop fun i j => Ev.ret (f i j)) := by
  intro Fr B as σ H M v w x y Q rp r1 r2 h
  cases r1 <;> first | exact h.elim | skip
  cases r2 <;> first | exact h.elim | skip
  exact ⟨_, _, rfl, rfl, h.ret _ H rp (hg _ _ _ _ _)⟩
theorem o_intC {C : Int → Int → Prop} [∀ i j, Decidable (C i j)] {g : Int → Int → V} {f : Int → Int → D} (hg : ∀ G B as i j, R G B as (g i j) (f i j)) : Op2 X W (rI C g) (iop fun i j => if C i j then Ev.ret (f i j) else Ev.no) := by
  intro Fr B as σ H M v w x y Q rp r1 r2 h
  cases r1 <;> first | exact h.elim | skip
  cases r2 <;> first | exact h.elim | skip
  rename_i i j
  have h : Post B as ((if C i j then Ev.ret (f i j) else Ev.no) M) (kD X Fr Q) (kX X Fr W σ) := h
  by_cases c : C i j
  · rw [if_pos c] at h; exact ⟨_, _, rfl, rfl, c, h.ret _ H rp (hg _ _ _ _ _)⟩
  · rw [if_neg c] at h; exact h.elim
instance : ∀ i j, Decidable (CMul i j) := fun i j => by unfold CMul; infer_instance
instance : ∀ i j, Decidable (CDivW i j) := fun i j => by unfold CDivW; infer_instance
instance : ∀ i j, Decidable (CPow i j) := fun i j => by unfold CPow; infer_instance
def subE : D → D → Ev D := iop fun i j => Ev.ret (.int (i - j))
def mulE : D → D → Ev D := iop fun i j => if CMul i j then Ev.ret (.int (i * j)) else Ev.no
def divE : D → D → Ev D := iop fun i j => if CDivW i j then Ev.ret (.int (i / j)) else Ev.no
def modE : D → D → Ev D := iop fun i j => if 0 < j then Ev.ret (.int (i % j)) else Ev.no
def powE : D → D → Ev D := iop fun i j => if CPow i j then Ev.ret (.int (i ^ j.toNat)) else Ev.no
def ltE : D → D → Ev D := iop fun i j => Ev.ret (.bl (decide (i < j)))
def leE : D → D → Ev D := iop fun i j => Ev.ret (.bl (decide (i ≤ j)))
def gtE : D → D → Ev D := iop fun i j => Ev.ret (.bl (decide (j < i)))
def geE : D → D → Ev D := iop fun i j => Ev.ret (.bl (decide (j ≤ i)))
variable {fa fb : Lo → Ev D}
theorem de_sub (ha : DE X W a fa) (hb : DE X W b fb) : DE X W (.BinOp a .Sub b pos) (e2 subE fa fb) := de_op op_sub (o_int0 fun _ _ _ _ _ => .int _) ha hb
theorem de_mul (ha : DE X W a fa) (hb : DE X W b fb) : DE X W (.BinOp a .Mult b pos) (e2 mulE fa fb) := de_op op_mul (o_intC fun _ _ _ _ _ => .int _) ha hb
theorem de_div (ha : DE X W a fa) (hb : DE X W b fb) : DE X W (.BinOp a .FloorDiv b pos) (e2 divE fa fb) := de_op op_fdivW (o_intC fun _ _ _ _ _ => .int _) ha hb
theorem de_mod (ha : DE X W a fa) (hb : DE X W b fb) : DE X W (.BinOp a .Mod b pos) (e2 modE fa fb) := de_op op_mod (o_intC (C := fun _ j => 0 < j) fun _ _ _ _ _ => .int _) ha hb
theorem de_pow (ha : DE X W a fa) (hb : DE X W b fb) : DE X W (.BinOp a .Pow b pos) (e2 powE fa fb) := de_op op_pow (o_intC fun _ _ _ _ _ => .int _) ha hb
theorem o_lt : Op2 X W (rI0 fun i j => .bl (decide (i < j))) ltE := o_int0 fun _ _ _ _ _ => .bl _
theorem o_le : Op2 X W (rI0 fun i j => .bl (decide (i ≤ j))) leE := o_int0 fun _ _ _ _ _ => .bl _
theorem o_gt : Op2 X W (rI0 fun i j => .bl (decide (j < i))) gtE := o_int0 fun _ _ _ _ _ => .bl _
theorem o_ge : Op2 X W (rI0 fun i j => .bl (decide (j ≤ i))) geE := o_int0 fun _ _ _ _ _ => .bl _
theorem de_lt (ha : DE X W a fa) (hb : DE X W b fb) : DE X W (.Compare a [.Lt] [b] pos) (e2 ltE fa fb) := de_cmp op_lt o_lt ha hb (nomark _)
theorem de_le (ha : DE X W a fa) (hb : DE X W b fb) : DE X W (.Compare a [.LtE] [b] pos) (e2 leE fa fb) := de_cmp op_le o_le ha hb (nomark _)
theorem de_gt (ha : DE X W a fa) (hb : DE X W b fb) : DE X W (.Compare a [.Gt] [b] pos) (e2 gtE fa fb) := de_cmp op_gt o_gt ha hb (nomark _)
theorem de_ge (ha : DE X W a fa) (hb : DE X W b fb) : DE X W (.Compare a [.GtE] [b] pos) (e2 geE fa fb) := de_cmp op_ge o_ge ha hb (nomark _)
theorem dt_lt (ha : DE X W a fa) (hb : DE X W b fb) : DT X W (.Compare a [.Lt] [b] pos) (eB (e2 ltE fa fb)) := dt_cmp op_lt o_lt ha hb (nomark _)
theorem dt_le (ha : DE X W a fa) (hb : DE X W b fb) : DT X W (.Compare a [.LtE] [b] pos) (eB (e2 leE fa fb)) := dt_cmp op_le o_le ha hb (nomark _)
theorem dt_gt (ha : DE X W a fa) (hb : DE X W b fb) : DT X W (.Compare a [.Gt] [b] pos) (eB (e2 gtE fa fb)) := dt_cmp op_gt o_gt ha hb (nomark _)
theorem dt_ge (ha : DE X W a fa) (hb : DE X W b fb) : DT X W (.Compare a [.GtE] [b] pos) (eB (e2 geE fa fb)) := dt_cmp op_ge o_ge ha hb (nomark _)
theorem de_eq (hu : X.A.units + 64 < cLine) (ha : DE X W a fa) (hb : DE X W b fb) : DE X W (.Compare a [.Eq] [b] pos) (e2 (eqE false) fa fb) := de_cmp (op_eqD hu) o_eq ha hb (nomark _)
theorem de_ne (hu : X.A.units + 64 < cLine) (ha : DE X W a fa) (hb : DE X W b fb) : DE X W (.Compare a [.NotEq] [b] pos) (e2 (eqE true) fa fb) := de_cmp (op_neD hu) o_ne ha hb (nomark _)
theorem dt_eq (hu : X.A.units + 64 < cLine) (ha : DE X W a fa) (hb : DE X W b fb) : DT X W (.Compare a [.Eq] [b] pos) (eB (e2 (eqE false) fa fb)) := dt_cmp (op_eqD hu) o_eq ha hb (nomark _)
theorem dt_ne (hu : X.A.units + 64 < cLine) (ha : DE X W a fa) (hb : DE X W b fb) : DT X W (.Compare a [.NotEq] [b] pos) (eB (e2 (eqE true) fa fb)) := dt_cmp (op_neD hu) o_ne ha hb (nomark _)
/-- a <= b <= c (bools) -/
def eChain (o o' : D → D → Ev D) (fa fb fc : Lo → Ev D) : Lo → Ev D := fun S => (fa S).bnd fun x => (fb S).bnd fun y => (o x y).bnd fun z => (asB z).bnd fun k => if k = true then (fc S).bnd fun w => o' y w else Ev.ret (.bl false)
theorem de_chain {op op' : CmpOp} {r r' : R2} {fo fo' : D → D → Ev D} {fc : Lo → Ev D} (hr : OpR X (compareOp op) r) (hr' : OpR X (compareOp op') r') (ho : Op2 X W r fo) (ho' : Op2 X W r' fo') (ha : DE X W a fa) (hb : DE X W b fb) (hc : DE X W c fc)
    (hm : lastMarks [op, op'] [b, c] = false) : DE X W (.Compare a [op, op'] [b, c] pos) (eChain fo fo' fa fb fc) := by
  obtain ⟨ta, pa, sa⟩ := ha
  obtain ⟨tb, pb, sb⟩ := hb
  obtain ⟨tc, pc, sc⟩ := hc
  refine ⟨_, pe_chain hr hr' pa pb pc hm, fun Fr B as σ H S M Q rs rp h => ?_⟩
  refine sa Fr B as σ H S M _ rs rp (h.bnd.imp fun x M1 B1 as1 s1 p1 h1 v H1 rp1 r1 => ?_)
  refine sb Fr B1 as1 σ H1 S M1 _ (rs.mono s1 p1) rp1 (h1.bnd.imp fun y M2 B2 as2 s2 p2 h2 w H2 rp2 r2 => ?_)
  refine ho Fr B2 as2 σ H2 M2 v w x y _ rp2 (r1.mono s2 p2) r2 (h2.bnd.imp fun z M3 B3 as3 s3 p3 h3 u H3 rp3 r3 => ?_)
  cases z <;> first | exact h3.elim | skip
  rename_i k
  cases r3
  refine ⟨k, rfl, ?_⟩
  cases k with
  | true =>
    have h3 : Post B3 as3 (((fc S).bnd fun w => fo' y w) M3) (kD X Fr Q) (kX X Fr W σ) := h3
    refine sc Fr B3 as3 σ H3 S M3 _ ((rs.mono s1 p1).mono s2 p2 |>.mono s3 p3) rp3 (h3.bnd.imp fun z' M4 B4 as4 s4 p4 h4 u' H4 rp4 r4 => ?_)
    exact ho' Fr B4 as4 σ H4 M4 w u' y z' Q rp4 (r2.mono s3 p3 |>.mono s4 p4) r4 h4
  | false => exact (Post.ret (a := D.bl false) h3) _ H3 rp3 (.bl false)
theorem de_lele {fc : Lo → Ev D} (ha : DE X W a fa) (hb : DE X W b fb) (hc : DE X W c fc) (hm : lastMarks [.LtE, .LtE] [b, c] = false := by rfl) : DE X W (.Compare a [.LtE, .LtE] [b, c] pos) (eChain leE leE fa fb fc) := de_chain op_le op_le o_le o_le ha hb hc hm
theorem de_lelt {fc : Lo → Ev D} (ha : DE X W a fa) (hb : DE X W b fb) (hc : DE X W c fc) (hm : lastMarks [.LtE, .Lt] [b, c] = false := by rfl) : DE X W (.Compare a [.LtE, .Lt] [b, c] pos) (eChain leE ltE fa fb fc) := de_chain op_le op_lt o_le o_lt ha hb hc hm
/-- is None -/
def isNE (neg : Bool) : D → D → Ev D := fun x y => match y with
  | .non => Ev.ret (.bl (neg ^^ (match x with | .non => true | _ => false)))
  | _ => Ev.no
theorem o_isN : Op2 X W (fun x y H Q => y = .non ∧ Q (.bl (decide (x = .non))) H) (isNE false) := by
  intro Fr B as σ H M v w x y Q rp r1 r2 h
  cases r2 <;> first | exact h.elim | skip
  refine ⟨rfl, ?_⟩
  cases r1 <;> exact h.ret _ H rp (.bl _)
theorem o_notN : Op2 X W (fun x y H Q => y = .non ∧ Q (.bl (!decide (x = .non))) H) (isNE true) := by
  intro Fr B as σ H M v w x y Q rp r1 r2 h
  cases r2 <;> first | exact h.elim | skip
  refine ⟨rfl, ?_⟩
  cases r1 <;> exact h.ret _ H rp (.bl _)
theorem de_isN (ha : DE X W a fa) (hb : DE X W b fb) : DE X W (.Compare a [.Is] [b] pos) (e2 (isNE false) fa fb) := de_cmp op_isN o_isN ha hb (nomark _)
theorem de_notN (ha : DE X W a fa) (hb : DE X W b fb) : DE X W (.Compare a [.IsNot] [b] pos) (e2 (isNE true) fa fb) := de_cmp op_notN o_notN ha hb (nomark _)
theorem dt_isN (ha : DE X W a fa) (hb : DE X W b fb) : DT X W (.Compare a [.Is] [b] pos) (eB (e2 (isNE false) fa fb)) := dt_cmp op_isN o_isN ha hb (nomark _)
theorem dt_notN (ha : DE X W a fa) (hb : DE X W b fb) : DT X W (.Compare a [.IsNot] [b] pos) (eB (e2 (isNE true) fa fb)) := dt_cmp op_notN o_notN ha hb (nomark _)
/-- - a -/
def negE : D → Ev D
  | .int i => Ev.ret (.int (-i))
  | _ => Ev.no
theorem de_neg (ha : DE X W a fa) : DE X W (.UnaryOp .USub a pos) (e1 negE fa) := de_un un_neg (fun Fr B as σ H M v x Q rp r h => by
  cases r <;> first | exact h.elim | skip
  exact ⟨_, rfl, h.ret _ H rp (.int _)⟩) ha
/-- + of ints, texts, lists, tuples -/
def addN : D → D → Ev NR
  | .int i, .int j => Ev.ret (.v (.int (i + j)))
  | .str i, .str j => if i.length + j.length ≤ sizeLine then Ev.ret (.v (.str (i ++ j))) else Ev.no
  | x, y => (vw x).bnd fun p => (vw y).bnd fun q => match p.1, q.1 with
    | .lst, .lst => if p.2.length + q.2.length ≤ sizeLine then Ev.ret (.n .lst (p.2 ++ q.2)) else Ev.no
    | .tup, .tup => if p.2.isEmpty = false ∧ q.2.isEmpty = false ∧ p.2.length + q.2.length ≤ sizeLine then Ev.ret (.n .tup (p.2 ++ q.2)) else Ev.no
    | _, _ => Ev.no
abbrev rAddU (K : PySem.W.Frag) : R2 := fun x y H Q => (rI0 fun i j => .int (i + j)) x y H Q ∨ (∃ i j, x = .str i ∧ y = .str j ∧ i.length + j.length ≤ sizeLine ∧ Q (.str (i ++ j)) H) ∨ rCat x y H Q ∨ rCatT K x y H Q
theorem op_addU : OpR X (binaryOp .Add) (rAddU X.K) := op_add.or (op_add_str.or (op_cat.or op_catT))
theorem o_addU : Op2N X W (rAddU X.K) addN := by
  intro Fr B as σ H M v w x y Q rp r1 r2 h
  have gen : Post B as (((vw x).bnd fun p => (vw y).bnd fun q => match p.1, q.1 with
      | .lst, .lst => if p.2.length + q.2.length ≤ sizeLine then Ev.ret (.n .lst (p.2 ++ q.2)) else Ev.no
      | .tup, .tup => if p.2.isEmpty = false ∧ q.2.isEmpty = false ∧ p.2.length + q.2.length ≤ sizeLine then Ev.ret (.n .tup (p.2 ++ q.2)) else Ev.no
      | _, _ => Ev.no) M) (kN X Fr Q) (kX X Fr W σ) → rAddU X.K v w H Q := fun h => by
    obtain ⟨t, l, p, vs, rfl, fc, rs, h, _⟩ := h.vw rp r1
    obtain ⟨u, m, q, ws, rfl, fc2, rs2, h, _⟩ := h.vw rp r2
    cases t <;> cases u <;> first | exact h.elim | skip
    · dsimp only at h
      by_cases c : l.length + m.length ≤ sizeLine
      · rw [if_pos c] at h
        exact .inr (.inr (.inl ⟨p, q, vs, ws, rfl, rfl, fc, fc2, by rw [rs.length, rs2.length]; exact c, fun z hz => h.ret _ H z rp (rs.app rs2) hz⟩))
      · rw [if_neg c] at h; exact h.elim
    · dsimp only at h
      by_cases c : l.isEmpty = false ∧ m.isEmpty = false ∧ l.length + m.length ≤ sizeLine
      · rw [if_pos c] at h
        have e1 := rs.length
        have e2 := rs2.length
        obtain ⟨c1, c2, c3⟩ := c
        refine .inr (.inr (.inr ⟨p, q, vs, ws, rfl, rfl, fc, fc2, ?_, by rw [e1, e2]; exact c3, ?_, ?_⟩))
        · intro z; subst z; cases rs; simp at c1
        · intro z; subst z; cases rs2; simp at c2
        · exact fun _ z hz => h.ret _ H z rp (rs.app rs2) hz
      · rw [if_neg c] at h; exact h.elim
  cases r1 with
  | int i =>
    cases r2 with
    | int j => exact .inl ⟨i, j, rfl, rfl, h.ret _ H rp (.int _)⟩
    | _ => exact gen h
  | str i =>
    cases r2 with
    | str j =>
      have h : Post B as ((if i.length + j.length ≤ sizeLine then Ev.ret (.v (.str (i ++ j))) else Ev.no) M) (kN X Fr Q) (kX X Fr W σ) := h
      by_cases c : i.length + j.length ≤ sizeLine
      · rw [if_pos c] at h; exact .inr (.inl ⟨i, j, rfl, rfl, c, h.ret _ H rp (.str _)⟩)
      · rw [if_neg c] at h; exact h.elim
    | _ => exact gen h
  | _ => cases r2 <;> exact gen h
theorem dn_add (ha : DE X W a fa) (hb : DE X W b fb) : DN X W (.BinOp a .Add b pos) (n2 addN fa fb) := dn_op op_addU o_addU ha hb
/-- [x] * n -/
def repN (x y : D) : Ev NR := match y with
  | .int k => (vw x).bnd fun p => match p.1 with
    | .lst => if -(2 ^ 63) ≤ k ∧ k < 2 ^ 63 ∧ p.2.length * k.toNat ≤ sizeLine then Ev.ret (.n .lst (List.replicate k.toNat p.2).flatten) else Ev.no
    | _ => Ev.no
  | _ => Ev.no
theorem Rs.rep {G : Gx} {B : Hp} {as : List Addr} {vs : List V} {l : List D} (r : Rs G B as vs l) : ∀ k : Nat, Rs G B as (List.replicate k vs).flatten (List.replicate k l).flatten
  | 0 => .nil
  | k + 1 => by rw [List.replicate_succ, List.replicate_succ, List.flatten_cons, List.flatten_cons]; exact r.app (Rs.rep r k)
theorem o_rep : Op2N X W rRep repN := by
  intro Fr B as σ H M v w x y Q rp r1 r2 h
  cases r2 <;> first | exact h.elim | skip
  rename_i k
  obtain ⟨t, l, p, vs, rfl, fc, rs, h, _⟩ := Post.vw (d := x) h rp r1
  cases t <;> first | exact h.elim | skip
  dsimp only at h
  by_cases c : -(2 ^ 63) ≤ k ∧ k < 2 ^ 63 ∧ l.length * k.toNat ≤ sizeLine
  · rw [if_pos c] at h
    exact ⟨p, k, vs, rfl, rfl, fc, c.1, c.2.1, by rw [rs.length]; exact c.2.2, fun z hz => h.ret _ H z rp (rs.rep _) hz⟩
  · rw [if_neg c] at h; exact h.elim
theorem dn_rep (ha : DE X W a fa) (hb : DE X W b fb) : DN X W (.BinOp a .Mult b pos) (n2 repN fa fb) := dn_op op_rep o_rep ha hb
/-! ### displays -/
def nNew (t : Tg) (f : Lo → Ev (List D)) : Lo → Ev NR := fun S => (f S).bnd fun l => if l.length ≤ sizeLine then Ev.ret (.n t l) else Ev.no
theorem dn_lst {es : List Expr} {f : Lo → Ev (List D)} (h : DA X W es f) : DN X W (.List es pos) (nNew .lst f) := by
  obtain ⟨t, p, s⟩ := h
  refine ⟨_, pe_lst p, fun Fr B as σ H S M Q rs rp h => ?_⟩
  refine s Fr B as σ H S M _ rs rp (h.bnd.imp fun l M1 B1 as1 s1 p1 h1 vs H1 rp1 r1 => ?_)
  by_cases c : l.length ≤ sizeLine
  · rw [if_pos c] at h1; exact ⟨by rw [r1.length]; exact c, fun z hz => h1.ret _ H1 z rp1 r1 hz⟩
  · rw [if_neg c] at h1; exact h1.elim
theorem dn_tup {es : List Expr} {x1} {f : Lo → Ev (List D)} (h : DA X W es f) : DN X W (.Tuple es x1 pos) (nNew .tup f) := by
  obtain ⟨t, p, s⟩ := h
  refine ⟨_, pe_tup p, fun Fr B as σ H S M Q rs rp h => ?_⟩
  refine s Fr B as σ H S M _ rs rp (h.bnd.imp fun l M1 B1 as1 s1 p1 h1 vs H1 rp1 r1 => ?_)
  by_cases c : l.length ≤ sizeLine
  · rw [if_pos c] at h1; exact ⟨by rw [r1.length]; exact c, fun z hz => h1.ret _ H1 z rp1 r1 hz⟩
  · rw [if_neg c] at h1; exact h1.elim
/-! ### subscripts -/
def optE {α : Type} : Option α → Ev α
  | some a => Ev.ret a
  | none => Ev.no
def ixE (x y : D) : Ev D := match y with
  | .int i => match x with
    | .str z => if z.length ≤ sizeLine then (optE (atI z.cps.toList i)).bnd fun c => Ev.ret (.str ⟨#[c]⟩) else Ev.no
    | _ => (sq x).bnd fun l => optE (atI l i)
  | _ => Ev.no
theorem Rs.atI {G : Gx} {B : Hp} {as : List Addr} {vs : List V} {l : List D} {i : Int} {d : D} (r : Rs G B as vs l) (h : L2.atI l i = some d) : ∃ v, L2.atI vs i = some v ∧ R G B as v d := by
  unfold L2.atI at h ⊢
  rw [r.length]
  cases q : ixN l.length i with
  | none => rw [q] at h; cases h
  | some j =>
    rw [q] at h
    exact r.get h
theorem o_ix : Op2 X W (rIx X.K) ixE := by
  intro Fr B as σ H M v w x y Q rp r1 r2 h
  cases r2 <;> first | exact h.elim | skip
  rename_i i
  have gen : Post B as (((sq x).bnd fun l => optE (atI l i)) M) (kD X Fr Q) (kX X Fr W σ) → rIx X.K v (.int i) H Q := fun h => by
    obtain ⟨l, p, vs, rfl, hs, rs, h⟩ := h.sq rp r1
    cases q : atI l i with
    | none => rw [q] at h; exact h.elim
    | some d =>
      rw [q] at h
      obtain ⟨u, hu, ru⟩ := rs.atI q
      have fin := h.ret u H rp ru
      rcases hs with hs | hs
      · exact .inl ⟨p, vs, i, u, rfl, rfl, hs, hu, fin⟩
      · exact .inr (.inl ⟨p, vs, i, u, rfl, rfl, hs, hu, fin⟩)
  cases r1 with
  | str z =>
    have h : Post B as ((if z.length ≤ sizeLine then (optE (atI z.cps.toList i)).bnd fun c => Ev.ret (.str ⟨#[c]⟩) else Ev.no) M) (kD X Fr Q) (kX X Fr W σ) := h
    by_cases c : z.length ≤ sizeLine
    · rw [if_pos c] at h
      cases q : atI z.cps.toList i with
      | none => rw [q] at h; exact h.elim
      | some d => rw [q] at h; exact .inr (.inr ⟨z, i, d, rfl, rfl, c, q, (Post.ret (a := D.str ⟨#[d]⟩) h) _ H rp (.str _)⟩)
    · rw [if_neg c] at h; exact h.elim
  | _ => exact gen h
theorem de_ix (ha : DE X W a fa) (hb : DE X W b fb) (hs : PlainIx b) : DE X W (.Subscript a b pos) (e2 ixE fa fb) := by
  obtain ⟨ta, pa, sa⟩ := ha
  obtain ⟨tb, pb, sb⟩ := hb
  exact ⟨_, pe_ix ix_seq pa pb hs, fun Fr B as σ H S M Q rs rp h => post_two sa sb o_ix rs rp h⟩
/-! ### slices -/
def DO (X : Cx) (W : WX) (e : Option Expr) (f : Lo → Ev (Option Int)) : Prop := ∃ t, PO X e t ∧ ∀ Fr B as σ H S M (Q : Option Int → Hp → Prop), RS (gx X) B as σ S → Rep (gx X) Fr B as H M →
  Post B as (f S M) (fun o M B as => ∀ H, Rep (gx X) Fr B as H M → Q o H) (kX X Fr W σ) → t σ H Q
def oNo : Lo → Ev (Option Int) := fun _ => Ev.ret none
def asI : D → Ev (Option Int)
  | .int i => Ev.ret (some i)
  | _ => Ev.no
def oSo (f : Lo → Ev D) : Lo → Ev (Option Int) := fun S => (f S).bnd asI
theorem do_none : DO X W none oNo := ⟨_, po_none, fun _ _ _ _ H _ _ _ _ rp h => h.ret H rp⟩
theorem do_some {f : Lo → Ev D} (h : DE X W e f) : DO X W (some e) (oSo f) := by
  obtain ⟨t, p, s⟩ := h
  refine ⟨_, po_some p, fun Fr B as σ H S M Q rs rp h => ?_⟩
  refine s Fr B as σ H S M _ rs rp (h.bnd.imp fun x M1 B1 as1 s1 p1 h1 v H1 rp1 r1 => ?_)
  cases r1 <;> first | exact h1.elim | skip
  exact ⟨_, rfl, h1.ret H1 rp1⟩
def cutD (l : List D) (lo hi : Option Int) : List D := (l.drop (HT.sIx l.length 0 lo)).take (HT.sIx l.length l.length hi - HT.sIx l.length 0 lo)
def slN (x : D) (lo hi : Option Int) : Ev NR := (vw x).bnd fun p => match p.1 with
  | .lst => Ev.ret (.n .lst (cutD p.2 lo hi))
  | .slst => Ev.ret (.n .lst (cutD p.2 lo hi))
  | _ => Ev.no
def nSl (f : Lo → Ev D) (fl fh : Lo → Ev (Option Int)) : Lo → Ev NR := fun S => (f S).bnd fun x => (fl S).bnd fun l => (fh S).bnd fun u => slN x l u
theorem dn_slice {lo hi : Option Expr} {p2 : Pos} {f : Lo → Ev D} {fl fh : Lo → Ev (Option Int)} (he : DE X W e f) (hl : DO X W lo fl) (hh : DO X W hi fh) : DN X W (.Subscript e (.Slice lo hi none p2) pos) (nSl f fl fh) := by
  obtain ⟨t, p, s⟩ := he
  obtain ⟨tl, pl, sl⟩ := hl
  obtain ⟨th, ph, sh⟩ := hh
  refine ⟨_, pe_slice sl_list p pl ph, fun Fr B as σ H S M Q rs rp h => ?_⟩
  refine s Fr B as σ H S M _ rs rp (h.bnd.imp fun x M1 B1 as1 s1 p1 h1 v H1 rp1 r1 => ?_)
  refine sl Fr B1 as1 σ H1 S M1 _ (rs.mono s1 p1) rp1 (h1.bnd.imp fun l M2 B2 as2 s2 p2 h2 H2 rp2 => ?_)
  refine sh Fr B2 as2 σ H2 S M2 _ ((rs.mono s1 p1).mono s2 p2) rp2 (h2.bnd.imp fun u M3 B3 as3 s3 p3 h3 H3 rp3 => ?_)
  obtain ⟨t, m, q, vs, rfl, fc, rs3, h3, _⟩ := Post.vw (d := x) h3 rp3 (r1.mono s2 p2 |>.mono s3 p3)
  have fin : ∀ q', SqL X.K H3 q vs → Post B3 as3 (Ev.ret (NR.n .lst (cutD m l u)) M3) (kN X Fr Q) (kX X Fr W σ) → H3 q' = none → Q (.ref q') (upd H3 q' (.lst (cutV vs l u))) := fun q' _ h hn => by
    have := h.ret (cutV vs l u) H3 q' rp3 (by unfold cutV cutD; rw [rs3.length]; exact (rs3.drop _).take _) hn
    exact this
  cases t <;> first | exact h3.elim | skip
  · exact ⟨q, vs, rfl, SqL.of fc, fun q' hq => fin q' (SqL.of fc) h3 hq⟩
  · exact ⟨q, vs, rfl, fc, fun q' hq => fin q' fc h3 hq⟩
/-! ### built-in functions -/
theorem de_callB {x : Str} {id : String} {r : List V → Hp → VK → Prop} {es : List Expr} {p : Pos} {f : Lo → Ev (List D)} {op : List D → Ev D} (hc : CallR X (.builtin id) r) (ho : OpN X W r op) (hg : Gl X x) (hm : X.mg x = none) (hv : bootBuiltins x = some (.builtin id)) (ha : DA X W (e :: es) f)
    (hn : x ≠ "__name__" := by decide) (hdb : (x == ("__debug__" : Str)) = false := by decide) (he : starEach (e :: es) X.env = (false, eval e X.env) :: starEach es X.env := by rfl) (hpl : (backTo pos (starEach es X.env)).any (·.1) = false := by rfl) :
    DE X W (.Call (.Name x p) (e :: es) [] pos) (fun S => (f S).bnd op) := by
  obtain ⟨t, pa, s⟩ := ha
  refine ⟨_, pe_callB hc hg hm hv pa hn hdb he hpl, fun Fr B as σ H S M Q rs rp h => ?_⟩
  exact s Fr B as σ H S M _ rs rp (h.bnd.imp fun l M1 B1 as1 s1 p1 h1 vs H1 rp1 r1 => ho Fr B1 as1 σ H1 M1 vs l Q rp1 r1 h1)
theorem dn_callB {x : Str} {id : String} {r : List V → Hp → VK → Prop} {es : List Expr} {p : Pos} {f : Lo → Ev (List D)} {op : List D → Ev NR} (hc : CallR X (.builtin id) r) (ho : OpNN X W r op) (hg : Gl X x) (hm : X.mg x = none) (hv : bootBuiltins x = some (.builtin id)) (ha : DA X W (e :: es) f)
    (hn : x ≠ "__name__" := by decide) (hdb : (x == ("__debug__" : Str)) = false := by decide) (he : starEach (e :: es) X.env = (false, eval e X.env) :: starEach es X.env := by rfl) (hpl : (backTo pos (starEach es X.env)).any (·.1) = false := by rfl) :
    DN X W (.Call (.Name x p) (e :: es) [] pos) (fun S => (f S).bnd op) := by
  obtain ⟨t, pa, s⟩ := ha
  refine ⟨_, pe_callB hc hg hm hv pa hn hdb he hpl, fun Fr B as σ H S M Q rs rp h => ?_⟩
  exact s Fr B as σ H S M _ rs rp (h.bnd.imp fun l M1 B1 as1 s1 p1 h1 vs H1 rp1 r1 => ho Fr B1 as1 σ H1 M1 vs l Q rp1 r1 h1)
theorem de_callTy {x : Str} {T : String} {r : List V → Hp → VK → Prop} {es : List Expr} {p : Pos} {f : Lo → Ev (List D)} {op : List D → Ev D} (hc : CallR X (.type T) r) (ho : OpN X W r op) (hg : Gl X x) (hm : X.mg x = none) (hv : bootBuiltins x = some (.type T)) (ha : DA X W (e :: es) f)
    (hn : x ≠ "__name__" := by decide) (hdb : (x == ("__debug__" : Str)) = false := by decide) (he : starEach (e :: es) X.env = (false, eval e X.env) :: starEach es X.env := by rfl) (hpl : (backTo pos (starEach es X.env)).any (·.1) = false := by rfl) :
    DE X W (.Call (.Name x p) (e :: es) [] pos) (fun S => (f S).bnd op) := by
  obtain ⟨t, pa, s⟩ := ha
  refine ⟨_, pe_callTy hc hg hm hv pa hn hdb he hpl, fun Fr B as σ H S M Q rs rp h => ?_⟩
  exact s Fr B as σ H S M _ rs rp (h.bnd.imp fun l M1 B1 as1 s1 p1 h1 vs H1 rp1 r1 => ho Fr B1 as1 σ H1 M1 vs l Q rp1 r1 h1)
theorem dn_callTy {x : Str} {T : String} {r : List V → Hp → VK → Prop} {es : List Expr} {p : Pos} {f : Lo → Ev (List D)} {op : List D → Ev NR} (hc : CallR X (.type T) r) (ho : OpNN X W r op) (hg : Gl X x) (hm : X.mg x = none) (hv : bootBuiltins x = some (.type T)) (ha : DA X W (e :: es) f)
    (hn : x ≠ "__name__" := by decide) (hdb : (x == ("__debug__" : Str)) = false := by decide) (he : starEach (e :: es) X.env = (false, eval e X.env) :: starEach es X.env := by rfl) (hpl : (backTo pos (starEach es X.env)).any (·.1) = false := by rfl) :
    DN X W (.Call (.Name x p) (e :: es) [] pos) (fun S => (f S).bnd op) := by
  obtain ⟨t, pa, s⟩ := ha
  refine ⟨_, pe_callTy hc hg hm hv pa hn hdb he hpl, fun Fr B as σ H S M Q rs rp h => ?_⟩
  exact s Fr B as σ H S M _ rs rp (h.bnd.imp fun l M1 B1 as1 s1 p1 h1 vs H1 rp1 r1 => ho Fr B1 as1 σ H1 M1 vs l Q rp1 r1 h1)
/-- one argument -/
def op1 {α : Type} (f : D → Ev α) : List D → Ev α
  | [d] => f d
  | _ => Ev.no
def op2 {α : Type} (f : D → D → Ev α) : List D → Ev α
  | [d, e] => f d e
  | _ => Ev.no
theorem oN1 {r : List V → Hp → VK → Prop} {f : D → Ev D} (h : ∀ Fr B as σ H M v d Q, Rep (gx X) Fr B as H M → R (gx X) B as v d → Post B as (f d M) (kD X Fr Q) (kX X Fr W σ) → r [v] H Q) : OpN X W r (op1 f) := by
  intro Fr B as σ H M vs l Q rp rs hp
  cases rs with
  | nil => exact hp.elim
  | cons r t =>
    cases t with
    | nil => exact h Fr B as σ H M _ _ Q rp r hp
    | cons _ _ => exact hp.elim
theorem oNN1 {r : List V → Hp → VK → Prop} {f : D → Ev NR} (h : ∀ Fr B as σ H M v d Q, Rep (gx X) Fr B as H M → R (gx X) B as v d → Post B as (f d M) (kN X Fr Q) (kX X Fr W σ) → r [v] H Q) : OpNN X W r (op1 f) := by
  intro Fr B as σ H M vs l Q rp rs hp
  cases rs with
  | nil => exact hp.elim
  | cons r t =>
    cases t with
    | nil => exact h Fr B as σ H M _ _ Q rp r hp
    | cons _ _ => exact hp.elim
theorem oN2 {r : List V → Hp → VK → Prop} {f : D → D → Ev D} (h : ∀ Fr B as σ H M v w d e Q, Rep (gx X) Fr B as H M → R (gx X) B as v d → R (gx X) B as w e → Post B as (f d e M) (kD X Fr Q) (kX X Fr W σ) → r [v, w] H Q) : OpN X W r (op2 f) := by
  intro Fr B as σ H M vs l Q rp rs hp
  cases rs with
  | nil => exact hp.elim
  | cons r t =>
    cases t with
    | nil => exact hp.elim
    | cons r' t' =>
      cases t' with
      | nil => exact h Fr B as σ H M _ _ _ _ Q rp r r' hp
      | cons _ _ => exact hp.elim
/-- len -/
def lenE (x : D) : Ev D := match x with
  | .str z => if z.length ≤ sizeLine then Ev.ret (.int z.length) else Ev.no
  | _ => (sq x).bnd fun l => Ev.ret (.int l.length)
theorem o_len : OpN X W (fun xs H Q => ∃ x n, xs = [x] ∧ LenV X.K x H n ∧ Q (.int n) H) (op1 lenE) := oN1 fun Fr B as σ H M v d Q rp r h => by
  have gen : Post B as (((sq d).bnd fun l => Ev.ret (.int l.length)) M) (kD X Fr Q) (kX X Fr W σ) → ∃ x n, [v] = [x] ∧ LenV X.K x H n ∧ Q (.int n) H := fun h => by
    obtain ⟨l, p, vs, rfl, hs, rs, h⟩ := h.sq rp r
    refine ⟨.ref p, l.length, rfl, ?_, (Post.ret (a := D.int l.length) h) _ H rp (.int _)⟩
    rcases hs with hs | hs
    · exact .inl ⟨vs, hs, rs.length.symm⟩
    · exact .inr ⟨vs, hs, rs.length.symm⟩
  cases r with
  | str z =>
    have h : Post B as ((if z.length ≤ sizeLine then Ev.ret (.int z.length) else Ev.no) M) (kD X Fr Q) (kX X Fr W σ) := h
    by_cases c : z.length ≤ sizeLine
    · rw [if_pos c] at h; exact ⟨_, _, rfl, ⟨c, rfl⟩, (Post.ret (a := D.int z.length) h) _ H rp (.int _)⟩
    · rw [if_neg c] at h; exact h.elim
  | _ => exact gen h
def eCall (op : List D → Ev D) (f : Lo → Ev (List D)) : Lo → Ev D := fun S => (f S).bnd op
def nCall (op : List D → Ev NR) (f : Lo → Ev (List D)) : Lo → Ev NR := fun S => (f S).bnd op
variable {es : List Expr} {p : Pos} {f : Lo → Ev (List D)}
theorem de_len (hg : Gl X "len") (hm : X.mg "len" = none) (ha : DA X W [e] f) (he : starEach [e] X.env = (false, eval e X.env) :: starEach [] X.env := by rfl) : DE X W (.Call (.Name "len" p) [e] [] pos) (eCall (op1 lenE) f) :=
  de_callB call_len o_len hg hm PySem.boot_len ha (by decide) (by decide) he
def minE : D → D → Ev D := iop fun i j => Ev.ret (.int (if j < i then j else i))
def maxE : D → D → Ev D := iop fun i j => Ev.ret (.int (if j > i then j else i))
theorem o_mm {g : Int → Int → Int} : OpN X W (fun xs H Q => ∃ i j, xs = [.int i, .int j] ∧ Q (.int (g i j)) H) (op2 (iop fun i j => Ev.ret (.int (g i j)))) := oN2 fun Fr B as σ H M v w d e Q rp r1 r2 h => by
  cases r1 <;> first | exact h.elim | skip
  cases r2 <;> first | exact h.elim | skip
  exact ⟨_, _, rfl, h.ret _ H rp (.int _)⟩
theorem de_min2 (hc : X.calm = true) (hg : Gl X "min") (hm : X.mg "min" = none) (ha : DA X W [a, b] f) (he : starEach [a, b] X.env = (false, eval a X.env) :: starEach [b] X.env := by rfl) (hpl : (backTo pos (starEach [b] X.env)).any (·.1) = false := by rfl) : DE X W (.Call (.Name "min" p) [a, b] [] pos) (eCall (op2 minE) f) :=
  de_callB (call_min2 hc) o_mm hg hm (by decide +kernel) ha (by decide) (by decide) he hpl
theorem de_max2 (hc : X.calm = true) (hg : Gl X "max") (hm : X.mg "max" = none) (ha : DA X W [a, b] f) (he : starEach [a, b] X.env = (false, eval a X.env) :: starEach [b] X.env := by rfl) (hpl : (backTo pos (starEach [b] X.env)).any (·.1) = false := by rfl) : DE X W (.Call (.Name "max" p) [a, b] [] pos) (eCall (op2 maxE) f) :=
  de_callB (call_max2 hc) o_mm hg hm (by decide +kernel) ha (by decide) (by decide) he hpl
def absE : D → Ev D
  | .int i => Ev.ret (.int (if i < 0 then -i else i))
  | _ => Ev.no
theorem de_abs (hg : Gl X "abs") (hm : X.mg "abs" = none) (ha : DA X W [e] f) (he : starEach [e] X.env = (false, eval e X.env) :: starEach [] X.env := by rfl) : DE X W (.Call (.Name "abs" p) [e] [] pos) (eCall (op1 absE) f) :=
  de_callB call_abs (oN1 fun Fr B as σ H M v d Q rp r h => by
    cases r <;> first | exact h.elim | skip
    exact ⟨_, rfl, h.ret _ H rp (.int _)⟩) hg hm (by decide +kernel) ha (by decide) (by decide) he
def sumE (x : D) : Ev D := (vw x).bnd fun p => match p.1 with
  | .lst => match intsOf p.2 with
    | some ns => Ev.ret (.int ns.sum)
    | none => Ev.no
  | _ => Ev.no
theorem de_sum (hc : X.calm = true) (hg : Gl X "sum") (hm : X.mg "sum" = none) (ha : DA X W [e] f) (he : starEach [e] X.env = (false, eval e X.env) :: starEach [] X.env := by rfl) : DE X W (.Call (.Name "sum" p) [e] [] pos) (eCall (op1 sumE) f) :=
  de_callB (cr_sum hc) (oN1 fun Fr B as σ H M v d Q rp r h => by
    obtain ⟨t, l, p, vs, rfl, fc, rs, h, _⟩ := Post.vw (d := d) h rp r
    cases t <;> first | exact h.elim | skip
    dsimp only at h
    cases q : intsOf l with
    | none => rw [q] at h; exact h.elim
    | some ns =>
      rw [q] at h
      rw [intsOf_eq q] at rs
      have e := rs.ints
      subst e
      exact ⟨p, ns, rfl, SqL.of fc, h.ret _ H rp (.int _)⟩) hg hm (by decide +kernel) ha (by decide) (by decide) he
def allE (x : D) : Ev D := (vw x).bnd fun p => match p.1 with
  | .lst => match blsOf p.2 with
    | some ns => Ev.ret (.bl (ns.all id))
    | none => Ev.no
  | _ => Ev.no
def anyE (x : D) : Ev D := (vw x).bnd fun p => match p.1 with
  | .lst => match blsOf p.2 with
    | some ns => Ev.ret (.bl (ns.any id))
    | none => Ev.no
  | _ => Ev.no
theorem de_all (hc : X.calm = true) (hg : Gl X "all") (hm : X.mg "all" = none) (ha : DA X W [e] f) (he : starEach [e] X.env = (false, eval e X.env) :: starEach [] X.env := by rfl) : DE X W (.Call (.Name "all" p) [e] [] pos) (eCall (op1 allE) f) :=
  de_callB (cr_all hc) (oN1 fun Fr B as σ H M v d Q rp r h => by
    obtain ⟨t, l, p, vs, rfl, fc, rs, h, _⟩ := Post.vw (d := d) h rp r
    cases t <;> first | exact h.elim | skip
    dsimp only at h
    cases q : blsOf l with
    | none => rw [q] at h; exact h.elim
    | some ns =>
      rw [q] at h
      rw [blsOf_eq q] at rs
      have e := rs.bls
      subst e
      exact ⟨p, ns, rfl, SqL.of fc, h.ret _ H rp (.bl _)⟩) hg hm (by decide +kernel) ha (by decide) (by decide) he
theorem de_any (hc : X.calm = true) (hg : Gl X "any") (hm : X.mg "any" = none) (ha : DA X W [e] f) (he : starEach [e] X.env = (false, eval e X.env) :: starEach [] X.env := by rfl) : DE X W (.Call (.Name "any" p) [e] [] pos) (eCall (op1 anyE) f) :=
  de_callB (cr_any hc) (oN1 fun Fr B as σ H M v d Q rp r h => by
    obtain ⟨t, l, p, vs, rfl, fc, rs, h, _⟩ := Post.vw (d := d) h rp r
    cases t <;> first | exact h.elim | skip
    dsimp only at h
    cases q : blsOf l with
    | none => rw [q] at h; exact h.elim
    | some ns =>
      rw [q] at h
      rw [blsOf_eq q] at rs
      have e := rs.bls
      subst e
      exact ⟨p, ns, rfl, SqL.of fc, h.ret _ H rp (.bl _)⟩) hg hm (by decide +kernel) ha (by decide) (by decide) he
/-- list(x), x a list or a tuple -/
def listN (x : D) : Ev NR := (sq x).bnd fun l => Ev.ret (.n .lst l)
theorem dn_list (hg : Gl X "list") (hm : X.mg "list" = none) (ha : DA X W [e] f) (he : starEach [e] X.env = (false, eval e X.env) :: starEach [] X.env := by rfl) : DN X W (.Call (.Name "list" p) [e] [] pos) (nCall (op1 listN) f) :=
  dn_callTy call_list_of (oNN1 fun Fr B as σ H M v d Q rp r h => by
    obtain ⟨l, p, vs, rfl, hs, rs, h⟩ := Post.sq (d := d) h rp r
    exact ⟨p, vs, rfl, hs, fun z hz => h.ret _ H z rp rs hz⟩) hg hm (by decide +kernel) ha (by decide) (by decide) he
/-- list(range(n)), list(range(a, b)) -/
def DR (X : Cx) (W : WX) (e : Expr) (f : Lo → Ev (Int × Int)) : Prop := ∃ t, PRg X e t ∧ ∀ Fr B as σ H S M (Q : Int → Int → Hp → Prop), RS (gx X) B as σ S → Rep (gx X) Fr B as H M →
  Post B as (f S M) (fun o M B as => ∀ H, Rep (gx X) Fr B as H M → Q o.1 o.2 H) (kX X Fr W σ) → t σ H Q
def r1E (f : Lo → Ev D) : Lo → Ev (Int × Int) := fun S => (f S).bnd fun x => match x with
  | .int n => Ev.ret (0, n)
  | _ => Ev.no
def r2E (f g : Lo → Ev D) : Lo → Ev (Int × Int) := fun S => (f S).bnd fun x => (g S).bnd fun y => match x, y with
  | .int m, .int n => Ev.ret (m, n)
  | _, _ => Ev.no
theorem dr_1 {g : Lo → Ev D} (hg : Gl X "range") (hm : X.mg "range" = none) (ha : DE X W a g) (na : starEach [a] X.env = (false, eval a X.env) :: starEach [] X.env := by rfl) : DR X W (.Call (.Name "range" p) [a] [] pos) (r1E g) := by
  obtain ⟨t, pa, s⟩ := ha
  refine ⟨_, prg_1 hg hm pa na, fun Fr B as σ H S M Q rs rp h => ?_⟩
  refine s Fr B as σ H S M _ rs rp (h.bnd.imp fun x M1 B1 as1 s1 p1 h1 v H1 rp1 r1 => ?_)
  cases r1 <;> first | exact h1.elim | skip
  exact ⟨_, rfl, h1.ret H1 rp1⟩
theorem dr_2 {g g' : Lo → Ev D} (hg : Gl X "range") (hm : X.mg "range" = none) (ha : DE X W a g) (hb : DE X W b g') (na : starEach [a, b] X.env = (false, eval a X.env) :: starEach [b] X.env := by rfl) (nb : starEach [b] X.env = (false, eval b X.env) :: starEach [] X.env := by rfl)
    (hp : (backTo pos (starEach [b] X.env)).any (·.1) = false := by rfl) : DR X W (.Call (.Name "range" p) [a, b] [] pos) (r2E g g') := by
  obtain ⟨t, pa, s⟩ := ha
  obtain ⟨t', pb, s'⟩ := hb
  refine ⟨_, prg_2 hg hm pa pb na nb hp, fun Fr B as σ H S M Q rs rp h => ?_⟩
  refine s Fr B as σ H S M _ rs rp (h.bnd.imp fun x M1 B1 as1 s1 p1 h1 v H1 rp1 r1 => ?_)
  refine s' Fr B1 as1 σ H1 S M1 _ (rs.mono s1 p1) rp1 (h1.bnd.imp fun y M2 B2 as2 s2 p2 h2 w H2 rp2 r2 => ?_)
  cases r1 <;> first | (cases r2 <;> exact h2.elim) | skip
  cases r2 <;> first | exact h2.elim | skip
  exact ⟨_, _, rfl, rfl, h2.ret H2 rp2⟩
def rgD (a b : Int) : List D := (List.range (b - a).toNat).map fun i => D.int (a + (i : Nat))
theorem Rs.rg {G : Gx} {B : Hp} {as : List Addr} (a b : Int) : Rs G B as (rgV a b) (rgD a b) := by
  have : ∀ l : List Nat, Rs G B as (l.map fun i => V.int (a + (i : Nat))) (l.map fun i => D.int (a + (i : Nat))) := fun l => by
    induction l with
    | nil => exact .nil
    | cons n l ih => exact .cons (.int _) ih
  exact this _
open Classical in
noncomputable def rgN (r : Int × Int) : Ev NR := if RgOk r.1 r.2 then Ev.ret (.n .lst (rgD r.1 r.2)) else Ev.no
theorem rgN_ok {r : Int × Int} (h : RgOk r.1 r.2) : rgN r = Ev.ret (.n .lst (rgD r.1 r.2)) := if_pos h
theorem rgN_no {r : Int × Int} (h : ¬ RgOk r.1 r.2) : rgN r = Ev.no := if_neg h
noncomputable def lrN (f : Lo → Ev (Int × Int)) : Lo → Ev NR := fun S => (f S).bnd rgN
theorem dn_listRg {g : Lo → Ev (Int × Int)} (hc : X.calm = true) (hg : Gl X "list") (hm : X.mg "list" = none) (he : DR X W e g) (na : starEach [e] X.env = (false, eval e X.env) :: starEach [] X.env := by rfl) : DN X W (.Call (.Name "list" p) [e] [] pos) (lrN g) := by
  obtain ⟨t, pa, s⟩ := he
  refine ⟨_, pe_listRg hc hg hm pa na, fun Fr B as σ H S M Q rs rp h => ?_⟩
  refine s Fr B as σ H S M _ rs rp (h.bnd.imp fun r M1 B1 as1 s1 p1 h1 H1 rp1 => ?_)
  by_cases c : RgOk r.1 r.2
  · rw [rgN_ok c] at h1; exact ⟨c, fun z hz => h1.ret _ H1 z rp1 (Rs.rg _ _) hz⟩
  · rw [rgN_no c] at h1; exact h1.elim
/-- in, not in a sequence of flat things -/
def inE (neg : Bool) (x y : D) : Ev D := (sq y).bnd fun l => match toV x, toVs l with
  | some v, some vs => Ev.ret (.bl (if neg then !inV v vs else inV v vs))
  | _, _ => Ev.no
theorem o_in {neg : Bool} : Op2 X W (rIn X.K neg) (inE neg) := by
  intro Fr B as σ H M v w x y Q rp r1 r2 h
  obtain ⟨l, p, vs, rfl, hs, rs, h⟩ := Post.sq (d := y) h rp r2
  cases q1 : toV x with
  | none => rw [q1] at h; exact h.elim
  | some u =>
    cases q2 : toVs l with
    | none => rw [q1, q2] at h; exact h.elim
    | some us =>
      rw [q1, q2] at h
      obtain ⟨e1, f1⟩ := r1.toV q1
      obtain ⟨e2, f2⟩ := rs.toVs q2
      subst e1; subst e2
      exact ⟨p, vs, rfl, hs, f1, f2, (Post.ret (a := D.bl (if neg then !inV v vs else inV v vs)) h) _ H rp (.bl _)⟩
theorem de_in (ha : DE X W a fa) (hb : DE X W b fb) (hm : behindInMarks .In b = false := by rfl) : DE X W (.Compare a [.In] [b] pos) (e2 (inE false) fa fb) := de_cmp op_in_seq o_in ha hb hm
theorem de_notIn (ha : DE X W a fa) (hb : DE X W b fb) (hm : behindInMarks .NotIn b = false := by rfl) : DE X W (.Compare a [.NotIn] [b] pos) (e2 (inE true) fa fb) := de_cmp op_notIn_seq o_in ha hb hm
theorem dt_in (ha : DE X W a fa) (hb : DE X W b fb) (hm : behindInMarks .In b = false := by rfl) : DT X W (.Compare a [.In] [b] pos) (eB (e2 (inE false) fa fb)) := dt_cmp op_in_seq o_in ha hb hm
theorem dt_notIn (ha : DE X W a fa) (hb : DE X W b fb) (hm : behindInMarks .NotIn b = false := by rfl) : DT X W (.Compare a [.NotIn] [b] pos) (eB (e2 (inE true) fa fb)) := dt_cmp op_notIn_seq o_in ha hb hm
end
end DL

set_option Elab.async false
set_option linter.all false
set_option maxRecDepth 100000
set_option maxHeartbeats 4000000
/-! DL4: targets, statements, loops, comprehensions, freezing. -/
namespace DL
open PySem L2
section
variable {X : Cx} {W : WX} {e a b c : Expr} {pos : Pos}
/-! ### targets -/
def kG (X : Cx) (Fr : Hp) (σ : St) (ps : List Nat) (Q : St → Hp → Prop) : Lo → Store → Hp → List Addr → Prop := fun S M B as => ∀ σ' H, Rep (gx X) Fr B as H M → RS (gx X) B as σ' S → (∀ j, j ∉ ps → σ'[j]? = σ[j]?) → σ'.length = σ.length → Q σ' H
def DG (X : Cx) (W : WX) (tg : Expr) (ps : List Nat) (g : D → Lo → Ev Lo) : Prop := ∃ t, PG X tg t ∧ ∀ Fr B as σ H S M v d Q, RS (gx X) B as σ S → Rep (gx X) Fr B as H M → R (gx X) B as v d →
  Post B as (g d S M) (kG X Fr σ ps Q) (fun _ _ _ _ _ => False) → t v σ H Q
def DGs (X : Cx) (W : WX) (tgs : List Expr) (ps : List Nat) (g : List D → Lo → Ev Lo) : Prop := ∃ t, PGs X tgs t ∧ ∀ Fr B as σ H S M vs l Q, RS (gx X) B as σ S → Rep (gx X) Fr B as H M → Rs (gx X) B as vs l →
  Post B as (g l S M) (kG X Fr σ ps Q) (fun _ _ _ _ _ => False) → t vs σ H Q
def gNm (i : Nat) : D → Lo → Ev Lo := fun d S => Ev.ret (S.set i (some d))
def gNl : List D → Lo → Ev Lo := fun l S => match l with
  | [] => Ev.ret S
  | _ => Ev.no
def gCn (g : D → Lo → Ev Lo) (gs : List D → Lo → Ev Lo) : List D → Lo → Ev Lo := fun l S => match l with
  | d :: r => (g d S).bnd fun S' => gs r S'
  | [] => Ev.no
def gTp (n : Nat) (gs : List D → Lo → Ev Lo) : D → Lo → Ev Lo := fun d S => (vw d).bnd fun p => match p.1 with
  | .tup => if p.2.length = n then gs p.2 S else Ev.no
  | _ => Ev.no
theorem dg_name {i : Nat} {x : Str} (hN : X.N.Nodup) (hi : X.N[i]? = some x) (hx : Loc X.env.scope x) (hf : X.fn x = true ∨ X.env.scope.names.lookup x = some .local := by first | exact .inl rfl | exact .inr rfl | assumption) : DG X W (.Name x pos) [i] (gNm i) := by
  refine ⟨_, pg_name hN hi hx hf, fun Fr B as σ H S M v d Q rs rp r h => ?_⟩
  exact h.ret _ H rp (rs.set r i) (fun j hj => by
    simp at hj
    rw [List.getElem?_set_ne (Ne.symm hj)]) (by simp)
theorem dgs_nil : DGs X W [] [] gNl := ⟨_, pgs_nil, fun Fr B as σ H S M vs l Q rs rp r h => by
  cases r with
  | nil => exact ⟨rfl, h.ret _ H rp rs (fun _ _ => rfl) rfl⟩
  | cons _ _ => exact h.elim⟩
theorem dgs_cons {es : List Expr} {ps qs : List Nat} {g : D → Lo → Ev Lo} {gs : List D → Lo → Ev Lo} (h1 : DG X W e ps g) (h2 : DGs X W es qs gs) (hs : (assignEach (e :: es) X.env).map (·.2) = assign e X.env :: (assignEach es X.env).map (·.2) := by rfl) : DGs X W (e :: es) (ps ++ qs) (gCn g gs) := by
  obtain ⟨t, p, s⟩ := h1
  obtain ⟨t', p', s'⟩ := h2
  refine ⟨_, pgs_cons p p' hs, fun Fr B as σ H S M vs l Q rs rp r h => ?_⟩
  cases r with
  | nil => exact h.elim
  | cons r rr =>
    refine ⟨_, _, rfl, s Fr B as σ H S M _ _ _ rs rp r ((Post.bnd h).imp fun S1 M1 B1 as1 s1 p1 h1 σ1 H1 rp1 rs1 k1 l1 => ?_)⟩
    refine s' Fr B1 as1 σ1 H1 S1 M1 _ _ Q rs1 rp1 (rr.mono s1 p1) (h1.imp fun S2 M2 B2 as2 s2 p2 h2 σ2 H2 rp2 rs2 k2 l2 => ?_)
    refine h2 σ2 H2 rp2 rs2 (fun j hj => ?_) (l2.trans l1)
    simp at hj
    rw [k2 j hj.2, k1 j hj.1]
theorem dg_tup {es : List Expr} {k : Nat} {ps : List Nat} {gs : List D → Lo → Ev Lo} {n : Nat} (hc : X.calm = true) (h : DGs X W es ps gs) (hn : (assignEach es X.env).length = n := by rfl) (hst : (assignEach es X.env).findIdx? (·.1) = none := by rfl) : DG X W (.Tuple es k pos) ps (gTp n gs) := by
  obtain ⟨t, p, s⟩ := h
  refine ⟨_, pg_tup hc p hn hst, fun Fr B as σ H S M v d Q rs rp r h => ?_⟩
  obtain ⟨t, l, q, vs, rfl, fc, rs2, h, _⟩ := Post.vw (d := d) h rp r
  cases t <;> first | exact h.elim | skip
  dsimp only at h
  by_cases c : l.length = n
  · rw [if_pos c] at h
    exact ⟨q, vs, rfl, fc, rs2.length.trans c, s Fr B as σ H S M vs l Q rs rp rs2 h⟩
  · rw [if_neg c] at h; exact h.elim
/-! ### statements -/
/-- an expression's exceptions become flow -/
def Ev.fl (m : Ev D) (S : Lo) (k : D → Ev Fl) : Ev Fl := fun M => match m M with
  | .ok d M' => k d M'
  | .exc c d M' => .ok (.xc c d S) M'
  | .stuck => .stuck
def Ev.flB (m : Ev Bool) (S : Lo) (k : Bool → Ev Fl) : Ev Fl := fun M => match m M with
  | .ok d M' => k d M'
  | .exc c d M' => .ok (.xc c d S) M'
  | .stuck => .stuck
theorem ret_fl (d : D) (S : Lo) (k : D → Ev Fl) : (Ev.ret d).fl S k = k d := rfl
theorem ret_flB (d : Bool) (S : Lo) (k : Bool → Ev Fl) : Ev.flB (Ev.ret d) S k = k d := rfl
theorem fl_apply (m : Ev D) (S : Lo) (k : D → Ev Fl) (M : Store) : (m.fl S k) M = match m M with
  | .ok d M' => k d M'
  | .exc c d M' => .ok (.xc c d S) M'
  | .stuck => .stuck := rfl
theorem Post.fl {Fr B : Hp} {as : List Addr} {σ : St} {m : Ev D} {S : Lo} {k : D → Ev Fl} {M : Store} {Dn : Ends} (rs : RS (gx X) B as σ S) (h : Post B as ((m.fl S k) M) (kF X Fr W Dn) (fun _ _ _ _ _ => False)) :
    Post B as (m M) (fun d M' B' as' => Post B' as' (k d M') (kF X Fr W Dn) (fun _ _ _ _ _ => False)) (kX X Fr W σ) := by
  unfold Ev.fl at h
  cases e : m M with
  | ok a M' => rw [e] at h; exact fun B2 as2 e2 p2 => Post.mono (o := k a M') h e2 p2
  | exc c d M' => rw [e] at h; exact fun B2 as2 e2 p2 cls dx H rp xr => h B2 as2 e2 p2 σ cls dx H rp (rs.mono e2 p2) xr
  | stuck => rw [e] at h; exact h
theorem Post.flB {Fr B : Hp} {as : List Addr} {σ : St} {m : Ev Bool} {S : Lo} {k : Bool → Ev Fl} {M : Store} {Dn : Ends} (rs : RS (gx X) B as σ S) (h : Post B as ((Ev.flB m S k) M) (kF X Fr W Dn) (fun _ _ _ _ _ => False)) :
    Post B as (m M) (fun d M' B' as' => Post B' as' (k d M') (kF X Fr W Dn) (fun _ _ _ _ _ => False)) (kX X Fr W σ) := by
  unfold Ev.flB at h
  cases e : m M with
  | ok a M' => rw [e] at h; exact fun B2 as2 e2 p2 => Post.mono (o := k a M') h e2 p2
  | exc c d M' => rw [e] at h; exact fun B2 as2 e2 p2 cls dx H rp xr => h B2 as2 e2 p2 σ cls dx H rp (rs.mono e2 p2) xr
  | stuck => rw [e] at h; exact h
def sNo : Lo → Ev Fl := fun _ => Ev.no
def sNext : Lo → Ev Fl := fun S => Ev.ret (.nx S)
def sSeq (f g : Lo → Ev Fl) : Lo → Ev Fl := fun S => (f S).bnd fun fl => match fl with
  | .nx S' => g S'
  | o => Ev.ret o
def sAsg (f : Lo → Ev D) (g : D → Lo → Ev Lo) : Lo → Ev Fl := fun S => (f S).fl S fun d => (g d S).bnd fun S' => Ev.ret (.nx S')
def sExp (f : Lo → Ev D) : Lo → Ev Fl := fun S => (f S).fl S fun _ => Ev.ret (.nx S)
def sRet (f : Lo → Ev D) : Lo → Ev Fl := fun S => (f S).fl S fun d => Ev.ret (.rt d)
def sRetN : Lo → Ev Fl := fun _ => Ev.ret (.rt .non)
def sIf (c : Lo → Ev Bool) (f g : Lo → Ev Fl) : Lo → Ev Fl := fun S => Ev.flB (c S) S fun b => if b = true then f S else g S
variable {st : Stmt} {rest : List Stmt}
theorem ds_never : DS X W st sNo := ⟨_, ps_never, fun _ _ _ _ _ _ _ _ _ _ h => h⟩
theorem dss_never {sts : List Stmt} : DSs X W sts sNo := ⟨_, pss_never, fun _ _ _ _ _ _ _ _ _ _ h => h⟩
theorem dss_nil : DSs X W [] sNext := ⟨_, pss_nil, fun _ _ _ _ H S M D rs rp h => h.ret _ H rp rs⟩
theorem dss_cons {f g : Lo → Ev Fl} (h1 : DS X W st f) (h2 : DSs X W rest g) : DSs X W (st :: rest) (sSeq f g) := by
  obtain ⟨t, p, s⟩ := h1
  obtain ⟨t', p', s'⟩ := h2
  refine ⟨_, pss_cons p p', fun Fr B as σ H S M D rs rp h => ?_⟩
  refine s Fr B as σ H S M _ rs rp (h.bnd.imp fun fl M1 B1 as1 s1 p1 h1 => ?_)
  cases fl with
  | nx S' => exact fun σ' H' rp' rs' => s' Fr B1 as1 σ' H' S' M1 D rs' rp' h1
  | rt d => exact Post.ret (a := Fl.rt d) (k := kF X Fr W D) (x := fun _ _ _ _ _ => False) h1
  | bk S' => exact Post.ret (a := Fl.bk S') (k := kF X Fr W D) (x := fun _ _ _ _ _ => False) h1
  | ct S' => exact Post.ret (a := Fl.ct S') (k := kF X Fr W D) (x := fun _ _ _ _ _ => False) h1
  | xc c d S' => exact Post.ret (a := Fl.xc c d S') (k := kF X Fr W D) (x := fun _ _ _ _ _ => False) h1
theorem dss_one {f : Lo → Ev Fl} (h1 : DS X W st f) : DSs X W [st] f := by
  obtain ⟨t, p, s⟩ := h1
  exact ⟨_, pss_one p, s⟩
theorem ds_pass : DS X W (.Pass pos) sNext := ⟨_, ps_pass, fun _ _ _ _ H S M D rs rp h => h.ret _ H rp rs⟩
theorem ds_asg {tg : Expr} {ps : List Nat} {f : Lo → Ev D} {g : D → Lo → Ev Lo} (he : DE X W e f) (hg : DG X W tg ps g) (hs : swapsWithSole [tg] e pos.line X.env = pure false := by rfl) (hw : swappedStores [tg] e X.env = pure none := by rfl)
    (h1 : (assignEach [tg] X.env).map (·.2) = [assign tg X.env] := by rfl) : DS X W (.Assign [tg] e pos) (sAsg f g) := by
  obtain ⟨t, p, s⟩ := he
  obtain ⟨t', p', s'⟩ := hg
  refine ⟨_, ps_asg p p' hs hw h1, fun Fr B as σ H S M D rs rp h => ?_⟩
  refine s Fr B as σ H S M _ rs rp ((Post.fl rs h).imp fun d M1 B1 as1 s1 p1 h1 v H1 rp1 r1 => ?_)
  exact s' Fr B1 as1 σ H1 S M1 v d _ (rs.mono s1 p1) rp1 r1 (h1.bnd.imp fun S' M2 B2 as2 s2 p2 h2 σ' H' rp' rs' _ _ => h2.ret σ' H' rp' rs')
theorem ds_set {i : Nat} {x : Str} {f : Lo → Ev D} {pos' : Pos} (hN : X.N.Nodup) (hi : X.N[i]? = some x) (hx : Loc X.env.scope x) (he : DE X W e f) (hs : swapsWith e (some (.Name x pos')) pos.line X.env = pure false := by rfl) (hf : X.fn x = true ∨ X.env.scope.names.lookup x = some .local := by first | exact .inl rfl | exact .inr rfl | assumption) :
    DS X W (.Assign [.Name x pos'] e pos) (sAsg f (gNm i)) := by
  obtain ⟨t, p, s⟩ := he
  refine ⟨_, ps_set hN hi hx p hs hf, fun Fr B as σ H S M D rs rp h => ?_⟩
  refine s Fr B as σ H S M _ rs rp ((Post.fl rs h).imp fun d M1 B1 as1 s1 p1 h1 v H1 rp1 r1 => ?_)
  exact (Post.ret (a := Fl.nx (S.set i (some d))) h1) _ H1 rp1 ((rs.mono s1 p1).set r1 i)
theorem ds_expr {f : Lo → Ev D} (he : DE X W e f) (hs : swapsWith e none pos.line X.env = pure false := by rfl) : DS X W (.Expr e pos) (sExp f) := by
  obtain ⟨t, p, s⟩ := he
  refine ⟨_, ps_expr p hs, fun Fr B as σ H S M D rs rp h => ?_⟩
  exact s Fr B as σ H S M _ rs rp ((Post.fl rs h).imp fun d M1 B1 as1 s1 p1 h1 v H1 rp1 r1 => h1.ret σ H1 rp1 (rs.mono s1 p1))
theorem ds_ret {f : Lo → Ev D} (he : DE X W e f) : DS X W (.Return (some e) pos) (sRet f) := by
  obtain ⟨t, p, s⟩ := he
  refine ⟨_, ps_ret p, fun Fr B as σ H S M D rs rp h => ?_⟩
  exact s Fr B as σ H S M _ rs rp ((Post.fl rs h).imp fun d M1 B1 as1 s1 p1 h1 v H1 rp1 r1 => h1.ret v H1 rp1 r1)
theorem ds_retN : DS X W (.Return none pos) sRetN := ⟨_, ps_retN, fun _ _ _ _ H S M D rs rp h => h.ret _ H rp .non⟩
theorem ds_if {a b : List Stmt} {f : Lo → Ev Bool} {g h : Lo → Ev Fl} (hc : DT X W c f) (ha : DSs X W a g) (hb : DSs X W b h) : DS X W (.If c a b pos) (sIf f g h) := by
  obtain ⟨t, p, s⟩ := hc
  obtain ⟨t', p', s'⟩ := ha
  obtain ⟨t'', p'', s''⟩ := hb
  refine ⟨_, ps_if p p' p'', fun Fr B as σ H S M D rs rp h => ?_⟩
  refine s Fr B as σ H S M _ rs rp ((Post.flB rs h).imp fun x M1 B1 as1 s1 p1 h1 H1 rp1 => ?_)
  cases x with
  | true => rw [if_pos rfl] at h1 ⊢; exact s' Fr B1 as1 σ H1 S M1 _ (rs.mono s1 p1) rp1 h1
  | false => rw [if_neg Bool.false_ne_true] at h1 ⊢; exact s'' Fr B1 as1 σ H1 S M1 _ (rs.mono s1 p1) rp1 h1
/-! ### while -/
def whileL (c : Lo → Ev Bool) (g : Lo → Ev Fl) : Nat → Lo → Ev Fl
  | 0, _ => Ev.no
  | n + 1, S => Ev.flB (c S) S fun b => if b = true then (g S).bnd fun fl => match fl with
      | .nx S' => whileL c g n S'
      | .ct S' => whileL c g n S'
      | .bk S' => Ev.ret (.nx S')
      | o => Ev.ret o
    else Ev.ret (.nx S)
theorem ds_while {body : List Stmt} {f : Lo → Ev Bool} {g : Lo → Ev Fl} (N : Nat) (hp : PassesOwn (model X.prog X.w) X.A X.env X.xe) (hc : DT X W c f) (hb : DSs X W body g) : DS X W (.While c body [] pos) (whileL f g N) := by
  obtain ⟨t, p, s⟩ := hc
  obtain ⟨t', p', s'⟩ := hb
  refine ⟨_, ps_while hp p p', fun Fr B as σ H S M D rs rp h => ?_⟩
  refine ⟨fun m σ H => ∃ B' as' S' M', Rep (gx X) Fr B' as' H M' ∧ RS (gx X) B' as' σ S' ∧ Post B' as' (whileL f g m S' M') (kF X Fr W D) (fun _ _ _ _ _ => False), ⟨N, B, as, S, M, rp, rs, h⟩, ?_⟩
  rintro m σ H ⟨B, as, S, M, rp, rs, h⟩
  cases m with
  | zero => exact h.elim
  | succ m =>
    refine s Fr B as σ H S M _ rs rp ((Post.flB rs h).imp fun x M1 B1 as1 s1 p1 h1 H1 rp1 => ?_)
    cases x with
    | false => rw [if_neg Bool.false_ne_true] at h1 ⊢; exact h1.ret σ H1 rp1 (rs.mono s1 p1)
    | true =>
      rw [if_pos rfl] at h1 ⊢
      refine ⟨fun σ' H' => ∃ B' as' S' M', Rep (gx X) Fr B' as' H' M' ∧ RS (gx X) B' as' σ' S' ∧ Post B' as' (whileL f g m S' M') (kF X Fr W D) (fun _ _ _ _ _ => False), fun σ' H' q => ⟨m, Nat.lt_succ_self m, q⟩, ?_⟩
      refine s' Fr B1 as1 σ H1 S M1 _ (rs.mono s1 p1) rp1 (h1.bnd.imp fun fl M2 B2 as2 s2 p2 h2 => ?_)
      cases fl with
      | nx S' => exact fun σ' H' rp' rs' => ⟨B2, as2, S', M2, rp', rs', h2⟩
      | ct S' => exact fun σ' H' rp' rs' => ⟨B2, as2, S', M2, rp', rs', h2⟩
      | bk S' => exact fun σ' H' rp' rs' => h2.ret σ' H' rp' rs'
      | rt d => exact Post.ret (a := Fl.rt d) (k := kF X Fr W D) (x := fun _ _ _ _ _ => False) h2
      | xc c d S' => exact Post.ret (a := Fl.xc c d S') (k := kF X Fr W D) (x := fun _ _ _ _ _ => False) h2
/-! ### iteration -/
abbrev Gd := Option (Nat × (Tg × List D))
def grd (g : Gd) (M : Store) : Prop := match g with
  | none => True
  | some (n, c) => M[n]? = some c
open Classical in
noncomputable def chk {α : Type} (g : Gd) (k : Ev α) : Ev α := fun M => if grd g M then k M else .stuck
theorem chk_none {α : Type} (k : Ev α) : chk none k = k := by funext M; unfold chk grd; simp
theorem chk_ok {α : Type} {g : Gd} {M : Store} (h : grd g M) (k : Ev α) : chk g k M = k M := by unfold chk; rw [if_pos h]
theorem Post.chk {α : Type} {B : Hp} {as : List Addr} {g : Gd} {m : Ev α} {M : Store} {k : α → Store → Hp → List Addr → Prop} {x : Str → D → Store → Hp → List Addr → Prop} (h : Post B as (DL.chk g m M) k x) : grd g M ∧ Post B as (m M) k x := by
  unfold DL.chk at h
  by_cases c : grd g M
  · rw [if_pos c] at h; exact ⟨c, h⟩
  · rw [if_neg c] at h; exact h.elim
structure IterOk (X : Cx) (B : Hp) (as : List Addr) (J : It) (items : List D) (g : Gd) : Prop where
  stop : ∀ Fr B' as' H' M', Same B B' → as <+: as' → Rep (gx X) Fr B' as' H' M' → grd g M' → J.stop items.length H'
  go : ∀ i d, items[i]? = some d → ∀ Fr B' as' H' M', Same B B' → as <+: as' → Rep (gx X) Fr B' as' H' M' → grd g M' →
    J.go i H' ∧ ∀ x H'', J.yld i H' x H'' → ∃ B'', Same B' B'' ∧ Rep (gx X) Fr B'' as' H'' M' ∧ R (gx X) B'' as' x d
theorem IterOk.mono {B B' : Hp} {as as' : List Addr} {J : It} {items : List D} {g : Gd} (h : IterOk X B as J items g) (e : Same B B') (p : as <+: as') : IterOk X B' as' J items g :=
  ⟨fun Fr B2 as2 H2 M2 e2 p2 => h.stop Fr B2 as2 H2 M2 (e.trans e2) (p.trans p2), fun i d q Fr B2 as2 H2 M2 e2 p2 => h.go i d q Fr B2 as2 H2 M2 (e.trans e2) (p.trans p2)⟩
def DI (X : Cx) (W : WX) (tg iter : Expr) (f : Lo → Ev (List D × Gd)) : Prop := ∃ wi, PI X tg iter wi ∧ ∀ Fr B as σ H S M (R' : It → Hp → Prop), RS (gx X) B as σ S → Rep (gx X) Fr B as H M →
  Post B as (f S M) (fun r M' B' as' => ∀ J H', Rep (gx X) Fr B' as' H' M' → IterOk X B' as' J r.1 r.2 → R' J H') (kX X Fr W σ) → wi σ H R'
noncomputable def forL (tg : D → Lo → Ev Lo) (body : Lo → Ev Fl) (g : Gd) : List D → Lo → Ev Fl
  | [], S => chk g (Ev.ret (.nx S))
  | d :: ds, S => chk g ((tg d S).bnd fun S1 => (body S1).bnd fun fl => match fl with
      | .nx S' => forL tg body g ds S'
      | .ct S' => forL tg body g ds S'
      | .bk S' => Ev.ret (.nx S')
      | o => Ev.ret o)
def Ev.flG {α : Type} (m : Ev α) (S : Lo) (k : α → Ev Fl) : Ev Fl := fun M => match m M with
  | .ok d M' => k d M'
  | .exc c d M' => .ok (.xc c d S) M'
  | .stuck => .stuck
theorem ret_flG {α : Type} (d : α) (S : Lo) (k : α → Ev Fl) : Ev.flG (Ev.ret d) S k = k d := rfl
theorem Post.flG {α : Type} {Fr B : Hp} {as : List Addr} {σ : St} {m : Ev α} {S : Lo} {k : α → Ev Fl} {M : Store} {Dn : Ends} (rs : RS (gx X) B as σ S) (h : Post B as ((Ev.flG m S k) M) (kF X Fr W Dn) (fun _ _ _ _ _ => False)) :
    Post B as (m M) (fun d M' B' as' => Post B' as' (k d M') (kF X Fr W Dn) (fun _ _ _ _ _ => False)) (kX X Fr W σ) := by
  unfold Ev.flG at h
  cases e : m M with
  | ok a M' => rw [e] at h; exact fun B2 as2 e2 p2 => Post.mono (o := k a M') h e2 p2
  | exc c d M' => rw [e] at h; exact fun B2 as2 e2 p2 cls dx H rp xr => h B2 as2 e2 p2 σ cls dx H rp (rs.mono e2 p2) xr
  | stuck => rw [e] at h; exact h
noncomputable def sFor (fi : Lo → Ev (List D × Gd)) (tg : D → Lo → Ev Lo) (body : Lo → Ev Fl) : Lo → Ev Fl := fun S => Ev.flG (fi S) S fun r => forL tg body r.2 r.1 S
theorem ds_for {tg iter : Expr} {body : List Stmt} {ps : List Nat} {fi : Lo → Ev (List D × Gd)} {ft : D → Lo → Ev Lo} {fb : Lo → Ev Fl} (hp : PassesOwn (model X.prog X.w) X.A X.env X.xe) (hc : X.calm = true) (hi : DI X W tg iter fi) (hg : DG X W tg ps ft) (hb : DSs X W body fb)
    (hs : ∀ x, foldedSetIterable iter X.env x = pure x := by intro _; rfl) : DS X W (.For tg iter body [] pos) (sFor fi ft fb) := by
  obtain ⟨wi, pi, si⟩ := hi
  obtain ⟨tt, pt, st⟩ := hg
  obtain ⟨tb, pb, sb⟩ := hb
  refine ⟨_, ps_for hp hc pi pt pb hs, fun Fr B as σ H S M D rs rp h => ?_⟩
  refine si Fr B as σ H S M _ rs rp ((Post.flG rs h).imp fun r M1 B1 as1 s1 p1 h1 J H1 rp1 io => ?_)
  obtain ⟨items, g⟩ := r
  refine ⟨fun i m σ H => m = items.length - i ∧ i ≤ items.length ∧ ∃ B' as' S' M', Same B1 B' ∧ as1 <+: as' ∧ Rep (gx X) Fr B' as' H M' ∧ RS (gx X) B' as' σ S' ∧ Post B' as' (forL ft fb g (items.drop i) S' M') (kF X Fr W D) (fun _ _ _ _ _ => False),
    ⟨items.length, by simp, Nat.zero_le _, B1, as1, S, M1, Same.refl _, List.prefix_refl _, rp1, rs.mono s1 p1, h1⟩, ?_⟩
  rintro i m σ H ⟨rfl, hi, B2, as2, S2, M2, s2, p2, rp2, rs2, h2⟩
  by_cases hlt : i < items.length
  · have hd : items.drop i = items[i] :: items.drop (i + 1) := (List.drop_eq_getElem_cons hlt)
    rw [hd] at h2
    unfold forL at h2
    obtain ⟨hg, h2⟩ := h2.chk
    obtain ⟨hgo, hy⟩ := io.go i items[i] (List.getElem?_eq_getElem hlt) Fr B2 as2 H M2 s2 p2 rp2 hg
    refine .inr ⟨hgo, fun σ' H' => ∃ B' as' S' M', Same B1 B' ∧ as1 <+: as' ∧ Rep (gx X) Fr B' as' H' M' ∧ RS (gx X) B' as' σ' S' ∧ Post B' as' (forL ft fb g (items.drop (i + 1)) S' M') (kF X Fr W D) (fun _ _ _ _ _ => False),
      fun σ' H' q => ⟨items.length - (i + 1), by omega, rfl, hlt, q⟩, fun x H' y => ?_⟩
    obtain ⟨B3, s3, rp3, r3⟩ := hy x H' y
    have h3 := h2.mono s3 (List.prefix_refl _)
    refine st Fr B3 as2 σ H' S2 M2 x _ _ (rs2.mono s3 (List.prefix_refl _)) rp3 r3 (h3.bnd.imp fun S4 M4 B4 as4 s4 p4 h4 σ4 H4 rp4 rs4 _ _ => ?_)
    refine sb Fr B4 as4 σ4 H4 S4 M4 _ rs4 rp4 (h4.bnd.imp fun fl M5 B5 as5 s5 p5 h5 => ?_)
    cases fl with
    | nx S' => exact fun σ' H' rp' rs' => ⟨B5, as5, S', M5, s2.trans (s3.trans (s4.trans s5)), p2.trans (p4.trans p5), rp', rs', h5⟩
    | ct S' => exact fun σ' H' rp' rs' => ⟨B5, as5, S', M5, s2.trans (s3.trans (s4.trans s5)), p2.trans (p4.trans p5), rp', rs', h5⟩
    | bk S' => exact fun σ' H' rp' rs' => h5.ret σ' H' rp' rs'
    | rt d => exact Post.ret (a := Fl.rt d) (k := kF X Fr W D) (x := fun _ _ _ _ _ => False) h5
    | xc c d S' => exact Post.ret (a := Fl.xc c d S') (k := kF X Fr W D) (x := fun _ _ _ _ _ => False) h5
  · have e : i = items.length := by omega
    subst e
    rw [List.drop_length] at h2
    unfold forL at h2
    obtain ⟨hg, h2⟩ := h2.chk
    exact .inl ⟨io.stop Fr B2 as2 H M2 s2 p2 rp2 hg, h2.ret σ H rp2 rs2⟩
/-- what is walked: a list or a tuple -/
def iSq (K : PySem.W.Frag) (tl : TE) : TI := fun σ H R => tl σ H fun x H1 => (∃ a, x = .ref a ∧ (∃ xs, SqL K H1 a xs) ∧ R (Itl K a) H1) ∨ (∃ a, x = .ref a ∧ (∃ xs, SqT K H1 a xs) ∧ R (Itt K a) H1)
theorem pi_sq {tg l : Expr} {tl : TE} (hl : PE X l tl) : PI X tg l (iSq X.K tl) := by
  refine ⟨fun pins s σ H R I h => ?_⟩
  refine thn (hl.run pins s σ H _ I h) fun v s1 ⟨x, H1, I1, r1, q1⟩ => ?_
  rcases q1 with ⟨a, e, ⟨xs, hq⟩, q⟩ | ⟨a, e, ⟨xs, hq⟩, q⟩
  · subst e
    cases r1
    obtain ⟨its, rv, p, hz⟩ := I1.list hq
    refine wpAny_pyIter_list p.isList ?_
    refine ⟨s1.heap.objs.size, [s1.heap.objs.size], _, _, H1, rfl, I1.kept (t' := s1.toks) fun b o e => Heap.get?_push_of_some _ e, turn_list a _, ⟨_, Heap.get?_push_size _ rfl, rfl, rfl⟩, fun b hb => ?_, q⟩
    have e : b = s1.heap.objs.size := by simpa using hb
    subst e
    exact I1.fpOk (Nat.le_refl _) (I1.hok.fresh (Nat.le_refl _))
  · subst e
    cases r1
    obtain ⟨its, rv, p, hz⟩ := I1.tuple hq
    refine wpAny_pyIter_tuple (show s1.heap.IsTuple a its.toArray from p) ?_
    refine ⟨s1.heap.objs.size, [s1.heap.objs.size], _, _, H1, rfl, I1.kept (t' := s1.toks) fun b o e => Heap.get?_push_of_some _ e, turn_tuple a _, ⟨_, Heap.get?_push_size _ rfl, rfl, rfl⟩, fun b hb => ?_, q⟩
    have e : b = s1.heap.objs.size := by simpa using hb
    subst e
    exact I1.fpOk (Nat.le_refl _) (I1.hok.fresh (Nat.le_refl _))
/-- the items of a sequence, and what must stand while it is walked -/
def itSq (d : D) : Ev (List D × Gd) := (vw d).bnd fun p => if FC.isSeq p.1 = true then (match d with
  | .ref n => Ev.ret (p.2, some (n, p))
  | _ => Ev.ret (p.2, none)) else Ev.no
end
end DL

set_option Elab.async false
set_option linter.all false
set_option maxRecDepth 100000
set_option maxHeartbeats 4000000
/-! DL5: what is walked, comprehensions, freezing, cells written, calls. -/
namespace DL
open PySem L2
section
variable {X : Cx} {W : WX} {e a b c : Expr} {pos : Pos}
/-- the sequence as it stands at a later turn -/
theorem seq_later {Fr B B' : Hp} {as as' : List Addr} {H H' : Hp} {M M' : Store} {d : D} {t : Tg} {l : List D} {p : Addr} {vs : List V} (ht : FC.isSeq t = true)
    (r : R (gx X) B as (.ref p) d) (fc : FC (gx X) H p t vs) (rs : Rs (gx X) B as vs l) (rp : Rep (gx X) Fr B as H M)
    (cell : ∀ n, d = .ref n → as[n]? = some p ∧ M[n]? = some (t, l) ∧ MC (gx X) H p t vs) (fro : (∀ n, d ≠ .ref n) → FC (gx X) B p t vs)
    {Fr' : Hp} (e : Same B B') (pr : as <+: as') (rp' : Rep (gx X) Fr' B' as' H' M') (g : ∀ n, d = .ref n → M'[n]? = some (t, l)) :
    ∃ ws, FC (gx X) H' p t ws ∧ Rs (gx X) B' as' ws l := by
  cases d with
  | ref n =>
    obtain ⟨ha, hm, mc⟩ := cell n rfl
    obtain ⟨ws, mc', rs'⟩ := rp'.cell n p (t, l) (pre_get pr ha) (g n rfl)
    exact ⟨ws, mc'.fc, rs'⟩
  | _ => exact ⟨vs, (fro (fun n => by intro h; cases h)).sub (e.trans rp'.sub), rs.mono e pr⟩
theorem Post.vw2 {α : Type} {Fr B : Hp} {as : List Addr} {d : D} {f : Tg × List D → Ev α} {M : Store} {H : Hp} {v : V} {k : α → Store → Hp → List Addr → Prop} {x : Str → D → Store → Hp → List Addr → Prop} (h : Post B as (((DL.vw d).bnd f) M) k x)
    (rp : Rep (gx X) Fr B as H M) (r : R (gx X) B as v d) : ∃ t l p vs, v = .ref p ∧ FC (gx X) H p t vs ∧ Rs (gx X) B as vs l ∧ Post B as (f (t, l) M) k x ∧
      (∀ n, d = .ref n → as[n]? = some p ∧ M[n]? = some (t, l) ∧ MC (gx X) H p t vs) ∧ ((∀ n, d ≠ .ref n) → FC (gx X) B p t vs) := by
  cases r with
  | nd fc rs => exact ⟨_, _, _, _, rfl, fc.sub rp.sub, rs, h, (fun n e => by cases e), fun _ => fc⟩
  | ref ha =>
    obtain ⟨t, l, p, vs, e, fc, rs, h, c⟩ := h.vw rp (.ref ha)
    exact ⟨t, l, p, vs, e, fc, rs, h, c, fun q => absurd rfl (q _)⟩
  | _ => exact h.elim
def itSqK (d : D) (p : Tg × List D) : Ev (List D × Gd) := match d with
  | .ref n => Ev.ret (p.2, some (n, p))
  | _ => Ev.ret (p.2, none)
theorem iter_sq {Fr B : Hp} {as : List Addr} {H : Hp} {M : Store} {d : D} {t : Tg} {l : List D} {p : Addr} {vs : List V} {gd : Gd} (ht : FC.isSeq t = true)
    (r : R (gx X) B as (.ref p) d) (fc : FC (gx X) H p t vs) (rs : Rs (gx X) B as vs l) (rp : Rep (gx X) Fr B as H M)
    (cell : ∀ n, d = .ref n → as[n]? = some p ∧ M[n]? = some (t, l) ∧ MC (gx X) H p t vs) (fro : (∀ n, d ≠ .ref n) → FC (gx X) B p t vs) (hg : ∀ n, d = .ref n → gd = some (n, (t, l))) :
    (t = .tup → IterOk X B as (Itt X.K p) l gd) ∧ (t ≠ .tup → IterOk X B as (Itl X.K p) l gd) := by
  have later : ∀ {Fr' B' : Hp} {as' : List Addr} {H' : Hp} {M' : Store}, Same B B' → as <+: as' → Rep (gx X) Fr' B' as' H' M' → grd gd M' → ∃ ws, FC (gx X) H' p t ws ∧ Rs (gx X) B' as' ws l := fun e pr rp' g =>
    seq_later ht r fc rs rp cell fro e pr rp' fun n hn => by
      have := hg n hn
      subst this
      exact g
  refine ⟨fun z => ?_, fun z => ?_⟩
  · subst z
    refine ⟨fun Fr' B' as' H' M' e pr rp' g => ?_, fun i d' hd Fr' B' as' H' M' e pr rp' g => ?_⟩
    · obtain ⟨ws, fc', rs'⟩ := later e pr rp' g
      exact ⟨ws, fc', by rw [rs'.length]; exact Nat.le_refl _⟩
    · obtain ⟨ws, fc', rs'⟩ := later e pr rp' g
      obtain ⟨u, hu, ru⟩ := rs'.get hd
      refine ⟨⟨ws, u, fc', hu⟩, fun x H'' y => ?_⟩
      obtain ⟨e1, y⟩ := y
      subst e1
      have := y ws fc'
      rw [hu] at this; cases this
      exact ⟨B', Same.refl _, rp', ru⟩
  · have toL : ∀ {H' : Hp} {ws : List V}, FC (gx X) H' p t ws → SqL X.K H' p ws := fun {H' ws} f => by
      cases t with
      | lst => exact SqL.of f
      | slst => exact f
      | tup => exact absurd rfl z
      | dct ks => cases ht
      | obj c ns => cases ht
    refine ⟨fun Fr' B' as' H' M' e pr rp' g => ?_, fun i d' hd Fr' B' as' H' M' e pr rp' g => ?_⟩
    · obtain ⟨ws, fc', rs'⟩ := later e pr rp' g
      exact ⟨ws, toL fc', by rw [rs'.length]; exact Nat.le_refl _⟩
    · obtain ⟨ws, fc', rs'⟩ := later e pr rp' g
      obtain ⟨u, hu, ru⟩ := rs'.get hd
      refine ⟨⟨ws, u, toL fc', hu⟩, fun x H'' y => ?_⟩
      obtain ⟨e1, y⟩ := y
      subst e1
      have := y ws (toL fc')
      rw [hu] at this; cases this
      exact ⟨B', Same.refl _, rp', ru⟩
def iSeq (f : Lo → Ev D) : Lo → Ev (List D × Gd) := fun S => (f S).bnd itSq
theorem di_sq {tg : Expr} {f : Lo → Ev D} (h : DE X W e f) : DI X W tg e (iSeq f) := by
  obtain ⟨t, p, s⟩ := h
  refine ⟨_, pi_sq p, fun Fr B as σ H S M R' rs rp h => ?_⟩
  refine s Fr B as σ H S M _ rs rp (h.bnd.imp fun d M1 B1 as1 s1 p1 h1 v H1 rp1 r1 => ?_)
  obtain ⟨t, l, q, vs, rfl, fc, rs2, h1, c1, c2⟩ := Post.vw2 (d := d) h1 rp1 r1
  dsimp only at h1
  by_cases ht : FC.isSeq t = true
  · rw [if_pos ht] at h1
    have go : ∀ gd : Gd, Post B1 as1 (Ev.ret (l, gd) M1) (fun r M' B' as' => ∀ J H', Rep (gx X) Fr B' as' H' M' → IterOk X B' as' J r.1 r.2 → R' J H') (kX X Fr W σ) → (∀ n, d = .ref n → gd = some (n, (t, l))) →
        (∃ a, V.ref q = .ref a ∧ (∃ xs, SqL X.K H1 a xs) ∧ R' (Itl X.K a) H1) ∨ (∃ a, V.ref q = .ref a ∧ (∃ xs, SqT X.K H1 a xs) ∧ R' (Itt X.K a) H1) := fun gd h1 hg => by
      obtain ⟨i1, i2⟩ := iter_sq (gd := gd) ht r1 fc rs2 rp1 c1 c2 hg
      have k := h1.ret
      cases t with
      | lst => exact .inl ⟨q, rfl, ⟨vs, SqL.of fc⟩, k _ H1 rp1 (i2 (by intro z; cases z))⟩
      | slst => exact .inl ⟨q, rfl, ⟨vs, fc⟩, k _ H1 rp1 (i2 (by intro z; cases z))⟩
      | tup => exact .inr ⟨q, rfl, ⟨vs, fc⟩, k _ H1 rp1 (i1 rfl)⟩
      | dct ks => cases ht
      | obj c ns => cases ht
    cases d with
    | ref n => exact go _ h1 fun m hm => by cases hm; rfl
    | _ => exact go _ h1 fun m hm => by cases hm
  · rw [if_neg ht] at h1; exact h1.elim
/-- ranges -/
def RgI (i j : Int) : Prop := -(2 ^ 62) ≤ i ∧ i < 2 ^ 62 ∧ -(2 ^ 62) ≤ j ∧ j < 2 ^ 62
theorem iter_rg {B : Hp} {as : List Addr} (lo hi : Int) : IterOk X B as (Itr lo (hi - lo).toNat) (rgD lo hi) none := by
  refine ⟨fun Fr' B' as' H' M' e pr rp' g => ?_, fun i d hd Fr' B' as' H' M' e pr rp' g => ?_⟩
  · show (hi - lo).toNat ≤ (rgD lo hi).length
    unfold rgD; simp
  · unfold rgD at hd
    rw [List.getElem?_map] at hd
    cases q : (List.range (hi - lo).toNat)[i]? with
    | none => rw [q] at hd; cases hd
    | some j =>
      rw [q] at hd; cases hd
      obtain ⟨h1, h2⟩ := List.getElem?_eq_some_iff.mp q
      rw [List.getElem_range] at h2
      subst h2
      refine ⟨(show i < (hi - lo).toNat by simpa using h1), fun x H'' y => ?_⟩
      obtain ⟨e1, e2⟩ := y
      subst e1; subst e2
      exact ⟨B', Same.refl _, rp', .int _⟩
open Classical in
noncomputable def rngE (i j : Int) : Ev (List D × Gd) := if RgI i j then Ev.ret (rgD i j, none) else Ev.no
theorem rngE_ok {i j : Int} (h : RgI i j) : rngE i j = Ev.ret (rgD i j, none) := if_pos h
theorem rngE_no {i j : Int} (h : ¬ RgI i j) : rngE i j = Ev.no := if_neg h
noncomputable def r1K : D → Ev (List D × Gd)
  | .int n => rngE 0 n
  | _ => Ev.no
noncomputable def r2K (x y : D) : Ev (List D × Gd) := match x, y with
  | .int m, .int n => rngE m n
  | _, _ => Ev.no
noncomputable def iR1 (f : Lo → Ev (List D)) : Lo → Ev (List D × Gd) := fun S => (f S).bnd (op1 r1K)
noncomputable def iR2 (f : Lo → Ev (List D)) : Lo → Ev (List D × Gd) := fun S => (f S).bnd (op2 r2K)
theorem di_range1 {tg : Expr} {p : Pos} {f : Lo → Ev (List D)} (hg : Gl X "range") (hm : X.mg "range" = none) (ha : DA X W [a] f) (hs : starEach [a] X.env = [(false, eval a X.env)] := by rfl) : DI X W tg (.Call (.Name "range" p) [a] [] pos) (iR1 f) := by
  obtain ⟨t, pa, s⟩ := ha
  refine ⟨_, pi_range1 hg hm pa hs, fun Fr B as σ H S M R' rs rp h => ?_⟩
  refine s Fr B as σ H S M _ rs rp (h.bnd.imp fun l M1 B1 as1 s1 p1 h1 vs H1 rp1 r1 => ?_)
  cases r1 with
  | nil => exact h1.elim
  | cons r t =>
    cases t with
    | cons _ _ => exact h1.elim
    | nil =>
      cases r <;> first | exact h1.elim | skip
      rename_i n
      have h1 : Post B1 as1 (rngE 0 n M1) (fun r M' B' as' => ∀ J H', Rep (gx X) Fr B' as' H' M' → IterOk X B' as' J r.1 r.2 → R' J H') (kX X Fr W σ) := h1
      by_cases c : RgI 0 n
      · rw [rngE_ok c] at h1
        have := iter_rg (X := X) (B := B1) (as := as1) 0 n
        rw [Int.sub_zero] at this
        exact ⟨n, rfl, c.2.2.1, c.2.2.2, h1.ret _ H1 rp1 this⟩
      · rw [rngE_no c] at h1; exact h1.elim
theorem di_range2 {tg : Expr} {p : Pos} {f : Lo → Ev (List D)} (hg : Gl X "range") (hm : X.mg "range" = none) (ha : DA X W [a, b] f) (hs : starEach [a, b] X.env = [(false, eval a X.env), (false, eval b X.env)] := by rfl) (hs2 : starEach [b] X.env = [(false, eval b X.env)] := by rfl) : DI X W tg (.Call (.Name "range" p) [a, b] [] pos) (iR2 f) := by
  obtain ⟨t, pa, s⟩ := ha
  refine ⟨_, pi_range2 hg hm pa hs hs2, fun Fr B as σ H S M R' rs rp h => ?_⟩
  refine s Fr B as σ H S M _ rs rp (h.bnd.imp fun l M1 B1 as1 s1 p1 h1 vs H1 rp1 r1 => ?_)
  cases r1 with
  | nil => exact h1.elim
  | cons r t =>
    cases t with
    | nil => exact h1.elim
    | cons r' t =>
      cases t with
      | cons _ _ => exact h1.elim
      | nil =>
        cases r <;> first | (cases r' <;> exact h1.elim) | skip
        cases r' <;> first | exact h1.elim | skip
        rename_i m n
        have h1 : Post B1 as1 (rngE m n M1) (fun r M' B' as' => ∀ J H', Rep (gx X) Fr B' as' H' M' → IterOk X B' as' J r.1 r.2 → R' J H') (kX X Fr W σ) := h1
        by_cases c : RgI m n
        · rw [rngE_ok c] at h1
          exact ⟨m, n, rfl, c, h1.ret _ H1 rp1 (iter_rg m n)⟩
        · rw [rngE_no c] at h1; exact h1.elim
/-- enumerate(list) -/
def enD : Nat → List D → List D
  | _, [] => []
  | k, d :: l => .tup [.int (k : Nat), d] :: enD (k + 1) l
theorem enD_length : ∀ (l : List D) (k : Nat), (enD k l).length = l.length
  | [], _ => rfl
  | _ :: l, k => congrArg (· + 1) (enD_length l (k + 1))
theorem enD_get : ∀ (l : List D) (k i : Nat) (x : D), (enD k l)[i]? = some x → ∃ d, l[i]? = some d ∧ x = .tup [.int ((k + i : Nat) : Int), d]
  | [], _, _, _, h => by simp [enD] at h
  | d :: l, k, 0, x, h => by simp [enD] at h; exact ⟨d, rfl, by simpa using h.symm⟩
  | d :: l, k, i + 1, x, h => by
    simp only [enD, List.getElem?_cons_succ] at h
    obtain ⟨d', h1, h2⟩ := enD_get l (k + 1) i x h
    refine ⟨d', by simpa using h1, ?_⟩
    rw [h2, show k + 1 + i = k + (i + 1) by omega]
def lsOnly (d : D) (k : Tg × List D → Ev (List D × Gd)) : Ev (List D × Gd) := (vw d).bnd fun p => match p.1 with
  | .lst => k p
  | .slst => k p
  | _ => Ev.no
def iEn (f : Lo → Ev (List D)) : Lo → Ev (List D × Gd) := fun S => (f S).bnd (op1 fun d => (vw d).bnd fun p => match p.1 with
  | .lst => (match d with
    | .ref n => Ev.ret (enD 0 p.2, some (n, p))
    | _ => Ev.ret (enD 0 p.2, none))
  | _ => Ev.no)
theorem di_enum {p tpos : Pos} {elts : List Expr} {kk : Nat} {f : Lo → Ev (List D)} (hg : Gl X "enumerate") (hm : X.mg "enumerate" = none) (ha : DA X W [e] f) (hs : starEach [e] X.env = [(false, eval e X.env)] := by rfl) :
    DI X W (.Tuple elts kk tpos) (.Call (.Name "enumerate" p) [e] [] pos) (iEn f) := by
  obtain ⟨t, pa, s⟩ := ha
  refine ⟨_, pi_enum hg hm pa hs, fun Fr B as σ H S M R' rs rp h => ?_⟩
  refine s Fr B as σ H S M _ rs rp (h.bnd.imp fun l M1 B1 as1 s1 p1 h1 vs H1 rp1 r1 => ?_)
  cases r1 with
  | nil => exact h1.elim
  | cons r t =>
    cases t with
    | cons _ _ => exact h1.elim
    | nil =>
      rename_i d
      obtain ⟨t, l, q, vs, rfl, fc, rs2, h1, c1, c2⟩ := Post.vw2 (d := d) h1 rp1 r
      cases t <;> first | exact h1.elim | skip
      have go : ∀ gd : Gd, Post B1 as1 (Ev.ret (enD 0 l, gd) M1) (fun r M' B' as' => ∀ J H', Rep (gx X) Fr B' as' H' M' → IterOk X B' as' J r.1 r.2 → R' J H') (kX X Fr W σ) → (∀ n, d = .ref n → gd = some (n, (.lst, l))) →
          ∃ a xs, [V.ref q] = [.ref a] ∧ SqL X.K H1 a xs ∧ R' (Ite X.K a) H1 := fun gd h1 hg => by
        refine ⟨q, vs, rfl, SqL.of fc, h1.ret _ H1 rp1 ?_⟩
        have later : ∀ {Fr' B' : Hp} {as' : List Addr} {H' : Hp} {M' : Store}, Same B1 B' → as1 <+: as' → Rep (gx X) Fr' B' as' H' M' → grd gd M' → ∃ ws, FC (gx X) H' q .lst ws ∧ Rs (gx X) B' as' ws l := fun e pr rp' g =>
          seq_later rfl r fc rs2 rp1 c1 c2 e pr rp' fun n hn => by
            have := hg n hn
            subst this
            exact g
        refine ⟨fun Fr' B' as' H' M' e pr rp' g => ?_, fun i d' hd Fr' B' as' H' M' e pr rp' g => ?_⟩
        · obtain ⟨ws, fc', rs'⟩ := later e pr rp' g
          exact ⟨ws, SqL.of fc', by rw [rs'.length, enD_length]; exact Nat.le_refl _⟩
        · obtain ⟨ws, fc', rs'⟩ := later e pr rp' g
          obtain ⟨d0, hd0, rfl⟩ := enD_get l 0 i d' hd
          obtain ⟨u, hu, ru⟩ := rs'.get hd0
          refine ⟨⟨ws, u, SqL.of fc', hu⟩, fun x H'' y => ?_⟩
          obtain ⟨T, z, rfl, hT, rfl, y⟩ := y
          have := y ws (SqL.of fc')
          rw [hu] at this; cases this
          have nb := (rp'.fresh hT).1
          refine ⟨_, same_upd nb, rp'.froze hT, .nd (t := .tup) (SqT.of upd_same) (.cons ?_ (.cons (ru.mono (same_upd nb) (List.prefix_refl _)) .nil))⟩
          rw [Nat.zero_add]
          exact .int _
      cases d with
      | ref n => exact go _ h1 fun m hm => by cases hm; rfl
      | _ => exact go _ h1 fun m hm => by cases hm
/-! ### comprehensions -/
def wipeD (S : Lo) : List Nat → Lo
  | [] => S
  | v :: vs => (wipeD S vs).set v none
theorem wipe_get (σ : St) : ∀ (vs : List Nat) (j : Nat), (wipe σ vs)[j]? = if j ∈ vs then (if j < σ.length then some none else none) else σ[j]?
  | [], j => by simp [wipe]
  | v :: vs, j => by
    unfold wipe
    by_cases h : v = j
    · subst h
      rw [if_pos (by simp)]
      by_cases hl : v < σ.length
      · rw [List.getElem?_set_self (by rw [wipe_length]; exact hl), if_pos hl]
      · rw [List.getElem?_eq_none (by rw [List.length_set, wipe_length]; omega), if_neg hl]
    · rw [List.getElem?_set_ne h, wipe_get σ vs j]
      have : (j ∈ v :: vs) ↔ j ∈ vs := by simp [Ne.symm h]
      simp only [this]
theorem wipe_agree {σ σ' : St} {vs : List Nat} (hl : σ'.length = σ.length) (h : ∀ j, j ∉ vs → σ'[j]? = (wipe σ vs)[j]?) : wipe σ' vs = wipe σ vs := by
  apply List.ext_getElem?
  intro j
  rw [wipe_get, wipe_get]
  by_cases hj : j ∈ vs
  · rw [if_pos hj, if_pos hj, hl]
  · rw [if_neg hj, if_neg hj]
    have := h j hj
    rw [wipe_get, if_neg hj] at this
    exact this
theorem RS.wipe {G : Gx} {B : Hp} {as : List Addr} {σ : St} {S : Lo} (h : RS G B as σ S) : ∀ vs : List Nat, RS G B as (L2.wipe σ vs) (wipeD S vs)
  | [] => h
  | v :: vs => by
    have ih := RS.wipe h vs
    unfold L2.wipe wipeD
    refine ⟨by simp [ih.len], fun j d q => ?_⟩
    by_cases hv : v = j
    · subst hv
      by_cases hl : v < (wipeD S vs).length
      · rw [List.getElem?_set_self hl] at q; cases q
      · rw [List.getElem?_eq_none (by simpa using hl)] at q; cases q
    · rw [List.getElem?_set_ne hv] at q ⊢
      exact ih.at_ j d q
/-- tests of a clause -/
def DTs (X : Cx) (W : WX) (es : List Expr) (f : Lo → Ev Bool) : Prop := ∃ t, PTs X es t ∧ ∀ Fr B as σ H S M Q, RS (gx X) B as σ S → Rep (gx X) Fr B as H M → Post B as (f S M) (kB X Fr Q) (kX X Fr W σ) → t σ H Q
def tYesD : Lo → Ev Bool := fun _ => Ev.ret true
theorem dts_nil : DTs X W [] tYesD := ⟨_, pts_nil, fun _ _ _ _ H _ _ _ _ rp h => h.ret H rp⟩
theorem dts_one {f : Lo → Ev Bool} (h : DT X W e f) : DTs X W [e] f := by
  obtain ⟨t, p, s⟩ := h
  exact ⟨_, pts_one p, s⟩
def Ev.nox {α : Type} (m : Ev α) : Ev α := fun M => match m M with
  | .ok a M' => .ok a M'
  | _ => .stuck
theorem ret_nox {α : Type} (a : α) : Ev.nox (Ev.ret a) = Ev.ret a := rfl
theorem nox_ok {α : Type} {m : Ev α} {M M' : Store} {a : α} (h : m M = .ok a M') : Ev.nox m M = .ok a M' := by unfold Ev.nox; rw [h]
theorem Post.nox {α : Type} {B : Hp} {as : List Addr} {m : Ev α} {M : Store} {k : α → Store → Hp → List Addr → Prop} {x x' : Str → D → Store → Hp → List Addr → Prop} (h : Post B as (Ev.nox m M) k x) : Post B as (m M) k x' := by
  unfold Ev.nox at h
  cases e : m M with
  | ok a M' => rw [e] at h; exact h
  | exc c d M' => rw [e] at h; exact h.elim
  | stuck => rw [e] at h; exact h.elim
noncomputable def compL (tg : D → Lo → Ev Lo) (tt : Lo → Ev Bool) (te : Lo → Ev D) (g : Gd) (S : Lo) : List D → Ev (List D)
  | [] => chk g (Ev.ret [])
  | d :: ds => chk g ((Ev.nox (tg d S)).bnd fun S1 => (Ev.nox (tt S1)).bnd fun b => if b = true then (Ev.nox (te S1)).bnd fun y => (compL tg tt te g S ds).bnd fun ys => Ev.ret (y :: ys) else compL tg tt te g S ds)
noncomputable def nLc (fi : Lo → Ev (List D × Gd)) (tg : D → Lo → Ev Lo) (tt : Lo → Ev Bool) (te : Lo → Ev D) (vs : List Nat) : Lo → Ev NR := fun S => (fi S).bnd fun r => if r.1.length ≤ sizeLine then (compL tg tt te r.2 (wipeD S vs) r.1).bnd fun ys => Ev.ret (.n .lst ys) else Ev.no
abbrev W0 : WX := fun _ _ _ _ => False
/-- the canonical readings -/
def tE (X : Cx) (W : WX) (f : Lo → Ev D) : TE := fun σ H Q => ∃ Fr B as S M, RS (gx X) B as σ S ∧ Rep (gx X) Fr B as H M ∧ Post B as (f S M) (kD X Fr Q) (kX X Fr W σ)
def tT (X : Cx) (W : WX) (f : Lo → Ev Bool) : TT := fun σ H Q => ∃ Fr B as S M, RS (gx X) B as σ S ∧ Rep (gx X) Fr B as H M ∧ Post B as (f S M) (kB X Fr Q) (kX X Fr W σ)
def tG (X : Cx) (ps : List Nat) (g : D → Lo → Ev Lo) : TG := fun v σ H Q => ∃ Fr B as S M d, RS (gx X) B as σ S ∧ Rep (gx X) Fr B as H M ∧ R (gx X) B as v d ∧ Post B as (g d S M) (kG X Fr σ ps Q) (fun _ _ _ _ _ => False)
theorem DE.pe {f : Lo → Ev D} (h : DE X W e f) : PE X e (tE X W f) := by
  obtain ⟨t, p, s⟩ := h
  exact ⟨fun pins s' σ H Q I hw => let ⟨Fr, B, as, S, M, a, b, c⟩ := hw; p.run pins s' σ H Q I (s Fr B as σ H S M Q a b c)⟩
theorem DTs.pts {es : List Expr} {f : Lo → Ev Bool} (h : DTs X W es f) : PTs X es (tT X W f) := by
  obtain ⟨t, p, s⟩ := h
  exact ⟨fun pins s' σ H Q I hw => let ⟨Fr, B, as, S, M, a, b, c⟩ := hw; p.run pins s' σ H Q I (s Fr B as σ H S M Q a b c)⟩
theorem DG.pg {tg : Expr} {ps : List Nat} {g : D → Lo → Ev Lo} (h : DG X W tg ps g) : PG X tg (tG X ps g) := by
  obtain ⟨t, p, s⟩ := h
  exact ⟨fun pins s' σ H v u Q I r hw => let ⟨Fr, B, as, S, M, d, a, b, c, q⟩ := hw; p.run pins s' σ H v u Q I r (s Fr B as σ H S M v d Q a b c q)⟩
theorem drop_cons {α : Type} {l : List α} {i : Nat} (h : i < l.length) : l.drop i = l[i] :: l.drop (i + 1) := List.drop_eq_getElem_cons h
/-- the heap without the place p -/
def hole (H : Hp) (p : Addr) : Hp := fun b => if b = p then none else H b
theorem hole_at {H : Hp} {p : Addr} : hole H p p = none := by unfold hole; rw [if_pos rfl]
theorem hole_ne {H : Hp} {p b : Addr} (h : b ≠ p) : hole H p b = H b := by unfold hole; rw [if_neg h]
theorem upd_hole {H : Hp} {p : Addr} {o : HO} (h : H p = some o) : upd (hole H p) p o = H := by
  funext b
  by_cases hb : b = p
  · subst hb; rw [upd_same, h]
  · rw [upd_ne hb, hole_ne hb]
theorem hole_upd {H : Hp} {p : Addr} {o : HO} : hole (upd H p o) p = hole H p := by
  funext b
  by_cases hb : b = p
  · subst hb; rw [hole_at, hole_at]
  · rw [hole_ne hb, hole_ne hb, upd_ne hb]
theorem Rep.hole {G : Gx} {Fr B : Hp} {as : List Addr} {H : Hp} {M : Store} {p : Addr} (rp : Rep G Fr B as H M) (hB : B p = none) (hF : Fr p = none) (ha : p ∉ as) : Rep G Fr B as (hole H p) M := by
  refine ⟨fun b u q => ?_, fun b u q => ?_, rp.fout, rp.dis, rp.nd, rp.out, rp.len, fun n x c hx hc => ?_⟩
  · rw [hole_ne (ne_of_none q hB)]; exact rp.sub b u q
  · rw [hole_ne (ne_of_none q hF)]; exact rp.frm b u q
  · obtain ⟨vs, mc, rs⟩ := rp.cell n x c hx hc
    have hxp : x ≠ p := fun z => ha (by rw [← z]; exact List.mem_of_getElem? hx)
    exact ⟨vs, mc.keep fun o ho => by rw [hole_ne hxp]; exact ho, rs⟩
/-- in the frame Fr with o at p more -/
theorem Rep.inFrame {G : Gx} {Fr B : Hp} {as : List Addr} {H : Hp} {M : Store} {p : Addr} {o : HO} (rp : Rep G Fr B as H M) (hp : H p = some o) (hF : Fr p = none) (hB : B p = none) (ha : p ∉ as) : Rep G (upd Fr p o) B as H M := by
  refine ⟨rp.sub, fun b u q => ?_, fun a h => ?_, fun b u q => ?_, rp.nd, rp.out, rp.len, rp.cell⟩
  · by_cases hb : b = p
    · subst hb; rw [upd_same] at q; rw [← q]; exact hp
    · rw [upd_ne hb] at q; exact rp.frm b u q
  · rw [upd_ne fun z => ha (by rw [← z]; exact h)]; exact rp.fout a h
  · by_cases hb : b = p
    · subst hb; exact hB
    · rw [upd_ne hb] at q; exact rp.dis b u q
theorem Rep.outFrame {G : Gx} {Fr B : Hp} {as : List Addr} {H : Hp} {M : Store} {p : Addr} {o : HO} (rp : Rep G (upd Fr p o) B as H M) (hF : Fr p = none) : Rep G Fr B as H M := by
  refine ⟨rp.sub, fun b u q => rp.frm b u (by rw [upd_ne (ne_of_none q hF)]; exact q), fun a h => ?_, fun b u q => rp.dis b u (by rw [upd_ne (ne_of_none q hF)]; exact q), rp.nd, rp.out, rp.len, rp.cell⟩
  have := rp.fout a h
  by_cases hb : a = p
  · subst hb; exact hF
  · rw [upd_ne hb] at this; exact this
theorem Post.unfl {Fr B : Hp} {as : List Addr} {σ : St} {m : Ev NR} {op : NR → Ev D} {M : Store} {k : D → Store → Hp → List Addr → Prop} (h : Post B as ((m.bnd op) M) k (kX X Fr W σ)) :
    Post B as (m M) (fun r M' B' as' => Post B' as' (op r M') k (kX X Fr W σ)) (kX X Fr W σ) := h.bnd
theorem lc_sound {tg : Expr} {own : List (Str × Nat)} {ps : List Nat} {fi : Lo → Ev (List D × Gd)} {ft : D → Lo → Ev Lo} {fc : Lo → Ev Bool} {fe : Lo → Ev D} {wi : TI}
    (si : ∀ Fr B as σ H S M (R' : It → Hp → Prop), RS (gx X) B as σ S → Rep (gx X) Fr B as H M →
      Post B as (fi S M) (fun r M' B' as' => ∀ J H', Rep (gx X) Fr B' as' H' M' → IterOk X B' as' J r.1 r.2 → R' J H') (kX X Fr W σ) → wi σ H R') (hps : ∀ i ∈ ps, i ∈ own.map (·.2)) :
    ∀ Fr B as σ H S M Q, RS (gx X) B as σ S → Rep (gx X) Fr B as H M → Post B as (nLc fi ft fc fe (own.map (·.2)) S M) (kN X Fr Q) (kX X Fr W σ) → tLc wi (tG X ps ft) (tT X W0 fc) (tE X W0 fe) (own.map (·.2)) σ H Q := fun Fr B as σ H S M Q rs rp h => by
  refine si Fr B as σ H S M _ rs rp (h.bnd.imp fun r M1 B1 as1 s1 p1 h1 J H1 rp1 io p hp => ?_)
  obtain ⟨items, g⟩ := r
  dsimp only at h1 io
  by_cases hz : items.length ≤ sizeLine
  case neg => rw [if_neg hz] at h1; exact h1.elim
  rw [if_pos hz] at h1
  have hole0 : hole (upd H1 p (.lst [])) p = H1 := by
    funext b
    by_cases hb : b = p
    · subst hb; rw [hole_at, hp]
    · rw [hole_ne hb, upd_ne hb]
  refine ⟨fun i m H => m = items.length - i ∧ i ≤ items.length ∧ ∃ B' as' M' acc accV, Same B1 B' ∧ as1 <+: as' ∧ H p = some (.lst accV) ∧ Rep (gx X) Fr B' as' (hole H p) M' ∧ Rs (gx X) B' as' accV acc ∧ acc.length ≤ i ∧
      Post B' as' (((compL ft fc fe g (wipeD S (own.map (·.2))) (items.drop i)).bnd fun ys => Ev.ret (NR.n .lst (acc ++ ys))) M') (kN X Fr Q) (kX X Fr W σ),
    ⟨items.length, by simp, Nat.zero_le _, B1, as1, M1, [], [], Same.refl _, List.prefix_refl _, upd_same, by rw [hole0]; exact rp1, .nil, Nat.le_refl _, h1⟩, ?_⟩
  rintro i m H ⟨rfl, hi, B2, as2, M2, acc, accV, s2, p2, hH, rp2, rsA, hla, h2⟩
  have hF : Fr p = none := rp2.frm.free hole_at
  obtain ⟨hB, hA⟩ := rp2.fresh (p := p) hole_at
  have full : Rep (gx X) (upd Fr p (.lst accV)) B2 as2 H M2 := by
    have q := (rp2.laid (o := .lst accV) hole_at)
    rw [upd_hole hH] at q
    exact q.inFrame hH hF hB hA
  by_cases hlt : i < items.length
  · rw [drop_cons hlt] at h2
    unfold compL at h2
    obtain ⟨hg2, h2⟩ := h2.bnd.chk
    obtain ⟨hgo, hy⟩ := io.go i items[i] (List.getElem?_eq_getElem hlt) _ B2 as2 H M2 s2 p2 full hg2
    refine .inr ⟨hgo, fun H' => ∃ B' as' M' acc accV, Same B1 B' ∧ as1 <+: as' ∧ H' p = some (.lst accV) ∧ Rep (gx X) Fr B' as' (hole H' p) M' ∧ Rs (gx X) B' as' accV acc ∧ acc.length ≤ i + 1 ∧
      Post B' as' (((compL ft fc fe g (wipeD S (own.map (·.2))) (items.drop (i + 1))).bnd fun ys => Ev.ret (NR.n .lst (acc ++ ys))) M') (kN X Fr Q) (kX X Fr W σ), fun H' q => ⟨items.length - (i + 1), by omega, rfl, hlt, q⟩, fun x H' y => ?_⟩
    obtain ⟨B3, s3, rp3, r3⟩ := hy x H' y
    have h3 := h2.mono s3 (List.prefix_refl _)
    have rsW := ((rs.mono s1 p1).mono s2 p2).mono s3 (List.prefix_refl _) |>.wipe (own.map (·.2))
    refine ⟨_, B3, as2, _, M2, items[i], rsW, rp3, r3, (h3.bnd.nox (x' := fun _ _ _ _ _ => False)).imp fun S4 M4 B4 as4 s4 p4 h4 σ4 H4 rp4 rs4 ag l4 => ⟨wipe_agree (l4.trans (wipe_length _ _)) fun j hj => ag j fun z => hj (hps j z), ?_⟩⟩
    refine ⟨_, B4, as4, S4, M4, rs4, rp4, (h4.bnd.nox (x' := _)).imp fun bo M5 B5 as5 s5 p5 h5 H5 rp5 => ?_⟩
    have kp : ∀ {B' : Hp} {as' : List Addr} {H' : Hp} {M' : Store}, Rep (gx X) (upd Fr p (.lst accV)) B' as' H' M' → H' p = some (.lst accV) := fun q => q.frm p _ upd_same
    have hol : ∀ {B' : Hp} {as' : List Addr} {H' : Hp} {M' : Store}, Rep (gx X) (upd Fr p (.lst accV)) B' as' H' M' → Rep (gx X) Fr B' as' (hole H' p) M' := fun {B' as' H' M'} q => by
      refine (q.outFrame hF).hole (q.dis p _ upd_same) hF fun hz => ?_
      have := q.fout p hz
      rw [upd_same] at this; cases this
    cases bo with
    | false =>
      dsimp only
      rw [if_neg Bool.false_ne_true] at h5 ⊢
      exact ⟨B5, as5, M5, acc, accV, s2.trans (s3.trans (s4.trans s5)), p2.trans (p4.trans p5), kp rp5, hol rp5, rsA.mono (s3.trans (s4.trans s5)) (p4.trans p5), by omega, h5.unbnd⟩
    | true =>
      dsimp only
      rw [if_pos rfl] at h5 ⊢
      refine ⟨_, B5, as5, S4, M5, rs4.mono s5 p5, rp5, (h5.bnd.nox (x' := _)).imp fun yd M6 B6 as6 s6 p6 h6 yv H6 rp6 r6 => ?_⟩
      refine ⟨accV, kp rp6, by rw [rsA.length]; omega, B6, as6, M6, acc ++ [yd], accV ++ [yv], s2.trans (s3.trans (s4.trans (s5.trans s6))), p2.trans (p4.trans (p5.trans p6)), upd_same, by rw [hole_upd]; exact hol rp6, (rsA.mono (s3.trans (s4.trans (s5.trans s6))) (p4.trans (p5.trans p6))).app (.one r6), by simp; omega, ?_⟩
      have e : (fun ys => Ev.ret (NR.n .lst (acc ++ [yd] ++ ys))) = fun ys => (Ev.ret (yd :: ys)).bnd fun ys => Ev.ret (NR.n .lst (acc ++ ys)) := by
        funext ys
        rw [ret_bnd, List.append_assoc]
        rfl
      rw [e, ← bnd_bnd]
      exact h6.unbnd
  · have e : i = items.length := by omega
    subst e
    rw [List.drop_length] at h2
    unfold compL at h2
    obtain ⟨hg2, h2⟩ := h2.bnd.chk
    have h3 := h2.ret
    rw [List.append_nil] at h3
    refine .inl ⟨io.stop _ B2 as2 H M2 s2 p2 full hg2, ?_⟩
    have := h3.ret accV (hole H p) p rp2 rsA hole_at
    have e2 : upd (hole H p) p (hoT .lst accV) = H := upd_hole hH
    rw [e2] at this
    exact this
theorem dn_lc {elt tg iter : Expr} {ifs : List Expr} {scope : Scope} {own : List (Str × Nat)} {ps : List Nat} {fi : Lo → Ev (List D × Gd)} {ft : D → Lo → Ev Lo} {fc : Lo → Ev Bool} {fe : Lo → Ev D} (hc : X.calm = true) (hN : X.N.Nodup) (hi : DI X W tg iter fi) (ok : BlkOk X.N X.env.scope scope own)
    (hg : ∀ (s : Shared) (H : Hp) (C : Addr) (cl : List (Str × Addr)) (fp : List Addr), DG (X.blk s H scope (compEnvC scope cl C X.env) fp) W0 tg ps ft)
    (ht : ∀ (s : Shared) (H : Hp) (C : Addr) (cl : List (Str × Addr)) (fp : List Addr), DTs (X.blk s H scope (compEnvC scope cl C X.env) fp) W0 ifs fc)
    (he : ∀ (s : Shared) (H : Hp) (C : Addr) (cl : List (Str × Addr)) (fp : List Addr), DE (X.blk s H scope (compEnvC scope cl C X.env) fp) W0 elt fe)
    (hps : ∀ i ∈ ps, i ∈ own.map (·.2)) (hs : ∀ x, foldedSetIterable iter X.env x = pure x := by intro _; rfl) :
    DN X W (.ListComp elt [⟨tg, iter, ifs, 0⟩] scope pos) (nLc fi ft fc fe (own.map (·.2))) := by
  obtain ⟨wi, pi, si⟩ := hi
  exact ⟨_, pe_lc hc hN pi ok (g := tG X ps ft) (tt := tT X W0 fc) (te := tE X W0 fe) (fun s H C cl fp => (hg s H C cl fp).pg) (fun s H C cl fp => (ht s H C cl fp).pts) (fun s H C cl fp => (he s H C cl fp).pe) hs, lc_sound (tg := tg) si hps⟩
/-- y = [..] on one line, y a plain local: fz says whether the new list is frozen or a cell -/
theorem ds_setLc {ii : Nat} {y : Str} {py spos : Pos} {elt tg iter : Expr} {ifs : List Expr} {scope : Scope} {own : List (Str × Nat)} {ps : List Nat} {fi : Lo → Ev (List D × Gd)} {ft : D → Lo → Ev Lo} {fc : Lo → Ev Bool} {fe : Lo → Ev D} {op : NR → Ev D} (hop : ∀ {Fr B : Hp} {as : List Addr} {σ : St} {r : NR} {M : Store} {Q : VK}, Post B as (op r M) (kD X Fr Q) (kX X Fr W σ) → kN X Fr Q r M B as) (hc : X.calm = true) (hN : X.N.Nodup) (hy : X.N[ii]? = some y) (hyl : X.env.scope.names.lookup y = some .local)
    (hsw : swapsWith (.ListComp elt [⟨tg, iter, ifs, 0⟩] scope pos) (some (.Name y py)) spos.line X.env = pure true) (hi : DI X W tg iter fi) (ok : BlkOk X.N X.env.scope scope own)
    (hg : ∀ (s : Shared) (H : Hp) (C : Addr) (cl : List (Str × Addr)) (fp : List Addr), DG (X.blk s H scope (compEnvC scope cl C X.env) fp) W0 tg ps ft)
    (ht : ∀ (s : Shared) (H : Hp) (C : Addr) (cl : List (Str × Addr)) (fp : List Addr), DTs (X.blk s H scope (compEnvC scope cl C X.env) fp) W0 ifs fc)
    (he : ∀ (s : Shared) (H : Hp) (C : Addr) (cl : List (Str × Addr)) (fp : List Addr), DE (X.blk s H scope (compEnvC scope cl C X.env) fp) W0 elt fe)
    (hps : ∀ i ∈ ps, i ∈ own.map (·.2)) (hs : ∀ x, foldedSetIterable iter X.env x = pure x := by intro _; rfl) :
    DS X W (.Assign [.Name y py] (.ListComp elt [⟨tg, iter, ifs, 0⟩] scope pos) spos) (sAsg (fun S => (nLc fi ft fc fe (own.map (·.2)) S).bnd op) (gNm ii)) := by
  obtain ⟨wi, pi, si⟩ := hi
  refine ⟨_, ps_setLc hc hN hy hyl hsw pi ok (g := tG X ps ft) (tt := tT X W0 fc) (te := tE X W0 fe) (fun s H C cl fp => (hg s H C cl fp).pg) (fun s H C cl fp => (ht s H C cl fp).pts) (fun s H C cl fp => (he s H C cl fp).pe) hs, fun Fr B as σ H S M D rs rp h => ?_⟩
  refine lc_sound (tg := tg) si hps Fr B as σ H S M _ rs rp (((Post.fl rs h).unfl).imp fun r M1 B1 as1 s1 p1 h1 => hop (h1.imp fun d M2 B2 as2 s2 p2 h2 v H2 rp2 r2 => ?_))
  exact (Post.ret (a := Fl.nx (S.set ii (some d))) h2) _ H2 rp2 (((rs.mono s1 p1).mono s2 p2).set r2 ii)
end
end DL

set_option Elab.async false
set_option linter.all false
set_option maxRecDepth 100000
set_option maxHeartbeats 4000000
/-! DL6: freezing, cells written, defs and calls, objects. -/
namespace DL
open PySem L2
/-! ### freezing -/
mutual
def rlt (n : Nat) : D → Bool
  | .ref m => decide (m < n)
  | .nd _ l => rlts n l
  | _ => true
def rlts (n : Nat) : List D → Bool
  | [] => true
  | d :: l => rlt n d && rlts n l
end
mutual
theorem R.rlt {G : Gx} {B : Hp} {as : List Addr} : ∀ {v : V} {d : D}, R G B as v d → rlt as.length d = true
  | _, _, .non => by simp [DL.rlt]
  | _, _, .bl _ => by simp [DL.rlt]
  | _, _, .int _ => by simp [DL.rlt]
  | _, _, .str _ => by simp [DL.rlt]
  | _, _, .ty _ => by simp [DL.rlt]
  | _, _, .gl _ => by simp [DL.rlt]
  | _, _, .ref h => by
    have := (List.getElem?_eq_some_iff.mp h).1
    simp [DL.rlt, this]
  | _, _, .nd _ r => by
    have := Rs.rlts r
    simp [DL.rlt, this]
theorem Rs.rlts {G : Gx} {B : Hp} {as : List Addr} : ∀ {vs : List V} {l : List D}, Rs G B as vs l → rlts as.length l = true
  | _, _, .nil => by simp [DL.rlts]
  | _, _, .cons h r => by
    have h1 := R.rlt h
    have h2 := Rs.rlts r
    simp [DL.rlts, h1, h2]
end
mutual
theorem R.cut {G : Gx} {B : Hp} {as : List Addr} {n : Nat} : ∀ {v : V} {d : D}, R G B as v d → rlt n d = true → R G B (as.take n) v d
  | _, _, .non, _ => .non
  | _, _, .bl _, _ => .bl _
  | _, _, .int _, _ => .int _
  | _, _, .str _, _ => .str _
  | _, _, .ty _, _ => .ty _
  | _, _, .gl h, _ => .gl h
  | _, _, .ref h, q => by
    have : _ < n := of_decide_eq_true (by simpa [DL.rlt] using q)
    exact .ref (by rw [List.getElem?_take_of_lt this]; exact h)
  | _, _, .nd h r, q => .nd h (Rs.cut r (by simpa [DL.rlt] using q))
theorem Rs.cut {G : Gx} {B : Hp} {as : List Addr} {n : Nat} : ∀ {vs : List V} {l : List D}, Rs G B as vs l → rlts n l = true → Rs G B (as.take n) vs l
  | _, _, .nil, _ => .nil
  | _, _, .cons h r, q => by
    rename_i d l
    have q' : rlt n d = true ∧ rlts n l = true := by simpa [DL.rlts] using q
    exact .cons (R.cut h q'.1) (Rs.cut r q'.2)
end
mutual
def fz (M : Store) (n : Nat) (k : Nat) (d : D) : Option D := match d with
  | .ref m => if m < n then some (.ref m) else match k with
    | 0 => none
    | k + 1 => match M[m]? with
      | some (t, l) => (fzs M n k l).map (.nd t)
      | none => none
  | .nd t l => (fzs M n k l).map (.nd t)
  | .non => some .non
  | .bl b => some (.bl b)
  | .int i => some (.int i)
  | .str x => some (.str x)
  | .ty x => some (.ty x)
  | .gl x => some (.gl x)
  termination_by (k, sizeOf d)
def fzs (M : Store) (n : Nat) (k : Nat) (l : List D) : Option (List D) := match l with
  | [] => some []
  | d :: l => match fz M n k d, fzs M n k l with
    | some a, some b => some (a :: b)
    | _, _ => none
  termination_by (k, sizeOf l)
end
mutual
theorem fz_id (M : Store) (n k : Nat) : ∀ d : D, rlt n d = true → fz M n k d = some d
  | .ref m, h => by
    have : m < n := of_decide_eq_true (by simpa [rlt] using h)
    unfold fz; rw [if_pos this]
  | .nd t l, h => by
    unfold fz
    rw [fzs_id M n k l (by simpa [rlt] using h)]; rfl
  | .non, _ | .bl _, _ | .int _, _ | .str _, _ | .ty _, _ | .gl _, _ => by unfold fz; rfl
theorem fzs_id (M : Store) (n k : Nat) : ∀ l : List D, rlts n l = true → fzs M n k l = some l
  | [], _ => by unfold fzs; rfl
  | d :: l, h => by
    have q' : rlt n d = true ∧ rlts n l = true := by simpa [rlts] using h
    unfold fzs
    rw [fz_id M n k d q'.1, fzs_id M n k l q'.2]
end
open Classical in
noncomputable def bz (as : List Addr) (n : Nat) (B H : Hp) : Hp := fun a => if a ∈ as.drop n then H a else B a
theorem bz_same {G : Gx} {Fr B : Hp} {as : List Addr} {H : Hp} {M : Store} {n : Nat} (rp : Rep G Fr B as H M) : Same B (bz as n B H) := fun b o e => by
  unfold bz
  rw [if_neg fun z => by have := rp.out b (List.mem_of_mem_drop z); rw [e] at this; cases this]
  exact e
mutual
theorem fz_ok {G : Gx} {Fr B : Hp} {as : List Addr} {H : Hp} {M : Store} {n : Nat} (rp : Rep G Fr B as H M) (k : Nat) (d : D) (v : V) (d' : D) (r : R G B as v d) (h : fz M n k d = some d') : R G (bz as n B H) (as.take n) v d' := by
  cases r with
  | non => unfold fz at h; cases h; exact .non
  | bl b => unfold fz at h; cases h; exact .bl b
  | int b => unfold fz at h; cases h; exact .int b
  | str b => unfold fz at h; cases h; exact .str b
  | ty b => unfold fz at h; cases h; exact .ty b
  | gl b => unfold fz at h; cases h; exact .gl b
  | ref ha =>
    rename_i m a
    unfold fz at h
    by_cases hm : m < n
    · rw [if_pos hm] at h; cases h
      exact .ref (by rw [List.getElem?_take_of_lt hm]; exact ha)
    · rw [if_neg hm] at h
      cases k with
      | zero => cases h
      | succ k =>
        dsimp only at h
        cases q : M[m]? with
        | none => rw [q] at h; cases h
        | some c =>
          obtain ⟨t, l⟩ := c
          rw [q] at h
          dsimp only at h
          cases q2 : fzs M n k l with
          | none => rw [q2] at h; cases h
          | some l' =>
            rw [q2] at h; cases h
            obtain ⟨vs, mc, rs⟩ := rp.cell m a (t, l) ha q
            have ih := fzs_ok rp k l vs l' rs q2
            have hin : a ∈ as.drop n := by
              rw [List.mem_iff_getElem?]
              exact ⟨m - n, by rw [List.getElem?_drop, show n + (m - n) = m by omega]; exact ha⟩
            exact .nd (mc.keep (H' := bz as n B H) fun o ho => by unfold bz; rw [if_pos hin]; exact ho).fc ih
  | nd fc rs =>
    rename_i t p vs l
    unfold fz at h
    cases q2 : fzs M n k l with
    | none => rw [q2] at h; cases h
    | some l' =>
      rw [q2] at h; cases h
      exact .nd (fc.mono (bz_same rp)) (fzs_ok rp k l vs l' rs q2)
  termination_by (k, sizeOf d)
theorem fzs_ok {G : Gx} {Fr B : Hp} {as : List Addr} {H : Hp} {M : Store} {n : Nat} (rp : Rep G Fr B as H M) (k : Nat) (l : List D) (vs : List V) (l' : List D) (r : Rs G B as vs l) (h : fzs M n k l = some l') : Rs G (bz as n B H) (as.take n) vs l' := by
  cases r with
  | nil => unfold fzs at h; cases h; exact .nil
  | cons r rr =>
    rename_i v vs d l
    unfold fzs at h
    cases q1 : fz M n k d with
    | none => rw [q1] at h; cases h
    | some a =>
      cases q2 : fzs M n k l with
      | none => rw [q1, q2] at h; cases h
      | some b =>
        rw [q1, q2] at h; cases h
        exact .cons (fz_ok rp k d v a r q1) (fzs_ok rp k l vs b rr q2)
  termination_by (k, sizeOf l)
end
/-- the cells below n of M' are those of M, or hold no younger cell -/
def Kept (M M' : Store) : Prop := M.length ≤ M'.length ∧ ∀ i c, i < M.length → M'[i]? = some c → M[i]? = some c ∨ rlts M.length c.2 = true
open Classical in
noncomputable def fzE (m : Ev D) : Ev D := fun M => match m M with
  | .ok d M' => if Kept M M' then (match fz M' M.length 9 d with
    | some d' => .ok d' (M'.take M.length)
    | none => .stuck) else .stuck
  | .exc c d M' => .exc c d M'
  | .stuck => .stuck
section
variable {X : Cx} {W : WX} {e a b c : Expr} {pos : Pos}
theorem Rep.thaw {G : Gx} {Fr B B1 : Hp} {as as1 : List Addr} {H H1 : Hp} {M M1 : Store} (rp : Rep G Fr B as H M) (rp1 : Rep G Fr B1 as1 H1 M1) (p : as <+: as1) (k : Kept M M1) : Rep G Fr (bz as1 M.length B1 H1) as H1 (M1.take M.length) ∧ as1.take M.length = as := by
  have et : as1.take M.length = as := by
    obtain ⟨t, rfl⟩ := p
    rw [← rp.len, List.take_left]
  have nin : ∀ a ∈ as, a ∉ as1.drop M.length := fun a ha hd => by
    have nd := rp1.nd
    rw [← List.take_append_drop M.length as1, et, List.nodup_append] at nd
    exact nd.2.2 a ha a hd rfl
  refine ⟨⟨fun b o h => ?_, rp1.frm, fun a ha => rp1.fout a (p.subset ha), fun b o h => ?_, rp.nd, fun a ha => ?_, ?_, fun n a c ha hc => ?_⟩, et⟩
  · unfold bz at h
    split at h
    · exact h
    · exact rp1.sub b o h
  · unfold bz
    rw [if_neg fun z => by have := rp1.fout b (List.mem_of_mem_drop z); rw [h] at this; cases this]
    exact rp1.dis b o h
  · unfold bz
    rw [if_neg (nin a ha)]
    exact rp1.out a (p.subset ha)
  · rw [List.length_take, rp.len]; have := k.1; omega
  · have hn : n < M.length := by
      have := (List.getElem?_eq_some_iff.mp hc).1
      rw [List.length_take] at this; omega
    rw [List.getElem?_take_of_lt hn] at hc
    obtain ⟨vs, mc, rs⟩ := rp1.cell n a c (pre_get p ha) hc
    have hl : rlts M.length c.2 = true := by
      rcases k.2 n c hn hc with q | q
      · obtain ⟨vs', _, rs'⟩ := rp.cell n a c ha q
        have := rs'.rlts
        rw [rp.len] at this; exact this
      · exact q
    refine ⟨vs, mc, ?_⟩
    have := rs.cut hl
    rw [et] at this
    exact this.mono (bz_same rp1) (List.prefix_refl _)
noncomputable def eFz (f : Lo → Ev D) : Lo → Ev D := fun S => fzE (f S)
theorem DE.fz {f : Lo → Ev D} (h : DE X W e f) : DE X W e (eFz f) := by
  obtain ⟨t, p, s⟩ := h
  refine ⟨t, p, fun Fr B as σ H S M Q rs rp h => s Fr B as σ H S M Q rs rp ?_⟩
  unfold eFz fzE at h
  cases q : f S M with
  | stuck => rw [q] at h; exact h
  | exc c d M' => rw [q] at h; exact h
  | ok d M' =>
    rw [q] at h
    dsimp only at h
    by_cases k : Kept M M'
    · rw [if_pos k] at h
      cases q2 : DL.fz M' M.length 9 d with
      | none => rw [q2] at h; exact h.elim
      | some d' =>
        rw [q2] at h
        intro B1 as1 s1 p1 v H1 rp1 r1
        obtain ⟨rp2, et⟩ := rp.thaw rp1 p1 k
        have r2 := fz_ok rp1 9 d v d' r1 q2
        rw [et] at r2
        exact h _ as (s1.trans (bz_same rp1)) (List.prefix_refl _) v H1 rp2 r2
    · rw [if_neg k] at h; exact h.elim
theorem Kept.refl (M : Store) : Kept M M := ⟨Nat.le_refl _, fun _ _ _ h => .inl h⟩
theorem Kept.app (M N : Store) : Kept M (M ++ N) := ⟨by simp, fun i c hi h => .inl (by rw [List.getElem?_append_left hi] at h; exact h)⟩
theorem Kept.set_app {M N : Store} {j : Nat} {c : Tg × List D} (hc : rlts M.length c.2 = true) : Kept M (M.set j c ++ N) := by
  refine ⟨by simp, fun i x hi h => ?_⟩
  rw [List.getElem?_append_left (by simpa using hi)] at h
  by_cases hj : j = i
  · subst hj
    rw [List.getElem?_set_self hi] at h
    cases h
    exact .inr hc
  · rw [List.getElem?_set_ne hj] at h; exact .inl h
/-- what freezing gives: new cells behind the old store -/
theorem fzE_app {m : Ev D} {M N : Store} {d d' : D} (h : m M = .ok d (M ++ N)) (hz : fz (M ++ N) M.length 9 d = some d') : fzE m M = .ok d' M := by
  unfold fzE
  rw [h]
  dsimp only
  rw [if_pos (Kept.app M N), hz, List.take_left]
theorem fzE_set {m : Ev D} {M N : Store} {j : Nat} {c : Tg × List D} {d d' : D} (h : m M = .ok d (M.set j c ++ N)) (hc : rlts M.length c.2 = true) (hz : fz (M.set j c ++ N) M.length 9 d = some d') : fzE m M = .ok d' (M.set j c) := by
  unfold fzE
  rw [h]
  dsimp only
  rw [if_pos (Kept.set_app hc), hz]
  have : (M.set j c ++ N).take M.length = M.set j c := by
    rw [show M.length = (M.set j c).length by simp, List.take_left]
  rw [this]
theorem fzE_same {m : Ev D} {M : Store} {d : D} (h : m M = .ok d M) (hd : rlt M.length d = true) : fzE m M = .ok d M := by
  have := fzE_app (m := m) (M := M) (N := []) (d := d) (d' := d) (by rw [List.append_nil]; exact h) (fz_id _ _ _ d hd)
  exact this
/-! ### methods of a list cell -/
def isCellL : D → Ev Unit
  | .ref n => fun M => match M[n]? with
    | some (.lst, _) => .ok () M
    | _ => .stuck
  | _ => Ev.no
def cellM (op : List D → List D → Option (D × List D)) (x : D) (args : List D) : Ev D := match x with
  | .ref n => fun M => match M[n]? with
    | some (.lst, l) => match op l args with
      | some (d, l') => .ok d (M.set n (.lst, l'))
      | none => .stuck
    | _ => .stuck
  | _ => Ev.no
def eBm (op : D → List D → Ev D) (fo : Lo → Ev D) (fa : Lo → Ev (List D)) : Lo → Ev D := fun S => (fo S).bnd fun x => (isCellL x).bnd fun _ => (fa S).bnd fun l => op x l
theorem Post.isCellL {α : Type} {Fr B : Hp} {as : List Addr} {d : D} {f : Unit → Ev α} {M : Store} {H : Hp} {v : V} {k : α → Store → Hp → List Addr → Prop} {x : Str → D → Store → Hp → List Addr → Prop} (h : Post B as (((DL.isCellL d).bnd f) M) k x)
    (rp : Rep (gx X) Fr B as H M) (r : R (gx X) B as v d) : tyV X.K "list" v H ∧ Post B as (f () M) k x := by
  cases r with
  | ref ha =>
    rename_i n a
    unfold Ev.bnd DL.isCellL at h
    cases q : M[n]? with
    | none => simp only [q] at h; exact h.elim
    | some c =>
      obtain ⟨t, l⟩ := c
      simp only [q] at h
      obtain ⟨vs, mc, rs⟩ := rp.cell n a _ ha q
      cases t <;> first | exact h.elim | skip
      exact ⟨.inl ⟨rfl, vs, SqL.of mc⟩, h⟩
  | _ => exact h.elim
/-- a method by its rule: what it asks of the cell's values -/
def MethOk (X : Cx) (r : V → List V → Hp → VK → Prop) (op : List D → List D → Option (D × List D)) : Prop := ∀ G B as H p vs l args argV d l' Q, Rs G B as vs l → Rs G B as argV args → op l args = some (d, l') → H p = some (.lst vs) →
  (∀ v vs', R G B as v d → Rs G B as vs' l' → Q v (upd H p (.lst vs'))) → r (.ref p) argV H Q
theorem cellM_ok {Fr B : Hp} {as : List Addr} {σ : St} {H : Hp} {M : Store} {v : V} {x : D} {argV : List V} {args : List D} {Q : VK} {r : V → List V → Hp → VK → Prop} {op : List D → List D → Option (D × List D)} (mo : MethOk X r op) (rp : Rep (gx X) Fr B as H M) (rx : R (gx X) B as v x) (ra : Rs (gx X) B as argV args)
    (h : Post B as (cellM op x args M) (kD X Fr Q) (kX X Fr W σ)) : r v argV H Q := by
  cases rx with
  | ref ha =>
    rename_i n a
    unfold cellM at h
    dsimp only at h
    cases q : M[n]? with
    | none => simp only [q] at h; exact h.elim
    | some c =>
      obtain ⟨t, l⟩ := c
      simp only [q] at h
      obtain ⟨vs, mc, rs⟩ := rp.cell n a _ ha q
      cases t <;> first | exact h.elim | skip
      dsimp only at h
      cases q2 : op l args with
      | none => rw [q2] at h; exact h.elim
      | some y =>
        obtain ⟨d, l'⟩ := y
        rw [q2] at h
        refine mo (gx X) B as H a vs l args argV d l' Q rs ra q2 mc fun v vs' rv rvs => ?_
        exact h.ok v _ (rp.write (t := .lst) ha upd_same rvs) rv
  | _ => exact h.elim
theorem de_bm {o : Expr} {es : List Expr} {name : Str} {apos cpos : Pos} {id : String} {r : V → List V → Hp → VK → Prop} {op : List D → List D → Option (D × List D)} {fo : Lo → Ev D} {fa : Lo → Ev (List D)} (slot : Slot "list" name id) (hty : typeOf (.builtin id) = pure (.type "method_descriptor")) (hm : MtR X id r) (mo : MethOk X r op) (ho : DE X W o fo) (ha : DA X W (e :: es) fa)
    (hbase : attributeBase o name X.env (eval o X.env) = eval o X.env := by rfl)
    (hfew : ((backTo cpos (starEach (e :: es) X.env)).all (fun x => !x.1) && (backToKw cpos (keywordEach [] X.env)).all (fun x => x.1.isSome)
      && decide ((e :: es).length + ([] : List Keyword).length + (if ([] : List Keyword).isEmpty then 0 else 1) < 30)) = true := by rfl)
    (hline : (apos.endLine == cpos.line) = true := by rfl) (hs : starEach (e :: es) X.env = (false, eval e X.env) :: starEach es X.env := by rfl) (hplain : (backTo cpos (starEach es X.env)).any (·.1) = false := by rfl) :
    DE X W (.Call (.Attribute o name apos) (e :: es) [] cpos) (eBm (cellM op) fo fa) := by
  obtain ⟨t, p, s⟩ := ho
  obtain ⟨t', p', s'⟩ := ha
  refine ⟨_, pe_bm PySem.F.plainAttrs_list slot hty hm p p' hbase hfew hline hs hplain, fun Fr B as σ H S M Q rs rp h => ?_⟩
  refine s Fr B as σ H S M _ rs rp (h.bnd.imp fun x M1 B1 as1 s1 p1 h1 v H1 rp1 r1 => ?_)
  obtain ⟨ty, h1⟩ := h1.isCellL rp1 r1
  refine ⟨ty, s' Fr B1 as1 σ H1 S M1 _ (rs.mono s1 p1) rp1 (h1.bnd.imp fun l M2 B2 as2 s2 p2 h2 vs H2 rp2 r2 => ?_)⟩
  exact cellM_ok mo rp2 (r1.mono s2 p2) r2 h2
theorem de_bm0 {o : Expr} {name : Str} {apos cpos : Pos} {id : String} {r : V → List V → Hp → VK → Prop} {op : List D → List D → Option (D × List D)} {fo : Lo → Ev D} (slot : Slot "list" name id) (hty : typeOf (.builtin id) = pure (.type "method_descriptor")) (hm : MtR X id r) (mo : MethOk X r op) (ho : DE X W o fo)
    (hbase : attributeBase o name X.env (eval o X.env) = eval o X.env := by rfl) (hline : (apos.endLine == cpos.line) = true := by rfl) : DE X W (.Call (.Attribute o name apos) [] [] cpos) (eBm (cellM op) fo eA0) := by
  obtain ⟨t, p, s⟩ := ho
  refine ⟨_, pe_bm0 PySem.F.plainAttrs_list slot hty hm p hbase hline, fun Fr B as σ H S M Q rs rp h => ?_⟩
  refine s Fr B as σ H S M _ rs rp (h.bnd.imp fun x M1 B1 as1 s1 p1 h1 v H1 rp1 r1 => ?_)
  obtain ⟨ty, h1⟩ := h1.isCellL rp1 r1
  exact ⟨ty, cellM_ok mo rp1 r1 .nil h1⟩
def opAppend (l args : List D) : Option (D × List D) := match args with
  | [y] => if l.length < sizeLine then some (.non, l ++ [y]) else none
  | _ => none
def opClear (l args : List D) : Option (D × List D) := match args with
  | [] => some (.non, [])
  | _ => none
def opPop (l args : List D) : Option (D × List D) := match args with
  | [] => match l[l.length - 1]? with
    | some d => some (d, l.dropLast)
    | none => none
  | _ => none
theorem m_append : MethOk X rAppend opAppend := by
  intro G B as H p vs l args argV d l' Q rs ra ho hp k
  unfold opAppend at ho
  cases ra with
  | nil => cases ho
  | cons r t =>
    cases t with
    | cons _ _ => cases ho
    | nil =>
      dsimp only at ho
      by_cases c : l.length < sizeLine
      · rw [if_pos c] at ho; cases ho
        exact ⟨p, vs, _, rfl, rfl, hp, by rw [rs.length]; exact c, k _ _ .non (rs.app (.one r))⟩
      · rw [if_neg c] at ho; cases ho
theorem m_clear : MethOk X rClear opClear := by
  intro G B as H p vs l args argV d l' Q rs ra ho hp k
  cases ra with
  | nil => cases ho; exact ⟨p, vs, rfl, rfl, hp, k _ _ .non .nil⟩
  | cons r t => cases ho
theorem Rs.dropLast {G : Gx} {B : Hp} {as : List Addr} {vs : List V} {l : List D} (r : Rs G B as vs l) : Rs G B as vs.dropLast l.dropLast := by
  rw [List.dropLast_eq_take, List.dropLast_eq_take, r.length]
  exact r.take _
theorem m_pop : MethOk X rPop opPop := by
  intro G B as H p vs l args argV d l' Q rs ra ho hp k
  cases ra with
  | cons r t => cases ho
  | nil =>
    unfold opPop at ho
    dsimp only at ho
    cases q : l[l.length - 1]? with
    | none => rw [q] at ho; cases ho
    | some y =>
      rw [q] at ho; cases ho
      obtain ⟨v, hv, rv⟩ := rs.get q
      exact ⟨p, vs, v, rfl, rfl, hp, by rw [rs.length]; exact hv, k _ _ rv rs.dropLast⟩
/-- xs[i] = v -/
def setE (x i v : D) : Ev Unit := match x, i with
  | .ref n, .int k => fun M => match M[n]? with
    | some (.lst, l) => match ixN l.length k with
      | some j => .ok () (M.set n (.lst, l.set j v))
      | none => .stuck
    | _ => .stuck
  | _, _ => Ev.no
def gSet (fo fi : Lo → Ev D) : D → Lo → Ev Lo := fun d S => (Ev.nox (fo S)).bnd fun x => (Ev.nox (fi S)).bnd fun i => (setE x i d).bnd fun _ => Ev.ret S
theorem dg_sub {o i : Expr} {fo fi : Lo → Ev D} (ho : DE X W o fo) (hi : DE X W i fi)
    (ha : ∀ v, assign (.Subscript o i pos) X.env v = (do
      let ov ← holding [v] (eval o X.env)
      let iv ← holding [v, ov] (eval i X.env)
      standAt pos
      holding [v, ov, iv] (setItem ov iv v)
      release [v, ov, iv] []) := by intro _; rfl) : DG X W (.Subscript o i pos) [] (gSet fo fi) := by
  obtain ⟨t, p, s⟩ := ho
  obtain ⟨t', p', s'⟩ := hi
  refine ⟨_, pg_sub p p' set_list ha, fun Fr B as σ H S M v d Q rs rp r h => ?_⟩
  refine s Fr B as σ H S M _ rs rp ((h.bnd.nox (x' := _)).imp fun x M1 B1 as1 s1 p1 h1 ov H1 rp1 r1 => ?_)
  refine s' Fr B1 as1 σ H1 S M1 _ (rs.mono s1 p1) rp1 ((h1.bnd.nox (x' := _)).imp fun y M2 B2 as2 s2 p2 h2 iv H2 rp2 r2 => ?_)
  have rx := r1.mono s2 p2
  have rd := r.mono s1 p1 |>.mono s2 p2
  have rs2 := (rs.mono s1 p1).mono s2 p2
  cases rx <;> first | (cases r2 <;> exact h2.elim) | skip
  rename_i n a ha
  cases r2 <;> first | exact h2.elim | skip
  rename_i k
  have h2 := h2.bnd
  unfold setE at h2
  dsimp only at h2
  cases q : M2[n]? with
  | none => simp only [q] at h2; exact h2.elim
  | some c =>
    obtain ⟨t, l⟩ := c
    simp only [q] at h2
    obtain ⟨vs, mc, rsc⟩ := rp2.cell n a _ ha q
    cases t <;> first | exact h2.elim | skip
    dsimp only at h2
    cases q2 : ixN l.length k with
    | none => rw [q2] at h2; exact h2.elim
    | some j =>
      rw [q2] at h2
      refine ⟨a, vs, k, j, rfl, rfl, mc, by rw [rsc.length]; exact q2, ?_⟩
      exact (Post.ok h2).ret σ _ (rp2.write (t := .lst) ha upd_same (rsc.set rd j)) rs2 (fun _ _ => rfl) rfl
/-! ### defs -/
def spD (G : Gx) (n : Nat) (F : List D → Ev D) : Sp := fun vs H Q E => ∃ Fr B as M l, Rep G Fr B as H M ∧ Rs G B as vs l ∧ l.length = n ∧
  Post B as (F l M) (fun d M' B' as' => ∀ v H', Rep G Fr B' as' H' M' → R G B' as' v d → Q v H') (fun c d M' B' as' => ∀ cls dx H', Rep G Fr B' as' H' M' → XR G B' as' H' c d cls dx → E cls dx H')
def startD (N : Nat) (l : List D) : Lo := l.map some ++ List.replicate (N - l.length) none
def runF (N : Nat) (g : Lo → Ev Fl) : List D → Ev D := fun l => (Ev.nox (g (startD N l))).bnd fun fl => match fl with
  | .nx _ => Ev.ret .non
  | .rt d => Ev.ret d
  | .xc c d _ => fun M => .exc c d M
  | _ => Ev.no
abbrev WF (E : XK) : WX := fun c d _ H => E c d H
theorem RS.start {G : Gx} {B : Hp} {as : List Addr} {N : List Str} {vs : List V} {l : List D} (r : Rs G B as vs l) : RS G B as (L2.start N vs) (startD N.length l) := by
  refine ⟨by unfold L2.start startD; simp [r.length], fun i d h => ?_⟩
  unfold startD at h
  unfold L2.start
  by_cases hi : i < l.length
  · rw [List.getElem?_append_left (by simpa using hi), List.getElem?_map] at h
    cases q : l[i]? with
    | none => rw [q] at h; cases h
    | some e =>
      rw [q] at h; cases h
      obtain ⟨v, hv, rv⟩ := r.get q
      exact ⟨v, by rw [List.getElem?_append_left (by simpa [r.length] using hi), List.getElem?_map, hv]; rfl, rv⟩
  · rw [List.getElem?_append_right (by simpa using hi)] at h
    obtain ⟨h1, h2⟩ := List.getElem?_eq_some_iff.mp h
    rw [List.getElem_replicate] at h2
    cases h2
theorem fn_d {P : Program} {w : World} {K : PySem.W.Frag} {mg : Str → Option Value} {base : Heap} {x qual : Str} {params : Arguments} {body : List Stmt} {scope : Scope} {dvs : List V} {kws : List (Str × V)} {f : Addr} {fd : FuncData} {N ps : List Str} {k : Nat} {g : Lo → Ev Fl}
    (F : FunD K x qual params body scope dvs kws f fd) (S : FnScope N ps scope)
    (hb : ∀ (cdv : Value) (A : Around) (outer : List Env) (s : Shared) (H : Hp) (E : XK), Room k (A.deeper (PyProof.Rows.envOfC qual scope s.heap.objs.size f cdv)) → Takes (cxOf (L2.CX P w) P w K mg base N qual scope f cdv A outer s H E) (WF E) →
      DSs (cxOf (L2.CX P w) P w K mg base N qual scope f cdv A outer s H E) (WF E) body g) : FnOk P w K mg base (L2.CX P w) (k + 1) f fd ps (spD ⟨K, mg⟩ ps.length (runF N.length g)) := by
  refine F.ok S (fun vs H Q E h => ?_) (fun cdv A outer s H vs Q E hr h => ?_)
  · obtain ⟨Fr, B, as, M, l, rp, rs, hl, _⟩ := h
    rw [rs.length, hl]
  · obtain ⟨Fr, B, as, M, l, rp, rs, hl, h⟩ := h
    obtain ⟨t, p, sd⟩ := hb cdv A outer s H E hr (takes_of rfl rfl rfl rfl)
    refine ⟨t, p, sd Fr B as _ H (startD N.length l) M _ (RS.start rs) rp ((h.bnd.nox (x' := fun _ _ _ _ _ => False)).imp fun fl M1 B1 as1 s1 p1 h1 => ?_)⟩
    cases fl with
    | nx S' => exact fun σ' H' rp' rs' => h1.ret .non H' rp' .non
    | rt d => exact fun v H' rp' rv => h1.ret v H' rp' rv
    | bk S' => exact h1.elim
    | ct S' => exact h1.elim
    | xc c d S' => exact fun σ' cls dx H' rp' rs' xr => h1 B1 as1 (Same.refl _) (List.prefix_refl _) cls dx H' rp' xr
end
end DL

set_option Elab.async false
set_option linter.all false
set_option maxRecDepth 100000
set_option maxHeartbeats 4000000
/-! DL7: calls of own defs, own classes and their instances. -/
namespace DL
open PySem L2
section
variable {X : Cx} {W : WX} {e o a b c : Expr} {pos p apos : Pos} {x m f : Str}
abbrev CXX (X : Cx) : CXT := L2.CX X.prog X.w
def callD (n : Nat) (F : List D → Ev D) : List D → Ev D := fun l => if l.length = n then F l else Ev.no
theorem spD_of {Fr B : Hp} {as : List Addr} {σ : St} {H : Hp} {M : Store} {vs : List V} {l : List D} {Q : VK} {n : Nat} {F : List D → Ev D} (rp : Rep (gx X) Fr B as H M) (rs : Rs (gx X) B as vs l) (h : Post B as (callD n F l M) (kD X Fr Q) (kX X Fr W σ)) :
    spD (gx X) n F vs H Q (fun c d H => W c d σ H) := by
  unfold callD at h
  by_cases hl : l.length = n
  · rw [if_pos hl] at h
    exact ⟨Fr, B, as, M, l, rp, rs, hl, h⟩
  · rw [if_neg hl] at h; exact h.elim
theorem de_call {k n : Nat} {fa : Addr} {fd : FuncData} {ps : List Str} {F : List D → Ev D} {es : List Expr} {g : Lo → Ev (List D)} (FO : FnOk X.prog X.w X.K X.mg X.base (CXX X) k fa fd ps (spD (gx X) n F)) (hr : Room k X.A) (hg : Gl X x) (hm : X.mg x = some (.ref fa)) (hk : PySem.W.keepIn X.K (.ref fa) = true) (hb : Binds X.K fd ps [])
    (tk : Takes X W) (ha : DA X W (e :: es) g) (hdb : (x == ("__debug__" : Str)) = false := by decide) (he : starEach (e :: es) X.env = (false, eval e X.env) :: starEach es X.env := by rfl) (hpl : (backTo pos (starEach es X.env)).any (·.1) = false := by rfl) :
    DE X W (.Call (.Name x p) (e :: es) [] pos) (eCall (callD n F) g) := by
  obtain ⟨t, pa, s⟩ := ha
  refine ⟨_, pe_callS (E := WE W) FO hr hg hm hk hb (fun σ => passAt tk σ) pa hdb he hpl, fun Fr B as σ H S M Q rs rp h => ?_⟩
  exact s Fr B as σ H S M _ rs rp (h.bnd.imp fun l M1 B1 as1 s1 p1 h1 vs H1 rp1 r1 => spD_of rp1 r1 h1)
/-- keywords -/
def DK (X : Cx) (W : WX) (kws : List Keyword) (f : Lo → Ev (List D)) : Prop := ∃ t, PK X kws t ∧ ∀ Fr B as σ H S M Q, RS (gx X) B as σ S → Rep (gx X) Fr B as H M → Post B as (f S M) (kA X Fr Q) (kX X Fr W σ) → t σ H Q
theorem dk_nil : DK X W [] eA0 := ⟨_, pk_nil, fun _ _ _ _ _ _ _ _ _ rp h => h.ret [] _ rp .nil⟩
theorem dk_cons {kws : List Keyword} {nm : Option Str} {kpos : Pos} {f : Lo → Ev D} {g : Lo → Ev (List D)} (ha : DE X W e f) (hr : DK X W kws g) : DK X W (⟨nm, e, kpos⟩ :: kws) (eAc f g) := by
  obtain ⟨t, p, s⟩ := ha
  obtain ⟨t', p', s'⟩ := hr
  refine ⟨_, pk_cons p p', fun Fr B as σ H S M Q rs rp h => ?_⟩
  refine s Fr B as σ H S M _ rs rp (h.bnd.imp fun x M1 B1 as1 s1 p1 h1 v H1 rp1 r1 => ?_)
  refine s' Fr B1 as1 σ H1 S M1 _ (rs.mono s1 p1) rp1 (h1.bnd.imp fun l M2 B2 as2 s2 p2 h2 vs H2 rp2 r2 => ?_)
  exact h2.ret _ H2 rp2 (.cons (r1.mono s2 p2) r2)
def eCallK (op : List D → List D → Ev D) (f g : Lo → Ev (List D)) : Lo → Ev D := fun S => (f S).bnd fun l => (g S).bnd fun z => op l z
/-- a def called with keywords: gD puts the values in the parameters' order -/
def callK (n i j : Nat) (gD : List D → List D → List D) (F : List D → Ev D) : List D → List D → Ev D := fun l z => if l.length = i ∧ z.length = j then callD n F (gD l z) else Ev.no
theorem de_callN {E : XK} {k n i : Nat} {fa : Addr} {fd : FuncData} {ps ks : List Str} {F : List D → Ev D} {es : List Expr} {kws : List Keyword} {gv : List Value → List Value → List Value} {gV : List V → List V → List V} {gD : List D → List D → List D} {g gk : Lo → Ev (List D)} (FO : FnOk X.prog X.w X.K X.mg X.base (CXX X) k fa fd ps (spD (gx X) n F)) (hr : Room k X.A) (hg : Gl X x) (hm : X.mg x = some (.ref fa)) (hk : PySem.W.keepIn X.K (.ref fa) = true) (hb : KBn X.K fd ps i ks gv gV)
    (hD : ∀ B as vs zs l z, Rs (gx X) B as vs l → Rs (gx X) B as zs z → Rs (gx X) B as (gV vs zs) (gD l z)) (hx : Passes (CXX X) X E) (ha : DA X (WF E) (e :: es) g) (hkw : DK X (WF E) kws gk)
    (hall : (backToKw pos (keywordEach kws X.env)).all (·.1.isSome) = true := by rfl) (hks : (backToKw pos (keywordEach kws X.env)).filterMap (·.1) = ks := by rfl)
    (hdb : (x == ("__debug__" : Str)) = false := by decide) (he : starEach (e :: es) X.env = (false, eval e X.env) :: starEach es X.env := by rfl)
    (hpl : ((backTo pos (starEach (e :: es) X.env)).any (·.1) || (backToKw pos (keywordEach kws X.env)).any (·.1.isNone)) = false := by rfl) :
    DE X (WF E) (.Call (.Name x p) (e :: es) kws pos) (eCallK (callK n i ks.length gD F) g gk) := by
  obtain ⟨t, pa, s⟩ := ha
  obtain ⟨t', pk, s'⟩ := hkw
  refine ⟨_, pe_callN FO hr hg hm hk hb hx pa pk hall hks hdb he hpl, fun Fr B as σ H S M Q rs rp h => ?_⟩
  refine s Fr B as σ H S M _ rs rp (h.bnd.imp fun l M1 B1 as1 s1 p1 h1 vs H1 rp1 r1 => ?_)
  refine s' Fr B1 as1 σ H1 S M1 _ (rs.mono s1 p1) rp1 (h1.bnd.imp fun z M2 B2 as2 s2 p2 h2 zs H2 rp2 r2 => ?_)
  unfold callK at h2
  by_cases hl : l.length = i ∧ z.length = ks.length
  · rw [if_pos hl] at h2
    exact ⟨by rw [r1.length, hl.1], by rw [r2.length, hl.2], spD_of (W := WF E) rp2 (hD B2 as2 vs zs l z (r1.mono s2 p2) r2) h2⟩
  · rw [if_neg hl] at h2; exact h2.elim
/-! ### instances -/
theorem Rs.lookup {G : Gx} {B : Hp} {as : List Addr} {f : Str} {d : D} : ∀ {ns : List Str} {vs : List V} {l : List D}, Rs G B as vs l → (ns.zip l).lookup f = some d → ∃ v, (ns.zip vs).lookup f = some v ∧ R G B as v d
  | [], _, _, _, h => by simp at h
  | _ :: _, _, _, .nil, h => by simp at h
  | n :: ns, _, _, .cons r t, h => by
    rw [List.zip_cons_cons, List.lookup_cons] at h ⊢
    cases q : f == n with
    | true => rw [q] at h; cases h; exact ⟨_, rfl, r⟩
    | false => rw [q] at h; exact Rs.lookup t h
theorem zip_none {α : Type} {f : Str} : ∀ {ns : List Str} {vs : List α}, f ∉ ns → (ns.zip vs).lookup f = none
  | [], _, _ => by simp
  | _ :: _, [], _ => by simp
  | n :: ns, v :: vs, h => by
    rw [List.zip_cons_cons, List.lookup_cons]
    have h1 : ¬ f = n := fun z => h (by simp [z])
    have h2 : f ∉ ns := fun z => h (by simp [z])
    rw [beq_eq_false_iff_ne.mpr h1]
    exact zip_none h2
/-- what is known of a class of the text -/
structure ClsD (X : Cx) (cn : Str) (C : Addr) : Prop where
  mg : X.mg cn = some (.ref C)
  cl : Cls X.K C
def fldE (cn f : Str) (x : D) : Ev D := (vw x).bnd fun p => match p.1 with
  | .obj c ns => if c = cn then (match (ns.zip p.2).lookup f with
    | some d => Ev.ret d
    | none => Ev.no) else Ev.no
  | _ => Ev.no
theorem de_fld {cn : Str} {C : Addr} {fo : Lo → Ev D} (c : ClsD X cn C) (na : NoAttr X.K C f) (he : DE X W o fo) (hb : attributeBase o f X.env (eval o X.env) = eval o X.env := by rfl) : DE X W (.Attribute o f pos) (e1 (fldE cn f) fo) := by
  obtain ⟨t, p, s⟩ := he
  refine ⟨_, pe_fld p hb, fun Fr B as σ H S M Q rs rp h => ?_⟩
  refine s Fr B as σ H S M _ rs rp (h.bnd.imp fun x M1 B1 as1 s1 p1 h1 v H1 rp1 r1 => ?_)
  obtain ⟨t, l, q, vs, rfl, fc, rs2, h9, _⟩ := Post.vw (d := x) h1 rp1 r1
  cases t <;> first | exact h9.elim | skip
  rename_i c' ns _
  dsimp only at h9
  by_cases hc : c' = cn
  · rw [if_pos hc] at h9
    subst hc
    obtain ⟨C', dx, mg, hH, hlen⟩ := fc
    cases q2 : (ns.zip l).lookup f with
    | none => rw [q2] at h9; exact h9.elim
    | some d =>
      rw [q2] at h9
      obtain ⟨u, hu, ru⟩ := rs2.lookup q2
      have : C' = C := by
        have e1 := mg.symm.trans c.mg
        cases e1; rfl
      subst this
      exact ⟨q, C', dx, _, u, rfl, hH, c.cl, na, hu, h9.ret u H1 rp1 ru⟩
  · rw [if_neg hc] at h9; exact h9.elim
/-- o.f = e -/
def putD (f : Str) (d : D) : List Str → List D → List Str × List D
  | n :: ns, y :: l => if n = f then (n :: ns, d :: l) else (n :: (putD f d ns l).1, y :: (putD f d ns l).2)
  | _, _ => ([f], [d])
def putW (f : Str) (v : V) : List Str → List V → List V
  | n :: ns, y :: l => if n = f then v :: l else y :: putW f v ns l
  | _, _ => [v]
theorem putF_zip (f : Str) (v : V) (d : D) : ∀ (ns : List Str) (vs : List V) (l : List D), ns.length = vs.length → vs.length = l.length → putF f v (ns.zip vs) = (putD f d ns l).1.zip (putW f v ns vs) ∧ (putD f d ns l).1.length = (putW f v ns vs).length
  | [], [], [], _, _ => ⟨rfl, rfl⟩
  | n :: ns, y :: vs, z :: l, h1, h2 => by
    have ih := putF_zip f v d ns vs l (by simpa using h1) (by simpa using h2)
    rw [List.zip_cons_cons]
    unfold putF putD putW
    by_cases h : n = f
    · rw [if_pos h, if_pos h, if_pos h]
      exact ⟨rfl, by simpa using h1⟩
    · rw [if_neg h, if_neg h, if_neg h, ih.1]
      exact ⟨rfl, by simp [ih.2]⟩
theorem Rs.put {G : Gx} {B : Hp} {as : List Addr} {f : Str} {v : V} {d : D} (r : R G B as v d) : ∀ {ns : List Str} {vs : List V} {l : List D}, Rs G B as vs l → ns.length = vs.length → Rs G B as (putW f v ns vs) (putD f d ns l).2
  | [], _, _, .nil, _ => .cons r .nil
  | n :: ns, _, _, .cons q t, h => by
    unfold putW putD
    by_cases hn : n = f
    · rw [if_pos hn, if_pos hn]; exact .cons r t
    · rw [if_neg hn, if_neg hn]; exact .cons q (Rs.put r t (by simpa using h))
def stE (cn f : Str) (d x : D) : Ev Unit := match x with
  | .ref n => fun M => match M[n]? with
    | some (.obj c ns, l) => if c = cn ∧ ns.length < 1000 then .ok () (M.set n (.obj c (putD f d ns l).1, (putD f d ns l).2)) else .stuck
    | _ => .stuck
  | _ => Ev.no
def sFldD (cn f : Str) (fo fv : Lo → Ev D) : Lo → Ev Fl := fun S => (fv S).fl S fun d => (fo S).fl S fun x => (stE cn f d x).bnd fun _ => Ev.ret (.nx S)
theorem ds_fld {cn : Str} {C : Addr} {fo fv : Lo → Ev D} {pos' : Pos} (c : ClsD X cn C) (na : NoAttr X.K C f) (ho : DE X W o fo) (hv : DE X W e fv) (hs : swapsWith e (some (.Attribute o f pos')) pos.line X.env = pure false := by rfl) : DS X W (.Assign [.Attribute o f pos'] e pos) (sFldD cn f fo fv) := by
  obtain ⟨t, p, s⟩ := ho
  obtain ⟨t', p', s'⟩ := hv
  refine ⟨_, ps_fld p p' hs, fun Fr B as σ H S M D rs rp h => ?_⟩
  refine s' Fr B as σ H S M _ rs rp ((Post.fl rs h).imp fun d M1 B1 as1 s1 p1 h1 y H1 rp1 r1 => ?_)
  refine s Fr B1 as1 σ H1 S M1 _ (rs.mono s1 p1) rp1 ((Post.fl (rs.mono s1 p1) h1).imp fun x M2 B2 as2 s2 p2 h2 v H2 rp2 r2 => ?_)
  have rd := r1.mono s2 p2
  have rs2 := (rs.mono s1 p1).mono s2 p2
  cases r2 <;> first | exact h2.elim | skip
  rename_i n a ha
  have h3 := h2.bnd
  clear h2
  unfold stE at h3
  dsimp only at h3
  cases q : M2[n]? with
  | none => simp only [q] at h3; exact h3.elim
  | some cc =>
    obtain ⟨t, l⟩ := cc
    simp only [q] at h3
    obtain ⟨vs, mc, rsc⟩ := rp2.cell n a _ ha q
    cases t <;> first | exact h3.elim | skip
    rename_i c' ns
    dsimp only at h3
    by_cases hc : c' = cn ∧ ns.length < 1000
    · rw [if_pos hc] at h3
      obtain ⟨hc, hn⟩ := hc
      subst hc
      obtain ⟨C', dx, mg, hH, hlen⟩ := mc
      have : C' = C := by
        have e1 := mg.symm.trans c.mg
        cases e1; rfl
      subst this
      have hlen : ns.length = vs.length := hlen
      obtain ⟨z1, z2⟩ := putF_zip f y d ns vs l hlen rsc.length
      refine ⟨a, C', dx, _, rfl, hH, c.cl, na, by rw [List.length_zip]; omega, ?_⟩
      refine (Post.ok h3).ret σ _ (rp2.write (t := .obj c' (putD f d ns l).1) (vs := putW f y ns vs) ha ?_ (rsc.put rd hlen)) rs2
      exact ⟨C', dx, mg, by rw [upd_same, z1], z2⟩
    · rw [if_neg hc] at h3; exact h3.elim
/-- o.m(..) -/
def isObj (cn m : Str) (x : D) : Ev Unit := (vw x).bnd fun p => match p.1 with
  | .obj c ns => if c = cn ∧ m ∉ ns then Ev.ret () else Ev.no
  | _ => Ev.no
theorem Post.isObj {α : Type} {Fr B : Hp} {as : List Addr} {d : D} {cn m : Str} {C : Addr} {f : Unit → Ev α} {M : Store} {H : Hp} {v : V} {k : α → Store → Hp → List Addr → Prop} {x : Str → D → Store → Hp → List Addr → Prop} (h : Post B as (((DL.isObj cn m d).bnd f) M) k x)
    (c : ClsD X cn C) (rp : Rep (gx X) Fr B as H M) (r : R (gx X) B as v d) : ∃ a dx fs, v = .ref a ∧ H a = some (.ins C dx fs) ∧ fs.lookup m = none ∧ Post B as (f () M) k x := by
  unfold DL.isObj at h
  rw [bnd_bnd] at h
  obtain ⟨t, l, q, vs, rfl, fc, rs2, h9, _⟩ := Post.vw (d := d) h rp r
  cases t <;> first | exact h9.elim | skip
  rename_i c' ns _
  dsimp only at h9
  by_cases hc : c' = cn ∧ m ∉ ns
  · rw [if_pos hc] at h9
    obtain ⟨hc, hn⟩ := hc
    subst hc
    obtain ⟨C', dx, mg, hH, hlen⟩ := fc
    have : C' = C := by
      have e1 := mg.symm.trans c.mg
      cases e1; rfl
    subst this
    exact ⟨q, dx, _, rfl, hH, zip_none hn, h9⟩
  · rw [if_neg hc] at h9; exact h9.elim
def eMeth (cn m : Str) (n : Nat) (F : List D → Ev D) (dd : List D) (fo : Lo → Ev D) (fa : Lo → Ev (List D)) : Lo → Ev D := fun S => (fo S).bnd fun x => (isObj cn m x).bnd fun _ => (fa S).bnd fun l => callD n F (x :: (l ++ dd))
theorem de_meth {E : XK} {cn : Str} {C : Addr} {k n : Nat} {fa : Addr} {fd : FuncData} {ps : List Str} {F : List D → Ev D} {es : List Expr} {pl : Sem Bool} {dvs : List V} {ds : List Value} {dd : List D} {fo : Lo → Ev D} {g : Lo → Ev (List D)} (c : ClsD X cn C) (hm : Meth X.K C m fa) (FO : FnOk X.prog X.w X.K X.mg X.base (CXX X) k fa fd ps (spD (gx X) n F)) (hr : Room k X.A) (hb : Binds X.K fd ps ds) (hd : Vals dvs ds) (hdd : ∀ B as, Rs (gx X) B as dvs dd) (hx : Passes (CXX X) X E)
    (ho : DE X (WF E) o fo) (ha : DA X (WF E) (e :: es) g) (hst : starEach (e :: es) X.env = (false, eval e X.env) :: starEach es X.env := by rfl) (hpl : (backTo pos (starEach es X.env)).any (·.1) = false := by rfl)
    (ht : eval (.Call (.Attribute o m apos) (e :: es) [] pos) X.env = (do
      let ov ← eval o X.env
      standAt apos.atName
      let (f, first) ← holding [ov] (getMethod ov m pl)
      callWith pos f first (backTo pos (starEach (e :: es) X.env)) (backToKw pos (keywordEach [] X.env))) := by rfl) :
    DE X (WF E) (.Call (.Attribute o m apos) (e :: es) [] pos) (eMeth cn m n F dd fo g) := by
  obtain ⟨t, p, s⟩ := ho
  obtain ⟨t', p', s'⟩ := ha
  refine ⟨_, pe_meth (pl := pl) p c.cl hm FO hr hb hd hx p' hst hpl ht, fun Fr B as σ H S M Q rs rp h => ?_⟩
  refine s Fr B as σ H S M _ rs rp (h.bnd.imp fun x M1 B1 as1 s1 p1 h1 v H1 rp1 r1 => ?_)
  obtain ⟨a, dx, fs, rfl, hH, hl, h1⟩ := h1.isObj c rp1 r1
  refine ⟨a, dx, fs, rfl, hH, hl, s' Fr B1 as1 σ H1 S M1 _ (rs.mono s1 p1) rp1 (h1.bnd.imp fun l M2 B2 as2 s2 p2 h2 vs H2 rp2 r2 => ?_)⟩
  exact spD_of (W := WF E) (σ := σ) rp2 (.cons (r1.mono s2 p2) (r2.app (hdd B2 as2))) h2
theorem de_meth0 {E : XK} {cn : Str} {C : Addr} {k n : Nat} {fa : Addr} {fd : FuncData} {ps : List Str} {F : List D → Ev D} {pl : Sem Bool} {dvs : List V} {ds : List Value} {dd : List D} {fo : Lo → Ev D} (c : ClsD X cn C) (hm : Meth X.K C m fa) (FO : FnOk X.prog X.w X.K X.mg X.base (CXX X) k fa fd ps (spD (gx X) n F)) (hr : Room k X.A) (hb : Binds X.K fd ps ds) (hd : Vals dvs ds) (hdd : ∀ B as, Rs (gx X) B as dvs dd) (hx : Passes (CXX X) X E)
    (ho : DE X (WF E) o fo)
    (ht : eval (.Call (.Attribute o m apos) [] [] pos) X.env = (do
      let ov ← eval o X.env
      standAt apos.atName
      let (f, first) ← holding [ov] (getMethod ov m pl)
      callWith pos f first (backTo pos (starEach [] X.env)) (backToKw pos (keywordEach [] X.env))) := by rfl) :
    DE X (WF E) (.Call (.Attribute o m apos) [] [] pos) (eMeth cn m n F dd fo eA0) := by
  obtain ⟨t, p, s⟩ := ho
  refine ⟨_, pe_meth0 (pl := pl) p c.cl hm FO hr hb hd hx ht, fun Fr B as σ H S M Q rs rp h => ?_⟩
  refine s Fr B as σ H S M _ rs rp (h.bnd.imp fun x M1 B1 as1 s1 p1 h1 v H1 rp1 r1 => ?_)
  obtain ⟨a, dx, fs, rfl, hH, hl, h1⟩ := h1.isObj c rp1 r1
  refine ⟨a, dx, fs, rfl, hH, hl, ?_⟩
  exact spD_of (W := WF E) (σ := σ) rp1 (.cons r1 (hdd B1 as1)) h1
/-- C(..) -/
def makeD (cn : Str) (F : List D → Ev D) (gD : D → List D) : Ev D := fun M => match F (gD (.ref M.length)) (M ++ [(.obj cn [], [])]) with
  | .ok .non M' => .ok (.ref M.length) M'
  | .exc c d M' => .exc c d M'
  | _ => .stuck
theorem make_of {cn : Str} {C : Addr} {n : Nat} {F : List D → Ev D} {Fr B : Hp} {as : List Addr} {σ : St} {H : Hp} {M : Store} {Q : VK} {E : XK} {gV : V → List V} {gD : D → List D} (c : ClsD X cn C) (rp : Rep (gx X) Fr B as H M) (hl : ∀ d, (gD d).length = n)
    (hD : ∀ B' as' v d, Same B B' → as <+: as' → R (gx X) B' as' v d → Rs (gx X) B' as' (gV v) (gD d)) (h : Post B as (makeD cn F gD M) (kD X Fr Q) (kX X Fr (WF E) σ)) :
    ∀ x dx, H x = none → H dx = none → dx ≠ x → spD (gx X) n F (gV (.ref x)) (upd (upd H dx (.own x)) x (.ins C dx [])) (fun v H2 => v = .non ∧ Q (.ref x) H2) E := by
  intro x dx hx hdx hne
  have hx' : (upd H dx (.own x)) x = none := by rw [upd_ne (Ne.symm hne)]; exact hx
  have rp1 := (rp.laid (o := .own x) hdx).push (t := .obj cn []) (vs := []) (l := []) (o := .ins C dx []) hx' ⟨C, dx, c.mg, upd_same, rfl⟩ .nil
  have hr : (as ++ [x])[M.length]? = some x := by rw [← rp.len]; simp
  refine ⟨Fr, B, as ++ [x], M ++ [(.obj cn [], [])], gD (.ref M.length), rp1, hD B (as ++ [x]) _ _ (Same.refl _) pre_push (.ref hr), hl _, ?_⟩
  unfold makeD at h
  cases q : F (gD (.ref M.length)) (M ++ [(.obj cn [], [])]) with
  | stuck => rw [q] at h; exact h
  | exc c d M' => rw [q] at h; exact fun B1 as1 e1 p1 cls d1 H1 rp1 xr => h B1 as1 e1 (pre_push.trans p1) cls d1 H1 rp1 xr
  | ok d M' =>
    rw [q] at h
    cases d <;> first | exact h.elim | skip
    intro B1 as1 e1 p1 v H1 rp1 rv
    cases rv
    exact ⟨rfl, h B1 as1 e1 (pre_push.trans p1) _ H1 rp1 (.ref (pre_get p1 hr))⟩
def eMake (cn : Str) (n i j : Nat) (gD : D → List D → List D → List D) (F : List D → Ev D) (f g : Lo → Ev (List D)) : Lo → Ev D := fun S => (f S).bnd fun l => (g S).bnd fun z => if l.length = i ∧ z.length = j then makeD cn F (fun d => gD d l z) else Ev.no
theorem de_makeN {E : XK} {cn : Str} {C : Addr} {k n i j : Nat} {fI : Addr} {fd : FuncData} {ps ks : List Str} {F : List D → Ev D} {es : List Expr} {kws : List Keyword} {gv : List Value → List Value → List Value} {gV : List V → List V → List V} {gD : D → List D → List D → List D} {g gk : Lo → Ev (List D)} (c : ClsD X cn C) (Mk' : Mk X.K C fI) (FO : FnOk X.prog X.w X.K X.mg X.base (CXX X) k fI fd ps (spD (gx X) n F)) (hr : Room (k + 1) X.A) (hg : Gl X cn) (hb : KBn X.K fd ps (i + 1) ks gv gV)
    (hn : ∀ d l z, l.length = i → z.length = ks.length → (gD d l z).length = n) (hD : ∀ B as v d vs zs l z, R (gx X) B as v d → Rs (gx X) B as vs l → Rs (gx X) B as zs z → Rs (gx X) B as (gV (v :: vs) zs) (gD d l z)) (hx : Passes (CXX X) X E) (ha : DA X (WF E) (e :: es) g) (hkw : DK X (WF E) kws gk)
    (hall : (backToKw pos (keywordEach kws X.env)).all (·.1.isSome) = true := by rfl) (hks : (backToKw pos (keywordEach kws X.env)).filterMap (·.1) = ks := by rfl)
    (hdb : (cn == ("__debug__" : Str)) = false := by decide) (he : starEach (e :: es) X.env = (false, eval e X.env) :: starEach es X.env := by rfl)
    (hpl : ((backTo pos (starEach (e :: es) X.env)).any (·.1) || (backToKw pos (keywordEach kws X.env)).any (·.1.isNone)) = false := by rfl) (hj : ks.length = j := by rfl) :
    DE X (WF E) (.Call (.Name cn p) (e :: es) kws pos) (eMake cn n i j gD F g gk) := by
  subst hj
  obtain ⟨t, pa, s⟩ := ha
  obtain ⟨t', pk, s'⟩ := hkw
  refine ⟨_, pe_makeN Mk' FO hr hg c.mg hb hx pa pk hall hks hdb he hpl, fun Fr B as σ H S M Q rs rp h => ?_⟩
  refine s Fr B as σ H S M _ rs rp (h.bnd.imp fun l M1 B1 as1 s1 p1 h1 vs H1 rp1 r1 => ?_)
  refine s' Fr B1 as1 σ H1 S M1 _ (rs.mono s1 p1) rp1 (h1.bnd.imp fun z M2 B2 as2 s2 p2 h2 zs H2 rp2 r2 => ?_)
  by_cases hl : l.length = i ∧ z.length = ks.length
  · rw [if_pos hl] at h2
    refine ⟨by rw [r1.length, hl.1], by rw [r2.length, hl.2], ?_⟩
    exact make_of (gV := fun v => gV (v :: vs) zs) (gD := fun d => gD d l z) c rp2 (fun d => hn d l z hl.1 hl.2) (fun B3 as3 v d e3 p3 r3 => hD B3 as3 v d vs zs l z r3 (r1.mono s2 p2 |>.mono e3 p3) (r2.mono e3 p3)) h2
  · rw [if_neg hl] at h2; exact h2.elim
end
end DL

set_option Elab.async false
set_option linter.all false
set_option maxRecDepth 100000
set_option maxHeartbeats 4000000
/-! DL8: dicts, isinstance, truth, short words. -/
namespace DL
open PySem L2
/-! ### pairs -/
def pk {α : Type} (kd : List (Key × α)) (k : Key) (d : α) : List (Key × α) :=
  if (kd.any fun p => decide (p.1 = k)) = true then kd.map (fun p => if p.1 = k then (p.1, d) else p) else kd ++ [(k, d)]
def vd {α : Type} (kd : List (Key × α)) (k : Key) : Option α := (kd.find? fun p => decide (p.1 = k)).map (·.2)
inductive RK (G : Gx) (B : Hp) (as : List Addr) : List (Key × V) → List (Key × D) → Prop
  | nil : RK G B as [] []
  | cons {k : Key} {v : V} {d : D} {kv : List (Key × V)} {kd : List (Key × D)} : R G B as v d → RK G B as kv kd → RK G B as ((k, v) :: kv) ((k, d) :: kd)
section
variable {G : Gx} {B B' : Hp} {as as' : List Addr}
theorem RK.mono (e : Same B B') (p : as <+: as') : ∀ {kv : List (Key × V)} {kd : List (Key × D)}, RK G B as kv kd → RK G B' as' kv kd
  | _, _, .nil => .nil
  | _, _, .cons r t => .cons (r.mono e p) (RK.mono e p t)
theorem Rs.rk : ∀ {ks : List Key} {vs : List V} {l : List D}, Rs G B as vs l → ks.length = vs.length → RK G B as (ks.zip vs) (ks.zip l)
  | [], _, _, .nil, _ => .nil
  | k :: ks, _, _, .cons r t, h => .cons r (Rs.rk t (by simpa using h))
theorem RK.keys : ∀ {kv : List (Key × V)} {kd : List (Key × D)}, RK G B as kv kd → kv.map (·.1) = kd.map (·.1)
  | _, _, .nil => rfl
  | _, _, .cons _ t => by simp [RK.keys t]
theorem RK.vals : ∀ {kv : List (Key × V)} {kd : List (Key × D)}, RK G B as kv kd → Rs G B as (kv.map (·.2)) (kd.map (·.2))
  | _, _, .nil => .nil
  | _, _, .cons r t => .cons r (RK.vals t)
theorem RK.len : ∀ {kv : List (Key × V)} {kd : List (Key × D)}, RK G B as kv kd → kv.length = kd.length
  | _, _, .nil => rfl
  | _, _, .cons _ t => by simp [RK.len t]
theorem zip_self {α β : Type} : ∀ kv : List (α × β), (kv.map (·.1)).zip (kv.map (·.2)) = kv
  | [] => rfl
  | (a, b) :: r => by simp [zip_self r]
theorem RK.dct {kv : List (Key × V)} {kd : List (Key × D)} (r : RK G B as kv kd) : (kd.map (·.1)).zip (kv.map (·.2)) = kv ∧ (kd.map (·.1)).length = (kv.map (·.2)).length := by
  rw [← r.keys]
  exact ⟨zip_self kv, by simp⟩
theorem RK.any {k : Key} : ∀ {kv : List (Key × V)} {kd : List (Key × D)}, RK G B as kv kd → (kv.any fun p => decide (p.1 = k)) = (kd.any fun p => decide (p.1 = k))
  | _, _, .nil => rfl
  | _, _, .cons _ t => by simp only [List.any_cons, RK.any t]
theorem RK.app : ∀ {kv kv' : List (Key × V)} {kd kd' : List (Key × D)}, RK G B as kv kd → RK G B as kv' kd' → RK G B as (kv ++ kv') (kd ++ kd')
  | _, _, _, _, .nil, q => q
  | _, _, _, _, .cons r t, q => .cons r (RK.app t q)
theorem RK.map {k : Key} {v : V} {d : D} (r : R G B as v d) : ∀ {kv : List (Key × V)} {kd : List (Key × D)}, RK G B as kv kd → RK G B as (kv.map fun p => if p.1 = k then (p.1, v) else p) (kd.map fun p => if p.1 = k then (p.1, d) else p)
  | _, _, .nil => .nil
  | _, _, .cons (k := k') q t => by
    simp only [List.map_cons]
    by_cases h : k' = k
    · simp only [if_pos h]; exact .cons r (RK.map r t)
    · simp only [if_neg h]; exact .cons q (RK.map r t)
theorem RK.put {k : Key} {v : V} {d : D} {kv : List (Key × V)} {kd : List (Key × D)} (h : RK G B as kv kd) (r : R G B as v d) : RK G B as (putK kv k v) (pk kd k d) := by
  unfold putK pk
  rw [h.any]
  by_cases c : (kd.any fun p => decide (p.1 = k)) = true
  · rw [if_pos c, if_pos c]; exact h.map r
  · rw [if_neg c, if_neg c]; exact h.app (.cons r .nil)
theorem RK.val {k : Key} {d : D} : ∀ {kv : List (Key × V)} {kd : List (Key × D)}, RK G B as kv kd → vd kd k = some d → ∃ v, valV kv k = some v ∧ R G B as v d
  | _, _, .nil, h => by simp [vd] at h
  | _, _, .cons (k := k') q t, h => by
    by_cases c : k' = k
    · subst c
      simp [vd] at h
      subst h
      exact ⟨_, valV_pos rfl, q⟩
    · rw [valV_neg c]
      exact RK.val t (by simpa [vd, c] using h)
theorem RK.has {k : Key} : ∀ {kv : List (Key × V)} {kd : List (Key × D)}, RK G B as kv kd → (valV kv k).isSome = (vd kd k).isSome
  | _, _, .nil => rfl
  | _, _, .cons (k := k') q t => by
    by_cases c : k' = k
    · subst c; rw [valV_pos rfl]; simp [vd]
    · rw [valV_neg c, RK.has t]; simp [vd, c]
theorem RK.merge : ∀ {more : List (Key × V)} {kd' : List (Key × D)} {kv : List (Key × V)} {kd : List (Key × D)}, RK G B as more kd' → RK G B as kv kd → RK G B as (mergeK kv more) (kd'.foldl (fun acc p => pk acc p.1 p.2) kd)
  | _, _, _, _, .nil, h => h
  | _, _, _, _, .cons (k := k) r t, h => by
    have q := RK.merge t (h.put (k := k) r)
    exact q
end
def toK : D → Option Key
  | .int i => some (.inl i)
  | .str x => some (.inr x)
  | _ => none
theorem R.toK {G : Gx} {B : Hp} {as : List Addr} {v : V} {d : D} {k : Key} (r : R G B as v d) (h : DL.toK d = some k) : v = kV k := by
  cases r <;> first | (cases h; rfl) | (cases h)
section
variable {X : Cx} {W : WX} {e o a b c i : Expr} {pos p apos cpos : Pos} {x m f : Str}
/-! ### d[k], k in d -/
def getK (x y : D) : Ev D := (vw x).bnd fun p => match p.1, toK y with
  | .dct ks, some k => match vd (ks.zip p.2) k with
    | some d => Ev.ret d
    | none => Ev.no
  | _, _ => Ev.no
theorem de_dget {fo fi : Lo → Ev D} (hu : X.A.units + 1 < cLine) (ho : DE X W o fo) (hi : DE X W i fi) (hs : NoSl i) : DE X W (.Subscript o i pos) (e2 getK fo fi) := by
  obtain ⟨t, p, s⟩ := ho
  obtain ⟨t', p', s'⟩ := hi
  refine ⟨_, pe_dget hu p p' hs, fun Fr B as σ H S M Q rs rp h => ?_⟩
  refine s Fr B as σ H S M _ rs rp (h.bnd.imp fun x M1 B1 as1 s1 p1 h1 v H1 rp1 r1 => ?_)
  refine s' Fr B1 as1 σ H1 S M1 _ (rs.mono s1 p1) rp1 (h1.bnd.imp fun y M2 B2 as2 s2 p2 h2 w H2 rp2 r2 => ?_)
  obtain ⟨t, l, q, vs, rfl, fc, rs2, h9, _⟩ := Post.vw (d := x) h2 rp2 (r1.mono s2 p2)
  cases t <;> first | exact h9.elim | skip
  rename_i ks _
  dsimp only at h9
  cases qk : toK y with
  | none => rw [qk] at h9; exact h9.elim
  | some k =>
    rw [qk] at h9
    dsimp only at h9
    cases qv : vd (ks.zip l) k with
    | none => rw [qv] at h9; exact h9.elim
    | some d =>
      rw [qv] at h9
      obtain ⟨u, hu, ru⟩ := (rs2.rk fc.2).val qv
      have := r2.toK qk
      subst this
      refine ⟨q, u, rfl, ?_, h9.ret u H2 rp2 ru⟩
      have g := DGet.k (k := k) fc.1
      rw [hu] at g
      exact g
def inK (neg : Bool) (y x : D) : Ev D := (vw x).bnd fun p => match p.1, toK y with
  | .dct ks, some k => Ev.ret (.bl (neg ^^ (vd (ks.zip p.2) k).isSome))
  | _, _ => Ev.no
theorem inK_ok {Fr B : Hp} {as : List Addr} {σ : St} {H : Hp} {M : Store} {v w : V} {x y : D} {Q : VK} {neg : Bool} (rp : Rep (gx X) Fr B as H M) (r1 : R (gx X) B as v y) (r2 : R (gx X) B as w x) (h : Post B as (inK neg y x M) (kD X Fr Q) (kX X Fr W σ)) :
    ∃ a o, w = .ref a ∧ DGet H a v o ∧ Q (.bl (neg ^^ o.isSome)) H := by
  obtain ⟨t, l, q, vs, rfl, fc, rs2, h9, _⟩ := Post.vw (d := x) h rp r2
  cases t <;> first | exact h9.elim | skip
  rename_i ks _
  dsimp only at h9
  cases qk : toK y with
  | none => rw [qk] at h9; exact h9.elim
  | some k =>
    rw [qk] at h9
    have := r1.toK qk
    subst this
    have e := (rs2.rk fc.2).has (k := k)
    refine ⟨q, _, rfl, DGet.k (k := k) fc.1, ?_⟩
    rw [e]
    exact (Post.ret (a := D.bl (neg ^^ (vd (ks.zip l) k).isSome)) h9) _ H rp (.bl _)
theorem de_din {fo fi : Lo → Ev D} (hu : X.A.units + 1 < cLine) (hi : DE X W i fi) (ho : DE X W o fo) (hm : behindInMarks .In o = false := by rfl) : DE X W (.Compare i [.In] [o] pos) (e2 (inK false) fi fo) := by
  obtain ⟨t, p, s⟩ := hi
  obtain ⟨t', p', s'⟩ := ho
  refine ⟨_, pe_cmp (pc_din hu p p') hm, fun Fr B as σ H S M Q rs rp h => ?_⟩
  refine s Fr B as σ H S M _ rs rp (h.bnd.imp fun x M1 B1 as1 s1 p1 h1 v H1 rp1 r1 => ?_)
  refine s' Fr B1 as1 σ H1 S M1 _ (rs.mono s1 p1) rp1 (h1.bnd.imp fun y M2 B2 as2 s2 p2 h2 w H2 rp2 r2 => ?_)
  obtain ⟨a, o, e1, g, q⟩ := inK_ok rp2 (r1.mono s2 p2) r2 h2
  exact ⟨a, o, e1, g, by simpa using q⟩
theorem de_dnotin {fo fi : Lo → Ev D} (hu : X.A.units + 1 < cLine) (hi : DE X W i fi) (ho : DE X W o fo) (hm : behindInMarks .NotIn o = false := by rfl) : DE X W (.Compare i [.NotIn] [o] pos) (e2 (inK true) fi fo) := by
  obtain ⟨t, p, s⟩ := hi
  obtain ⟨t', p', s'⟩ := ho
  refine ⟨_, pe_cmp (pc_dnotin hu p p') hm, fun Fr B as σ H S M Q rs rp h => ?_⟩
  refine s Fr B as σ H S M _ rs rp (h.bnd.imp fun x M1 B1 as1 s1 p1 h1 v H1 rp1 r1 => ?_)
  refine s' Fr B1 as1 σ H1 S M1 _ (rs.mono s1 p1) rp1 (h1.bnd.imp fun y M2 B2 as2 s2 p2 h2 w H2 rp2 r2 => ?_)
  obtain ⟨a, o, e1, g, q⟩ := inK_ok rp2 (r1.mono s2 p2) r2 h2
  exact ⟨a, o, e1, g, by simpa using q⟩
theorem tB_of {t : TE} {f : Lo → Ev D} (s : ∀ Fr B as σ H S M Q, RS (gx X) B as σ S → Rep (gx X) Fr B as H M → Post B as (f S M) (kD X Fr Q) (kX X Fr W σ) → t σ H Q) :
    ∀ Fr B as σ H S M Q, RS (gx X) B as σ S → Rep (gx X) Fr B as H M → Post B as (eB f S M) (kB X Fr Q) (kX X Fr W σ) → tB t σ H Q := fun Fr B as σ H S M Q rs rp h => by
  refine s Fr B as σ H S M _ rs rp (h.bnd.imp fun x M1 B1 as1 s1 p1 h1 v H1 rp1 r1 => ?_)
  cases r1 <;> first | exact h1.elim | skip
  exact ⟨_, rfl, h1.ret H1 rp1⟩
theorem dt_din {fo fi : Lo → Ev D} (hu : X.A.units + 1 < cLine) (hi : DE X W i fi) (ho : DE X W o fo) (hm : behindInMarks .In o = false := by rfl) : DT X W (.Compare i [.In] [o] pos) (eB (e2 (inK false) fi fo)) := by
  obtain ⟨t, p, s⟩ := hi
  obtain ⟨t', p', s'⟩ := ho
  refine ⟨_, pt_cmp (pc_din hu p p') hm, tB_of fun Fr B as σ H S M Q rs rp h => ?_⟩
  refine s Fr B as σ H S M _ rs rp (h.bnd.imp fun x M1 B1 as1 s1 p1 h1 v H1 rp1 r1 => ?_)
  refine s' Fr B1 as1 σ H1 S M1 _ (rs.mono s1 p1) rp1 (h1.bnd.imp fun y M2 B2 as2 s2 p2 h2 w H2 rp2 r2 => ?_)
  obtain ⟨a, o, e1, g, q⟩ := inK_ok rp2 (r1.mono s2 p2) r2 h2
  exact ⟨a, o, e1, g, by simpa using q⟩
theorem dt_dnotin {fo fi : Lo → Ev D} (hu : X.A.units + 1 < cLine) (hi : DE X W i fi) (ho : DE X W o fo) (hm : behindInMarks .NotIn o = false := by rfl) : DT X W (.Compare i [.NotIn] [o] pos) (eB (e2 (inK true) fi fo)) := by
  obtain ⟨t, p, s⟩ := hi
  obtain ⟨t', p', s'⟩ := ho
  refine ⟨_, pt_cmp (pc_dnotin hu p p') hm, tB_of fun Fr B as σ H S M Q rs rp h => ?_⟩
  refine s Fr B as σ H S M _ rs rp (h.bnd.imp fun x M1 B1 as1 s1 p1 h1 v H1 rp1 r1 => ?_)
  refine s' Fr B1 as1 σ H1 S M1 _ (rs.mono s1 p1) rp1 (h1.bnd.imp fun y M2 B2 as2 s2 p2 h2 w H2 rp2 r2 => ?_)
  obtain ⟨a, o, e1, g, q⟩ := inK_ok rp2 (r1.mono s2 p2) r2 h2
  exact ⟨a, o, e1, g, by simpa using q⟩
/-! ### d[k] = v -/
def putE (d x y : D) : Ev Unit := match x, toK y with
  | .ref n, some k => fun M => match M[n]? with
    | some (.dct ks, l) => if ks.length < sizeLine ∧ ks.length = l.length then .ok () (M.set n (.dct ((pk (ks.zip l) k d).map (·.1)), (pk (ks.zip l) k d).map (·.2))) else .stuck
    | _ => .stuck
  | _, _ => Ev.no
def sDPutD (fo fi fv : Lo → Ev D) : Lo → Ev Fl := fun S => (fv S).fl S fun d => (fo S).fl S fun x => (fi S).fl S fun y => (putE d x y).bnd fun _ => Ev.ret (.nx S)
theorem ds_dput {fo fi fv : Lo → Ev D} {pos' : Pos} (hu : X.A.units + 1 < cLine) (ho : DE X W o fo) (hi : DE X W i fi) (hv : DE X W e fv) (hs : swapsWith e (some (.Subscript o i pos')) pos.line X.env = pure false := by rfl) : DS X W (.Assign [.Subscript o i pos'] e pos) (sDPutD fo fi fv) := by
  obtain ⟨t, p, s⟩ := ho
  obtain ⟨t', p', s'⟩ := hi
  obtain ⟨t'', p'', s''⟩ := hv
  refine ⟨_, ps_dput hu p p' p'' hs, fun Fr B as σ H S M D rs rp h => ?_⟩
  refine s'' Fr B as σ H S M _ rs rp ((Post.fl rs h).imp fun d M1 B1 as1 s1 p1 h1 v H1 rp1 r1 => ?_)
  refine s Fr B1 as1 σ H1 S M1 _ (rs.mono s1 p1) rp1 ((Post.fl (rs.mono s1 p1) h1).imp fun x M2 B2 as2 s2 p2 h2 xv H2 rp2 r2 => ?_)
  have rs2 := (rs.mono s1 p1).mono s2 p2
  refine s' Fr B2 as2 σ H2 S M2 _ rs2 rp2 ((Post.fl rs2 h2).imp fun y M3 B3 as3 s3 p3 h3 yv H3 rp3 r3 => ?_)
  have rd := r1.mono s2 p2 |>.mono s3 p3
  have rx := r2.mono s3 p3
  have h9 := h3.bnd
  clear h3
  unfold putE at h9
  cases rx <;> first | (cases toK y <;> exact h9.elim) | skip
  rename_i n a ha
  cases qk : toK y with
  | none => simp only [qk] at h9; exact h9.elim
  | some k =>
    simp only [qk] at h9
    cases q : M3[n]? with
    | none => simp only [q] at h9; exact h9.elim
    | some cc =>
      obtain ⟨t, l⟩ := cc
      simp only [q] at h9
      obtain ⟨vs, mc, rsc⟩ := rp3.cell n a _ ha q
      cases t <;> first | exact h9.elim | skip
      rename_i ks
      dsimp only at h9
      by_cases hc : ks.length < sizeLine ∧ ks.length = l.length
      · rw [if_pos hc] at h9
        obtain ⟨mh, ml⟩ := mc
        have rk := (rsc.rk ml).put (k := k) rd
        have := r3.toK qk
        subst this
        refine ⟨a, _, rfl, DPut.k (k := k) mh (by rw [List.length_zip]; omega), ?_⟩
        obtain ⟨z1, z2⟩ := rk.dct
        refine (Post.ok h9).ret σ _ (rp3.write (t := .dct _) (vs := (putK (ks.zip vs) k v).map (·.2)) ha ?_ rk.vals) (rs2.mono s3 p3)
        exact ⟨by rw [upd_same, z1], z2⟩
      · rw [if_neg hc] at h9; exact h9.elim
/-! ### {} and {k: v, ..} -/
theorem dn_dnew : DN X W (.Dict [] [] pos) (fun _ => Ev.ret (.n (.dct []) [])) := ⟨_, pe_dnewK, fun Fr B as σ H S M Q rs rp h z hz => h.ret [] H z rp .nil hz⟩
theorem kX_frame {Fr : Hp} {σ : St} {z : Addr} {o : HO} (hF : Fr z = none) {c : Str} {d : D} {M : Store} {B : Hp} {as : List Addr} (h : kX X Fr W σ c d M B as) : kX X (upd Fr z o) W σ c d M B as := fun cls dx H rp xr => h cls dx H (rp.outFrame hF) xr
theorem Post.frame {α : Type} {Fr B : Hp} {as : List Addr} {σ : St} {z : Addr} {o : HO} {m : Out α} {k : α → Store → Hp → List Addr → Prop} (hF : Fr z = none) (h : Post B as m k (kX X Fr W σ)) : Post B as m k (kX X (upd Fr z o) W σ) := by
  cases m with
  | ok a M => exact h
  | exc c d M => exact fun B2 as2 e2 p2 => kX_frame hF (h B2 as2 e2 p2)
  | stuck => exact h
/-- the pairs of a display -/
def DPs (X : Cx) (W : WX) (pos : Pos) (ks : List (Option Expr)) (vs : List Expr) (f : Lo → Ev (List (Key × D))) : Prop := ∃ trs, PPs X pos ks vs trs ∧ ∀ Fr B as σ H S M (Q : List (V × V) → Hp → Prop), RS (gx X) B as σ S → Rep (gx X) Fr B as H M →
  Post B as (f S M) (fun kd M B as => ∀ kv H, Rep (gx X) Fr B as H M → RK (gx X) B as kv kd → Q (kv.map fun p => (kV p.1, p.2)) H) (kX X Fr W σ) → tPairs trs σ H Q
def pNil : Lo → Ev (List (Key × D)) := fun _ => Ev.ret []
def pCons (fk fv : Lo → Ev D) (fr : Lo → Ev (List (Key × D))) : Lo → Ev (List (Key × D)) := fun S => (fk S).bnd fun x => (fv S).bnd fun y => (fr S).bnd fun r => match toK x with
  | some k => Ev.ret ((k, y) :: r)
  | none => Ev.no
theorem dps_nil : DPs X W pos [] [] pNil := ⟨[], pps_nil, fun _ _ _ _ H _ _ _ _ rp h => h.ret [] H rp .nil⟩
theorem dps_cons {kx vx : Expr} {ks : List (Option Expr)} {vs : List Expr} {fk fv : Lo → Ev D} {fr : Lo → Ev (List (Key × D))} (hk : DE X W kx fk) (hv : DE X W vx fv) (hr : DPs X W pos ks vs fr) : DPs X W pos (some kx :: ks) (vx :: vs) (pCons fk fv fr) := by
  obtain ⟨t, p, s⟩ := hk
  obtain ⟨t', p', s'⟩ := hv
  obtain ⟨ts, ps, ss⟩ := hr
  refine ⟨(t, t') :: ts, pps_cons p p' ps, fun Fr B as σ H S M Q rs rp h => ?_⟩
  refine s Fr B as σ H S M _ rs rp (h.bnd.imp fun x M1 B1 as1 s1 p1 h1 v H1 rp1 r1 => ?_)
  refine s' Fr B1 as1 σ H1 S M1 _ (rs.mono s1 p1) rp1 (h1.bnd.imp fun y M2 B2 as2 s2 p2 h2 w H2 rp2 r2 => ?_)
  refine ss Fr B2 as2 σ H2 S M2 _ ((rs.mono s1 p1).mono s2 p2) rp2 (h2.bnd.imp fun kd M3 B3 as3 s3 p3 h3 kv H3 rp3 r3 => ?_)
  cases qk : toK x with
  | none => rw [qk] at h3; exact h3.elim
  | some k =>
    rw [qk] at h3
    have := r1.toK qk
    subst this
    exact h3.ret ((k, w) :: kv) H3 rp3 (.cons (r2.mono s3 p3) r3)
def pMrg (kd : List (Key × D)) : List (Key × D) := kd.foldl (fun acc p => pk acc p.1 p.2) []
def nDisp (f : Lo → Ev (List (Key × D))) : Lo → Ev NR := fun S => (f S).bnd fun kd => if kd.length ≤ 15 then Ev.ret (.n (.dct ((pMrg kd).map (·.1))) ((pMrg kd).map (·.2))) else Ev.no
theorem dn_disp {keys : List (Option Expr)} {values : List Expr} {f : Lo → Ev (List (Key × D))} (h : DPs X W pos keys values f) (hall : keys.all (·.isSome) = true := by rfl) (hl : keys.length = values.length := by rfl) (h0 : keys ≠ [] := by simp) (h15 : keys.length ≤ 15 := by decide) : DN X W (.Dict keys values pos) (nDisp f) := by
  obtain ⟨trs, ps, ss⟩ := h
  refine ⟨_, pe_disp ps hall hl h0 h15, fun Fr B as σ H S M Q rs rp h z hz => ?_⟩
  obtain ⟨nb, na⟩ := rp.fresh hz
  have hF := rp.frm.free hz
  have rp0 := ((rp.laid (o := .dK []) hz).inFrame upd_same hF nb na)
  refine ss _ B as σ _ S M _ rs rp0 ?_
  have h1 := h.bnd
  -- the exception's wish does not speak of the frame's extra cell
  refine Post.frame (X := X) (W := W) hF (h1.imp fun kd M1 B1 as1 s1 p1 h2 kv H1 rp1 rk => ?_)
  by_cases c : kd.length ≤ 15
  · rw [if_pos c] at h2
    have hp : H1 z = some (.dK []) := rp1.frm z _ upd_same
    refine ⟨hp, kv, rfl, by rw [rk.len]; exact c, ?_⟩
    have rm := RK.merge rk (.nil : RK (gx X) B1 as1 [] [])
    have hB1 := rp1.dis z _ upd_same
    have rh : Rep (gx X) Fr B1 as1 (hole H1 z) M1 := (rp1.outFrame hF).hole hB1 hF fun hz' => by
      have := rp1.fout z hz'
      rw [upd_same] at this; cases this
    have q := h2.ret _ (hole H1 z) z rh rm.vals hole_at
    obtain ⟨z1, z2⟩ := rm.dct
    have e : upd (hole H1 z) z (hoT (.dct ((pMrg kd).map (·.1))) ((mergeK [] kv).map (·.2))) = upd H1 z (.dK (mergeK [] kv)) := by
      funext y
      by_cases hy : y = z
      · subst hy
        rw [upd_same, upd_same]
        show some (HO.dK (((pMrg kd).map (·.1)).zip ((mergeK [] kv).map (·.2)))) = _
        unfold pMrg
        rw [z1]
      · rw [upd_ne hy, upd_ne hy, hole_ne hy]
    rw [e] at q
    exact q
  · rw [if_neg c] at h2; exact h2.elim
end
end DL

set_option Elab.async false
set_option linter.all false
set_option maxRecDepth 100000
set_option maxHeartbeats 4000000
/-! DL9: dict comprehensions, update, sorted, truth, isinstance, parallel stores, short words, the end. -/
namespace DL
open PySem L2
section
variable {X : Cx} {W : WX} {e o a b c i : Expr} {pos p apos cpos : Pos} {x m f : Str}
/-! ### {k: v for ..} -/
noncomputable def compK (tg : D → Lo → Ev Lo) (tt : Lo → Ev Bool) (tk te : Lo → Ev D) (g : Gd) (S : Lo) : List D → List (Key × D) → Ev (List (Key × D))
  | [], kd => chk g (Ev.ret kd)
  | d :: ds, kd => chk g ((Ev.nox (tg d S)).bnd fun S1 => (Ev.nox (tt S1)).bnd fun b => if b = true then (Ev.nox (tk S1)).bnd fun x => (Ev.nox (te S1)).bnd fun y => (match toK x with
      | some k => if kd.length < sizeLine then compK tg tt tk te g S ds (pk kd k y) else Ev.no
      | none => Ev.no) else compK tg tt tk te g S ds kd)
noncomputable def nDc (fi : Lo → Ev (List D × Gd)) (tg : D → Lo → Ev Lo) (tt : Lo → Ev Bool) (tk te : Lo → Ev D) (vs : List Nat) : Lo → Ev NR := fun S => (fi S).bnd fun r => (compK tg tt tk te r.2 (wipeD S vs) r.1 []).bnd fun kd => Ev.ret (.n (.dct (kd.map (·.1))) (kd.map (·.2)))
theorem dn_dc {kx elt tg iter : Expr} {ifs : List Expr} {scope : Scope} {own : List (Str × Nat)} {ps : List Nat} {fi : Lo → Ev (List D × Gd)} {ft : D → Lo → Ev Lo} {fc : Lo → Ev Bool} {fk fe : Lo → Ev D} (hc : X.calm = true) (hN : X.N.Nodup) (hi : DI X W tg iter fi) (ok : BlkOk X.N X.env.scope scope own)
    (hg : ∀ (s : Shared) (H : Hp) (C : Addr) (cl : List (Str × Addr)) (fp : List Addr), DG (X.blk s H scope (compEnvC scope cl C X.env) fp) W0 tg ps ft)
    (ht : ∀ (s : Shared) (H : Hp) (C : Addr) (cl : List (Str × Addr)) (fp : List Addr), DTs (X.blk s H scope (compEnvC scope cl C X.env) fp) W0 ifs fc)
    (hk : ∀ (s : Shared) (H : Hp) (C : Addr) (cl : List (Str × Addr)) (fp : List Addr), DE (X.blk s H scope (compEnvC scope cl C X.env) fp) W0 kx fk)
    (he : ∀ (s : Shared) (H : Hp) (C : Addr) (cl : List (Str × Addr)) (fp : List Addr), DE (X.blk s H scope (compEnvC scope cl C X.env) fp) W0 elt fe)
    (hps : ∀ i ∈ ps, i ∈ own.map (·.2)) (hs : ∀ x, foldedSetIterable iter X.env x = pure x := by intro _; rfl) :
    DN X W (.DictComp kx elt [⟨tg, iter, ifs, 0⟩] scope pos) (nDc fi ft fc fk fe (own.map (·.2))) := by
  obtain ⟨wi, pi, si⟩ := hi
  refine ⟨_, pe_dc hc hN pi ok (g := tG X ps ft) (tt := tT X W0 fc) (tk := tE X W0 fk) (tv := tE X W0 fe) (fun s H C cl fp => (hg s H C cl fp).pg) (fun s H C cl fp => (ht s H C cl fp).pts) (fun s H C cl fp => (hk s H C cl fp).pe) (fun s H C cl fp => (he s H C cl fp).pe) hs, fun Fr B as σ H S M Q rs rp h => ?_⟩
  refine si Fr B as σ H S M _ rs rp (h.bnd.imp fun r M1 B1 as1 s1 p1 h1 J H1 rp1 io p hp => ?_)
  obtain ⟨items, g⟩ := r
  dsimp only at h1 io
  have hole0 : hole (upd H1 p (.dK [])) p = H1 := by
    funext b
    by_cases hb : b = p
    · subst hb; rw [hole_at, hp]
    · rw [hole_ne hb, upd_ne hb]
  refine ⟨fun i m H => m = items.length - i ∧ i ≤ items.length ∧ ∃ B' as' M' kd kv, Same B1 B' ∧ as1 <+: as' ∧ H p = some (.dK kv) ∧ Rep (gx X) Fr B' as' (hole H p) M' ∧ RK (gx X) B' as' kv kd ∧
      Post B' as' (((compK ft fc fk fe g (wipeD S (own.map (·.2))) (items.drop i) kd).bnd fun kd => Ev.ret (NR.n (.dct (kd.map (·.1))) (kd.map (·.2)))) M') (kN X Fr Q) (kX X Fr W σ),
    ⟨items.length, by simp, Nat.zero_le _, B1, as1, M1, [], [], Same.refl _, List.prefix_refl _, upd_same, by rw [hole0]; exact rp1, .nil, h1⟩, ?_⟩
  rintro i m H ⟨rfl, hi, B2, as2, M2, kd, kv, s2, p2, hH, rp2, rk, h2⟩
  have hF : Fr p = none := rp2.frm.free hole_at
  obtain ⟨hB, hA⟩ := rp2.fresh (p := p) hole_at
  have full : Rep (gx X) (upd Fr p (.dK kv)) B2 as2 H M2 := by
    have q := (rp2.laid (o := .dK kv) hole_at)
    rw [upd_hole hH] at q
    exact q.inFrame hH hF hB hA
  by_cases hlt : i < items.length
  · rw [drop_cons hlt] at h2
    unfold compK at h2
    obtain ⟨hg2, h2⟩ := h2.bnd.chk
    obtain ⟨hgo, hy⟩ := io.go i items[i] (List.getElem?_eq_getElem hlt) _ B2 as2 H M2 s2 p2 full hg2
    refine .inr ⟨hgo, fun H' => ∃ B' as' M' kd kv, Same B1 B' ∧ as1 <+: as' ∧ H' p = some (.dK kv) ∧ Rep (gx X) Fr B' as' (hole H' p) M' ∧ RK (gx X) B' as' kv kd ∧
      Post B' as' (((compK ft fc fk fe g (wipeD S (own.map (·.2))) (items.drop (i + 1)) kd).bnd fun kd => Ev.ret (NR.n (.dct (kd.map (·.1))) (kd.map (·.2)))) M') (kN X Fr Q) (kX X Fr W σ), fun H' q => ⟨items.length - (i + 1), by omega, rfl, hlt, q⟩, fun x H' y => ?_⟩
    obtain ⟨B3, s3, rp3, r3⟩ := hy x H' y
    have h3 := h2.mono s3 (List.prefix_refl _)
    have rsW := ((rs.mono s1 p1).mono s2 p2).mono s3 (List.prefix_refl _) |>.wipe (own.map (·.2))
    refine ⟨_, B3, as2, _, M2, items[i], rsW, rp3, r3, (h3.bnd.nox (x' := fun _ _ _ _ _ => False)).imp fun S4 M4 B4 as4 s4 p4 h4 σ4 H4 rp4 rs4 ag l4 => ⟨wipe_agree (l4.trans (wipe_length _ _)) fun j hj => ag j fun z => hj (hps j z), ?_⟩⟩
    refine ⟨_, B4, as4, S4, M4, rs4, rp4, (h4.bnd.nox (x' := _)).imp fun bo M5 B5 as5 s5 p5 h5 H5 rp5 => ?_⟩
    have kp : ∀ {B' : Hp} {as' : List Addr} {H' : Hp} {M' : Store}, Rep (gx X) (upd Fr p (.dK kv)) B' as' H' M' → H' p = some (.dK kv) := fun q => q.frm p _ upd_same
    have hol : ∀ {B' : Hp} {as' : List Addr} {H' : Hp} {M' : Store}, Rep (gx X) (upd Fr p (.dK kv)) B' as' H' M' → Rep (gx X) Fr B' as' (hole H' p) M' := fun {B' as' H' M'} q => by
      refine (q.outFrame hF).hole (q.dis p _ upd_same) hF fun hz => ?_
      have := q.fout p hz
      rw [upd_same] at this; cases this
    cases bo with
    | false =>
      dsimp only
      rw [if_neg Bool.false_ne_true] at h5 ⊢
      exact ⟨B5, as5, M5, kd, kv, s2.trans (s3.trans (s4.trans s5)), p2.trans (p4.trans p5), kp rp5, hol rp5, rk.mono (s3.trans (s4.trans s5)) (p4.trans p5), h5.unbnd⟩
    | true =>
      dsimp only
      rw [if_pos rfl] at h5 ⊢
      refine ⟨_, B5, as5, S4, M5, rs4.mono s5 p5, rp5, (h5.bnd.nox (x' := _)).imp fun xd M6 B6 as6 s6 p6 h6 xv H6 rp6 r6 => ?_⟩
      refine ⟨_, B6, as6, S4, M6, (rs4.mono s5 p5).mono s6 p6, rp6, (h6.bnd.nox (x' := _)).imp fun yd M7 B7 as7 s7 p7 h7 yv H7 rp7 r7 => ?_⟩
      cases qk : toK xd with
      | none => rw [qk] at h7; exact h7.elim
      | some k =>
        rw [qk] at h7
        dsimp only at h7
        by_cases hz : kd.length < sizeLine
        · rw [if_pos hz] at h7
          have := r6.toK qk
          subst this
          have rk7 := rk.mono (s3.trans (s4.trans (s5.trans (s6.trans s7)))) (p4.trans (p5.trans (p6.trans p7)))
          exact ⟨kv, k, rfl, kp rp7, by rw [rk.len]; exact hz, B7, as7, M7, pk kd k yd, putK kv k yv, s2.trans (s3.trans (s4.trans (s5.trans (s6.trans s7)))), p2.trans (p4.trans (p5.trans (p6.trans p7))), upd_same, by rw [hole_upd]; exact hol rp7, rk7.put r7, h7.unbnd⟩
        · rw [if_neg hz] at h7; exact h7.elim
  · have e : i = items.length := by omega
    subst e
    rw [List.drop_length] at h2
    unfold compK at h2
    obtain ⟨hg2, h2⟩ := h2.bnd.chk
    have h3 := h2.ret
    refine .inl ⟨io.stop _ B2 as2 H M2 s2 p2 full hg2, ?_⟩
    have := h3.ret (kv.map (·.2)) (hole H p) p rp2 rk.vals hole_at
    have e2 : upd (hole H p) p (hoT (.dct (kd.map (·.1))) (kv.map (·.2))) = H := by
      show upd (hole H p) p (HO.dK ((kd.map (·.1)).zip (kv.map (·.2)))) = H
      rw [rk.dct.1]
      exact upd_hole hH
    rw [e2] at this
    exact this
/-! ### d.update(d2) -/
def rUpdate : V → List V → Hp → VK → Prop := fun x vs H Q => ∃ d o kvs more, x = .ref d ∧ vs = [.ref o] ∧ d ≠ o ∧ H d = some (.dK kvs) ∧ H o = some (.dK more) ∧ kvs.length + more.length ≤ sizeLine ∧ Q .non (upd H d (.dK (mergeK kvs more)))
theorem mt_update : MtM X "dict.update" rUpdate := by
  intro pins s σ H x vs v us Q I rx rv h
  obtain ⟨d, o, kvs, more, rfl, rfl, hne, hd, ho, hz, q⟩ := h
  cases rx
  obtain ⟨u, rfl, ru⟩ := rv.one
  cases ru
  obtain ⟨z, hs, ws, rel, dd⟩ := dk_of I.hok hd
  obtain ⟨z2, hs2, ws2, rel2, dd2⟩ := dk_of I.hok ho
  refine PySem.call_meetsIn PySem.F.slot_dict_update dd.typeIs PySem.F.entry_dict_update (PySem.F.args_dict_update_2 _ _) (PySem.meets_dict_update (mixKind X.prog X.w) d o hne hs2) ⟨ws, ws2, dd, dd2, ?_, fun h' dd' _ hsb => ?_⟩
  · rw [← rel.length, ← rel2.length]; exact hz
  · have he : ∃ q, h'.get? d = some q := let ⟨q, _, _, hq, _⟩ := dd'; ⟨q, hq⟩
    have hl : (mergeK kvs more).length ≤ sizeLine := Nat.le_trans (length_mergeK more kvs) hz
    exact ⟨.non, _, d_write (t' := s.toks) I (by rw [hd]; exact True.intro) hsb he (dk_new hl hs (rel2.merge rel) dd'), rfl, q⟩
def isCellK : D → Ev Unit
  | .ref n => fun M => match M[n]? with
    | some (.dct _, _) => .ok () M
    | _ => .stuck
  | _ => Ev.no
def notRef (n : Nat) : D → Bool
  | .ref m => decide (m ≠ n)
  | _ => true
def updE (x : D) (args : List D) : Ev D := match x, args with
  | .ref n, [y] => (vw y).bnd fun p => fun M => match M[n]?, p.1 with
    | some (.dct ks, l), .dct ks' => if notRef n y = true ∧ ks.length = l.length ∧ ks'.length = p.2.length ∧ ks.length + ks'.length ≤ sizeLine then
        .ok .non (M.set n (.dct (((ks'.zip p.2).foldl (fun acc q => pk acc q.1 q.2) (ks.zip l)).map (·.1)), ((ks'.zip p.2).foldl (fun acc q => pk acc q.1 q.2) (ks.zip l)).map (·.2))) else .stuck
    | _, _ => .stuck
  | _, _ => Ev.no
def eBk (op : D → List D → Ev D) (fo : Lo → Ev D) (fa : Lo → Ev (List D)) : Lo → Ev D := fun S => (fo S).bnd fun x => (isCellK x).bnd fun _ => (fa S).bnd fun l => op x l
theorem Post.isCellK {α : Type} {Fr B : Hp} {as : List Addr} {d : D} {f : Unit → Ev α} {M : Store} {H : Hp} {v : V} {k : α → Store → Hp → List Addr → Prop} {x : Str → D → Store → Hp → List Addr → Prop} (h : Post B as (((DL.isCellK d).bnd f) M) k x)
    (rp : Rep (gx X) Fr B as H M) (r : R (gx X) B as v d) : tyV X.K "dict" v H ∧ Post B as (f () M) k x := by
  cases r with
  | ref ha =>
    rename_i n a
    unfold Ev.bnd DL.isCellK at h
    cases q : M[n]? with
    | none => simp only [q] at h; exact h.elim
    | some c =>
      obtain ⟨t, l⟩ := c
      simp only [q] at h
      obtain ⟨vs, mc, rs⟩ := rp.cell n a _ ha q
      cases t <;> first | exact h.elim | skip
      exact ⟨.inr (.inr (.inl ⟨rfl, .inl ⟨_, mc.1⟩⟩)), h⟩
  | _ => exact h.elim
theorem de_update {fo : Lo → Ev D} {fa : Lo → Ev (List D)} (ho : DE X W o fo) (ha : DA X W [e] fa)
    (hbase : attributeBase o "update" X.env (eval o X.env) = eval o X.env := by rfl)
    (hfew : ((backTo cpos (starEach [e] X.env)).all (fun x => !x.1) && (backToKw cpos (keywordEach [] X.env)).all (fun x => x.1.isSome)
      && decide ([e].length + ([] : List Keyword).length + (if ([] : List Keyword).isEmpty then 0 else 1) < 30)) = true := by rfl)
    (hline : (apos.endLine == cpos.line) = true := by rfl) (hs : starEach [e] X.env = (false, eval e X.env) :: starEach [] X.env := by rfl) (hplain : (backTo cpos (starEach [] X.env)).any (·.1) = false := by rfl) :
    DE X W (.Call (.Attribute o "update" apos) [e] [] cpos) (eBk updE fo fa) := by
  obtain ⟨t, p, s⟩ := ho
  obtain ⟨t', p', s'⟩ := ha
  refine ⟨_, pe_bm PySem.F.plainAttrs_dict PySem.F.slot_dict_update PySem.F.type_dict_update mt_update p p' hbase hfew hline hs hplain, fun Fr B as σ H S M Q rs rp h => ?_⟩
  refine s Fr B as σ H S M _ rs rp (h.bnd.imp fun x M1 B1 as1 s1 p1 h1 v H1 rp1 r1 => ?_)
  obtain ⟨ty, h8⟩ := h1.isCellK rp1 r1
  clear h1
  refine ⟨ty, s' Fr B1 as1 σ H1 S M1 _ (rs.mono s1 p1) rp1 (h8.bnd.imp fun l M2 B2 as2 s2 p2 h2 vs H2 rp2 r2 => ?_)⟩
  have rx := r1.mono s2 p2
  unfold updE at h2
  cases rx <;> first | (cases l <;> exact h2.elim) | skip
  rename_i n a ha
  cases r2 with
  | nil => exact h2.elim
  | cons r rr =>
    cases rr with
    | cons _ _ => exact h2.elim
    | nil =>
      rename_i yv y
      dsimp only at h2
      obtain ⟨t, m, q, ws, rfl, fc, rs3, h9, c1, c2⟩ := Post.vw2 (d := y) h2 rp2 r
      dsimp only at h9
      cases qn : M2[n]? with
      | none => rw [qn] at h9; exact h9.elim
      | some cc =>
        obtain ⟨tt, l⟩ := cc
        rw [qn] at h9
        obtain ⟨vs, mc, rsc⟩ := rp2.cell n a _ ha qn
        cases tt <;> first | exact h9.elim | skip
        cases t <;> first | exact h9.elim | skip
        rename_i ks ks'
        dsimp only at h9
        by_cases hc : notRef n y = true ∧ ks.length = l.length ∧ ks'.length = m.length ∧ ks.length + ks'.length ≤ sizeLine
        · rw [if_pos hc] at h9
          obtain ⟨hn, l1, l2, hz⟩ := hc
          have hne : a ≠ q := by
            intro z
            subst z
            have fro : (∀ k, y ≠ .ref k) → False := fun hy => by
              have := (c2 hy).1
              rw [rp2.out a (List.mem_of_getElem? ha)] at this; cases this
            cases y with
            | ref k =>
              have : k ≠ n := of_decide_eq_true hn
              exact this (nodup_ixA rp2.nd (c1 k rfl).1 ha)
            | _ => exact fro fun k hk => by cases hk
          have rk := RK.merge (rs3.rk fc.2) (rsc.rk mc.2)
          obtain ⟨z1, z2⟩ := rk.dct
          refine ⟨a, q, _, _, rfl, rfl, hne, mc.1, fc.1, by rw [List.length_zip, List.length_zip]; have := mc.2; have := fc.2; omega, ?_⟩
          refine h9.ok _ _ (rp2.write (t := .dct _) ha ?_ rk.vals) .non
          exact ⟨by rw [upd_same, z1], z2⟩
        · rw [if_neg hc] at h9; exact h9.elim
/-! ### sorted -/
theorem sort_one {ns ms : List Int} (p : ms.Perm ns) (s : ms.Pairwise (· ≤ ·)) : ms = ns.mergeSort (fun a b => decide (a ≤ b)) := by
  refine List.Perm.eq_of_pairwise (le := (· ≤ ·)) (fun a b _ _ h1 h2 => Int.le_antisymm h1 h2) s ?_ (p.trans (List.mergeSort_perm ns _).symm)
  have := List.pairwise_mergeSort (le := fun a b : Int => decide (a ≤ b)) (fun a b c h1 h2 => by simp at *; omega) (fun a b => by simp; omega) ns
  exact this.imp fun h => by simpa using h
abbrev srt (ns : List Int) : List Int := ns.mergeSort (fun a b => decide (a ≤ b))
def intKeys : List Key → Option (List Int)
  | [] => some []
  | .inl i :: r => (intKeys r).map (i :: ·)
  | _ => none
theorem intKeys_eq : ∀ {ks : List Key} {ns : List Int}, intKeys ks = some ns → ks = ns.map Sum.inl
  | [], _, h => by cases h; rfl
  | .inl i :: r, _, h => by
    unfold intKeys at h
    cases q : intKeys r with
    | none => rw [q] at h; cases h
    | some ms => rw [q] at h; cases h; rw [intKeys_eq q]; rfl
  | .inr _ :: _, _, h => by cases h
theorem intKeys_map (ns : List Int) : intKeys (ns.map Sum.inl) = some ns := by
  induction ns with
  | nil => rfl
  | cons n l ih => simp [intKeys, ih]
def sortedN (x : D) : Ev NR := (vw x).bnd fun p => match p.1 with
  | .lst => match intsOf p.2 with
    | some ns => if ns.length < 64 then Ev.ret (.n .lst ((srt ns).map D.int)) else Ev.no
    | none => Ev.no
  | .dct ks => match intKeys ks with
    | some ns => if ns.length < 64 ∧ ks.length = p.2.length then Ev.ret (.n .lst ((srt ns).map D.int)) else Ev.no
    | none => Ev.no
  | _ => Ev.no
theorem dn_sorted {fa : Lo → Ev (List D)} (hc : X.calm = true) (hg : Gl X "sorted") (hm : X.mg "sorted" = none) (ha : DA X W [e] fa) (he : starEach [e] X.env = (false, eval e X.env) :: starEach [] X.env := by rfl) : DN X W (.Call (.Name "sorted" p) [e] [] pos) (nCall (op1 sortedN) fa) :=
  dn_callB ((cr_sorted (X := X)).or (call_sortedDI hc)) (oNN1 fun Fr B as σ H M v d Q rp r h => by
    obtain ⟨t, l, p, vs, rfl, fc, rs, h, _⟩ := Post.vw (d := d) h rp r
    cases t <;> first | exact h.elim | skip
    · dsimp only at h
      cases q : intsOf l with
      | none => rw [q] at h; exact h.elim
      | some ns =>
        rw [q] at h
        dsimp only at h
        by_cases hz : ns.length < 64
        · rw [if_pos hz] at h
          rw [intsOf_eq q] at rs
          have e := rs.ints
          subst e
          refine .inl ⟨p, ns, rfl, SqL.of fc, hz, fun ns' z hp hs hz' => ?_⟩
          rw [sort_one hp hs]
          exact h.ret _ H z rp (Rs.ofInts _) hz'
        · rw [if_neg hz] at h; exact h.elim
    · rename_i ks _
      dsimp only at h
      cases q : intKeys ks with
      | none => rw [q] at h; exact h.elim
      | some ns =>
        rw [q] at h
        dsimp only at h
        by_cases hz : ns.length < 64 ∧ ks.length = l.length
        · rw [if_pos hz] at h
          refine .inr ⟨p, _, ns, rfl, .inl fc.1, ?_, hz.1, fun ns' z hp hs hz' => ?_⟩
          · rw [← intKeys_eq q]
            have := fc.2
            rw [List.map_fst_zip (by omega)]
          · rw [sort_one hp hs]
            exact h.ret _ H z rp (Rs.ofInts _) hz'
        · rw [if_neg hz] at h; exact h.elim) hg hm (by decide +kernel) ha (by decide) (by decide) he
/-! ### truth -/
def truE (x : D) : Ev Bool := match x with
  | .non => Ev.ret false
  | .bl b => Ev.ret b
  | .int i => Ev.ret (i != 0)
  | .str y => if y.length ≤ sizeLine then Ev.ret ((y.length : Int) != 0) else Ev.no
  | _ => (vw x).bnd fun p => match p.1 with
    | .lst => Ev.ret (!p.2.isEmpty)
    | .slst => Ev.ret (!p.2.isEmpty)
    | .tup => Ev.ret (!p.2.isEmpty)
    | .dct ks => if ks.length = p.2.length then Ev.ret (!p.2.isEmpty) else Ev.no
    | _ => Ev.no
def eTru (f : Lo → Ev D) : Lo → Ev Bool := fun S => (f S).bnd truE
theorem Rs.empty {G : Gx} {B : Hp} {as : List Addr} {vs : List V} {l : List D} (r : Rs G B as vs l) : vs.isEmpty = l.isEmpty := by cases r <;> rfl
theorem dt_truth {g : Lo → Ev D} (h : DE X W e g) (he : ∀ whole, isTrue e X.env whole = (do let v ← whole; standAt e.pos; holding [v] (truthy v)) := by intro _; rfl) : DT X W e (eTru g) := by
  obtain ⟨t, p, s⟩ := h
  refine ⟨_, pt_truth p he, fun Fr B as σ H S M Q rs rp h => ?_⟩
  refine s Fr B as σ H S M _ rs rp (h.bnd.imp fun x M1 B1 as1 s1 p1 h1 v H1 rp1 r1 => ?_)
  have gen : Post B1 as1 (((vw x).bnd fun p => match p.1 with
    | .lst => Ev.ret (!p.2.isEmpty)
    | .slst => Ev.ret (!p.2.isEmpty)
    | .tup => Ev.ret (!p.2.isEmpty)
    | .dct ks => if ks.length = p.2.length then Ev.ret (!p.2.isEmpty) else Ev.no
    | _ => Ev.no) M1) (kB X Fr Q) (kX X Fr W σ) → ∃ k, TruV X.K v H1 k ∧ Q k H1 := fun h1 => by
    obtain ⟨t, l, q, vs, rfl, fc, rs2, h9, _⟩ := Post.vw (d := x) h1 rp1 r1
    cases t <;> first | exact h9.elim | skip
    · exact ⟨_, .inl ⟨vs, SqL.of fc, by rw [rs2.empty]⟩, h9.ret H1 rp1⟩
    · exact ⟨_, .inl ⟨vs, fc, by rw [rs2.empty]⟩, h9.ret H1 rp1⟩
    · exact ⟨_, .inr (.inl ⟨vs, fc, by rw [rs2.empty]⟩), h9.ret H1 rp1⟩
    · rename_i ks _
      dsimp only at h9
      by_cases hc : ks.length = l.length
      · rw [if_pos hc] at h9
        refine ⟨_, .inr (.inr ⟨_, fc.1, ?_⟩), h9.ret H1 rp1⟩
        have h2 := fc.2
        cases rs2 with
        | nil => cases ks <;> first | rfl | (simp at h2)
        | cons _ _ => cases ks <;> first | rfl | (simp at h2)
      · rw [if_neg hc] at h9; exact h9.elim
  cases r1 with
  | non => exact ⟨false, rfl, h1.ret H1 rp1⟩
  | bl b => exact ⟨b, rfl, h1.ret H1 rp1⟩
  | int i => exact ⟨_, rfl, h1.ret H1 rp1⟩
  | str y =>
    have h1 : Post B1 as1 ((if y.length ≤ sizeLine then Ev.ret ((y.length : Int) != 0) else Ev.no) M1) (kB X Fr Q) (kX X Fr W σ) := h1
    by_cases hc : y.length ≤ sizeLine
    · rw [if_pos hc] at h1; exact ⟨_, ⟨hc, rfl⟩, h1.ret H1 rp1⟩
    · rw [if_neg hc] at h1; exact h1.elim
  | ty n => exact h1.elim
  | gl h => exact h1.elim
  | ref h => exact gen h1
  | nd a b => exact gen h1
/-! ### isinstance of data, built-in classes -/
def tyS : Tg → Option String
  | .lst => some "list"
  | .slst => some "list"
  | .tup => some "tuple"
  | .dct _ => some "dict"
  | _ => none
def tyN (x : D) : Ev String := match x with
  | .non => Ev.ret "NoneType"
  | .bl _ => Ev.ret "bool"
  | .int _ => Ev.ret "int"
  | .str _ => Ev.ret "str"
  | _ => (vw x).bnd fun p => optE (tyS p.1)
def isiB (t T : String) : Option Bool := kitB t T
def isiE (x y : D) : Ev D := (tyN x).bnd fun t => match y with
  | .ty T => (optE (isiB t T)).bnd fun b => Ev.ret (.bl b)
  | _ => Ev.no
def tysOf : List D → Option (List String)
  | [] => some []
  | .ty n :: l => (tysOf l).map (n :: ·)
  | _ => none
def isiA (t : String) : List String → Option Bool
  | [] => some false
  | T :: Ts => match isiB t T with
    | some true => some true
    | some false => isiA t Ts
    | none => none
def isiTE (x y : D) : Ev D := (tyN x).bnd fun t => (vw y).bnd fun p => match p.1, tysOf p.2 with
  | .tup, some Ts => (optE (isiA t Ts)).bnd fun b => Ev.ret (.bl b)
  | _, _ => Ev.no
theorem Post.tyN {α : Type} {Fr B : Hp} {as : List Addr} {d : D} {g : String → Ev α} {M : Store} {H : Hp} {v : V} {k : α → Store → Hp → List Addr → Prop} {x : Str → D → Store → Hp → List Addr → Prop} (h : Post B as (((DL.tyN d).bnd g) M) k x)
    (rp : Rep (gx X) Fr B as H M) (r : R (gx X) B as v d) : ∃ t, TyX X.K H v (.type t) ∧ Post B as (g t M) k x := by
  have gen : Post B as ((((DL.vw d).bnd fun p => optE (tyS p.1)).bnd g) M) k x → ∃ t, TyX X.K H v (.type t) ∧ Post B as (g t M) k x := fun h => by
    rw [bnd_bnd] at h
    obtain ⟨t, l, q, vs, rfl, fc, rs2, h9, _⟩ := Post.vw (d := d) h rp r
    cases t with
    | lst => exact ⟨"list", .base (.lst fc), h9⟩
    | slst =>
      refine ⟨"list", ?_, h9⟩
      rcases fc with (fc | ⟨o, fc⟩) | ⟨o, its, n, e, c, _⟩
      · exact .base (.lst fc)
      · exact .base (.frz fc)
      · exact .kList e c
    | tup =>
      refine ⟨"tuple", ?_, h9⟩
      rcases fc with (fc | ⟨o, fc⟩) | ⟨o, its, n, e, c, _⟩
      · exact .base (.tup fc)
      · exact .fTuple fc
      · exact .kTuple e c
    | dct ks => exact ⟨"dict", .base (.dK fc.1), h9⟩
    | obj c ns => exact h9.elim
  cases r with
  | non => exact ⟨_, .base .non, h⟩
  | bl b => exact ⟨_, .base (.bl b), h⟩
  | int i => exact ⟨_, .base (.int i), h⟩
  | str y => exact ⟨_, .base (.str y), h⟩
  | ty n => exact h.elim
  | gl _ => exact h.elim
  | ref _ => exact gen h
  | nd _ _ => exact gen h
theorem tysOf_ok {G : Gx} {B : Hp} {as : List Addr} : ∀ {l : List D} {vs : List V} {Ts : List String}, Rs G B as vs l → tysOf l = some Ts → vs = Ts.map V.ty
  | [], _, _, .nil, h => by cases h; rfl
  | .ty n :: l, _, _, .cons r t, h => by
    unfold tysOf at h
    cases q : tysOf l with
    | none => rw [q] at h; cases h
    | some ms => rw [q] at h; cases h; cases r; rw [tysOf_ok t q]; rfl
  | .non :: _, _, _, _, h | .bl _ :: _, _, _, _, h | .int _ :: _, _, _, _, h | .str _ :: _, _, _, _, h | .gl _ :: _, _, _, _, h | .ref _ :: _, _, _, _, h | .nd _ _ :: _, _, _, _, h => by cases h
theorem isiA_ok {K : PySem.W.Frag} {t : String} : ∀ {Ts : List String} {b : Bool}, isiA t Ts = some b → PySem.W.kitAny K (.type t) (Ts.map Value.type) = some b
  | [], _, h => by cases h; rfl
  | T :: Ts, b, h => by
    unfold isiA at h
    cases q : isiB t T with
    | none => rw [q] at h; cases h
    | some c =>
      rw [q] at h
      cases c with
      | true => cases h; exact kitAny_cons (kit_ty q) (fun z => by cases z) (fun _ => rfl)
      | false => exact kitAny_cons (kit_ty q) (fun _ => isiA_ok h) (fun z => by cases z)
/-- isinstance(x, T), T a tuple of classes, however it stands -/
def rIsiS (K : PySem.W.Frag) : List V → Hp → VK → Prop := fun xs H Q => ∃ (x : V) (tp : Addr) (Ts : List String) (t : Value) (b : Bool), xs = [x, .ref tp] ∧ SqT K H tp (Ts.map V.ty) ∧ TyX K H x t ∧ PySem.W.kitAny K t (Ts.map Value.type) = some b ∧ Q (.bl b) H
theorem vals_ty : ∀ {Ts : List String} {us : List Value}, Vals (Ts.map V.ty) us → us = Ts.map Value.type
  | [], _, .nil => rfl
  | T :: Ts, _, .cons r t => by
    rw [vals_ty t, List.map_cons]
    have : _ = Value.type T := r
    rw [this]
theorem call_isiS : CallR X (.builtin "isinstance") (rIsiS X.K) := by
  intro pins s σ H xs us Q I r h
  obtain ⟨x, tp, Ts, t, b, rfl, hT, ty, e, q⟩ := h
  obtain ⟨u1, u2, rfl, r1, r2⟩ := vals2 r
  cases (show u2 = Value.ref tp from r2)
  obtain ⟨P, Z, p, hx⟩ := kit_of I r1 ty
  obtain ⟨its, rv, ⟨o, h1, h2, n, h3⟩, _⟩ := I.tuple hT
  have e3 := vals_ty rv
  subst e3
  obtain ⟨oc, od, dt, sl⟩ := o
  simp only at h2 h3
  subst h2 h3
  exact PySem.W.kia_tup Z I.kIn p h1 e hx fun tk => ⟨.bl b, H, I.tok tk, rfl, q⟩
variable {fa : Lo → Ev (List D)}
theorem de_isi (hg : Gl X "isinstance") (hm : X.mg "isinstance" = none) (ha : DA X W [a, b] fa) (he : starEach [a, b] X.env = (false, eval a X.env) :: starEach [b] X.env := by rfl) (hpl : (backTo pos (starEach [b] X.env)).any (·.1) = false := by rfl) : DE X W (.Call (.Name "isinstance" p) [a, b] [] pos) (eCall (op2 isiE) fa) :=
  de_callB call_isi (oN2 fun Fr B as σ H M v w d e Q rp r1 r2 h => by
    obtain ⟨t, ty, h9⟩ := Post.tyN (d := d) h rp r1
    clear h
    cases r2 <;> first | exact h9.elim | skip
    rename_i T
    dsimp only at h9
    cases q : isiB t T with
    | none => rw [q] at h9; exact h9.elim
    | some b => rw [q] at h9; exact ⟨v, _, _, _, b, rfl, .ty T, ty, kit_ty q, (Post.ret (a := D.bl b) h9) _ H rp (.bl b)⟩) hg hm (by decide +kernel) ha (by decide) (by decide) he hpl
theorem de_isiT (hg : Gl X "isinstance") (hm : X.mg "isinstance" = none) (ha : DA X W [a, b] fa) (he : starEach [a, b] X.env = (false, eval a X.env) :: starEach [b] X.env := by rfl) (hpl : (backTo pos (starEach [b] X.env)).any (·.1) = false := by rfl) : DE X W (.Call (.Name "isinstance" p) [a, b] [] pos) (eCall (op2 isiTE) fa) :=
  de_callB call_isiS (oN2 fun Fr B as σ H M v w d e Q rp r1 r2 h => by
    obtain ⟨t, ty, h⟩ := Post.tyN (d := d) h rp r1
    obtain ⟨tt, l, p, vs, rfl, fc, rs, h, _⟩ := Post.vw (d := e) h rp r2
    cases tt <;> first | exact h.elim | skip
    dsimp only at h
    cases q : tysOf l with
    | none => rw [q] at h; exact h.elim
    | some Ts =>
      rw [q] at h
      dsimp only at h
      cases q2 : isiA t Ts with
      | none => rw [q2] at h; exact h.elim
      | some b =>
        rw [q2] at h
        have := tysOf_ok rs q
        subst this
        exact ⟨v, p, Ts, _, b, rfl, fc, ty, isiA_ok q2, (Post.ret (a := D.bl b) h) _ H rp (.bl b)⟩) hg hm (by decide +kernel) ha (by decide) (by decide) he hpl
/-! ### a, b = x, y (two local names); y = [..] -/
def sPar (i j : Nat) (fa : Lo → Ev (List D)) : Lo → Ev Fl := fun S => Ev.flG (fa S) S fun l => match l with
  | [x, y] => Ev.ret (.nx ((S.set i (some x)).set j (some y)))
  | _ => Ev.no
theorem ds_par {ii jj : Nat} {y : Str} {px py pt : Pos} {kt k2 pt2} (hc : X.calm = true) (hN : X.N.Nodup) (hi : X.N[ii]? = some x) (hj : X.N[jj]? = some y) (hij : ii ≠ jj)
    (hx : X.env.scope.names.lookup x = some .local) (hy : X.env.scope.names.lookup y = some .local) (ha : DA X W [a, b] fa)
    (hw : swappedStores [.Tuple [.Name x px, .Name y py] kt pt] (.Tuple [a, b] k2 pt2) X.env = pure (some [x, y]))
    (hs : swapsWithSole [.Tuple [.Name x px, .Name y py] kt pt] (.Tuple [a, b] k2 pt2) pos.line X.env = pure false := by rfl) :
    DS X W (.Assign [.Tuple [.Name x px, .Name y py] kt pt] (.Tuple [a, b] k2 pt2) pos) (sPar ii jj fa) := by
  obtain ⟨t, p, s⟩ := ha
  refine ⟨_, ps_par hc hN hi hj hij hx hy p hw hs, fun Fr B as σ H S M D rs rp h => ?_⟩
  refine s Fr B as σ H S M _ rs rp ((Post.flG rs h).imp fun l M1 B1 as1 s1 p1 h1 vs H1 rp1 r1 => ?_)
  cases r1 with
  | nil => exact h1.elim
  | cons r t =>
    cases t with
    | nil => exact h1.elim
    | cons r' t =>
      cases t with
      | cons _ _ => exact h1.elim
      | nil => exact ⟨_, _, rfl, h1.ret _ H1 rp1 (((rs.mono s1 p1).set r ii).set r' jj)⟩
end
end DL

set_option Elab.async false
set_option linter.all false
set_option maxRecDepth 100000
set_option maxHeartbeats 4000000
/-! DLA: short words for printed derivations, the law's own def, the end. -/
namespace DL
open PySem L2
section
variable {X : Cx} {W : WX} {e o a b c i : Expr} {pos p apos cpos : Pos} {x m f : Str}
theorem dv (i : Nat) (hN : X.N[i]? = some x := by rfl) (hv : Vis X.env.scope x := by first | exact Or.inl rfl | exact Or.inr (Or.inl rfl) | exact Or.inr (Or.inr rfl)) (hd : (x == ("__debug__" : Str)) = false := by decide) (hcd : (x == ("__classdict__" : Str)) = false := by decide) : DE X W (.Name x pos) (eVar i) := de_var hN hv hd hcd
theorem gn (i : Nat) (hN : X.N.Nodup) (hi : X.N[i]? = some x := by rfl) (hx : Loc X.env.scope x := by first | exact Or.inl rfl | exact Or.inr rfl) (hf : X.fn x = true ∨ X.env.scope.names.lookup x = some .local := by first | exact .inl rfl | exact .inr rfl) : DG X W (.Name x pos) [i] (gNm i) := dg_name hN hi hx hf
theorem st (i : Nat) {g : Lo → Ev D} {pos' : Pos} (hN : X.N.Nodup) (he : DE X W e g) (hi : X.N[i]? = some x := by rfl) (hx : Loc X.env.scope x := by first | exact Or.inl rfl | exact Or.inr rfl) (hs : swapsWith e (some (.Name x pos')) pos.line X.env = pure false := by rfl) (hf : X.fn x = true ∨ X.env.scope.names.lookup x = some .local := by first | exact .inl rfl | exact .inr rfl) :
    DS X W (.Assign [.Name x pos'] e pos) (sAsg g (gNm i)) := ds_set hN hi hx he hs hf
theorem rs_mem {l : List Nat} {ps : List Nat} (h : (ps.all fun i => decide (i ∈ l)) = true) : ∀ i ∈ ps, i ∈ l := fun i hi => of_decide_eq_true (List.all_eq_true.mp h i hi)
theorem de_append {fo : Lo → Ev D} {fa : Lo → Ev (List D)} (ho : DE X W o fo) (ha : DA X W [e] fa) (hbase : attributeBase o "append" X.env (eval o X.env) = eval o X.env := by rfl)
    (hfew : ((backTo cpos (starEach [e] X.env)).all (fun x => !x.1) && (backToKw cpos (keywordEach [] X.env)).all (fun x => x.1.isSome)
      && decide ([e].length + ([] : List Keyword).length + (if ([] : List Keyword).isEmpty then 0 else 1) < 30)) = true := by rfl)
    (hline : (apos.endLine == cpos.line) = true := by rfl) (hs : starEach [e] X.env = (false, eval e X.env) :: starEach [] X.env := by rfl) (hplain : (backTo cpos (starEach [] X.env)).any (·.1) = false := by rfl) :
    DE X W (.Call (.Attribute o "append" apos) [e] [] cpos) (eBm (cellM opAppend) fo fa) := de_bm PySem.F.slot_list_append PySem.F.type_list_append mt_append m_append ho ha hbase hfew hline hs hplain
theorem de_clear {fo : Lo → Ev D} (ho : DE X W o fo) (hbase : attributeBase o "clear" X.env (eval o X.env) = eval o X.env := by rfl) (hline : (apos.endLine == cpos.line) = true := by rfl) : DE X W (.Call (.Attribute o "clear" apos) [] [] cpos) (eBm (cellM opClear) fo eA0) :=
  de_bm0 PySem.F.slot_list_clear PySem.F.type_list_clear mt_clear m_clear ho hbase hline
theorem de_pop {fo : Lo → Ev D} (ho : DE X W o fo) (hbase : attributeBase o "pop" X.env (eval o X.env) = eval o X.env := by rfl) (hline : (apos.endLine == cpos.line) = true := by rfl) : DE X W (.Call (.Attribute o "pop" apos) [] [] cpos) (eBm (cellM opPop) fo eA0) :=
  de_bm0 PySem.F.slot_list_pop PySem.F.type_list_pop mt_pop m_pop ho hbase hline
theorem hp_of {P : Program} {w : World} {K : PySem.W.Frag} {mg : Str → Option Value} {base : Heap} {CX : CXT} {N : List Str} {qual : Str} {scope : Scope} {f : Addr} {cd : Value} {A : Around} {outer : List Env} {s : Shared} {H : Hp} {E : XK} :
    PassesOwn (model P w) (cxOf CX P w K mg base N qual scope f cd A outer s H E).A (cxOf CX P w K mg base N qual scope f cd A outer s H E).env (cxOf CX P w K mg base N qual scope f cd A outer s H E).xe := passes_of (X := cxOf CX P w K mg base N qual scope f cd A outer s H E) rfl
/-! ### the law's own def: nothing is let out -/
def spL (G : Gx) (n : Nat) (F : List D → Ev D) : Sp := fun vs H Q _ => ∃ Fr B as M l, Rep G Fr B as H M ∧ Rs G B as vs l ∧ l.length = n ∧
  Post B as (F l M) (fun d M' B' as' => ∀ v H', Rep G Fr B' as' H' M' → R G B' as' v d → Q v H') (fun _ _ _ _ _ => False)
theorem fn_l {P : Program} {w : World} {K : PySem.W.Frag} {mg : Str → Option Value} {base : Heap} {x qual : Str} {params : Arguments} {body : List Stmt} {scope : Scope} {dvs : List V} {kws : List (Str × V)} {f : Addr} {fd : FuncData} {N ps : List Str} {k : Nat} {g : Lo → Ev Fl}
    (F : FunD K x qual params body scope dvs kws f fd) (S : FnScope N ps scope)
    (hb : ∀ (cdv : Value) (A : Around) (outer : List Env) (s : Shared) (H : Hp) (E : XK), Room k (A.deeper (PyProof.Rows.envOfC qual scope s.heap.objs.size f cdv)) →
      DSs (cxOf CX0 P w K mg base N qual scope f cdv A outer s H E) (WF E0) body g) : FnOk P w K mg base CX0 (k + 1) f fd ps (spL ⟨K, mg⟩ ps.length (runF N.length g)) := by
  refine F.ok S (fun vs H Q E h => ?_) (fun cdv A outer s H vs Q E hr h => ?_)
  · obtain ⟨Fr, B, as, M, l, rp, rs, hl, _⟩ := h
    rw [rs.length, hl]
  · obtain ⟨Fr, B, as, M, l, rp, rs, hl, h⟩ := h
    obtain ⟨t, p, sd⟩ := hb cdv A outer s H E hr
    refine ⟨t, p, sd Fr B as _ H (startD N.length l) M _ (RS.start rs) rp ((h.bnd.nox (x' := fun _ _ _ _ _ => False)).imp fun fl M1 B1 as1 s1 p1 h1 => ?_)⟩
    cases fl with
    | nx S' => exact fun σ' H' rp' rs' => h1.ret .non H' rp' .non
    | rt d => exact fun v H' rp' rv => h1.ret v H' rp' rv
    | bk S' => exact h1.elim
    | ct S' => exact h1.elim
    | xc c d S' => exact (h1 B1 as1 (Same.refl _) (List.prefix_refl _)).elim
/-- the script -/
abbrev scr (ns : List Int) : D := .nd .slst (ns.map D.int)
theorem spL_script {K : PySem.W.Frag} {mg : Str → Option Value} {F : List D → Ev D} {H : Hp} {a : Addr} {ns : List Int} {M' : Store} (hS : SqL K H a (ns.map V.int)) (h : F [scr ns] [] = .ok (.bl true) M') : spL ⟨K, mg⟩ 1 F [.ref a] H (fun v _ => v = .bl true) (fun _ _ _ => False) := by
  refine ⟨fun _ => none, H, [], [], [scr ns], ⟨Same.refl _, (fun b o e => by cases e), (fun a ha => by cases ha), (fun a o e => by cases e), List.nodup_nil, (fun a ha => by cases ha), rfl, (fun n a c h1 _ => by simp at h1)⟩, .cons (.nd (t := .slst) hS (Rs.ofInts ns)) .nil, rfl, ?_⟩
  rw [h]
  intro B' as' _ _ v H' _ r
  cases r
  rfl
end
end DL

set_option Elab.async false
set_option linter.all false
set_option maxRecDepth 100000
set_option maxHeartbeats 4000000
/-! DLB: zip, a list read backwards, insert, break and continue. -/
namespace DL
open PySem L2
section
variable {X : Cx} {W : WX} {e o a b c i : Expr} {pos p apos cpos : Pos} {x m f : Str}
/-! ### zip of two frozen lists -/
def zpD (l k : List D) : List D := l.zipWith (fun x y => .tup [x, y]) k
def zpE : D → D → Ev (List D × Gd)
  | .nd .lst l, .nd .lst k => Ev.ret (zpD l k, none)
  | _, _ => Ev.no
def iZp (f : Lo → Ev (List D)) : Lo → Ev (List D × Gd) := fun S => (f S).bnd (op2 zpE)
theorem zpD_len (l k : List D) : (zpD l k).length = min l.length k.length := by unfold zpD; simp
theorem zpD_get {l k : List D} {i : Nat} {d : D} (h : (zpD l k)[i]? = some d) : ∃ x y, l[i]? = some x ∧ k[i]? = some y ∧ d = .tup [x, y] := by
  unfold zpD at h
  rw [List.getElem?_zipWith] at h
  cases q1 : l[i]? with
  | none => rw [q1] at h; cases h
  | some x =>
    cases q2 : k[i]? with
    | none => rw [q1, q2] at h; cases h
    | some y => rw [q1, q2] at h; cases h; exact ⟨x, y, rfl, rfl, rfl⟩
theorem di_zip {e2 : Expr} {p tpos : Pos} {elts : List Expr} {kk : Nat} {f : Lo → Ev (List D)} (hg : Gl X "zip") (hm : X.mg "zip" = none) (ha : DA X W [e, e2] f)
    (hs : starEach [e, e2] X.env = (false, eval e X.env) :: starEach [e2] X.env := by rfl) (hpl : (backTo pos (starEach [e2] X.env)).any (·.1) = false := by rfl) :
    DI X W (.Tuple elts kk tpos) (.Call (.Name "zip" p) [e, e2] [] pos) (iZp f) := by
  obtain ⟨t, pa, s⟩ := ha
  refine ⟨_, pi_zip hg hm pa hs hpl, fun Fr B as σ H S M R' rs rp h => ?_⟩
  refine s Fr B as σ H S M _ rs rp (h.bnd.imp fun l M1 B1 as1 s1 p1 h1 vs H1 rp1 r1 => ?_)
  cases r1 with
  | nil => exact h1.elim
  | cons r t =>
    cases t with
    | nil => exact h1.elim
    | cons r' t =>
      cases t with
      | cons _ _ => exact h1.elim
      | nil =>
        cases r <;> first | exact h1.elim | skip
        rename_i tg q us l fc ru
        cases r' <;> first | (cases tg <;> exact h1.elim) | skip
        rename_i tg' q' us' l' fc' ru'
        cases tg <;> first | exact h1.elim | skip
        cases tg' <;> first | exact h1.elim | skip
        have h1 : Post B1 as1 (Ev.ret (zpD l l', none) M1) (fun r M' B' as' => ∀ J H', Rep (gx X) Fr B' as' H' M' → IterOk X B' as' J r.1 r.2 → R' J H') (kX X Fr W σ) := h1
        refine ⟨q, q', us, us', rfl, SqL.of (fc.sub rp1.sub), SqL.of (fc'.sub rp1.sub), h1.ret _ H1 rp1 ?_⟩
        refine ⟨fun Fr' B' as' H' M' e pr rp' g => ?_, fun i d' hd Fr' B' as' H' M' e pr rp' g => ?_⟩
        · refine ⟨us, us', SqL.of ((fc.mono e).sub rp'.sub), SqL.of ((fc'.mono e).sub rp'.sub), ?_⟩
          have := zpD_len l l'
          have e1 := ru.length
          have e2 := ru'.length
          show us.length ≤ (zpD l l').length ∨ us'.length ≤ (zpD l l').length
          omega
        · obtain ⟨x, y, hx, hy, rfl⟩ := zpD_get hd
          have s1 := SqL.of (K := X.K) ((fc.mono e).sub rp'.sub)
          have s2 := SqL.of (K := X.K) ((fc'.mono e).sub rp'.sub)
          obtain ⟨u, hu, rx⟩ := (ru.mono e pr).get hx
          obtain ⟨u', hu', ry⟩ := (ru'.mono e pr).get hy
          refine ⟨⟨us, us', u, u', s1, s2, hu, hu'⟩, fun z H'' yl => ?_⟩
          obtain ⟨T, z1, z2, rfl, hT, rfl, y1, y2⟩ := yl
          have e1 := y1 us s1
          have e2 := y2 us' s2
          rw [hu] at e1; cases e1
          rw [hu'] at e2; cases e2
          have nb := (rp'.fresh hT).1
          exact ⟨_, same_upd nb, rp'.froze hT, .nd (t := .tup) (SqT.of upd_same) (.cons (rx.mono (same_upd nb) (List.prefix_refl _)) (.cons (ry.mono (same_upd nb) (List.prefix_refl _)) .nil))⟩
/-! ### break, continue -/
def sBk : Lo → Ev Fl := fun S => Ev.ret (.bk S)
def sCt : Lo → Ev Fl := fun S => Ev.ret (.ct S)
theorem ds_break : DS X W (.Break pos) sBk := ⟨_, ps_break, fun Fr B as σ H S M D rs rp h => (Post.ret (a := Fl.bk S) (k := kF X Fr W D) h) σ H rp rs⟩
/-! ### insert -/
def insOk (n : Nat) (i : Int) : Prop := n < sizeLine ∧ 0 ≤ i ∧ i < 2 ^ 63
open Classical in
noncomputable def opInsert (l args : List D) : Option (D × List D) := match args with
  | [.int i, y] => if insOk l.length i then some (.non, l.take i.toNat ++ [y] ++ l.drop i.toNat) else none
  | _ => none
theorem Rs.ins {G : Gx} {B : Hp} {as : List Addr} {vs : List V} {l : List D} {v : V} {d : D} (n : Nat) (r : Rs G B as vs l) (h : R G B as v d) : Rs G B as (vs.take n ++ [v] ++ vs.drop n) (l.take n ++ [d] ++ l.drop n) :=
  ((r.take n).app (Rs.one h)).app (r.drop n)
theorem m_insert : MethOk X (fun x vs H Q => ∃ (l : Addr) (xs : List V) (i : Int) (y : V), x = .ref l ∧ vs = [.int i, y] ∧ H l = some (.lst xs) ∧ xs.length < sizeLine ∧ 0 ≤ i ∧ i < 2 ^ 63 ∧ Q .non (upd H l (.lst (xs.take i.toNat ++ [y] ++ xs.drop i.toNat)))) opInsert := by
  intro G B as H p vs l args argV d l' Q rs ra ho hp k
  cases ra with
  | nil => cases ho
  | cons r t =>
    cases t with
    | nil => cases r <;> cases ho
    | cons r' t =>
      cases t with
      | cons _ _ => cases r <;> cases ho
      | nil =>
        cases r <;> first | cases ho | skip
        rename_i i
        unfold opInsert at ho
        dsimp only at ho
        by_cases c : insOk l.length i
        · rw [if_pos c] at ho
          cases ho
          exact ⟨p, vs, i, _, rfl, rfl, hp, by rw [rs.length]; exact c.1, c.2.1, c.2.2, k _ _ .non (rs.ins _ r')⟩
        · rw [if_neg c] at ho; cases ho
theorem de_insert {e2 : Expr} {fo : Lo → Ev D} {fa : Lo → Ev (List D)} (ho : DE X W o fo) (ha : DA X W [e, e2] fa) (hbase : attributeBase o "insert" X.env (eval o X.env) = eval o X.env := by rfl)
    (hfew : ((backTo cpos (starEach [e, e2] X.env)).all (fun x => !x.1) && (backToKw cpos (keywordEach [] X.env)).all (fun x => x.1.isSome)
      && decide ([e, e2].length + ([] : List Keyword).length + (if ([] : List Keyword).isEmpty then 0 else 1) < 30)) = true := by rfl)
    (hline : (apos.endLine == cpos.line) = true := by rfl) (hs : starEach [e, e2] X.env = (false, eval e X.env) :: starEach [e2] X.env := by rfl) (hplain : (backTo cpos (starEach [e2] X.env)).any (·.1) = false := by rfl) :
    DE X W (.Call (.Attribute o "insert" apos) [e, e2] [] cpos) (eBm (cellM opInsert) fo fa) := de_bm PySem.F.slot_list_insert PySem.F.type_list_insert mt_insert m_insert ho ha hbase hfew hline hs hplain
/-! ### xs[::-1] -/
def revN (x : D) : Ev NR := (vw x).bnd fun p => match p.1 with
  | .lst => Ev.ret (.n .lst p.2.reverse)
  | .slst => Ev.ret (.n .lst p.2.reverse)
  | _ => Ev.no
def nRev (f : Lo → Ev D) : Lo → Ev NR := fun S => (f S).bnd revN
theorem Rs.rev {G : Gx} {B : Hp} {as : List Addr} : ∀ {vs : List V} {l : List D}, Rs G B as vs l → Rs G B as vs.reverse l.reverse
  | _, _, .nil => .nil
  | _, _, .cons h r => by rw [List.reverse_cons, List.reverse_cons]; exact (Rs.rev r).app (Rs.one h)
theorem dn_rev {g : Lo → Ev D} {k : Nat} {p1 p2 p3 : Pos} (he : DE X W e g) : DN X W (.Subscript e (.Slice none none (some (.UnaryOp .USub (.Constant (.int 1) k p1) p2)) p3) pos) (nRev g) := by
  obtain ⟨t, p, s⟩ := he
  refine ⟨_, pe_revL p, fun Fr B as σ H S M Q rs rp h => ?_⟩
  refine s Fr B as σ H S M _ rs rp (h.bnd.imp fun x M1 B1 as1 s1 p1 h1 v H1 rp1 r1 => ?_)
  obtain ⟨t, l, q, vs, rfl, fc, rs2, h9, _⟩ := Post.vw (d := x) h1 rp1 r1
  cases t <;> first | exact h9.elim | skip
  · exact ⟨q, vs, rfl, SqL.of fc, fun z hz => h9.ret _ H1 z rp1 rs2.rev hz⟩
  · exact ⟨q, vs, rfl, fc, fun z hz => h9.ret _ H1 z rp1 rs2.rev hz⟩
theorem ds_continue : DS X W (.Continue pos) sCt := ⟨_, ps_continue, fun Fr B as σ H S M D rs rp h => (Post.ret (a := Fl.ct S) (k := kF X Fr W D) h) σ H rp rs⟩
end
end DL

set_option Elab.async false
set_option linter.all false
set_option maxRecDepth 100000
set_option maxHeartbeats 4000000
/-! DLC: len of an own object. -/
namespace DL
open PySem PySem.Spec PyProof.Rows L2
section
variable {X : Cx} {CX : CXT} {k : Nat} {f C : Addr} {fd : FuncData} {ps : List Str} {sp : Sp} {E : XK}
theorem call_lenOwn (c : Cls X.K C) (hm : Meth X.K C "__len__" f) (F : FnOk X.prog X.w X.K X.mg X.base CX k f fd ps sp) (hr : Room (k + 1) X.A) (hb : Binds X.K fd ps []) (hx : Passes CX X E) :
    CallR X (.builtin "len") (fun xs H Q => ∃ a dx fs, xs = [.ref a] ∧ H a = some (.ins C dx fs) ∧ sp [.ref a] H (fun v H2 => ∃ n : Nat, v = .int n ∧ (n : Int) < 2 ^ 63 ∧ Q (.int n) H2) E) := by
  intro pins s σ H xs us Q I r h
  obtain ⟨a, dx, fs, rfl, ea, hs⟩ := h
  obtain ⟨u, rfl, ru⟩ := vals1 r
  obtain rfl : u = Value.ref a := ru
  obtain ⟨mA, O, ro, _, _, _⟩ := ins_get I.hok ea
  have hl : [Value.ref a].length = ps.length := F.len _ _ _ _ hs
  refine Calls.call_function_entry kind_len plain_len entry_len (args_len1 _) ?_
  unfold Builtin.«len»
  refine wpAny_bind (m := oneArg "len" _) (wpAny_pure ?_)
  refine wpAny_bind (m := callSpecial? (.ref a) (PySem.Str.ofString "__len__")) ?_
  unfold callSpecial? specialOf
  have O2 : PySem.W.Looks (model X.prog X.w) s.heap (typeOf (.ref a)) (.ref C) := NwA.type_at O.obj rfl
  refine wpAny_bind (wpAny_bind (O2.here ((PySem.W.looks_findIn I.kIn hm.at_).here ?_)))
  refine wpAny_holding ?_
  refine wpAny_bind ((PySem.W.bind_fn I.kIn _ (by have := hm.fn; unfold PySem.W.isFn at this; exact eq_of_beq this)).here ?_)
  refine wpAny_bind (wpAny_call (codeAny_mono (F.run X.A.in1 X.stack s H ⟨[.ref a], []⟩ [.ref a] [.ref a] _ E hr.in1 I.env0.in1 (by have := hb s [.ref a] I.kIn (by simpa using hl); simpa using this) (.cons rfl .nil) hs) fun r s' hq => ?_))
  cases r with
  | error e => exact hx pins σ H s e s' I hq
  | ok fl =>
    cases fl with
    | next => exact False.elim hq
    | brk => exact False.elim hq
    | cont => exact False.elim hq
    | ret u =>
      obtain ⟨v, H2, I2, rv, n, rfl, hn, q⟩ := I.after hq
      obtain ⟨t, rfl⟩ := rv
      refine wpAny_pure ?_
      refine wpAny_bind (wpAny_holding (wpAny_pure ?_))
      refine wpAny_bind (wpAny_letGo ?_)
      show wpAny _ _ (if ((n : Nat) : Int) < 0 then _ else _) _ _ _
      rw [if_neg (by omega)]
      show wpAny _ _ (if ((n : Nat) : Int) ≥ 2 ^ 63 then _ else _) _ _ _
      rw [if_neg (by omega)]
      exact wpAny_bind (wpAny_mkInt (wpAny_pure ⟨_, rfl, .int n, H2, I2.tok _, ⟨_, rfl⟩, q⟩))
def LenI (n : Int) : Prop := 0 ≤ n ∧ n < 2 ^ 63
open Classical in
noncomputable def lenB (n : Int) : Bool := decide (LenI n)
theorem lenB_iff {n : Int} : lenB n = true ↔ 0 ≤ n ∧ n < 2 ^ 63 := by unfold lenB; exact @decide_eq_true_iff (LenI n) (Classical.propDecidable _)
noncomputable def lenK : D → Ev D
  | .int n => if lenB n = true then Ev.ret (.int n) else Ev.no
  | _ => Ev.no
noncomputable def lenO (cn : Str) (F : List D → Ev D) (x : D) : Ev D := (DL.isObj cn "__len__" x).bnd fun _ => (callD 1 F [x]).bnd lenK
theorem de_lenO {e : Expr} {p pos : Pos} {cn : Str} {F : List D → Ev D} {fa : Lo → Ev (List D)} {ps : List Str} (c : ClsD X cn C) (hm : Meth X.K C "__len__" f) (FO : FnOk X.prog X.w X.K X.mg X.base (CXX X) k f fd ps (spD (gx X) 1 F)) (hr : Room (k + 1) X.A) (hb : Binds X.K fd ps []) (hx : Passes (CXX X) X E)
    (hg : Gl X "len") (hmm : X.mg "len" = none) (ha : DA X (WF E) [e] fa) (he : starEach [e] X.env = (false, eval e X.env) :: starEach [] X.env := by rfl) : DE X (WF E) (.Call (.Name "len" p) [e] [] pos) (eCall (op1 (lenO cn F)) fa) :=
  de_callB (call_lenOwn c.cl hm FO hr hb hx) (oN1 fun Fr B as σ H M v d Q rp r h => by
    obtain ⟨a, dx, fs, rfl, hH, _, h⟩ := h.isObj c rp r
    refine ⟨a, dx, fs, rfl, hH, ?_⟩
    refine spD_of (W := WF E) (σ := σ) rp (.cons r .nil) (h.bnd.imp fun x M1 B1 as1 s1 p1 h1 v H1 rp1 r1 => ?_)
    cases x <;> first | exact h1.elim | skip
    rename_i n
    cases r1
    unfold lenK at h1
    dsimp only at h1
    by_cases hb : lenB n = true
    · rw [if_pos hb] at h1
      have hc := lenB_iff.mp hb
      obtain ⟨j, rfl⟩ := Int.eq_ofNat_of_zero_le hc.1
      exact ⟨j, rfl, hc.2, h1.ret _ H1 rp1 (.int _)⟩
    · rw [if_neg hb] at h1; exact h1.elim) hg hmm (by decide +kernel) ha (by decide) (by decide) he
end
end DL

set_option Elab.async false
set_option linter.all false
set_option maxRecDepth 100000
set_option maxHeartbeats 1000000
/-! TL1: typed results, frames by slots, the judgements. -/
namespace TL
open PySem L2 DL
/-- what a deterministic piece gives -/
inductive E (α : Type) where
  | ok (a : α) | exc (c : Str) (d : D) | bad
abbrev W (α : Type) := (α → Prop) → (Str → D → Prop) → Prop
def E.bind {α β : Type} (e : E α) (k : α → E β) : E β := match e with
  | .ok a => k a
  | .exc c d => .exc c d
  | .bad => .bad
def E.tr {α : Type} (e : E α) (k : Str → D → E α) : E α := match e with
  | .ok a => .ok a
  | .exc c d => k c d
  | .bad => .bad
def E.wp {α : Type} (e : E α) : W α := fun Q X => match e with
  | .ok a => Q a
  | .exc c d => X c d
  | .bad => False
class Mo (m : Type → Type) where
  pur0 : {α : Type} → α → m α
  bnd0 : {α β : Type} → m α → (α → m β) → m β
  lft0 : {α : Type} → E α → m α
  tr0 : {α : Type} → m α → (Str → D → m α) → m α
  wp0 : {α : Type} → m α → W α
  pur_wp0 : ∀ {α : Type} {a : α} {Q : α → Prop} {X : Str → D → Prop}, wp0 (pur0 a) Q X → Q a
  bnd_wp0 : ∀ {α β : Type} {x : m α} {k : α → m β} {Q : β → Prop} {X : Str → D → Prop}, wp0 (bnd0 x k) Q X → wp0 x (fun a => wp0 (k a) Q X) X
  lft_wp0 : ∀ {α : Type} {x : E α} {Q : α → Prop} {X : Str → D → Prop}, wp0 (lft0 x) Q X → x.wp Q X
  tr_wp0 : ∀ {α : Type} {x : m α} {k : Str → D → m α} {Q : α → Prop} {X : Str → D → Prop}, wp0 (tr0 x k) Q X → wp0 x Q (fun c d => wp0 (k c d) Q X)
instance : Mo E where
  pur0 := E.ok
  bnd0 := E.bind
  lft0 := id
  tr0 := E.tr
  wp0 := E.wp
  pur_wp0 h := h
  bnd_wp0 {α β x k Q X} h := by cases x <;> exact h
  lft_wp0 h := h
  tr_wp0 {α x k Q X} h := by cases x <;> exact h
instance : Mo W where
  pur0 a := fun Q _ => Q a
  bnd0 x k := fun Q X => x (fun a => k a Q X) X
  lft0 e := e.wp
  tr0 x k := fun Q X => x Q (fun c d => k c d Q X)
  wp0 x := x
  pur_wp0 h := h
  bnd_wp0 h := h
  lft_wp0 h := h
  tr_wp0 h := h
namespace Mo
@[irreducible] def pur {m : Type → Type} [Mo m] {α : Type} (a : α) : m α := Mo.pur0 a
@[irreducible] def bnd {m : Type → Type} [Mo m] {α β : Type} (x : m α) (k : α → m β) : m β := Mo.bnd0 x k
@[irreducible] def lft {m : Type → Type} [Mo m] {α : Type} (x : E α) : m α := Mo.lft0 x
@[irreducible] def tr {m : Type → Type} [Mo m] {α : Type} (x : m α) (k : Str → D → m α) : m α := Mo.tr0 x k
@[irreducible] def wp {m : Type → Type} [Mo m] {α : Type} (x : m α) : W α := Mo.wp0 x
section
variable {m : Type → Type} [Mo m] {α β : Type} {Q : β → Prop} {X : Str → D → Prop}
theorem pur_wp {a : β} (h : wp (m := m) (pur a) Q X) : Q a := by unfold wp pur at h; exact Mo.pur_wp0 h
theorem bnd_wp {x : m α} {k : α → m β} (h : wp (bnd x k) Q X) : wp x (fun a => wp (k a) Q X) X := by unfold wp bnd at h; unfold wp; exact Mo.bnd_wp0 h
theorem lft_wp {x : E β} (h : wp (m := m) (lft x) Q X) : x.wp Q X := by unfold wp lft at h; exact Mo.lft_wp0 h
theorem tr_wp {x : m β} {k : Str → D → m β} (h : wp (tr x k) Q X) : wp x Q (fun c d => wp (k c d) Q X) := by unfold wp tr at h; unfold wp; exact Mo.tr_wp0 h
end
end Mo
open Mo (pur bnd lft)
theorem bndE {α β : Type} (x : E α) (k : α → E β) : bnd x k = x.bind k := by unfold bnd; rfl
theorem purE {α : Type} (a : α) : (pur a : E α) = .ok a := by unfold pur; rfl
theorem lftE {α : Type} (x : E α) : (lft x : E α) = x := by unfold lft; rfl
theorem trE {α : Type} (x : E α) (k : Str → D → E α) : Mo.tr x k = x.tr k := by unfold Mo.tr; rfl
theorem wpE {α : Type} (x : E α) : Mo.wp x = x.wp := by unfold Mo.wp; rfl
theorem lft_wpE {m : Type → Type} [Mo m] {β : Type} {Q : β → Prop} {X : Str → D → Prop} {x : E β} (h : Mo.wp (m := m) (lft x) Q X) : Mo.wp x Q X := by rw [wpE]; exact Mo.lft_wp h
theorem bndW {α β : Type} (x : W α) (k : α → W β) : bnd x k = fun Q X => x (fun a => k a Q X) X := by unfold bnd; rfl
theorem purW {α : Type} (a : α) : (pur a : W α) = fun Q _ => Q a := by unfold pur; rfl
theorem lftW {α : Type} (x : E α) : (lft x : W α) = x.wp := by unfold lft; rfl
theorem trW {α : Type} (x : W α) (k : Str → D → W α) : Mo.tr x k = fun Q X => x Q (fun c d => k c d Q X) := by unfold Mo.tr; rfl
theorem wpW {α : Type} (x : W α) : Mo.wp x = x := by unfold Mo.wp; rfl

/-- data of a type, as a tree without cells -/
class Enc (α : Type) where
  enc : α → D
  nr : ∀ (a : α) (n : Nat), rlt n (enc a) = true
open Enc (enc)
instance : Enc Int := ⟨D.int, fun _ _ => rfl⟩
instance : Enc Bool := ⟨D.bl, fun _ _ => rfl⟩
instance : Enc Str := ⟨D.str, fun _ _ => rfl⟩
instance : Enc Unit := ⟨fun _ => D.non, fun _ _ => rfl⟩
theorem nrs {α : Type} [Enc α] (n : Nat) : ∀ xs : List α, rlts n (xs.map enc) = true
  | [] => rfl
  | x :: xs => by simp [rlts, Enc.nr x n, nrs n xs]
abbrev encs {α : Type} [Enc α] (xs : List α) : List D := xs.map enc
instance {α : Type} [Enc α] : Enc (List α) := ⟨fun xs => .nd .lst (xs.map enc), fun xs n => by simp [rlt, nrs]⟩
instance {α β : Type} [Enc α] [Enc β] : Enc (α × β) := ⟨fun x => .nd .tup [enc x.1, enc x.2], fun x n => by simp [rlt, rlts, Enc.nr]⟩
structure T1 (α : Type) where
  a : α
  deriving DecidableEq
structure T3 (α β γ : Type) where
  a : α
  b : β
  c : γ
  deriving DecidableEq
structure T0 where
  deriving DecidableEq
instance : Enc T0 := ⟨fun _ => .nd .tup [], fun x n => by simp [rlt, rlts]⟩
instance {α : Type} [Enc α] : Enc (T1 α) := ⟨fun x => .nd .tup [enc x.a], fun x n => by simp [rlt, rlts, Enc.nr]⟩
instance {α β γ : Type} [Enc α] [Enc β] [Enc γ] : Enc (T3 α β γ) := ⟨fun x => .nd .tup [enc x.a, enc x.b, enc x.c], fun x n => by simp [rlt, rlts, Enc.nr]⟩
instance {α : Type} [Enc α] : Enc (Option α) := ⟨fun x => match x with | some a => enc a | none => .non, fun x n => by cases x <;> simp [rlt, Enc.nr]⟩
instance {α β : Type} [Enc α] [Enc β] : Enc (α ⊕ β) := ⟨fun x => match x with | .inl a => enc a | .inr b => enc b, fun x n => by cases x <;> simp [Enc.nr]⟩
/-- the pool's contents -/
def Pl (c : List D) : Prop := ∃ a b : Int, c = [.int a, .int b] ∧ 0 ≤ b ∧ b < 2147483648
def PoolAt (M : Store) (p : Nat) : Prop := ∃ c, M[p]? = some (.lst, c) ∧ Pl c
theorem PoolAt.lt {M : Store} {p : Nat} (h : PoolAt M p) : p < M.length := by
  obtain ⟨c, h, _⟩ := h
  exact (List.getElem?_eq_some_iff.mp h).1
theorem PoolAt.same {M M' : Store} {p : Nat} (h : PoolAt M p) (e : M'[p]? = M[p]?) : PoolAt M' p := by
  obtain ⟨c, h, q⟩ := h
  exact ⟨c, by rw [e]; exact h, q⟩
/-- a slot of the frame: anything, a value, an own cell, an own pool, the caller's pool -/
inductive SV where
  | any | val (d : D) | lc (t : Tg) (l : List D) | lpl | par (n : Nat) | pin (n : Nat) (t : Tg) (l : List D) | ro (n : Nat) (t : Tg) (l : List D)
def SV.cell : SV → Bool
  | .lc _ _ => true
  | .lpl => true
  | .par _ => true
  | .pin _ _ _ => true
  | _ => false
abbrev SV.v {α : Type} [Enc α] (a : α) : SV := .val (enc a)
abbrev SV.L {α : Type} [Enc α] (xs : List α) : SV := .lc .lst (xs.map enc)
/-- what a piece may change: pools alone -/
structure Chg (M M' : Store) : Prop where
  le : M.length ≤ M'.length
  same : ∀ k, k < M.length → M'[k]? = M[k]? ∨ PoolAt M' k
theorem Chg.refl (M : Store) : Chg M M := ⟨Nat.le_refl _, fun _ _ => .inl rfl⟩
theorem Chg.trans {M M1 M2 : Store} (h : Chg M M1) (k : Chg M1 M2) : Chg M M2 := ⟨Nat.le_trans h.le k.le, fun i hi => by
  rcases k.same i (Nat.lt_of_lt_of_le hi h.le) with e | e
  · rcases h.same i hi with e' | e'
    · exact .inl (e.trans e')
    · exact .inr (e'.same e)
  · exact .inr e⟩
theorem Chg.none (M : Store) : Chg [] M := ⟨by simp, fun k h => by simp at h⟩
/-- the caller's pools; a store to compare with -/
structure PX where
  pl : List Nat
  mr : Store
def SlotOk (pp : PX) (M0 : Store) (ns : Nat → Nat) (S : Lo) (M : Store) (i : Nat) : SV → Prop
  | .any => True
  | .val d => S[i]? = some (some d)
  | .lc t l => S[i]? = some (some (.ref (ns i))) ∧ M0.length ≤ ns i ∧ M[ns i]? = some (t, l)
  | .lpl => S[i]? = some (some (.ref (ns i))) ∧ M0.length ≤ ns i ∧ PoolAt M (ns i)
  | .par n => S[i]? = some (some (.ref n)) ∧ n ∈ pp.pl ∧ ns i = n
  | .pin n t l => S[i]? = some (some (.ref n)) ∧ ns i = n ∧ M0.length ≤ n ∧ M[n]? = some (t, l)
  | .ro n t l => S[i]? = some (some (.ref n)) ∧ n ∉ pp.pl ∧ M0[n]? = some (t, l)
structure Rel (pp : PX) (M0 : Store) (fs : List SV) (S : Lo) (M : Store) (ns : Nat → Nat) : Prop where
  len : S.length = fs.length
  le : M0.length ≤ M.length
  fr : ∀ k, k < M0.length → k ∉ pp.pl → M[k]? = M0[k]?
  pl : ∀ n ∈ pp.pl, n < M0.length ∧ PoolAt M n
  cg : Chg pp.mr M
  sl : ∀ i v, fs[i]? = some v → SlotOk pp M0 ns S M i v
  dj : ∀ i j u v, i ≠ j → fs[i]? = some u → fs[j]? = some v → u.cell = true → v.cell = true → ns i ≠ ns j
/-- the store but for pools -/
structure Fram (pp : List Nat) (M M' : Store) : Prop where
  le : M.length ≤ M'.length
  fr : ∀ k, k < M.length → k ∉ pp → M'[k]? = M[k]?
  pl : ∀ n ∈ pp, PoolAt M' n
section
variable {pp : PX} {M0 M M' : Store} {fs fs' : List SV} {S : Lo} {ns : Nat → Nat} {i j n : Nat} {t : Tg} {l : List D} {d : D}
theorem SlotOk.lt {v : SV} (r : Rel pp M0 fs S M ns) (h : SlotOk pp M0 ns S M i v) (hc : v.cell = true) : ns i < M.length := by
  cases v with
  | any => cases hc
  | val d => cases hc
  | lc t l => exact (List.getElem?_eq_some_iff.mp h.2.2).1
  | lpl => exact h.2.2.lt
  | par n => rw [h.2.2]; exact (r.pl n h.2.1).2.lt
  | pin n t l => rw [h.2.1]; exact (List.getElem?_eq_some_iff.mp h.2.2.2).1
  | ro n t l => cases hc
theorem Rel.grd_ {c : Tg × List D} (r : Rel pp M0 fs S M ns) (hn : n ∉ pp.pl) (hc : M0[n]? = some c) : M[n]? = some c := by rw [r.fr n (List.getElem?_eq_some_iff.mp hc).1 hn]; exact hc
theorem Rel.fram (r : Rel pp M0 fs S M ns) : Fram pp.pl M0 M := ⟨r.le, r.fr, fun n h => (r.pl n h).2⟩
/-- the store has changed, no cell of the frame has, but for pools -/
theorem Rel.store (r : Rel pp M0 fs S M ns) (hl : M.length ≤ M'.length) (hk : ∀ k, k < M.length → M'[k]? = M[k]?) : Rel pp M0 fs S M' ns := by
  refine ⟨r.len, Nat.le_trans r.le hl, fun k h1 h2 => by rw [hk k (Nat.lt_of_lt_of_le h1 r.le), r.fr k h1 h2], fun n hn => ?_, r.cg.trans ⟨hl, fun k h => .inl (hk k h)⟩, fun i v h => ?_, r.dj⟩
  · have := r.pl n hn
    exact ⟨this.1, this.2.same (hk n this.2.lt)⟩
  · have s := r.sl i v h
    cases v with
    | any => trivial
    | val d => exact s
    | lc t l => exact ⟨s.1, s.2.1, by rw [hk _ (s.lt r rfl)]; exact s.2.2⟩
    | lpl => exact ⟨s.1, s.2.1, s.2.2.same (hk _ (s.lt r rfl))⟩
    | par n => exact s
    | pin n t l => exact ⟨s.1, s.2.1, s.2.2.1, by rw [hk _ (by have := s.lt r rfl; rw [s.2.1] at this; exact this)]; exact s.2.2.2⟩
    | ro n t l => exact s
theorem Rel.storeP (r : Rel pp M0 fs S M ns) {v : SV} (hv : fs[i]? = some v) (hp : v = .lpl ∨ ∃ n, v = .par n) (hl : M.length ≤ M'.length) (hk : ∀ k, k < M.length → k ≠ ns i → M'[k]? = M[k]?) (hq : PoolAt M' (ns i)) : Rel pp M0 fs S M' ns := by
  have sv := r.sl i v hv
  have hcv : v.cell = true := by rcases hp with rfl | ⟨n, rfl⟩ <;> rfl
  have ne : ∀ k, k < M0.length → k ∉ pp.pl → k ≠ ns i := fun k h1 h2 e => by
    rcases hp with rfl | ⟨n, rfl⟩
    · have := sv.2.1; omega
    · exact h2 (by rw [e, sv.2.2]; exact sv.2.1)
  refine ⟨r.len, Nat.le_trans r.le hl, fun k h1 h2 => by rw [hk k (Nat.lt_of_lt_of_le h1 r.le) (ne k h1 h2), r.fr k h1 h2], fun n hn => ?_, r.cg.trans ⟨hl, fun k h => ?_⟩, fun j u h => ?_, r.dj⟩
  · have := r.pl n hn
    by_cases e : n = ns i
    · exact ⟨this.1, by rw [e]; exact hq⟩
    · exact ⟨this.1, this.2.same (hk n this.2.lt e)⟩
  · by_cases e : k = ns i
    · exact .inr (by rw [e]; exact hq)
    · exact .inl (hk k h e)
  · have s := r.sl j u h
    by_cases e : j = i
    · subst e
      have := h.symm.trans hv
      cases this
      rcases hp with rfl | ⟨n, rfl⟩
      · exact ⟨s.1, s.2.1, hq⟩
      · exact s
    · have nj : u.cell = true → ns j ≠ ns i := fun hc => r.dj j i u v e h hv hc hcv
      cases u with
      | any => trivial
      | val d => exact s
      | lc t l => exact ⟨s.1, s.2.1, by rw [hk _ (s.lt r rfl) (nj rfl)]; exact s.2.2⟩
      | lpl => exact ⟨s.1, s.2.1, s.2.2.same (hk _ (s.lt r rfl) (nj rfl))⟩
      | par n => exact s
      | pin n t l => exact ⟨s.1, s.2.1, s.2.2.1, by rw [hk _ (by have := s.lt r rfl; rw [s.2.1] at this; exact this) (by have := nj rfl; rw [s.2.1] at this; exact this)]; exact s.2.2.2⟩
      | ro n t l => exact s
theorem get_set {α : Type} {l : List α} {i j : Nat} {a b : α} (h : (l.set i a)[j]? = some b) : (i = j ∧ a = b ∧ i < l.length) ∨ (i ≠ j ∧ l[j]? = some b) := by
  by_cases e : i = j
  · subst e
    have hl : i < l.length := by
      have := (List.getElem?_eq_some_iff.mp h).1
      simpa using this
    rw [List.getElem?_set_self hl] at h
    cases h
    exact .inl ⟨rfl, rfl, hl⟩
  · rw [List.getElem?_set_ne e] at h
    exact .inr ⟨e, h⟩
/-- a slot is set to a value -/
theorem Rel.setV (r : Rel pp M0 fs S M ns) : Rel pp M0 (fs.set i (.val d)) (S.set i (some d)) M ns := by
  refine ⟨by simp [r.len], r.le, r.fr, r.pl, r.cg, fun j v h => ?_, fun j k u v hn hu hv cu cv => ?_⟩
  · rcases get_set h with ⟨rfl, rfl, hl⟩ | ⟨hn, h⟩
    · exact List.getElem?_set_self (by rw [r.len]; exact hl)
    · have s := r.sl j v h
      have e : (S.set i (some d))[j]? = S[j]? := List.getElem?_set_ne hn
      cases v <;> first | trivial | (unfold SlotOk at s ⊢; rw [e]; exact s)
  · rcases get_set hu with ⟨_, rfl, _⟩ | ⟨_, hu⟩
    · cases cu
    · rcases get_set hv with ⟨_, rfl, _⟩ | ⟨_, hv⟩
      · cases cv
      · exact r.dj j k u v hn hu hv cu cv
/-- a slot gets a new cell -/
theorem Rel.setC (r : Rel pp M0 fs S M ns) (hn : M.length ≤ n) (hc : M'[n]? = some (t, l)) (hl : M.length ≤ M'.length) (hk : ∀ k, k < M.length → M'[k]? = M[k]?) :
    Rel pp M0 (fs.set i (.lc t l)) (S.set i (some (.ref n))) M' (fun j => if j = i then n else ns j) := by
  have r' := r.store hl hk
  refine ⟨by simp [r.len], r'.le, r'.fr, r'.pl, r'.cg, fun j v h => ?_, fun j k u v hn hu hv cu cv => ?_⟩
  · rcases get_set h with ⟨rfl, rfl, hl⟩ | ⟨hne, h⟩
    · exact ⟨by dsimp only; rw [if_pos rfl]; exact List.getElem?_set_self (by rw [r.len]; exact hl), by dsimp only; rw [if_pos rfl]; exact Nat.le_trans r.le hn, by dsimp only; rw [if_pos rfl]; exact hc⟩
    · have s := r'.sl j v h
      have e : (S.set i (some (.ref n)))[j]? = S[j]? := List.getElem?_set_ne hne
      have e2 : ¬ (j = i) := fun z => hne z.symm
      cases v <;> first | trivial | (unfold SlotOk at s ⊢; simp only [e, if_neg e2]; exact s)
  · have lt : ∀ a w, fs[a]? = some w → w.cell = true → ns a < M.length := fun a w h c => (r.sl a w h).lt r c
    rcases get_set hu with ⟨ei, rfl, _⟩ | ⟨ne1, hu⟩
    · rcases get_set hv with ⟨ej, rfl, _⟩ | ⟨ne2, hv⟩
      · omega
      · have := lt k v hv cv
        simp only [if_pos ei.symm, if_neg (Ne.symm ne2)]
        omega
    · rcases get_set hv with ⟨ej, rfl, _⟩ | ⟨ne2, hv⟩
      · have := lt j u hu cu
        simp only [if_pos ej.symm, if_neg (Ne.symm ne1)]
        omega
      · simp only [if_neg (Ne.symm ne1), if_neg (Ne.symm ne2)]
        exact r.dj j k u v hn hu hv cu cv
/-- a slot gets a new pool -/
theorem Rel.setP (r : Rel pp M0 fs S M ns) (hn : M.length ≤ n) (hc : PoolAt M' n) (hl : M.length ≤ M'.length) (hk : ∀ k, k < M.length → M'[k]? = M[k]?) :
    Rel pp M0 (fs.set i .lpl) (S.set i (some (.ref n))) M' (fun j => if j = i then n else ns j) := by
  have r' := r.store hl hk
  refine ⟨by simp [r.len], r'.le, r'.fr, r'.pl, r'.cg, fun j v h => ?_, fun j k u v hn hu hv cu cv => ?_⟩
  · rcases get_set h with ⟨rfl, rfl, hl⟩ | ⟨hne, h⟩
    · exact ⟨by dsimp only; rw [if_pos rfl]; exact List.getElem?_set_self (by rw [r.len]; exact hl), by dsimp only; rw [if_pos rfl]; exact Nat.le_trans r.le hn, by dsimp only; rw [if_pos rfl]; exact hc⟩
    · have s := r'.sl j v h
      have e : (S.set i (some (.ref n)))[j]? = S[j]? := List.getElem?_set_ne hne
      have e2 : ¬ (j = i) := fun z => hne z.symm
      cases v <;> first | trivial | (unfold SlotOk at s ⊢; simp only [e, if_neg e2]; exact s)
  · have lt : ∀ a w, fs[a]? = some w → w.cell = true → ns a < M.length := fun a w h c => (r.sl a w h).lt r c
    rcases get_set hu with ⟨ei, rfl, _⟩ | ⟨ne1, hu⟩
    · rcases get_set hv with ⟨ej, rfl, _⟩ | ⟨ne2, hv⟩
      · omega
      · have := lt k v hv cv
        simp only [if_pos ei.symm, if_neg (Ne.symm ne2)]
        omega
    · rcases get_set hv with ⟨ej, rfl, _⟩ | ⟨ne2, hv⟩
      · have := lt j u hu cu
        simp only [if_pos ej.symm, if_neg (Ne.symm ne1)]
        omega
      · simp only [if_neg (Ne.symm ne1), if_neg (Ne.symm ne2)]
        exact r.dj j k u v hn hu hv cu cv
/-- an own cell is written -/
theorem Rel.wr {t' : Tg} {l' : List D} (r : Rel pp M0 fs S M ns) (hm : pp.mr = []) (h : fs[i]? = some (.lc t l)) : Rel pp M0 (fs.set i (.lc t' l')) S (M.set (ns i) (t', l')) ns := by
  have s := r.sl i _ h
  have hi := (List.getElem?_eq_some_iff.mp h).1
  refine ⟨by simp [r.len], by simpa using r.le, fun k h1 h2 => ?_, fun n hn => ?_, by rw [hm]; exact Chg.none _, fun j v hj => ?_, fun j k u v hn hu hv cu cv => ?_⟩
  · rw [List.getElem?_set_ne (by have := s.2.1; omega)]; exact r.fr k h1 h2
  · have q := r.pl n hn
    exact ⟨q.1, q.2.same (List.getElem?_set_ne (by have := s.2.1; have := q.1; omega))⟩
  · rcases get_set hj with ⟨rfl, rfl, hl⟩ | ⟨hne, hj⟩
    · exact ⟨s.1, s.2.1, List.getElem?_set_self (s.lt r rfl)⟩
    · have sj := r.sl j v hj
      have nj : v.cell = true → (M.set (ns i) (t', l'))[ns j]? = M[ns j]? := fun hc => List.getElem?_set_ne (r.dj i j _ v hne h hj rfl hc)
      cases v with
      | any => trivial
      | val d => exact sj
      | lc t l => exact ⟨sj.1, sj.2.1, by rw [nj rfl]; exact sj.2.2⟩
      | lpl => exact ⟨sj.1, sj.2.1, sj.2.2.same (nj rfl)⟩
      | par n => exact sj
      | pin n t l => exact ⟨sj.1, sj.2.1, sj.2.2.1, by have := nj rfl; rw [sj.2.1] at this; rw [this]; exact sj.2.2.2⟩
      | ro n t l => exact sj
  · rcases get_set hu with ⟨ei, rfl, _⟩ | ⟨ne1, hu⟩
    · subst ei
      rcases get_set hv with ⟨ej, rfl, _⟩ | ⟨ne2, hv⟩
      · omega
      · exact r.dj i k _ v hn h hv rfl cv
    · rcases get_set hv with ⟨ej, rfl, _⟩ | ⟨ne2, hv⟩
      · subst ej
        exact r.dj j i u _ hn hu h cu rfl
      · exact r.dj j k u v hn hu hv cu cv
/-- a pinned cell is written -/
theorem Rel.wrP {t' : Tg} {l' : List D} (r : Rel pp M0 fs S M ns) (hm : pp.mr = []) (h : fs[i]? = some (.pin n t l)) : Rel pp M0 (fs.set i (.pin n t' l')) S (M.set n (t', l')) ns := by
  have s := r.sl i _ h
  have hlt : n < M.length := (List.getElem?_eq_some_iff.mp s.2.2.2).1
  refine ⟨by simp [r.len], by simpa using r.le, fun k h1 h2 => ?_, fun c hn => ?_, by rw [hm]; exact Chg.none _, fun j v hj => ?_, fun j k u v hn hu hv cu cv => ?_⟩
  · rw [List.getElem?_set_ne (by have := s.2.2.1; omega)]; exact r.fr k h1 h2
  · have q := r.pl c hn
    exact ⟨q.1, q.2.same (List.getElem?_set_ne (by have := s.2.2.1; have := q.1; omega))⟩
  · rcases get_set hj with ⟨rfl, rfl, hl⟩ | ⟨hne, hj⟩
    · exact ⟨s.1, s.2.1, s.2.2.1, List.getElem?_set_self hlt⟩
    · have sj := r.sl j v hj
      have nj : v.cell = true → (M.set n (t', l'))[ns j]? = M[ns j]? := fun hc => List.getElem?_set_ne (by have := r.dj i j _ v hne h hj rfl hc; rw [s.2.1] at this; exact this)
      cases v with
      | any => trivial
      | val d => exact sj
      | lc t l => exact ⟨sj.1, sj.2.1, by rw [nj rfl]; exact sj.2.2⟩
      | lpl => exact ⟨sj.1, sj.2.1, sj.2.2.same (nj rfl)⟩
      | par n => exact sj
      | pin c t l => exact ⟨sj.1, sj.2.1, sj.2.2.1, by have := nj rfl; rw [sj.2.1] at this; rw [this]; exact sj.2.2.2⟩
      | ro n t l => exact sj
  · rcases get_set hu with ⟨ei, rfl, _⟩ | ⟨ne1, hu⟩
    · subst ei
      rcases get_set hv with ⟨ej, rfl, _⟩ | ⟨ne2, hv⟩
      · omega
      · exact r.dj i k _ v hn h hv rfl cv
    · rcases get_set hv with ⟨ej, rfl, _⟩ | ⟨ne2, hv⟩
      · subst ej
        exact r.dj j i u _ hn hu h cu rfl
      · exact r.dj j k u v hn hu hv cu cv
/-- a cell is pinned, and let go -/
theorem Rel.pin (r : Rel pp M0 fs S M ns) (h : fs[i]? = some (.lc t l)) : Rel pp M0 (fs.set i (.pin (ns i) t l)) S M ns := by
  have s := r.sl i _ h
  refine ⟨by simp [r.len], r.le, r.fr, r.pl, r.cg, fun j v hj => ?_, fun j k u v hn hu hv cu cv => ?_⟩
  · rcases get_set hj with ⟨rfl, rfl, hl⟩ | ⟨hne, hj⟩
    · exact ⟨s.1, rfl, s.2.1, s.2.2⟩
    · exact r.sl j v hj
  · rcases get_set hu with ⟨ei, rfl, _⟩ | ⟨ne1, hu⟩
    · subst ei
      rcases get_set hv with ⟨ej, rfl, _⟩ | ⟨ne2, hv⟩
      · omega
      · exact r.dj i k _ v hn h hv rfl cv
    · rcases get_set hv with ⟨ej, rfl, _⟩ | ⟨ne2, hv⟩
      · subst ej
        exact r.dj j i u _ hn hu h cu rfl
      · exact r.dj j k u v hn hu hv cu cv
theorem Rel.unpin (r : Rel pp M0 fs S M ns) (h : fs[i]? = some (.pin n t l)) : Rel pp M0 (fs.set i (.lc t l)) S M ns := by
  have s := r.sl i _ h
  refine ⟨by simp [r.len], r.le, r.fr, r.pl, r.cg, fun j v hj => ?_, fun j k u v hn hu hv cu cv => ?_⟩
  · rcases get_set hj with ⟨rfl, rfl, hl⟩ | ⟨hne, hj⟩
    · exact ⟨by rw [s.2.1]; exact s.1, by rw [s.2.1]; exact s.2.2.1, by rw [s.2.1]; exact s.2.2.2⟩
    · exact r.sl j v hj
  · rcases get_set hu with ⟨ei, rfl, _⟩ | ⟨ne1, hu⟩
    · subst ei
      rcases get_set hv with ⟨ej, rfl, _⟩ | ⟨ne2, hv⟩
      · omega
      · exact r.dj i k _ v hn h hv rfl cv
    · rcases get_set hv with ⟨ej, rfl, _⟩ | ⟨ne2, hv⟩
      · subst ej
        exact r.dj j i u _ hn hu h cu rfl
      · exact r.dj j k u v hn hu hv cu cv
/-- less is known -/
def Wk : List SV → List SV → Prop
  | [], [] => True
  | a :: as, b :: bs => (b = .any ∨ b = a) ∧ Wk as bs
  | _, _ => False
theorem Wk.len : ∀ {fs fs' : List SV}, Wk fs fs' → fs'.length = fs.length
  | [], [], _ => rfl
  | _ :: _, _ :: _, h => by simp [Wk.len h.2]
theorem Wk.get : ∀ {fs fs' : List SV} {i : Nat} {v : SV}, Wk fs fs' → fs'[i]? = some v → v = .any ∨ fs[i]? = some v
  | [], [], _, _, _, h => by simp at h
  | a :: as, b :: bs, 0, v, w, h => by
    simp at h; subst h
    rcases w.1 with e | e
    · exact .inl e
    · exact .inr (by simp [e])
  | a :: as, b :: bs, i + 1, v, w, h => by
    rcases Wk.get (i := i) w.2 (by simpa using h) with e | e
    · exact .inl e
    · exact .inr (by simpa using e)
theorem Rel.wk (r : Rel pp M0 fs S M ns) (w : Wk fs fs') : Rel pp M0 fs' S M ns := by
  refine ⟨by rw [w.len, r.len], r.le, r.fr, r.pl, r.cg, fun i v h => ?_, fun i j u v hn hu hv cu cv => ?_⟩
  · rcases w.get h with rfl | h
    · trivial
    · exact r.sl i v h
  · rcases w.get hu with rfl | hu
    · cases cu
    · rcases w.get hv with rfl | hv
      · cases cv
      · exact r.dj i j u v hn hu hv cu cv
theorem Wk.refl : ∀ fs : List SV, Wk fs fs
  | [] => trivial
  | _ :: fs => ⟨.inr rfl, Wk.refl fs⟩
/-- a cell moves from one slot to another -/
theorem Rel.mv (r : Rel pp M0 fs S M ns) (h : fs[j]? = some (.lc t l)) (hij : i ≠ j) : Rel pp M0 ((fs.set j .any).set i (.lc t l)) (S.set i (some (.ref (ns j)))) M (fun k => if k = i then ns j else ns k) := by
  have s := r.sl j _ h
  refine ⟨by simp [r.len], r.le, r.fr, r.pl, r.cg, fun k v hk => ?_, fun a b u v hn hu hv cu cv => ?_⟩
  · rcases get_set hk with ⟨rfl, rfl, hl⟩ | ⟨hne, hk⟩
    · exact ⟨by dsimp only; rw [if_pos rfl]; exact List.getElem?_set_self (by rw [r.len]; simpa using hl), by dsimp only; rw [if_pos rfl]; exact s.2.1, by dsimp only; rw [if_pos rfl]; exact s.2.2⟩
    · rcases get_set hk with ⟨rfl, rfl, hl⟩ | ⟨hne2, hk⟩
      · trivial
      · have sk := r.sl k v hk
        have e : (S.set i (some (.ref (ns j))))[k]? = S[k]? := List.getElem?_set_ne hne
        have e2 : ¬ (k = i) := fun z => hne z.symm
        cases v <;> first | trivial | (unfold SlotOk at sk ⊢; simp only [e, if_neg e2]; exact sk)
  · have nx : ∀ c w, c ≠ i → ((fs.set j .any).set i (.lc t l))[c]? = some w → w.cell = true → c ≠ j ∧ fs[c]? = some w := fun c w hc hw cw => by
      rw [List.getElem?_set_ne (Ne.symm hc)] at hw
      rcases get_set hw with ⟨_, rfl, _⟩ | ⟨z, hw⟩
      · cases cw
      · exact ⟨Ne.symm z, hw⟩
    by_cases ea : a = i
    · subst ea
      have hb : b ≠ a := Ne.symm hn
      obtain ⟨h1, h2⟩ := nx b v hb hv cv
      simp only [if_pos rfl, if_neg hb]
      exact r.dj j b _ v (Ne.symm h1) h h2 rfl cv
    · obtain ⟨h1, h2⟩ := nx a u ea hu cu
      by_cases eb : b = i
      · subst eb
        simp only [if_neg ea, if_pos rfl]
        exact r.dj a j u _ h1 h2 h cu rfl
      · obtain ⟨h3, h4⟩ := nx b v eb hv cv
        simp only [if_neg ea, if_neg eb]
        exact r.dj a b u v hn h2 h4 cu cv
end
/-- an outcome, what holds of it -/
def Sim {A : Type} (o : Out A) (k : A → Store → Prop) (x : Str → D → Store → Prop) : Prop := match o with
  | .ok a M => k a M
  | .exc c d M => x c d M
  | .stuck => False
theorem Sim.bnd {A B : Type} {m : Ev A} {f : A → Ev B} {M : Store} {k : B → Store → Prop} {x : Str → D → Store → Prop} (h : Sim (m M) (fun a M' => Sim (f a M') k x) x) : Sim ((m.bnd f) M) k x := by
  unfold Ev.bnd
  cases e : m M with
  | ok a M' => rw [e] at h; exact h
  | exc c d M' => rw [e] at h; exact h
  | stuck => rw [e] at h; exact h
theorem Sim.ok {A : Type} {o : Out A} {k : A → Store → Prop} {x : Str → D → Store → Prop} {a : A} {M : Store} (e : o = .ok a M) (h : k a M) : Sim o k x := by rw [e]; exact h
theorem Sim.imp {A : Type} {o : Out A} {k k' : A → Store → Prop} {x x' : Str → D → Store → Prop} (h : Sim o k x) (hk : ∀ a M, k a M → k' a M) (hx : ∀ c d M, x c d M → x' c d M) : Sim o k' x' := by
  cases o with
  | ok a M => exact hk a M h
  | exc c d M => exact hx c d M h
  | stuck => exact h
theorem Sim.inv {A : Type} {m : Ev A} {M : Store} {k : A → Store → Prop} {x : Str → D → Store → Prop} (h : Sim (m M) k x) : (∃ a M', m M = .ok a M' ∧ k a M') ∨ (∃ c d M', m M = .exc c d M' ∧ x c d M') := by
  cases e : m M with
  | ok a M' => rw [e] at h; exact .inl ⟨a, M', rfl, h⟩
  | exc c d M' => rw [e] at h; exact .inr ⟨c, d, M', rfl, h⟩
  | stuck => rw [e] at h; exact h.elim
/-! ### judgements -/
section
variable {m : Type → Type} [Mo m]
/-- a pure expression -/
def EP {α : Type} [Enc α] (fs : List SV) (e : Lo → Ev D) (v : α) : Prop := ∀ pp M0 S M ns, Rel pp M0 fs S M ns → e S M = .ok (enc v) M
/-- a pure test -/
def TP (fs : List SV) (e : Lo → Ev Bool) (v : Bool) : Prop := ∀ pp M0 S M ns, Rel pp M0 fs S M ns → e S M = .ok v M
/-- a view of a sequence or other node -/
def EV (fs : List SV) (e : Lo → Ev D) (t : Tg) (l : List D) : Prop := ∀ pp M0 S M ns, Rel pp M0 fs S M ns → ∃ d, e S M = .ok d M ∧ vw d M = .ok (t, l) M
/-- an expression -/
def EO {α : Type} [Enc α] (fs : List SV) (e : Lo → Ev D) (p : m α) : Prop := ∀ pp M0 S M ns, Rel pp M0 fs S M ns → ∀ Q X, Mo.wp p Q X →
  Sim (e S M) (fun d M' => ∃ v, d = enc v ∧ Q v ∧ Rel pp M0 fs S M' ns) (fun c d M' => X c d ∧ Rel pp M0 fs S M' ns)
def TO (fs : List SV) (e : Lo → Ev Bool) (p : m Bool) : Prop := ∀ pp M0 S M ns, Rel pp M0 fs S M ns → ∀ Q X, Mo.wp p Q X →
  Sim (e S M) (fun d M' => Q d ∧ Rel pp M0 fs S M' ns) (fun c d M' => X c d ∧ Rel pp M0 fs S M' ns)
/-- arguments -/
class EncL (τ : Type) where
  encL : τ → List D
open EncL (encL)
instance : EncL Unit := ⟨fun _ => []⟩
instance {α τ : Type} [Enc α] [EncL τ] : EncL (α × τ) := ⟨fun x => enc x.1 :: encL x.2⟩
def AP {τ : Type} [EncL τ] (fs : List SV) (e : Lo → Ev (List D)) (v : τ) : Prop := ∀ pp M0 S M ns, Rel pp M0 fs S M ns → e S M = .ok (encL v) M
def AO {τ : Type} [EncL τ] (fs : List SV) (e : Lo → Ev (List D)) (p : m τ) : Prop := ∀ pp M0 S M ns, Rel pp M0 fs S M ns → ∀ Q X, Mo.wp p Q X →
  Sim (e S M) (fun d M' => ∃ v, d = encL v ∧ Q v ∧ Rel pp M0 fs S M' ns) (fun c d M' => X c d ∧ Rel pp M0 fs S M' ns)
/-- a new node -/
def NP (fs : List SV) (e : Lo → Ev NR) (t : Tg) (l : List D) : Prop := ∀ pp M0 S M ns, Rel pp M0 fs S M ns → e S M = .ok (.n t l) M
def NO {α : Type} (fs : List SV) (e : Lo → Ev NR) (p : m α) (t : α → Tg) (l : α → List D) : Prop := ∀ pp M0 S M ns, Rel pp M0 fs S M ns → ∀ Q X, Mo.wp p Q X →
  Sim (e S M) (fun d M' => ∃ v, d = .n (t v) (l v) ∧ Q v ∧ Rel pp M0 fs S M' ns) (fun c d M' => X c d ∧ Rel pp M0 fs S M' ns)
/-- what must stand while a list is walked: it is the caller's -/
def GdOk (pp : PX) (M0 : Store) (g : Gd) : Prop := g = none ∨ ∃ n c, g = some (n, c) ∧ n ∉ pp.pl ∧ M0[n]? = some c
theorem GdOk.grd {pp : PX} {M0 : Store} {g : Gd} (h : GdOk pp M0 g) {fs : List SV} {S : Lo} {M : Store} {ns : Nat → Nat} (r : Rel pp M0 fs S M ns) : DL.grd g M := by
  rcases h with rfl | ⟨n, c, rfl, h1, h2⟩
  · trivial
  · exact r.grd_ h1 h2
/-- what is walked -/
def IP {α : Type} [Enc α] (fs : List SV) (e : Lo → Ev (List D × Gd)) (xs : List α) : Prop := ∀ pp M0 S M ns, Rel pp M0 fs S M ns → e S M = .ok (xs.map enc, none) M
def IO {α : Type} [Enc α] (fs : List SV) (e : Lo → Ev (List D × Gd)) (p : m (List α)) : Prop := ∀ pp M0 S M ns, Rel pp M0 fs S M ns → ∀ Q X, Mo.wp p Q X →
  Sim (e S M) (fun d M' => ∃ (v : List α) (g : Gd), d = (v.map enc, g) ∧ GdOk pp M0 g ∧ Q v ∧ Rel pp M0 fs S M' ns) (fun c d M' => X c d ∧ Rel pp M0 fs S M' ns)
/-- a block: ends as K says -/
def Blk {φ : Type} (pp : List Nat) (M0 : Store) (fs : List SV) (g : Lo → Ev Fl) (p : m φ) (K : φ → Fl → Store → Prop) : Prop := ∀ S M ns, Rel ⟨pp, []⟩ M0 fs S M ns → ∀ Q X, Mo.wp p Q X →
  Sim (g S M) (fun fl M' => match fl with
    | .xc c d _ => X c d ∧ Fram pp M0 M'
    | fl => ∃ f, Q f ∧ K f fl M') (fun _ _ _ => False)
/-- a returned value -/
def Res {ρ : Type} [Enc ρ] (cc : Bool) (pp : List Nat) (M0 : Store) (r : ρ) (d : D) (M' : Store) : Prop :=
  Fram pp M0 M' ∧ fz M' M0.length 9 d = some (enc r) ∧ (cc = true → ∃ n t l, d = .ref n ∧ M0.length ≤ n ∧ M'[n]? = some (t, l) ∧ enc r = .nd t l)
/-- a tail block -/
def KT {ρ : Type} [Enc ρ] (cc : Bool) (pp : List Nat) (M0 : Store) : ρ → Fl → Store → Prop := fun r fl M' => match fl with
  | .rt d => Res cc pp M0 r d M'
  | .nx _ => Res cc pp M0 r .non M'
  | _ => False
/-- a call -/
def Ret {ρ : Type} [Enc ρ] (cc : Bool) (pp : List Nat) (f : Ev D) (p : m ρ) : Prop := ∀ M, (∀ n ∈ pp, PoolAt M n) → ∀ Q X, Mo.wp p Q X →
  Sim (f M) (fun d M' => ∃ r, Q r ∧ Res cc pp M r d M') (fun c d M' => X c d ∧ Fram pp M M')
/-- flow of a block in a loop or a branch -/
inductive Fw (β ρ : Type) where
  | nx (b : β) | ct (b : β) | bk (b : β) | rt (r : ρ)
def KF {β ρ : Type} [Enc ρ] (cc : Bool) (pp : List Nat) (M0 : Store) (fs : β → List SV) : Fw β ρ → Fl → Store → Prop := fun w fl M' => match w, fl with
  | .nx b, .nx S => ∃ ns, Rel ⟨pp, []⟩ M0 (fs b) S M' ns
  | .ct b, .ct S => ∃ ns, Rel ⟨pp, []⟩ M0 (fs b) S M' ns
  | .bk b, .bk S => ∃ ns, Rel ⟨pp, []⟩ M0 (fs b) S M' ns
  | .rt r, .rt d => Res cc pp M0 r d M'
  | _, _ => False
/-- a block that goes on -/
def KN {β : Type} (pp : List Nat) (M0 : Store) (fs : β → List SV) : β → Fl → Store → Prop := fun b fl M' => match fl with
  | .nx S => ∃ ns, Rel ⟨pp, []⟩ M0 (fs b) S M' ns
  | _ => False
end
end TL

set_option Elab.async false
set_option linter.all false
set_option maxRecDepth 100000
set_option maxHeartbeats 1000000
/-! TL2: rules for expressions. -/
namespace TL
open PySem L2 DL
open Mo (pur bnd lft)
open Enc (enc)
open EncL (encL)
theorem bok {α β : Type} {m : Ev α} {k : α → Ev β} {M M1 : Store} {a : α} (h : m M = .ok a M1) : (m.bnd k) M = k a M1 := by
  simp only [Ev.bnd, h, Out.bnd]
section
variable {m : Type → Type} [Mo m] {fs : List SV} {α β γ τ : Type} [Enc α] [Enc β] [Enc γ] [EncL τ]
theorem EP.eo {e : Lo → Ev D} {v : α} (h : EP fs e v) : EO (m := m) fs e (pur v) := fun pp M0 S M ns r Q X w => Sim.ok (h pp M0 S M ns r) ⟨v, rfl, Mo.pur_wp w, r⟩
theorem TP.to {e : Lo → Ev Bool} {v : Bool} (h : TP fs e v) : TO (m := m) fs e (pur v) := fun pp M0 S M ns r Q X w => Sim.ok (h pp M0 S M ns r) ⟨Mo.pur_wp w, r⟩
theorem AP.ao {e : Lo → Ev (List D)} {v : τ} (h : AP fs e v) : AO (m := m) fs e (pur v) := fun pp M0 S M ns r Q X w => Sim.ok (h pp M0 S M ns r) ⟨v, rfl, Mo.pur_wp w, r⟩
theorem IP.io {e : Lo → Ev (List D × Gd)} {v : List α} (h : IP fs e v) : IO (m := m) fs e (pur v) := fun pp M0 S M ns r Q X w => Sim.ok (h pp M0 S M ns r) ⟨v, none, rfl, .inl rfl, Mo.pur_wp w, r⟩
/-! ### variables, constants, views -/
theorem ep_var (i : Nat) {v : α} (h : fs[i]? = some (.val (enc v))) : EP fs (eVar i) v := fun pp M0 S M ns r => by
  have := r.sl i _ h
  unfold SlotOk at this
  unfold eVar
  rw [this]
  rfl
theorem ep_c {d : D} {v : α} (h : d = enc v) : EP fs (eC d) v := fun _ _ _ _ _ _ => by rw [h]; rfl
theorem EP.ev {e : Lo → Ev D} {v : α} {t : Tg} {l : List D} (h : EP fs e v) (hv : enc v = .nd t l) : EV fs e t l := fun pp M0 S M ns r => ⟨_, h pp M0 S M ns r, by rw [hv]; rfl⟩
theorem ev_cell (i : Nat) {t : Tg} {l : List D} (h : fs[i]? = some (.lc t l)) : EV fs (eVar i) t l := fun pp M0 S M ns r => by
  obtain ⟨h1, h2, h3⟩ := r.sl i _ h
  refine ⟨.ref (ns i), ?_, ?_⟩
  · unfold eVar; rw [h1]; rfl
  · unfold vw; simp only [h3]
theorem ev_pin (i : Nat) {n : Nat} {t : Tg} {l : List D} (h : fs[i]? = some (.pin n t l)) : EV fs (eVar i) t l := fun pp M0 S M ns r => by
  obtain ⟨h1, h2, h3, h4⟩ := r.sl i _ h
  refine ⟨.ref n, ?_, ?_⟩
  · unfold eVar; rw [h1]; rfl
  · unfold vw; simp only [h4]
theorem ev_ro (i : Nat) {n : Nat} {t : Tg} {l : List D} (h : fs[i]? = some (.ro n t l)) : EV fs (eVar i) t l := fun pp M0 S M ns r => by
  obtain ⟨h1, h2, h3⟩ := r.sl i _ h
  have h4 : M[n]? = some (t, l) := by rw [r.fr n (List.getElem?_eq_some_iff.mp h3).1 h2]; exact h3
  refine ⟨.ref n, ?_, ?_⟩
  · unfold eVar; rw [h1]; rfl
  · unfold vw; simp only [h4]
theorem EP.ls {e : Lo → Ev D} {xs : List α} (h : EP fs e xs) : EV fs e .lst (xs.map enc) := h.ev rfl
/-! ### operations -/
def OpM {α : Type} [Enc α] (o : Out D) (M : Store) (p : E α) : Prop := match p with
  | .ok v => o = .ok (enc v) M
  | .exc c d => o = .exc c d M
  | .bad => True
def OpE (f : Ev D) (p : E α) : Prop := ∀ M, OpM (f M) M p
theorem OpE.ret {f : Ev D} {v : α} (h : f = Ev.ret (enc v)) : OpE f (.ok v) := fun M => by rw [h]; rfl
theorem OpE.sim {f : Ev D} {p : E α} (h : OpE f p) {M : Store} {Q : α → Prop} {X : Str → D → Prop} (w : p.wp Q X) : Sim (f M) (fun d M' => ∃ v, d = enc v ∧ Q v ∧ M' = M) (fun c d M' => X c d ∧ M' = M) := by
  have h := h M
  cases p with
  | ok v => exact Sim.ok h ⟨v, rfl, w, rfl⟩
  | exc c d => rw [h]; exact ⟨w, rfl⟩
  | bad => exact w.elim
theorem ep_2 {op : D → D → Ev D} {a b : Lo → Ev D} {x : α} {y : β} {z : γ} (ha : EP fs a x) (hb : EP fs b y) (ho : op (enc x) (enc y) = Ev.ret (enc z)) : EP fs (e2 op a b) z := fun pp M0 S M ns r => by
  unfold e2
  rw [bok (ha pp M0 S M ns r), bok (hb pp M0 S M ns r), ho]
  rfl
theorem eo_2p {op : D → D → Ev D} {a b : Lo → Ev D} {x : α} {y : β} {p : E γ} (ha : EP fs a x) (hb : EP fs b y) (ho : OpE (op (enc x) (enc y)) p) : EO (m := m) fs (e2 op a b) (lft p) := fun pp M0 S M ns r Q X w => by
  refine Sim.bnd (Sim.ok (ha pp M0 S M ns r) (Sim.bnd (Sim.ok (hb pp M0 S M ns r) ?_)))
  exact (ho.sim (M := M) (Mo.lft_wp w)).imp (fun d M' ⟨v, e, q, e2⟩ => ⟨v, e, q, e2 ▸ r⟩) (fun c d M' ⟨q, e2⟩ => ⟨q, e2 ▸ r⟩)
theorem eo_2 {op : D → D → Ev D} {a b : Lo → Ev D} {pa : m α} {pb : m β} {po : α → β → E γ} (ha : EO fs a pa) (hb : EO fs b pb) (ho : ∀ x y, OpE (op (enc x) (enc y)) (po x y)) : EO fs (e2 op a b) (bnd pa fun x => bnd pb fun y => lft (po x y)) := fun pp M0 S M ns r Q X w => by
  refine Sim.bnd ((ha pp M0 S M ns r _ _ (Mo.bnd_wp w)).imp (fun d M1 ⟨x, e, w, r⟩ => ?_) (fun _ _ _ h => h))
  subst e
  refine Sim.bnd ((hb pp M0 S M1 ns r _ _ (Mo.bnd_wp w)).imp (fun d M2 ⟨y, e, w, r⟩ => ?_) (fun _ _ _ h => h))
  subst e
  exact ((ho x y).sim (M := M2) (Mo.lft_wp w)).imp (fun d M' ⟨v, e, q, e2⟩ => ⟨v, e, q, e2 ▸ r⟩) (fun c d M' ⟨q, e2⟩ => ⟨q, e2 ▸ r⟩)
theorem ep_1 {op : D → Ev D} {a : Lo → Ev D} {x : α} {z : γ} (ha : EP fs a x) (ho : op (enc x) = Ev.ret (enc z)) : EP fs (e1 op a) z := fun pp M0 S M ns r => by
  unfold e1 Ev.bnd
  rw [ha pp M0 S M ns r]
  dsimp only [Out.bnd]
  rw [ho]
  rfl
theorem eo_1 {op : D → Ev D} {a : Lo → Ev D} {pa : m α} {po : α → E γ} (ha : EO fs a pa) (ho : ∀ x, OpE (op (enc x)) (po x)) : EO fs (e1 op a) (bnd pa fun x => lft (po x)) := fun pp M0 S M ns r Q X w => by
  refine Sim.bnd ((ha pp M0 S M ns r _ _ (Mo.bnd_wp w)).imp (fun d M1 ⟨x, e, w, r⟩ => ?_) (fun _ _ _ h => h))
  subst e
  exact ((ho x).sim (M := M1) (Mo.lft_wp w)).imp (fun d M' ⟨v, e, q, e2⟩ => ⟨v, e, q, e2 ▸ r⟩) (fun c d M' ⟨q, e2⟩ => ⟨q, e2 ▸ r⟩)
/-- an operation on a view and a value -/
theorem ep_v2 {op : D → D → Ev D} {a b : Lo → Ev D} {t : Tg} {l : List D} {y : β} {z : γ} (ha : EV fs a t l) (hb : EP fs b y) (ho : ∀ d M, vw d M = .ok (t, l) M → op d (enc y) M = .ok (enc z) M) : EP fs (e2 op a b) z := fun pp M0 S M ns r => by
  obtain ⟨d, h1, h2⟩ := ha pp M0 S M ns r
  unfold e2 Ev.bnd
  rw [h1]
  dsimp only [Out.bnd]
  rw [hb pp M0 S M ns r]
  exact ho d M h2
def OpV {α : Type} [Enc α] (f : D → Ev D) (t : Tg) (l : List D) (p : E α) : Prop := ∀ d M, vw d M = .ok (t, l) M → OpM (f d M) M p
theorem OpV.sim {f : D → Ev D} {t : Tg} {l : List D} {p : E α} (h : OpV f t l p) {d : D} {M : Store} (hd : vw d M = .ok (t, l) M) {Q : α → Prop} {X : Str → D → Prop} (w : p.wp Q X) : Sim (f d M) (fun d M' => ∃ v, d = enc v ∧ Q v ∧ M' = M) (fun c d M' => X c d ∧ M' = M) := by
  have h := h d M hd
  cases p with
  | ok v => exact Sim.ok h ⟨v, rfl, w, rfl⟩
  | exc c d => rw [h]; exact ⟨w, rfl⟩
  | bad => exact w.elim
theorem eo_v2p {op : D → D → Ev D} {a b : Lo → Ev D} {t : Tg} {l : List D} {y : β} {p : E γ} (ha : EV fs a t l) (hb : EP fs b y) (ho : OpV (fun d => op d (enc y)) t l p) : EO (m := m) fs (e2 op a b) (lft p) := fun pp M0 S M ns r Q X w => by
  obtain ⟨d, h1, h2⟩ := ha pp M0 S M ns r
  refine Sim.bnd (Sim.ok h1 (Sim.bnd (Sim.ok (hb pp M0 S M ns r) ?_)))
  exact (ho.sim h2 (Mo.lft_wp w)).imp (fun d M' ⟨v, e, q, e2⟩ => ⟨v, e, q, e2 ▸ r⟩) (fun c d M' ⟨q, e2⟩ => ⟨q, e2 ▸ r⟩)
/-- the view is taken before the other operand is worked out: it must still stand (own cells do) -/
theorem eo_v2 {op : D → D → Ev D} {i : Nat} {b : Lo → Ev D} {t : Tg} {l : List D} {pb : m β} {po : β → E γ} (ha : fs[i]? = some (.lc t l)) (hb : EO fs b pb) (ho : ∀ y, OpV (fun d => op d (enc y)) t l (po y)) : EO fs (e2 op (eVar i) b) (bnd pb fun y => lft (po y)) := fun pp M0 S M ns r Q X w => by
  have h1 : eVar i S M = .ok (.ref (ns i)) M := by unfold eVar; rw [(r.sl i _ ha).1]; rfl
  refine Sim.bnd (Sim.ok h1 (Sim.bnd ((hb pp M0 S M ns r _ _ (Mo.bnd_wp w)).imp (fun d M1 ⟨x, e, w, r⟩ => ?_) (fun _ _ _ h => h))))
  subst e
  have h2 : vw (.ref (ns i)) M1 = .ok (t, l) M1 := by unfold vw; simp only [(r.sl i _ ha).2.2]
  exact ((ho x).sim h2 (Mo.lft_wp w)).imp (fun d M' ⟨v, e, q, e2⟩ => ⟨v, e, q, e2 ▸ r⟩) (fun c d M' ⟨q, e2⟩ => ⟨q, e2 ▸ r⟩)
/-! ### arguments -/
theorem ap_nil : AP fs eA0 () := fun _ _ _ _ _ _ => rfl
theorem ap_cons {a : Lo → Ev D} {r : Lo → Ev (List D)} {x : α} {v : τ} (ha : EP fs a x) (hr : AP fs r v) : AP fs (eAc a r) (x, v) := fun pp M0 S M ns rl => by
  unfold eAc Ev.bnd
  rw [ha pp M0 S M ns rl]
  dsimp only [Out.bnd]
  rw [hr pp M0 S M ns rl]
  rfl
theorem ao_cons {a : Lo → Ev D} {r : Lo → Ev (List D)} {x : m α} {v : m τ} (ha : EO fs a x) (hr : AO fs r v) : AO fs (eAc a r) (bnd x fun x => bnd v fun v => pur (x, v)) := fun pp M0 S M ns rl Q X w => by
  refine Sim.bnd ((ha pp M0 S M ns rl _ _ (Mo.bnd_wp w)).imp (fun d M1 ⟨x, e, w, rl⟩ => ?_) (fun _ _ _ h => h))
  subst e
  refine Sim.bnd ((hr pp M0 S M1 ns rl _ _ (Mo.bnd_wp w)).imp (fun d M1 ⟨v, e, w, rl⟩ => ?_) (fun _ _ _ h => h))
  subst e
  exact ⟨(x, v), rfl, Mo.pur_wp w, rl⟩
/-! ### tests -/
theorem tp_b {e : Lo → Ev D} {v : Bool} (h : EP fs e v) : TP fs (eB e) v := fun pp M0 S M ns r => by
  unfold eB Ev.bnd
  rw [h pp M0 S M ns r]
  rfl
theorem to_b {e : Lo → Ev D} {p : m Bool} (h : EO fs e p) : TO fs (eB e) p := fun pp M0 S M ns r Q X w => by
  refine Sim.bnd ((h pp M0 S M ns r _ _ w).imp (fun d M1 ⟨x, e, w, r⟩ => ?_) (fun _ _ _ h => h))
  subst e
  exact ⟨w, r⟩
theorem tp_and {a b : Lo → Ev Bool} {x y : Bool} (ha : TP fs a x) (hb : TP fs b y) : TP fs (eAnd a b) (x && y) := fun pp M0 S M ns r => by
  unfold eAnd Ev.bnd
  rw [ha pp M0 S M ns r]
  dsimp only [Out.bnd]
  cases x
  · rfl
  · rw [if_pos rfl, hb pp M0 S M ns r]; rfl
theorem tp_or {a b : Lo → Ev Bool} {x y : Bool} (ha : TP fs a x) (hb : TP fs b y) : TP fs (eOr a b) (x || y) := fun pp M0 S M ns r => by
  unfold eOr Ev.bnd
  rw [ha pp M0 S M ns r]
  dsimp only [Out.bnd]
  cases x
  · rw [if_neg (by decide), hb pp M0 S M ns r]; rfl
  · rfl
theorem tp_not {a : Lo → Ev Bool} {x : Bool} (ha : TP fs a x) : TP fs (eNot a) (!x) := fun pp M0 S M ns r => by
  unfold eNot Ev.bnd
  rw [ha pp M0 S M ns r]
  rfl
theorem to_and {a b : Lo → Ev Bool} {pa pb : m Bool} (ha : TO fs a pa) (hb : TO fs b pb) : TO fs (eAnd a b) (bnd pa fun x => if x = true then pb else pur false) := fun pp M0 S M ns r Q X w => by
  refine Sim.bnd ((ha pp M0 S M ns r _ _ (Mo.bnd_wp w)).imp (fun x M1 ⟨w, r⟩ => ?_) (fun _ _ _ h => h))
  cases x
  · rw [if_neg (by decide)] at w; rw [if_neg (by decide)]; exact ⟨Mo.pur_wp w, r⟩
  · rw [if_pos rfl] at w; rw [if_pos rfl]; exact hb pp M0 S M1 ns r _ _ w
theorem to_or {a b : Lo → Ev Bool} {pa pb : m Bool} (ha : TO fs a pa) (hb : TO fs b pb) : TO fs (eOr a b) (bnd pa fun x => if x = true then pur true else pb) := fun pp M0 S M ns r Q X w => by
  refine Sim.bnd ((ha pp M0 S M ns r _ _ (Mo.bnd_wp w)).imp (fun x M1 ⟨w, r⟩ => ?_) (fun _ _ _ h => h))
  cases x
  · rw [if_neg (by decide)] at w; rw [if_neg (by decide)]; exact hb pp M0 S M1 ns r _ _ w
  · rw [if_pos rfl] at w; rw [if_pos rfl]; exact ⟨Mo.pur_wp w, r⟩
theorem to_not {a : Lo → Ev Bool} {pa : m Bool} (ha : TO fs a pa) : TO fs (eNot a) (bnd pa fun x => pur (!x)) := fun pp M0 S M ns r Q X w => by
  refine Sim.bnd ((ha pp M0 S M ns r _ _ (Mo.bnd_wp w)).imp (fun x M1 ⟨w, r⟩ => ?_) (fun _ _ _ h => h))
  exact ⟨Mo.pur_wp w, r⟩
theorem ep_and {a b : Lo → Ev D} {x y : Bool} (ha : EP fs a x) (hb : EP fs b y) : EP fs (eAndV a b) (x && y) := fun pp M0 S M ns r => by
  unfold eAndV Ev.bnd
  rw [ha pp M0 S M ns r]
  cases x
  · rfl
  · show (if true = true then b S else Ev.ret (.bl false)) M = _
    rw [if_pos rfl, hb pp M0 S M ns r]; rfl
theorem ep_or {a b : Lo → Ev D} {x y : Bool} (ha : EP fs a x) (hb : EP fs b y) : EP fs (eOrV a b) (x || y) := fun pp M0 S M ns r => by
  unfold eOrV Ev.bnd
  rw [ha pp M0 S M ns r]
  cases x
  · show (if false = true then Ev.ret (.bl true) else b S) M = _
    rw [if_neg (by decide), hb pp M0 S M ns r]; rfl
  · rfl
theorem ep_not {a : Lo → Ev D} {x : Bool} (ha : EP fs a x) : EP fs (eNotV a) (!x) := fun pp M0 S M ns r => by
  unfold eNotV Ev.bnd
  rw [ha pp M0 S M ns r]
  rfl
theorem eo_and {a b : Lo → Ev D} {pa pb : m Bool} (ha : EO fs a pa) (hb : EO fs b pb) : EO fs (eAndV a b) (bnd pa fun x => if x = true then pb else pur false) := fun pp M0 S M ns r Q X w => by
  refine Sim.bnd ((ha pp M0 S M ns r _ _ (Mo.bnd_wp w)).imp (fun d M1 ⟨x, e, w, r⟩ => ?_) (fun _ _ _ h => h))
  subst e
  cases x
  · rw [if_neg (by decide)] at w; exact ⟨false, rfl, Mo.pur_wp w, r⟩
  · rw [if_pos rfl] at w; exact hb pp M0 S M1 ns r _ _ w
theorem eo_or {a b : Lo → Ev D} {pa pb : m Bool} (ha : EO fs a pa) (hb : EO fs b pb) : EO fs (eOrV a b) (bnd pa fun x => if x = true then pur true else pb) := fun pp M0 S M ns r Q X w => by
  refine Sim.bnd ((ha pp M0 S M ns r _ _ (Mo.bnd_wp w)).imp (fun d M1 ⟨x, e, w, r⟩ => ?_) (fun _ _ _ h => h))
  subst e
  cases x
  · rw [if_neg (by decide)] at w; exact hb pp M0 S M1 ns r _ _ w
  · rw [if_pos rfl] at w; exact ⟨true, rfl, Mo.pur_wp w, r⟩
theorem eo_not {a : Lo → Ev D} {pa : m Bool} (ha : EO fs a pa) : EO fs (eNotV a) (bnd pa fun x => pur (!x)) := fun pp M0 S M ns r Q X w => by
  refine Sim.bnd ((ha pp M0 S M ns r _ _ (Mo.bnd_wp w)).imp (fun d M1 ⟨x, e, w, r⟩ => ?_) (fun _ _ _ h => h))
  subst e
  exact ⟨!x, rfl, Mo.pur_wp w, r⟩
theorem ep_if {c : Lo → Ev Bool} {a b : Lo → Ev D} {z : Bool} {x y : α} (hc : TP fs c z) (ha : EP fs a x) (hb : EP fs b y) : EP fs (eIf c a b) (if z = true then x else y) := fun pp M0 S M ns r => by
  unfold eIf Ev.bnd
  rw [hc pp M0 S M ns r]
  cases z
  · exact hb pp M0 S M ns r
  · exact ha pp M0 S M ns r
theorem eo_if {c : Lo → Ev Bool} {a b : Lo → Ev D} {z : m Bool} {x y : m α} (hc : TO fs c z) (ha : EO fs a x) (hb : EO fs b y) : EO fs (eIf c a b) (bnd z fun z => if z = true then x else y) := fun pp M0 S M ns r Q X w => by
  refine Sim.bnd ((hc pp M0 S M ns r _ _ (Mo.bnd_wp w)).imp (fun z M1 ⟨w, r⟩ => ?_) (fun _ _ _ h => h))
  cases z
  · exact hb pp M0 S M1 ns r _ _ w
  · exact ha pp M0 S M1 ns r _ _ w
theorem tp_tru {e : Lo → Ev D} {v : Bool} (h : EP fs e v) : TP fs (eTru e) v := fun pp M0 S M ns r => by
  unfold eTru Ev.bnd
  rw [h pp M0 S M ns r]
  rfl
theorem to_tru {e : Lo → Ev D} {p : m Bool} (h : EO fs e p) : TO fs (eTru e) p := fun pp M0 S M ns r Q X w => by
  refine Sim.bnd ((h pp M0 S M ns r _ _ w).imp (fun d M1 ⟨x, e, w, r⟩ => ?_) (fun _ _ _ h => h))
  subst e
  exact ⟨w, r⟩
theorem tp_truL {e : Lo → Ev D} {xs : List α} (h : EV fs e .lst (xs.map enc)) : TP fs (eTru e) (!xs.isEmpty) := fun pp M0 S M ns r => by
  obtain ⟨d, h1, h2⟩ := h pp M0 S M ns r
  unfold eTru
  rw [bok h1]
  have e : (xs.map (enc (α := α))).isEmpty = xs.isEmpty := by cases xs <;> rfl
  cases d with
  | ref n => show ((vw (.ref n)).bnd _) M = _; rw [bok h2]; show Out.ok (!(xs.map enc).isEmpty) M = _; rw [e]
  | nd t l => show ((vw (.nd t l)).bnd _) M = _; rw [bok h2]; show Out.ok (!(xs.map enc).isEmpty) M = _; rw [e]
  | _ => cases h2
/-! ### numbers -/
theorem o_add (x y : Int) : addN (enc x) (enc y) = Ev.ret (.v (enc (x + y))) := rfl
theorem ep_add {a b : Lo → Ev D} {x y : Int} (ha : EP fs a x) (hb : EP fs b y) : EP fs (eF (n2 addN a b)) (x + y) := fun pp M0 S M ns r => by
  unfold eF n2 Ev.bnd
  rw [ha pp M0 S M ns r]
  dsimp only [Out.bnd]
  rw [hb pp M0 S M ns r]
  rfl
theorem eo_add {a b : Lo → Ev D} {pa pb : m Int} (ha : EO fs a pa) (hb : EO fs b pb) : EO fs (eF (n2 addN a b)) (bnd pa fun x => bnd pb fun y => pur (x + y)) := fun pp M0 S M ns r Q X w => by
  refine Sim.bnd (Sim.bnd ((ha pp M0 S M ns r _ _ (Mo.bnd_wp w)).imp (fun d M1 ⟨x, e, w, r⟩ => ?_) (fun _ _ _ h => h)))
  subst e
  refine Sim.bnd ((hb pp M0 S M1 ns r _ _ (Mo.bnd_wp w)).imp (fun d M2 ⟨y, e, w, r⟩ => ?_) (fun _ _ _ h => h))
  subst e
  exact ⟨x + y, rfl, Mo.pur_wp w, r⟩
theorem o_sub (x y : Int) : subE (enc x) (enc y) = Ev.ret (enc (x - y)) := rfl
theorem o_neg (x : Int) : negE (enc x) = Ev.ret (enc (-x)) := rfl
theorem o_lt (x y : Int) : ltE (enc x) (enc y) = Ev.ret (enc (decide (x < y))) := rfl
theorem o_le (x y : Int) : leE (enc x) (enc y) = Ev.ret (enc (decide (x ≤ y))) := rfl
theorem o_gt (x y : Int) : gtE (enc x) (enc y) = Ev.ret (enc (decide (y < x))) := rfl
theorem o_ge (x y : Int) : geE (enc x) (enc y) = Ev.ret (enc (decide (y ≤ x))) := rfl
theorem o_abs (x : Int) : absE (enc x) = Ev.ret (enc (if x < 0 then -x else x)) := rfl
theorem o_min (x y : Int) : minE (enc x) (enc y) = Ev.ret (enc (if y < x then y else x)) := rfl
theorem o_max (x y : Int) : maxE (enc x) (enc y) = Ev.ret (enc (if y > x then y else x)) := rfl
def mulZ (x y : Int) : E Int := if CMul x y then .ok (x * y) else .bad
def divZ (x y : Int) : E Int := if CDivW x y then .ok (x / y) else .bad
def modZ (x y : Int) : E Int := if 0 < y then .ok (x % y) else .bad
theorem o_mul (x y : Int) : OpE (mulE (enc x) (enc y)) (mulZ x y) := by
  unfold mulZ
  by_cases h : CMul x y
  · rw [if_pos h]; exact OpE.ret (if_pos h)
  · rw [if_neg h]; exact fun _ => trivial
theorem o_div (x y : Int) : OpE (divE (enc x) (enc y)) (divZ x y) := by
  unfold divZ
  by_cases h : CDivW x y
  · rw [if_pos h]; exact OpE.ret (if_pos h)
  · rw [if_neg h]; exact fun _ => trivial
theorem o_mod (x y : Int) : OpE (modE (enc x) (enc y)) (modZ x y) := by
  unfold modZ
  by_cases h : 0 < y
  · rw [if_pos h]; exact OpE.ret (if_pos h)
  · rw [if_neg h]; exact fun _ => trivial
theorem o_modL (x y : Int) (h : 0 < y) : modE (enc x) (enc y) = Ev.ret (enc (x % y)) := if_pos h
theorem o_divL (x y : Int) (h : CDivW x y) : divE (enc x) (enc y) = Ev.ret (enc (x / y)) := if_pos h
theorem o_mulL (x y : Int) (h : CMul x y) : mulE (enc x) (enc y) = Ev.ret (enc (x * y)) := if_pos h
theorem o_pow (x y z : Int) (h : CPow x y) (e : x ^ y.toNat = z) : powE (enc x) (enc y) = Ev.ret (enc z) := by rw [← e]; exact if_pos h
theorem E1 {op : D → D → Ev D} {f : α → β → γ} (h : ∀ x y, op (enc x) (enc y) = Ev.ret (enc (f x y))) : ∀ x y, OpE (op (enc x) (enc y)) (.ok (f x y)) := fun x y => OpE.ret (h x y)
theorem ep_chain {o o' : D → D → Ev D} {a b c : Lo → Ev D} {x y z : Int} {u v : Bool} (ha : EP fs a x) (hb : EP fs b y) (hc : EP fs c z) (h1 : o (enc x) (enc y) = Ev.ret (enc u)) (h2 : o' (enc y) (enc z) = Ev.ret (enc v)) : EP fs (eChain o o' a b c) (u && v) := fun pp M0 S M ns r => by
  unfold eChain Ev.bnd
  rw [ha pp M0 S M ns r]
  dsimp only [Out.bnd]
  rw [hb pp M0 S M ns r]
  dsimp only
  rw [h1]
  cases u
  · rfl
  · show ((c S).bnd fun w => o' (enc y) w) M = _
    unfold Ev.bnd
    rw [hc pp M0 S M ns r]
    dsimp only [Out.bnd]
    rw [h2]
    rfl
/-! ### built-in calls -/
theorem ep_c1 {op : D → Ev D} {f : Lo → Ev (List D)} {x : α} {z : γ} (ha : AP fs f (x, ())) (ho : op (enc x) = Ev.ret (enc z)) : EP fs (eCall (op1 op) f) z := fun pp M0 S M ns r => by
  unfold eCall Ev.bnd
  rw [ha pp M0 S M ns r]
  show op (enc x) M = _
  rw [ho]
  rfl
theorem eo_c1 {op : D → Ev D} {f : Lo → Ev (List D)} {p : m (α × Unit)} {po : α → E γ} (ha : AO fs f p) (ho : ∀ x, OpE (op (enc x)) (po x)) : EO fs (eCall (op1 op) f) (bnd p fun x => lft (po x.1)) := fun pp M0 S M ns r Q X w => by
  refine Sim.bnd ((ha pp M0 S M ns r _ _ (Mo.bnd_wp w)).imp (fun d M1 ⟨x, e, w, r⟩ => ?_) (fun _ _ _ h => h))
  subst e
  exact ((ho x.1).sim (M := M1) (Mo.lft_wp w)).imp (fun d M' ⟨v, e, q, e2⟩ => ⟨v, e, q, e2 ▸ r⟩) (fun c d M' ⟨q, e2⟩ => ⟨q, e2 ▸ r⟩)
theorem ep_c2 {op : D → D → Ev D} {f : Lo → Ev (List D)} {x : α} {y : β} {z : γ} (ha : AP fs f (x, y, ())) (ho : op (enc x) (enc y) = Ev.ret (enc z)) : EP fs (eCall (op2 op) f) z := fun pp M0 S M ns r => by
  unfold eCall Ev.bnd
  rw [ha pp M0 S M ns r]
  show op (enc x) (enc y) M = _
  rw [ho]
  rfl
theorem eo_c2 {op : D → D → Ev D} {f : Lo → Ev (List D)} {p : m (α × β × Unit)} {po : α → β → E γ} (ha : AO fs f p) (ho : ∀ x y, OpE (op (enc x) (enc y)) (po x y)) : EO fs (eCall (op2 op) f) (bnd p fun x => lft (po x.1 x.2.1)) := fun pp M0 S M ns r Q X w => by
  refine Sim.bnd ((ha pp M0 S M ns r _ _ (Mo.bnd_wp w)).imp (fun d M1 ⟨x, e, w, r⟩ => ?_) (fun _ _ _ h => h))
  subst e
  exact ((ho x.1 x.2.1).sim (M := M1) (Mo.lft_wp w)).imp (fun d M' ⟨v, e, q, e2⟩ => ⟨v, e, q, e2 ▸ r⟩) (fun c d M' ⟨q, e2⟩ => ⟨q, e2 ▸ r⟩)
/-- one argument, by its view -/
theorem ep_cv {op : D → Ev D} {a : Lo → Ev D} {t : Tg} {l : List D} {z : γ} (ha : EV fs a t l) (ho : ∀ d M, vw d M = .ok (t, l) M → op d M = .ok (enc z) M) : EP fs (eCall (op1 op) (eAc a eA0)) z := fun pp M0 S M ns r => by
  obtain ⟨d, h1, h2⟩ := ha pp M0 S M ns r
  unfold eCall eAc Ev.bnd
  rw [h1]
  exact ho d M h2
theorem vw_len {d : D} {M : Store} {t : Tg} {l : List D} (h : vw d M = .ok (t, l) M) (ht : FC.isSeq t = true) : lenE d M = .ok (.int l.length) M := by
  have : sq d M = .ok l M := by unfold sq; rw [bok h]; dsimp only; rw [if_pos ht]; rfl
  cases d with
  | ref n => show ((sq (.ref n)).bnd _) M = _; unfold Ev.bnd; rw [this]; rfl
  | nd t l => show ((sq (.nd t l)).bnd _) M = _; unfold Ev.bnd; rw [this]; rfl
  | _ => cases h
theorem ep_len {a : Lo → Ev D} {t : Tg} {xs : List α} (ha : EV fs a t (xs.map enc)) (ht : FC.isSeq t = true) : EP fs (eCall (op1 lenE) (eAc a eA0)) (xs.length : Int) := ep_cv ha fun d M h => by
  rw [vw_len h ht, List.length_map]
  rfl
theorem vw_sq {d : D} {M : Store} {t : Tg} {l : List D} (h : vw d M = .ok (t, l) M) (ht : FC.isSeq t = true) : sq d M = .ok l M := by
  unfold sq
  rw [bok h]
  dsimp only
  rw [if_pos ht]
  rfl
theorem vw_nostr {d : D} {M : Store} {c : Tg × List D} (h : vw d M = .ok c M) (z : Str) : d ≠ .str z := fun e => by subst e; cases h
/-! ### items -/
def ixL (xs : List α) (i : Int) : E α := match atI xs i with
  | some a => .ok a
  | none => .bad
theorem atI_map {α β : Type} (f : α → β) (xs : List α) (i : Int) : atI (xs.map f) i = (atI xs i).map f := by
  unfold atI
  rw [List.length_map]
  cases ixN xs.length i <;> simp
theorem o_ix {t : Tg} (ht : FC.isSeq t = true) (xs : List α) (i : Int) : OpV (fun d => ixE d (enc i)) t (xs.map enc) (ixL xs i) := fun d M h => by
  unfold ixL
  cases q : atI xs i with
  | none => trivial
  | some a =>
    have e : atI (xs.map enc) i = some (enc a) := by rw [atI_map, q]; rfl
    show ixE d (.int i) M = _
    unfold ixE
    cases d with
    | ref n => show ((sq (.ref n)).bnd _) M = _; unfold Ev.bnd; rw [vw_sq h ht]; show optE (atI (xs.map enc) i) M = _; rw [e]; rfl
    | nd t l => show ((sq (.nd t l)).bnd _) M = _; unfold Ev.bnd; rw [vw_sq h ht]; show optE (atI (xs.map enc) i) M = _; rw [e]; rfl
    | _ => cases h
theorem eo_ixp {a b : Lo → Ev D} {t : Tg} {xs : List α} {i : Int} (ha : EV fs a t (xs.map enc)) (hb : EP fs b i) (ht : FC.isSeq t = true) : EO (m := m) fs (e2 ixE a b) (lft (ixL xs i)) := eo_v2p ha hb (o_ix ht xs i)
theorem eo_ixc {b : Lo → Ev D} {j : Nat} {t : Tg} {xs : List α} {p : m Int} (ha : fs[j]? = some (.lc t (xs.map enc))) (hb : EO fs b p) (ht : FC.isSeq t = true) : EO fs (e2 ixE (eVar j) b) (bnd p fun i => lft (ixL xs i)) := eo_v2 ha hb (fun i => o_ix ht xs i)
theorem eo_ix {a b : Lo → Ev D} {p : m (List α)} {q : m Int} (ha : EO fs a p) (hb : EO fs b q) : EO fs (e2 ixE a b) (bnd p fun xs => bnd q fun i => lft (ixL xs i)) := eo_2 ha hb fun xs i M => by
  have := o_ix (t := .lst) rfl xs i (enc xs) M rfl
  exact this
/-- the part of a tuple -/
theorem ep_tup {a : Lo → Ev D} {l : List D} {i : Int} {z : α} (ha : EV fs a .tup l) (hi : atI l i = some (enc z)) : EP fs (e2 ixE a (eC (.int i))) z := ep_v2 (y := i) ha (ep_c rfl) fun d M h => by
  show ixE d (.int i) M = _
  unfold ixE
  cases d with
  | ref n => show ((sq (.ref n)).bnd _) M = _; unfold Ev.bnd; rw [vw_sq h rfl]; show optE (atI l i) M = _; rw [hi]; rfl
  | nd t l => show ((sq (.nd t l)).bnd _) M = _; unfold Ev.bnd; rw [vw_sq h rfl]; show optE (atI _ i) M = _; rw [hi]; rfl
  | _ => cases h
end
end TL

set_option Elab.async false
set_option linter.all false
set_option maxRecDepth 100000
set_option maxHeartbeats 1000000
/-! TL3: equality, membership, new nodes, lists. -/
namespace TL
open PySem L2 DL
open Mo (pur bnd lft)
open Enc (enc)
open EncL (encL)
/-! ### == -/
class PyEq (α : Type) [Enc α] where
  pd : α → PyData
  dep : Nat
  ok : ∀ (M : Store) (k : Nat) (a : α), dep ≤ k → py M k (enc a) = some (pd a)
  iff : ∀ a b : α, PyData.eqv (pd a) (pd b) = true ↔ a = b
instance : PyEq Int where
  pd := .int
  dep := 1
  ok M k a h := by
    obtain ⟨k, rfl⟩ : ∃ j, k = j + 1 := ⟨k - 1, by omega⟩
    show py M (k + 1) (.int a) = _
    simp [py]
  iff a b := by rw [PyData.eqv]; simp
instance : PyEq Bool where
  pd := .bool
  dep := 1
  ok M k a h := by
    obtain ⟨k, rfl⟩ : ∃ j, k = j + 1 := ⟨k - 1, by omega⟩
    show py M (k + 1) (.bl a) = _
    simp [py]
  iff a b := by rw [PyData.eqv]; simp
instance : PyEq Unit where
  pd _ := .none
  dep := 1
  ok M k a h := by
    obtain ⟨k, rfl⟩ : ∃ j, k = j + 1 := ⟨k - 1, by omega⟩
    show py M (k + 1) .non = _
    simp [py]
  iff a b := by rw [PyData.eqv]; simp
theorem pys_map {α : Type} [Enc α] [PyEq α] (M : Store) (k : Nat) (h : PyEq.dep α ≤ k) : ∀ xs : List α, pys M k (xs.map enc) = some (xs.map PyEq.pd)
  | [] => by rw [List.map_nil, List.map_nil, pys]
  | x :: xs => by rw [List.map_cons, List.map_cons, pys, PyEq.ok M k x h, pys_map M k h xs]
theorem eqvAll_map {α : Type} [Enc α] [PyEq α] : ∀ xs ys : List α, PyData.eqvAll (xs.map PyEq.pd) (ys.map PyEq.pd) = true ↔ xs = ys
  | [], [] => by simp [PyData.eqvAll]
  | [], _ :: _ => by simp [PyData.eqvAll]
  | _ :: _, [] => by simp [PyData.eqvAll]
  | x :: xs, y :: ys => by
    rw [List.map_cons, List.map_cons, PyData.eqvAll, Bool.and_eq_true, PyEq.iff, eqvAll_map xs ys, List.cons.injEq]
instance {α : Type} [Enc α] [PyEq α] : PyEq (List α) where
  pd xs := .list (xs.map PyEq.pd)
  dep := PyEq.dep α + 1
  ok M k a h := by
    obtain ⟨k, rfl⟩ : ∃ j, k = j + 1 := ⟨k - 1, by omega⟩
    show py M (k + 1) (.nd .lst (a.map enc)) = _
    rw [py]
    rw [pys_map M k (by omega) a]
    rfl
  iff a b := by rw [PyData.eqv]; exact eqvAll_map a b
instance {α β : Type} [Enc α] [PyEq α] [Enc β] [PyEq β] : PyEq (α × β) where
  pd x := .tuple [PyEq.pd x.1, PyEq.pd x.2]
  dep := max (PyEq.dep α) (PyEq.dep β) + 1
  ok M k a h := by
    obtain ⟨k, rfl⟩ : ∃ j, k = j + 1 := ⟨k - 1, by omega⟩
    show py M (k + 1) (.nd .tup [enc a.1, enc a.2]) = _
    rw [py]
    rw [pys, pys, pys, PyEq.ok M k a.1 (by omega), PyEq.ok M k a.2 (by omega)]
    rfl
  iff a b := by
    rw [PyData.eqv, PyData.eqvAll, PyData.eqvAll, PyData.eqvAll, Bool.and_true, Bool.and_eq_true, PyEq.iff, PyEq.iff]
    exact ⟨fun h => Prod.ext h.1 h.2, fun h => by rw [h]; exact ⟨rfl, rfl⟩⟩
instance {α β γ : Type} [Enc α] [PyEq α] [Enc β] [PyEq β] [Enc γ] [PyEq γ] : PyEq (T3 α β γ) where
  pd x := .tuple [PyEq.pd x.a, PyEq.pd x.b, PyEq.pd x.c]
  dep := max (PyEq.dep α) (max (PyEq.dep β) (PyEq.dep γ)) + 1
  ok M k a h := by
    obtain ⟨k, rfl⟩ : ∃ j, k = j + 1 := ⟨k - 1, by omega⟩
    show py M (k + 1) (.nd .tup [enc a.a, enc a.b, enc a.c]) = _
    rw [py]
    rw [pys, pys, pys, pys, PyEq.ok M k a.a (by omega), PyEq.ok M k a.b (by omega), PyEq.ok M k a.c (by omega)]
    rfl
  iff a b := by
    rw [PyData.eqv, PyData.eqvAll, PyData.eqvAll, PyData.eqvAll, PyData.eqvAll, Bool.and_true, Bool.and_eq_true, Bool.and_eq_true, PyEq.iff, PyEq.iff, PyEq.iff]
    cases a; cases b
    simp
/-- an expression and its data -/
def EY {α : Type} [Enc α] [PyEq α] (fs : List SV) (e : Lo → Ev D) (v : α) : Prop := ∀ pp M0 S M ns, Rel pp M0 fs S M ns → ∃ d, e S M = .ok d M ∧ py M 9 d = some (PyEq.pd v)
def eqB {α : Type} [DecidableEq α] (a b : α) : Bool := decide (a = b)
theorem eqv_eq {α : Type} [DecidableEq α] [Enc α] [PyEq α] (a b : α) : PyData.eqv (PyEq.pd a) (PyEq.pd b) = eqB a b := by
  unfold eqB
  by_cases h : a = b
  · rw [decide_eq_true h]; exact (PyEq.iff a b).mpr h
  · rw [decide_eq_false h]
    cases q : PyData.eqv (PyEq.pd a) (PyEq.pd b) with
    | false => rfl
    | true => exact (h ((PyEq.iff a b).mp q)).elim
theorem eqB_iff {α : Type} [DecidableEq α] {a b : α} : eqB a b = true ↔ a = b := by unfold eqB; exact decide_eq_true_iff
section
variable {m : Type → Type} [Mo m] {fs : List SV} {α β γ τ : Type} [Enc α] [Enc β] [Enc γ] [EncL τ]
theorem EP.ey [PyEq α] {e : Lo → Ev D} {v : α} (h : EP fs e v) (hd : PyEq.dep α ≤ 9 := by decide) : EY fs e v := fun pp M0 S M ns r => ⟨_, h pp M0 S M ns r, PyEq.ok M 9 v hd⟩
theorem ey_cell [PyEq α] (i : Nat) {xs : List α} (h : fs[i]? = some (.lc .lst (xs.map enc))) (hd : PyEq.dep α ≤ 8 := by decide) : EY fs (eVar i) xs := fun pp M0 S M ns r => by
  obtain ⟨h1, h2, h3⟩ := r.sl i _ h
  refine ⟨.ref (ns i), by unfold eVar; rw [h1]; rfl, ?_⟩
  rw [py]
  rw [h3]
  dsimp only
  rw [pys_map M 8 hd]
  rfl
theorem ep_eq [DecidableEq α] [PyEq α] {neg : Bool} {a b : Lo → Ev D} {x y : α} (ha : EY fs a x) (hb : EY fs b y) : EP fs (e2 (eqE neg) a b) (neg ^^ eqB x y) := fun pp M0 S M ns r => by
  obtain ⟨d1, h1, p1⟩ := ha pp M0 S M ns r
  obtain ⟨d2, h2, p2⟩ := hb pp M0 S M ns r
  unfold e2
  rw [bok h1, bok h2]
  unfold eqE
  rw [p1, p2]
  dsimp only
  rw [eqv_eq]
  rfl
theorem o_eqE [DecidableEq α] [PyEq α] {neg : Bool} (hd : PyEq.dep α ≤ 9 := by decide) (x y : α) : eqE neg (enc x) (enc y) = Ev.ret (enc (neg ^^ eqB x y)) := by
  funext M
  unfold eqE
  rw [PyEq.ok M 9 x hd, PyEq.ok M 9 y hd]
  dsimp only
  rw [eqv_eq]
  rfl
/-! ### membership of numbers -/
def inI (x : Int) (xs : List Int) : Bool := decide (x ∈ xs)
theorem toVs_ints (xs : List Int) : toVs (xs.map D.int) = some (xs.map V.int) := by
  induction xs with
  | nil => rfl
  | cons x xs ih => rw [List.map_cons, toVs, ih]; rfl
theorem inV_ints (x : Int) (xs : List Int) : inV (.int x) (xs.map V.int) = inI x xs := by
  unfold inV inI
  induction xs with
  | nil => simp
  | cons y ys ih =>
    rw [List.map_cons, List.any_cons, ih]
    have : eqV (.int y) (.int x) = decide (y = x) := by
      unfold eqV; exact Bool.beq_eq_decide_eq y x
    rw [this]
    by_cases h : y = x
    · simp [h]
    · have : ¬ x = y := fun z => h z.symm
      simp [h, this]
theorem ep_in {neg : Bool} {a b : Lo → Ev D} {t : Tg} {x : Int} {xs : List Int} (ha : EP fs a x) (hb : EV fs b t (xs.map enc)) (ht : FC.isSeq t = true) : EP fs (e2 (inE neg) a b) (neg ^^ inI x xs) := fun pp M0 S M ns r => by
  obtain ⟨d, h1, h2⟩ := hb pp M0 S M ns r
  unfold e2
  rw [bok (ha pp M0 S M ns r), bok h1]
  unfold inE
  rw [bok (vw_sq h2 ht)]
  show (match toV (D.int x), toVs (xs.map D.int) with
    | some v, some vs => Ev.ret (D.bl (if neg then !inV v vs else inV v vs))
    | _, _ => Ev.no) M = _
  rw [toVs_ints]
  show Out.ok (D.bl (if neg then !inV (.int x) (xs.map V.int) else inV (.int x) (xs.map V.int))) M = _
  rw [inV_ints]
  cases neg <;> simp [enc]
/-! ### new nodes -/
theorem np_new {t : Tg} {f : Lo → Ev (List D)} {v : τ} {n : Nat} (h : AP fs f v) (hn : (encL v).length = n) (hl : n ≤ 1000 := by decide) : NP fs (nNew t f) t (encL v) := fun pp M0 S M ns r => by
  unfold nNew
  rw [bok (h pp M0 S M ns r)]
  have : (encL v).length ≤ sizeLine := by rw [hn]; exact Nat.le_trans hl (by decide)
  rw [if_pos this]
  rfl
theorem no_new {t : Tg} {f : Lo → Ev (List D)} {p : m τ} {n : Nat} (h : AO fs f p) (hn : ∀ v : τ, (encL v).length = n) (hl : n ≤ 1000 := by decide) : NO fs (nNew t f) p (fun _ => t) (fun v => encL v) := fun pp M0 S M ns r Q X w => by
  refine Sim.bnd ((h pp M0 S M ns r _ _ w).imp (fun d M1 ⟨v, e, w, r⟩ => ?_) (fun _ _ _ h => h))
  subst e
  have : (encL v).length ≤ sizeLine := by rw [hn]; exact Nat.le_trans hl (by decide)
  rw [if_pos this]
  exact ⟨v, rfl, w, r⟩
theorem NP.no {e : Lo → Ev NR} {t : Tg} {l : List D} {v : α} (h : NP fs e t l) (hv : enc v = .nd t l) (hb : enc v = .nd .lst l ∨ enc v = .nd .tup l) : EP fs (eF e) v := fun pp M0 S M ns r => by
  unfold eF
  rw [bok (h pp M0 S M ns r), hv]
  rcases hb with hb | hb
  · rw [hv] at hb; cases hb; rfl
  · rw [hv] at hb; cases hb; rfl
theorem ep_lst {e : Lo → Ev NR} {xs : List α} (h : NP fs e .lst (xs.map enc)) : EP fs (eF e) xs := h.no rfl (.inl rfl)
theorem ep_frt {e : Lo → Ev NR} {v : α} {l : List D} (h : NP fs e .tup l) (hv : enc v = .nd .tup l) : EP fs (eF e) v := h.no hv (.inr hv)
theorem eo_frz {e : Lo → Ev NR} {p : m α} {t : α → Tg} {l : α → List D} {f : α → β} (h : NO fs e p t l) (hv : ∀ v, enc (f v) = .nd (t v) (l v)) (hb : ∀ v, t v = .lst ∨ t v = .tup) : EO fs (eF e) (bnd p fun v => pur (f v)) := fun pp M0 S M ns r Q X w => by
  refine Sim.bnd ((h pp M0 S M ns r _ _ (Mo.bnd_wp w)).imp (fun d M1 ⟨v, e, w, r⟩ => ?_) (fun _ _ _ h => h))
  subst e
  have w := Mo.pur_wp w
  have hv := hv v
  rcases hb v with q | q
  · rw [q] at hv ⊢; exact ⟨f v, by rw [hv], w, r⟩
  · rw [q] at hv ⊢; exact ⟨f v, by rw [hv], w, r⟩
/-- a list by its typed items -/
abbrev NL (m : Type → Type) [Mo m] {α : Type} [Enc α] (fs : List SV) (e : Lo → Ev NR) (p : m (List α)) : Prop := NO fs e p (fun _ => .lst) (fun xs => xs.map enc)
theorem eo_lst {e : Lo → Ev NR} {p : m (List α)} (h : NL m fs e p) : EO fs (eF e) p := fun pp M0 S M ns r Q X w => by
  refine Sim.bnd ((h pp M0 S M ns r _ _ w).imp (fun d M1 ⟨v, e, w, r⟩ => ?_) (fun _ _ _ h => h))
  subst e
  exact ⟨v, rfl, w, r⟩
theorem NP.nl {e : Lo → Ev NR} {xs : List α} (h : NP fs e .lst (xs.map enc)) : NL m fs e (pur xs) := fun pp M0 S M ns r Q X w => Sim.ok (h pp M0 S M ns r) ⟨xs, rfl, Mo.pur_wp w, r⟩
def NopE (f : Ev NR) (p : E (List α)) : Prop := ∀ M, match p with
  | .ok v => f M = .ok (.n .lst (v.map enc)) M
  | .exc c d => f M = .exc c d M
  | .bad => True
theorem NopE.sim {f : Ev NR} {p : E (List α)} (h : NopE f p) {M : Store} {Q : List α → Prop} {X : Str → D → Prop} (w : p.wp Q X) : Sim (f M) (fun d M' => ∃ v : List α, d = .n .lst (v.map enc) ∧ Q v ∧ M' = M) (fun c d M' => X c d ∧ M' = M) := by
  have h := h M
  cases p with
  | ok v => exact Sim.ok h ⟨v, rfl, w, rfl⟩
  | exc c d => rw [h]; exact ⟨w, rfl⟩
  | bad => exact w.elim
/-- lists put together -/
def catL {α : Type} (xs ys : List α) : E (List α) := if xs.length + ys.length ≤ sizeLine then .ok (xs ++ ys) else .bad
theorem addN_vw {x y : D} {M : Store} {l k : List D} (hx : vw x M = .ok (.lst, l) M) (hy : vw y M = .ok (.lst, k) M) (hl : l.length + k.length ≤ sizeLine) : addN x y M = .ok (.n .lst (l ++ k)) M := by
  have e : addN x y = (vw x).bnd fun p => (vw y).bnd fun q => match p.1, q.1 with
    | .lst, .lst => if p.2.length + q.2.length ≤ sizeLine then Ev.ret (.n .lst (p.2 ++ q.2)) else Ev.no
    | .tup, .tup => if p.2.isEmpty = false ∧ q.2.isEmpty = false ∧ p.2.length + q.2.length ≤ sizeLine then Ev.ret (.n .tup (p.2 ++ q.2)) else Ev.no
    | _, _ => Ev.no := by
    cases x <;> first | rfl | (cases hx)
  rw [e, bok hx, bok hy]
  dsimp only
  rw [if_pos hl]
  rfl
theorem nl_catp {a b : Lo → Ev D} {xs ys : List α} (ha : EV fs a .lst (xs.map enc)) (hb : EV fs b .lst (ys.map enc)) : NL m fs (n2 addN a b) (lft (catL xs ys)) := fun pp M0 S M ns r Q X w => by
  obtain ⟨d1, h1, v1⟩ := ha pp M0 S M ns r
  obtain ⟨d2, h2, v2⟩ := hb pp M0 S M ns r
  refine Sim.bnd (Sim.ok h1 (Sim.bnd (Sim.ok h2 ?_)))
  have w := Mo.lft_wp w
  unfold catL at w
  by_cases hl : xs.length + ys.length ≤ sizeLine
  · rw [if_pos hl] at w
    refine Sim.ok (addN_vw v1 v2 (by simpa using hl)) ⟨xs ++ ys, by dsimp only; rw [List.map_append], w, r⟩
  · rw [if_neg hl] at w; exact w.elim
theorem nl_cat {a b : Lo → Ev D} {p q : m (List α)} (ha : EO fs a p) (hb : EO fs b q) : NL m fs (n2 addN a b) (bnd p fun xs => bnd q fun ys => lft (catL xs ys)) := fun pp M0 S M ns r Q X w => by
  refine Sim.bnd ((ha pp M0 S M ns r _ _ (Mo.bnd_wp w)).imp (fun d M1 ⟨xs, e, w, r⟩ => ?_) (fun _ _ _ h => h))
  subst e
  refine Sim.bnd ((hb pp M0 S M1 ns r _ _ (Mo.bnd_wp w)).imp (fun d M2 ⟨ys, e, w, r⟩ => ?_) (fun _ _ _ h => h))
  subst e
  have w := Mo.lft_wp w
  unfold catL at w
  by_cases hl : xs.length + ys.length ≤ sizeLine
  · rw [if_pos hl] at w
    refine Sim.ok (addN_vw (l := xs.map enc) (k := ys.map enc) rfl rfl (by simpa using hl)) ⟨xs ++ ys, by dsimp only; rw [List.map_append], w, r⟩
  · rw [if_neg hl] at w; exact w.elim
/-- [x] * n -/
def repL {α : Type} (xs : List α) (k : Int) : E (List α) := if -(2 ^ 63) ≤ k ∧ k < 2 ^ 63 ∧ xs.length * k.toNat ≤ sizeLine then .ok (List.replicate k.toNat xs).flatten else .bad
theorem nl_rep {a b : Lo → Ev D} {xs : List α} {k : Int} (ha : EV fs a .lst (xs.map enc)) (hb : EP fs b k) : NL m fs (n2 repN a b) (lft (repL xs k)) := fun pp M0 S M ns r Q X w => by
  obtain ⟨d1, h1, v1⟩ := ha pp M0 S M ns r
  refine Sim.bnd (Sim.ok h1 (Sim.bnd (Sim.ok (hb pp M0 S M ns r) ?_)))
  have w := Mo.lft_wp w
  unfold repL at w
  show Sim (((vw d1).bnd _) M) _ _
  refine Sim.bnd (Sim.ok v1 ?_)
  dsimp only
  by_cases hl : -(2 ^ 63) ≤ k ∧ k < 2 ^ 63 ∧ xs.length * k.toNat ≤ sizeLine
  · rw [if_pos hl] at w
    rw [if_pos (by simpa using hl)]
    exact ⟨_, by rw [List.map_flatten, List.map_replicate], w, r⟩
  · rw [if_neg hl] at w; exact w.elim
/-- parts -/
def cutL {α : Type} (l : List α) (lo hi : Option Int) : List α := (l.drop (HT.sIx l.length 0 lo)).take (HT.sIx l.length l.length hi - HT.sIx l.length 0 lo)
theorem cut_map (xs : List α) (lo hi : Option Int) : cutD (xs.map enc) lo hi = (cutL xs lo hi).map enc := by
  unfold cutD cutL
  rw [List.map_take, List.map_drop, List.length_map]
def OPj (fs : List SV) (f : Lo → Ev (Option Int)) (v : Option Int) : Prop := ∀ pp M0 S M ns, Rel pp M0 fs S M ns → f S M = .ok v M
theorem op_no : OPj fs oNo none := fun _ _ _ _ _ _ => rfl
theorem op_so {f : Lo → Ev D} {i : Int} (h : EP fs f i) : OPj fs (oSo f) (some i) := fun pp M0 S M ns r => by
  unfold oSo
  rw [bok (h pp M0 S M ns r)]
  rfl
theorem np_cut {a : Lo → Ev D} {fl fh : Lo → Ev (Option Int)} {t : Tg} {xs : List α} {lo hi : Option Int} (ha : EV fs a t (xs.map enc)) (hl : OPj fs fl lo) (hh : OPj fs fh hi) (ht : t = .lst ∨ t = .slst) : NP fs (nSl a fl fh) .lst ((cutL xs lo hi).map enc) := fun pp M0 S M ns r => by
  obtain ⟨d, h1, h2⟩ := ha pp M0 S M ns r
  unfold nSl
  rw [bok h1, bok (hl pp M0 S M ns r), bok (hh pp M0 S M ns r)]
  unfold slN
  rw [bok h2]
  rcases ht with rfl | rfl
  · show Out.ok (NR.n .lst (cutD (xs.map enc) lo hi)) M = _; rw [cut_map]
  · show Out.ok (NR.n .lst (cutD (xs.map enc) lo hi)) M = _; rw [cut_map]
/-- list(xs) -/
theorem np_list {a : Lo → Ev D} {t : Tg} {l : List D} (ha : EV fs a t l) (ht : FC.isSeq t = true) : NP fs (nCall (op1 listN) (eAc a eA0)) .lst l := fun pp M0 S M ns r => by
  obtain ⟨d, h1, h2⟩ := ha pp M0 S M ns r
  unfold nCall eAc
  have : ((a S).bnd fun x => (eA0 S).bnd fun l => Ev.ret (x :: l)) M = .ok [d] M := by rw [bok h1]; rfl
  rw [bok this]
  show listN d M = _
  unfold listN
  rw [bok (vw_sq h2 ht)]
  rfl
theorem nl_list {a : Lo → Ev D} {p : m (List α)} (ha : EO fs a p) : NL m fs (nCall (op1 listN) (eAc a eA0)) p := fun pp M0 S M ns r Q X w => by
  refine Sim.bnd (Sim.bnd ((ha pp M0 S M ns r _ _ w).imp (fun d M1 ⟨xs, e, w, r⟩ => ?_) (fun _ _ _ h => h)))
  subst e
  exact ⟨xs, rfl, w, r⟩
/-- sum, all, any of a list -/
theorem vw_sum {xs : List Int} {d : D} {M : Store} (h : vw d M = .ok (.lst, xs.map enc) M) : sumE d M = .ok (enc xs.sum) M := by
  unfold sumE
  rw [bok h]
  dsimp only
  rw [show (xs.map enc) = xs.map D.int from rfl, intsOf_map]
  rfl
theorem vw_all {xs : List Bool} {d : D} {M : Store} (h : vw d M = .ok (.lst, xs.map enc) M) : allE d M = .ok (enc (xs.all id)) M := by
  unfold allE
  rw [bok h]
  dsimp only
  rw [show (xs.map enc) = xs.map D.bl from rfl, blsOf_map]
  rfl
theorem vw_any {xs : List Bool} {d : D} {M : Store} (h : vw d M = .ok (.lst, xs.map enc) M) : anyE d M = .ok (enc (xs.any id)) M := by
  unfold anyE
  rw [bok h]
  dsimp only
  rw [show (xs.map enc) = xs.map D.bl from rfl, blsOf_map]
  rfl
theorem o_sum (xs : List Int) : sumE (enc xs) = Ev.ret (enc xs.sum) := by funext M; exact vw_sum rfl
theorem o_all (xs : List Bool) : allE (enc xs) = Ev.ret (enc (xs.all id)) := by funext M; exact vw_all rfl
theorem o_any (xs : List Bool) : anyE (enc xs) = Ev.ret (enc (xs.any id)) := by funext M; exact vw_any rfl
theorem o_len (xs : List α) : lenE (enc xs) = Ev.ret (enc (xs.length : Int)) := by funext M; rw [vw_len (t := .lst) (l := xs.map enc) rfl rfl, List.length_map]; rfl
theorem E2 {op : D → Ev D} {f : α → γ} (h : ∀ x, op (enc x) = Ev.ret (enc (f x))) : ∀ x, OpE (op (enc x)) (.ok (f x)) := fun x => OpE.ret (h x)
/-! ### ranges -/
def rg (a b : Int) : List Int := (List.range (b - a).toNat).map fun i => a + (i : Nat)
theorem rg_map (a b : Int) : rgD a b = (rg a b).map enc := by unfold rgD rg; rw [List.map_map]; rfl
open Classical in
noncomputable def rgL (a b : Int) : E (List Int) := if RgOk a b then .ok (rg a b) else .bad
open Classical in
noncomputable def rgW (a b : Int) : E (List Int) := if RgI a b then .ok (rg a b) else .bad
theorem nl_range1 {a : Lo → Ev D} {p : m Int} (ha : EO fs a p) : NL m fs (lrN (r1E a)) (bnd p fun n => lft (rgL 0 n)) := fun pp M0 S M ns r Q X w => by
  refine Sim.bnd (Sim.bnd ((ha pp M0 S M ns r _ _ (Mo.bnd_wp w)).imp (fun d M1 ⟨n, e, w, r⟩ => ?_) (fun _ _ _ h => h)))
  subst e
  show Sim (rgN (0, n) M1) _ _
  have w := Mo.lft_wp w
  unfold rgL at w
  by_cases h : RgOk 0 n
  · rw [if_pos h] at w
    rw [rgN_ok (r := (0, n)) h]
    exact ⟨rg 0 n, by dsimp only; rw [rg_map], w, r⟩
  · rw [if_neg h] at w; exact w.elim
theorem nl_range2 {a b : Lo → Ev D} {p q : m Int} (ha : EO fs a p) (hb : EO fs b q) : NL m fs (lrN (r2E a b)) (bnd p fun x => bnd q fun n => lft (rgL x n)) := fun pp M0 S M ns r Q X w => by
  refine Sim.bnd (Sim.bnd ((ha pp M0 S M ns r _ _ (Mo.bnd_wp w)).imp (fun d M1 ⟨x, e, w, r⟩ => ?_) (fun _ _ _ h => h)))
  subst e
  refine Sim.bnd ((hb pp M0 S M1 ns r _ _ (Mo.bnd_wp w)).imp (fun d M1 ⟨n, e, w, r⟩ => ?_) (fun _ _ _ h => h))
  subst e
  show Sim (rgN (x, n) M1) _ _
  have w := Mo.lft_wp w
  unfold rgL at w
  by_cases h : RgOk x n
  · rw [if_pos h] at w
    rw [rgN_ok (r := (x, n)) h]
    exact ⟨rg x n, by dsimp only; rw [rg_map], w, r⟩
  · rw [if_neg h] at w; exact w.elim
theorem io_range1 {a : Lo → Ev D} {p : m Int} (ha : EO fs a p) : IO (α := Int) fs (iR1 (eAc a eA0)) (bnd p fun n => lft (rgW 0 n)) := fun pp M0 S M ns r Q X w => by
  refine Sim.bnd (Sim.bnd ((ha pp M0 S M ns r _ _ (Mo.bnd_wp w)).imp (fun d M1 ⟨n, e, w, r⟩ => ?_) (fun _ _ _ h => h)))
  subst e
  show Sim (rngE 0 n M1) _ _
  have w := Mo.lft_wp w
  unfold rgW at w
  by_cases h : RgI 0 n
  · rw [if_pos h] at w
    rw [rngE_ok h]
    exact ⟨rg 0 n, none, by rw [rg_map], .inl rfl, w, r⟩
  · rw [if_neg h] at w; exact w.elim
theorem io_range2 {a b : Lo → Ev D} {p q : m Int} (ha : EO fs a p) (hb : EO fs b q) : IO (α := Int) fs (iR2 (eAc a (eAc b eA0))) (bnd p fun x => bnd q fun n => lft (rgW x n)) := fun pp M0 S M ns r Q X w => by
  refine Sim.bnd (Sim.bnd ((ha pp M0 S M ns r _ _ (Mo.bnd_wp w)).imp (fun d M1 ⟨x, e, w, r⟩ => ?_) (fun _ _ _ h => h)))
  subst e
  refine Sim.bnd (Sim.bnd ((hb pp M0 S M1 ns r _ _ (Mo.bnd_wp w)).imp (fun d M1 ⟨n, e, w, r⟩ => ?_) (fun _ _ _ h => h)))
  subst e
  show Sim (rngE x n M1) _ _
  have w := Mo.lft_wp w
  unfold rgW at w
  by_cases h : RgI x n
  · rw [if_pos h] at w
    rw [rngE_ok h]
    exact ⟨rg x n, none, by rw [rg_map], .inl rfl, w, r⟩
  · rw [if_neg h] at w; exact w.elim
theorem ip_seq {a : Lo → Ev D} {xs : List α} (ha : EP fs a xs) : IP fs (iSeq a) xs := fun pp M0 S M ns r => by
  unfold iSeq
  rw [bok (ha pp M0 S M ns r)]
  rfl
theorem io_ro (i : Nat) {n : Nat} {xs : List α} (h : fs[i]? = some (.ro n .lst (xs.map enc))) : IO (m := m) fs (iSeq (eVar i)) (pur xs) := fun pp M0 S M ns r Q X w => by
  obtain ⟨h1, h2, h3⟩ := r.sl i _ h
  have h4 : M[n]? = some (.lst, xs.map enc) := r.grd_ h2 h3
  have h5 : iSeq (eVar i) S M = .ok (xs.map enc, some (n, (.lst, xs.map enc))) M := by
    have h0 : eVar i S M = .ok (.ref n) M := by unfold eVar; rw [h1]; rfl
    unfold iSeq
    rw [bok h0]
    unfold itSq
    rw [bok (show vw (.ref n) M = .ok (.lst, xs.map enc) M from by unfold vw; simp only [h4])]
    rfl
  exact Sim.ok h5 ⟨xs, _, rfl, .inr ⟨n, _, rfl, h2, h3⟩, Mo.pur_wp w, r⟩
theorem io_seq {a : Lo → Ev D} {p : m (List α)} (ha : EO fs a p) : IO fs (iSeq a) p := fun pp M0 S M ns r Q X w => by
  refine Sim.bnd ((ha pp M0 S M ns r _ _ w).imp (fun d M1 ⟨xs, e, w, r⟩ => ?_) (fun _ _ _ h => h))
  subst e
  exact ⟨xs, none, rfl, .inl rfl, w, r⟩
def enI {α : Type} (k : Nat) (xs : List α) : List (Int × α) := (xs.zipIdx k).map fun x => ((x.2 : Int), x.1)
theorem enI_map (xs : List α) : ∀ k, enD k (xs.map enc) = (enI k xs).map enc := by
  induction xs with
  | nil => intro k; rfl
  | cons x xs ih =>
    intro k
    show D.tup [.int (k : Nat), enc x] :: enD (k + 1) (xs.map enc) = _
    rw [ih]
    rfl
theorem ip_enum {a : Lo → Ev D} {xs : List α} (ha : EP fs a xs) : IP fs (iEn (eAc a eA0)) (enI 0 xs) := fun pp M0 S M ns r => by
  unfold iEn eAc
  have : ((a S).bnd fun x => (eA0 S).bnd fun l => Ev.ret (x :: l)) M = .ok [enc xs] M := by rw [bok (ha pp M0 S M ns r)]; rfl
  rw [bok this]
  show Out.ok (enD 0 (xs.map enc), none) M = _
  rw [enI_map]
theorem io_enum {a : Lo → Ev D} {p : m (List α)} (ha : EO fs a p) : IO (α := Int × α) fs (iEn (eAc a eA0)) (bnd p fun xs => pur (enI 0 xs)) := fun pp M0 S M ns r Q X w => by
  refine Sim.bnd (Sim.bnd ((ha pp M0 S M ns r _ _ (Mo.bnd_wp w)).imp (fun d M1 ⟨xs, e, w, r⟩ => ?_) (fun _ _ _ h => h)))
  subst e
  refine ⟨enI 0 xs, none, ?_, .inl rfl, Mo.pur_wp w, r⟩
  show (enD 0 (xs.map enc), none) = _
  rw [enI_map]
end
end TL

set_option Elab.async false
set_option linter.all false
set_option maxRecDepth 100000
set_option maxHeartbeats 1000000
/-! TL4: statements, loops, comprehensions, calls. -/
namespace TL
open PySem L2 DL
open Mo (pur bnd lft)
open Enc (enc)
open EncL (encL)
def BP {φ : Type} (pp : List Nat) (M0 : Store) (Q : φ → Prop) (X : Str → D → Prop) (K : φ → Fl → Store → Prop) : Fl → Store → Prop := fun fl M' => match fl with
    | .xc c d _ => X c d ∧ Fram pp M0 M'
    | fl => ∃ f, Q f ∧ K f fl M'
abbrev NoX : Str → D → Store → Prop := fun _ _ _ => False
theorem Sim.fl {m : Ev D} {S : Lo} {k : D → Ev Fl} {M : Store} {P : Fl → Store → Prop} (h : Sim (m M) (fun d M' => Sim (k d M') P NoX) (fun c d M' => P (.xc c d S) M')) : Sim (m.fl S k M) P NoX := by
  unfold Ev.fl
  cases e : m M with
  | ok a M' => rw [e] at h; exact h
  | exc c d M' => rw [e] at h; exact h
  | stuck => rw [e] at h; exact h
theorem Sim.flB {m : Ev Bool} {S : Lo} {k : Bool → Ev Fl} {M : Store} {P : Fl → Store → Prop} (h : Sim (m M) (fun d M' => Sim (k d M') P NoX) (fun c d M' => P (.xc c d S) M')) : Sim (m.flB S k M) P NoX := by
  unfold Ev.flB
  cases e : m M with
  | ok a M' => rw [e] at h; exact h
  | exc c d M' => rw [e] at h; exact h
  | stuck => rw [e] at h; exact h
theorem Sim.flG {α : Type} {m : Ev α} {S : Lo} {k : α → Ev Fl} {M : Store} {P : Fl → Store → Prop} (h : Sim (m M) (fun d M' => Sim (k d M') P NoX) (fun c d M' => P (.xc c d S) M')) : Sim (m.flG S k M) P NoX := by
  unfold Ev.flG
  cases e : m M with
  | ok a M' => rw [e] at h; exact h
  | exc c d M' => rw [e] at h; exact h
  | stuck => rw [e] at h; exact h
theorem Sim.seq {f g : Lo → Ev Fl} {S : Lo} {M : Store} {P : Fl → Store → Prop} (h : Sim (f S M) (fun fl M' => match fl with
    | .nx S' => Sim (g S' M') P NoX
    | o => P o M') NoX) : Sim (sSeq f g S M) P NoX := by
  unfold sSeq
  refine Sim.bnd (h.imp (fun fl M' h => ?_) (fun _ _ _ h => h))
  cases fl <;> exact h
theorem seq_next (f : Lo → Ev Fl) : sSeq f sNext = f := by
  funext S M
  unfold sSeq Ev.bnd
  cases f S M with
  | ok fl M' => cases fl <;> rfl
  | exc c d M' => rfl
  | stuck => rfl
theorem seq_assoc (f g h : Lo → Ev Fl) : sSeq (sSeq f g) h = sSeq f (sSeq g h) := by
  funext S M
  unfold sSeq
  rw [bnd_bnd]
  unfold Ev.bnd
  cases f S M with
  | ok fl M' => cases fl <;> rfl
  | exc c d M' => rfl
  | stuck => rfl
/-! ### targets -/
def TgOk {α : Type} [Enc α] (fs : List SV) (g : D → Lo → Ev Lo) (x : α) (fs' : List SV) : Prop := ∀ pp M0 S M ns, Rel pp M0 fs S M ns → ∃ S', g (enc x) S M = .ok S' M ∧ Rel pp M0 fs' S' M ns
section
variable {m : Type → Type} [Mo m] {pp : List Nat} {M0 : Store} {fs fs' fs'' : List SV} {α β γ τ φ ρ : Type} [Enc α] [Enc β] [Enc γ] [EncL τ] [Enc ρ] {K : φ → Fl → Store → Prop}
theorem tg_nm (i : Nat) (x : α) : TgOk fs (gNm i) x (fs.set i (.val (enc x))) := fun pp M0 S M ns r => ⟨_, rfl, r.setV⟩
theorem tg_2 {ga gb : D → Lo → Ev Lo} {x : α × β} (ha : TgOk fs ga x.1 fs') (hb : TgOk fs' gb x.2 fs'') : TgOk fs (gTp 2 (gCn ga (gCn gb gNl))) x fs'' := fun pp M0 S M ns r => by
  obtain ⟨S1, h1, r1⟩ := ha pp M0 S M ns r
  obtain ⟨S2, h2, r2⟩ := hb pp M0 S1 M ns r1
  refine ⟨S2, ?_, r2⟩
  show gTp 2 (gCn ga (gCn gb gNl)) (.tup [enc x.1, enc x.2]) S M = _
  simp only [gTp, vw, Ev.bnd, Ev.ret, Out.bnd, gCn, h1, h2, gNl, List.length_cons, List.length_nil, if_pos]
theorem tg_3 {ga gb gc : D → Lo → Ev Lo} {fs3 : List SV} {x : T3 α β γ} (ha : TgOk fs ga x.a fs') (hb : TgOk fs' gb x.b fs'') (hc : TgOk fs'' gc x.c fs3) : TgOk fs (gTp 3 (gCn ga (gCn gb (gCn gc gNl)))) x fs3 := fun pp M0 S M ns r => by
  obtain ⟨S1, h1, r1⟩ := ha pp M0 S M ns r
  obtain ⟨S2, h2, r2⟩ := hb pp M0 S1 M ns r1
  obtain ⟨S3, h3, r3⟩ := hc _ M0 S2 M ns r2
  refine ⟨S3, ?_, r3⟩
  show gTp 3 (gCn ga (gCn gb (gCn gc gNl))) (.tup [enc x.a, enc x.b, enc x.c]) S M = _
  simp only [gTp, vw, Ev.bnd, Ev.ret, Out.bnd, gCn, h1, h2, h3, gNl, List.length_cons, List.length_nil, if_pos]
/-! ### statements -/
theorem Blk.of {g : Lo → Ev Fl} {p : m φ} (h : ∀ S M ns, Rel ⟨pp, []⟩ M0 fs S M ns → ∀ Q X, Mo.wp p Q X → Sim (g S M) (BP pp M0 Q X K) NoX) : Blk pp M0 fs g p K := h
theorem Blk.at_ {g : Lo → Ev Fl} {p : m φ} (h : Blk pp M0 fs g p K) {S : Lo} {M : Store} {ns : Nat → Nat} (r : Rel ⟨pp, []⟩ M0 fs S M ns) {Q : φ → Prop} {X : Str → D → Prop} (w : Mo.wp p Q X) : Sim (g S M) (BP pp M0 Q X K) NoX := h S M ns r Q X w
theorem b_last {f : Lo → Ev Fl} {p : m φ} (h : Blk pp M0 fs (sSeq f sNext) p K) : Blk pp M0 fs f p K := by rw [seq_next] at h; exact h
theorem b_assoc {f g k : Lo → Ev Fl} {p : m φ} (h : Blk pp M0 fs (sSeq f (sSeq g k)) p K) : Blk pp M0 fs (sSeq (sSeq f g) k) p K := by rw [seq_assoc]; exact h
theorem b_skip {g : Lo → Ev Fl} {p : m φ} (h : Blk pp M0 fs g p K) : Blk pp M0 fs (sSeq sNext g) p K := h
theorem b_wk {g : Lo → Ev Fl} {p : m φ} (w : Wk fs fs') (h : Blk pp M0 fs' g p K) : Blk pp M0 fs g p K := fun S M ns r => h S M ns (r.wk w)
theorem b_asg {e : Lo → Ev D} {i : Nat} {g : Lo → Ev Fl} {pe : m α} {k : α → m φ} (he : EO fs e pe) (hr : ∀ x, Blk pp M0 (fs.set i (.val (enc x))) g (k x) K) : Blk pp M0 fs (sSeq (sAsg e (gNm i)) g) (bnd pe k) K := Blk.of fun S M ns r Q X w => by
  refine Sim.seq (Sim.fl ((he _ M0 S M ns r _ _ (Mo.bnd_wp w)).imp (fun d M1 ⟨x, e, w, r⟩ => ?_) (fun c d M1 ⟨x, r⟩ => ⟨x, r.fram⟩)))
  subst e
  exact (hr x).at_ (r.setV (i := i)) w
theorem b_tgt {e : Lo → Ev D} {tg : D → Lo → Ev Lo} {g : Lo → Ev Fl} {pe : m α} {k : α → m φ} {fsT : α → List SV} (he : EO fs e pe) (ht : ∀ x, TgOk fs tg x (fsT x)) (hr : ∀ x, Blk pp M0 (fsT x) g (k x) K) : Blk pp M0 fs (sSeq (sAsg e tg) g) (bnd pe k) K := Blk.of fun S M ns r Q X w => by
  refine Sim.seq (Sim.fl ((he _ M0 S M ns r _ _ (Mo.bnd_wp w)).imp (fun d M1 ⟨x, e, w, r⟩ => ?_) (fun c d M1 ⟨x, r⟩ => ⟨x, r.fram⟩)))
  subst e
  obtain ⟨S', h1, r1⟩ := ht x _ M0 S M1 ns r
  exact Sim.bnd (Sim.ok h1 ((hr x).at_ r1 w))
theorem b_exp {e : Lo → Ev D} {g : Lo → Ev Fl} {pe : m α} {k : α → m φ} (he : EO fs e pe) (hr : ∀ x, Blk pp M0 fs g (k x) K) : Blk pp M0 fs (sSeq (sExp e) g) (bnd pe k) K := Blk.of fun S M ns r Q X w => by
  refine Sim.seq (Sim.fl ((he _ M0 S M ns r _ _ (Mo.bnd_wp w)).imp (fun d M1 ⟨x, e, w, r⟩ => ?_) (fun c d M1 ⟨x, r⟩ => ⟨x, r.fram⟩)))
  exact (hr x).at_ r w
/-- a new list of one's own -/
theorem b_cell {e : Lo → Ev NR} {i : Nat} {g : Lo → Ev Fl} {pe : m (List α)} {k : List α → m φ} (he : NL m fs e pe) (hr : ∀ x, Blk pp M0 (fs.set i (.L x)) g (k x) K) : Blk pp M0 fs (sSeq (sAsg (eCl e) (gNm i)) g) (bnd pe k) K := Blk.of fun S M ns r Q X w => by
  refine Sim.seq (Sim.fl (Sim.bnd ((he _ M0 S M ns r _ _ (Mo.bnd_wp w)).imp (fun d M1 ⟨x, e, w, r⟩ => ?_) (fun c d M1 ⟨x, r⟩ => ⟨x, r.fram⟩))))
  subst e
  refine (hr x).at_ (r.setC (i := i) (n := M1.length) (t := .lst) (l := x.map enc) (M' := M1 ++ [(.lst, x.map enc)]) (Nat.le_refl _) (by simp) (by simp) (fun k hk => List.getElem?_append_left hk)) w
/-- the comprehension form -/
theorem b_cell' {e : Lo → Ev NR} {i : Nat} {g : Lo → Ev Fl} {pe : m (List α)} {k : List α → m φ} (he : NL m fs e pe) (hr : ∀ x, Blk pp M0 (fs.set i (.L x)) g (k x) K) : Blk pp M0 fs (sSeq (sAsg (fun S => (e S).bnd cel) (gNm i)) g) (bnd pe k) K := b_cell he hr
theorem b_val' {e : Lo → Ev NR} {i : Nat} {g : Lo → Ev Fl} {pe : m (List α)} {k : List α → m φ} (he : NL m fs e pe) (hr : ∀ x, Blk pp M0 (fs.set i (.val (enc x))) g (k x) K) : Blk pp M0 fs (sSeq (sAsg (fun S => (e S).bnd frz) (gNm i)) g) (bnd pe k) K := b_asg (eo_lst he) hr
/-- y = x, a cell moves -/
theorem b_mv {i j : Nat} {g : Lo → Ev Fl} {p : m φ} {t : Tg} {l : List D} (h : fs[j]? = some (.lc t l)) (hij : i ≠ j) (hr : Blk pp M0 ((fs.set j .any).set i (.lc t l)) g p K) : Blk pp M0 fs (sSeq (sAsg (eVar j) (gNm i)) g) p K := Blk.of fun S M ns r Q X w => by
  have h1 : eVar j S M = .ok (.ref (ns j)) M := by unfold eVar; rw [(r.sl j _ h).1]; rfl
  exact Sim.seq (Sim.fl (Sim.ok h1 (hr.at_ (r.mv h hij) w)))
def appL {α : Type} (xs : List α) (x : α) : E (List α) := if xs.length < sizeLine then .ok (xs ++ [x]) else .bad
theorem b_app {i : Nat} {e : Lo → Ev D} {g : Lo → Ev Fl} {xs : List α} {pe : m α} {k : List α → m φ} (hi : fs[i]? = some (.L xs)) (he : EO fs e pe) (hr : ∀ x, Blk pp M0 (fs.set i (.L x)) g (k x) K) :
    Blk pp M0 fs (sSeq (sExp (eBm (cellM opAppend) (eVar i) (eAc e eA0))) g) (bnd pe fun v => bnd (lft (appL xs v)) k) K := Blk.of fun S M ns r Q X w => by
  have s := r.sl i _ hi
  have h1 : eVar i S M = .ok (.ref (ns i)) M := by unfold eVar; rw [s.1]; rfl
  have h2 : isCellL (.ref (ns i)) M = .ok () M := by unfold isCellL; simp only [s.2.2]
  refine Sim.seq (Sim.fl (Sim.bnd (Sim.ok h1 (Sim.bnd (Sim.ok h2 (Sim.bnd (Sim.bnd ((he _ M0 S M ns r _ _ (Mo.bnd_wp w)).imp (fun d M1 ⟨x, e, w, r⟩ => ?_) (fun c d M1 ⟨x, r⟩ => ⟨x, r.fram⟩)))))))))
  subst e
  have s := r.sl i _ hi
  have w := Mo.lft_wp (Mo.bnd_wp w)
  unfold appL at w
  by_cases hl : xs.length < sizeLine
  · rw [if_pos hl] at w
    have h3 : cellM opAppend (.ref (ns i)) [enc x] M1 = .ok .non (M1.set (ns i) (.lst, xs.map enc ++ [enc x])) := by
      have : opAppend (xs.map enc) [enc x] = some (.non, xs.map enc ++ [enc x]) := by unfold opAppend; exact if_pos (by simpa using hl)
      simp only [cellM, s.2.2, this]
    refine Sim.bnd (Sim.ok (a := []) (M := M1) rfl ?_)
    show Sim (cellM opAppend (.ref (ns i)) [enc x] M1) _ _
    refine Sim.ok h3 ?_
    have r2 := r.wr (t' := .lst) (l' := (xs ++ [x]).map enc) rfl hi
    rw [List.map_append] at r2
    refine (hr (xs ++ [x])).at_ (ns := ns) ?_ w
    show Rel ⟨pp, []⟩ M0 (fs.set i (.lc .lst ((xs ++ [x]).map enc))) S _ ns
    rw [List.map_append]
    exact r2
  · rw [if_neg hl] at w; exact w.elim
def setL {α : Type} (xs : List α) (i : Int) (x : α) : E (List α) := match ixN xs.length i with
  | some j => .ok (xs.set j x)
  | none => .bad
theorem b_put {i : Nat} {e ei : Lo → Ev D} {g : Lo → Ev Fl} {xs : List α} {n : Int} {pe : m α} {k : List α → m φ} (hi : fs[i]? = some (.L xs)) (hn : EP fs ei n) (he : EO fs e pe) (hr : ∀ x, Blk pp M0 (fs.set i (.L x)) g (k x) K) :
    Blk pp M0 fs (sSeq (sAsg e (gSet (eVar i) ei)) g) (bnd pe fun v => bnd (lft (setL xs n v)) k) K := Blk.of fun S M ns r Q X w => by
  refine Sim.seq (Sim.fl ((he _ M0 S M ns r _ _ (Mo.bnd_wp w)).imp (fun d M1 ⟨x, e, w, r⟩ => ?_) (fun c d M1 ⟨x, r⟩ => ⟨x, r.fram⟩)))
  subst e
  have s := r.sl i _ hi
  have h1 : eVar i S M1 = .ok (.ref (ns i)) M1 := by unfold eVar; rw [s.1]; rfl
  have w := Mo.lft_wp (Mo.bnd_wp w)
  unfold setL at w
  cases q : ixN xs.length n with
  | none => rw [q] at w; exact w.elim
  | some j =>
    rw [q] at w
    refine Sim.bnd (Sim.bnd (Sim.ok (nox_ok h1) (Sim.bnd (Sim.ok (nox_ok (hn _ M0 S M1 ns r)) (Sim.bnd (Sim.ok (a := ()) (M := M1.set (ns i) (.lst, (xs.map enc).set j (enc x))) ?_ ?_))))))
    · show setE (.ref (ns i)) (.int n) (enc x) M1 = _
      have : ixN (xs.map (enc (α := α))).length n = some j := by rw [List.length_map]; exact q
      simp only [setE, s.2.2, this]
    · have r2 := r.wr (t' := .lst) (l' := (xs.map enc).set j (enc x)) rfl hi
      refine (hr (xs.set j x)).at_ (ns := ns) ?_ w
      show Rel ⟨pp, []⟩ M0 (fs.set i (.lc .lst ((xs.set j x).map enc))) S _ ns
      rw [List.map_set]
      exact r2
/-! ### ends -/
theorem b_bad {p : m φ} (h : ∀ Q X, Mo.wp p Q X → False) {g : Lo → Ev Fl} : Blk pp M0 fs g p K := fun S M ns r Q X w => (h Q X w).elim
theorem bad_wp {α : Type} : ∀ (Q : α → Prop) (X : Str → D → Prop), Mo.wp (m := m) (lft (E.bad : E α)) Q X → False := fun _ _ w => Mo.lft_wp w
def KRet {ρ : Type} [Enc ρ] (cc : Bool) (pp : List Nat) (M0 : Store) (K : φ → Fl → Store → Prop) (inj : ρ → φ) : Prop := ∀ r d M', Res cc pp M0 r d M' → K (inj r) (.rt d) M'
theorem kr_t {cc : Bool} : KRet (ρ := ρ) cc pp M0 (KT cc pp M0) id := fun r d M' h => h
theorem kr_f {cc : Bool} {fsL : β → List SV} : KRet (ρ := ρ) cc pp M0 (KF cc pp M0 fsL) Fw.rt := fun r d M' h => h
theorem b_ret {cc : Bool} {e : Lo → Ev D} {pe : m ρ} {inj : ρ → φ} (hk : KRet cc pp M0 K inj) (hc : cc = false) (he : EO fs e pe) : Blk pp M0 fs (sRet e) (bnd pe fun v => pur (inj v)) K := Blk.of fun S M ns r Q X w => by
  refine Sim.fl ((he _ M0 S M ns r _ _ (Mo.bnd_wp w)).imp (fun d M1 ⟨x, e, w, r⟩ => ?_) (fun c d M1 ⟨x, r⟩ => ⟨x, r.fram⟩))
  subst e
  exact ⟨inj x, Mo.pur_wp w, hk x _ _ ⟨r.fram, fz_id _ _ _ _ (Enc.nr x _), fun h => by rw [hc] at h; cases h⟩⟩
theorem b_retS {cc : Bool} {e : Lo → Ev D} {g : Lo → Ev Fl} {pe : m ρ} {inj : ρ → φ} (hk : KRet cc pp M0 K inj) (hc : cc = false) (he : EO fs e pe) : Blk pp M0 fs (sSeq (sRet e) g) (bnd pe fun v => pur (inj v)) K := Blk.of fun S M ns r Q X w => by
  refine Sim.seq (Sim.fl ((he _ M0 S M ns r _ _ (Mo.bnd_wp w)).imp (fun d M1 ⟨x, e, w, r⟩ => ?_) (fun c d M1 ⟨x, r⟩ => ⟨x, r.fram⟩)))
  subst e
  exact ⟨inj x, Mo.pur_wp w, hk x _ _ ⟨r.fram, fz_id _ _ _ _ (Enc.nr x _), fun h => by rw [hc] at h; cases h⟩⟩
theorem fz_cell {M : Store} {n c k : Nat} {t : Tg} {l : List D} (hn : n ≤ c) (h : M[c]? = some (t, l)) (hl : rlts n l = true) : fz M n (k + 1) (.ref c) = some (.nd t l) := by
  rw [fz]
  simp only [h, fzs_id M n k l hl, Option.map_some]
  rw [if_neg (by omega)]
theorem b_retC {cc : Bool} (i : Nat) {xs : List α} {inj : List α → φ} (hk : KRet cc pp M0 K inj) (hi : fs[i]? = some (.L xs)) : Blk (m := m) pp M0 fs (sRet (eVar i)) (pur (inj xs)) K := Blk.of fun S M ns r Q X w => by
  have s := r.sl i _ hi
  have h1 : eVar i S M = .ok (.ref (ns i)) M := by unfold eVar; rw [s.1]; rfl
  exact Sim.fl (Sim.ok h1 ⟨inj xs, Mo.pur_wp w, hk xs _ _ ⟨r.fram, fz_cell s.2.1 s.2.2 (nrs _ _), fun _ => ⟨ns i, .lst, xs.map enc, rfl, s.2.1, s.2.2, rfl⟩⟩⟩)
theorem b_retCS {cc : Bool} (i : Nat) {g : Lo → Ev Fl} {xs : List α} {inj : List α → φ} (hk : KRet cc pp M0 K inj) (hi : fs[i]? = some (.L xs)) : Blk (m := m) pp M0 fs (sSeq (sRet (eVar i)) g) (pur (inj xs)) K := Blk.of fun S M ns r Q X w => by
  have s := r.sl i _ hi
  have h1 : eVar i S M = .ok (.ref (ns i)) M := by unfold eVar; rw [s.1]; rfl
  exact Sim.seq (Sim.fl (Sim.ok h1 ⟨inj xs, Mo.pur_wp w, hk xs _ _ ⟨r.fram, fz_cell s.2.1 s.2.2 (nrs _ _), fun _ => ⟨ns i, .lst, xs.map enc, rfl, s.2.1, s.2.2, rfl⟩⟩⟩))
theorem b_retL {cc : Bool} {e : Lo → Ev NR} {pe : m (List α)} {inj : List α → φ} (hk : KRet cc pp M0 K inj) (he : NL m fs e pe) : Blk pp M0 fs (sRet (eCl e)) (bnd pe fun v => pur (inj v)) K := Blk.of fun S M ns r Q X w => by
  refine Sim.fl (Sim.bnd ((he _ M0 S M ns r _ _ (Mo.bnd_wp w)).imp (fun d M1 ⟨x, e, w, r⟩ => ?_) (fun c d M1 ⟨x, r⟩ => ⟨x, r.fram⟩)))
  subst e
  have g : (M1 ++ [(Tg.lst, x.map enc)])[M1.length]? = some (.lst, x.map enc) := by simp
  have r2 := r.store (M' := M1 ++ [(.lst, x.map enc)]) (by simp) (fun k hk => List.getElem?_append_left hk)
  exact ⟨inj x, Mo.pur_wp w, hk x _ _ ⟨r2.fram, fz_cell r.le g (nrs _ _), fun _ => ⟨_, .lst, x.map enc, rfl, r.le, g, rfl⟩⟩⟩
theorem b_end {fsL : β → List SV} (b : β) (w : Wk fs (fsL b)) : Blk (m := m) pp M0 fs sNext (pur b) (KN pp M0 fsL) := Blk.of fun S M ns r Q X h => ⟨b, Mo.pur_wp h, ns, r.wk w⟩
theorem b_endF {cc : Bool} {fsL : β → List SV} (b : β) (w : Wk fs (fsL b)) : Blk (m := m) pp M0 fs sNext (pur (Fw.nx b)) (KF (ρ := ρ) cc pp M0 fsL) := Blk.of fun S M ns r Q X h => ⟨_, Mo.pur_wp h, ns, r.wk w⟩
theorem b_endT {cc : Bool} (hc : cc = false) : Blk (m := m) pp M0 fs sNext (pur ()) (KT cc pp M0) := Blk.of fun S M ns r Q X h => ⟨(), Mo.pur_wp h, r.fram, fz_id _ _ _ _ rfl, fun z => by rw [hc] at z; cases z⟩
/-! ### if -/
theorem b_if {c : Lo → Ev Bool} {f g : Lo → Ev Fl} {pc : m Bool} {pf pg : m φ} (hc : TO fs c pc) (hf : Blk pp M0 fs f pf K) (hg : Blk pp M0 fs g pg K) : Blk pp M0 fs (sIf c f g) (bnd pc fun b => if b = true then pf else pg) K := Blk.of fun S M ns r Q X w => by
  refine Sim.flB ((hc _ M0 S M ns r _ _ (Mo.bnd_wp w)).imp (fun b M1 ⟨w, r⟩ => ?_) (fun c d M1 ⟨x, r⟩ => ⟨x, r.fram⟩))
  cases b
  · exact hg.at_ r w
  · exact hf.at_ r w
theorem b_ifD {c : Lo → Ev Bool} {f g h : Lo → Ev Fl} {pc : m Bool} {pf pg : m φ} (hc : TO fs c pc) (hf : Blk pp M0 fs (sSeq f h) pf K) (hg : Blk pp M0 fs (sSeq g h) pg K) : Blk pp M0 fs (sSeq (sIf c f g) h) (bnd pc fun b => if b = true then pf else pg) K := by
  have : sSeq (sIf c f g) h = sIf c (sSeq f h) (sSeq g h) := by
    funext S M
    have e1 : sSeq (sIf c f g) h S M = (sIf c f g S M).bnd fun fl => match fl with
      | .nx S' => h S'
      | o => Ev.ret o := rfl
    rw [e1]
    unfold sIf Ev.flB
    cases q : c S M with
    | ok b M' => cases b <;> rfl
    | exc c d M' => rfl
    | stuck => rfl
  rw [this]
  exact b_if hc hf hg
theorem b_ifJ {c : Lo → Ev Bool} {f g h : Lo → Ev Fl} {pc : m Bool} {pf pg : m β} {k : β → m φ} {fsJ : β → List SV} (hc : TO fs c pc) (hf : Blk pp M0 fs f pf (KN pp M0 fsJ)) (hg : Blk pp M0 fs g pg (KN pp M0 fsJ)) (hr : ∀ b, Blk pp M0 (fsJ b) h (k b) K) : Blk pp M0 fs (sSeq (sIf c f g) h) (bnd (bnd pc fun b => if b = true then pf else pg) k) K := Blk.of fun S M ns r Q X w => by
  have key := (b_if hc hf hg).at_ r (Mo.bnd_wp w)
  refine Sim.seq (key.imp (fun fl M1 h => ?_) (fun _ _ _ h => h))
  cases fl with
  | nx S' => obtain ⟨b, w, ns', r'⟩ := h; exact (hr b).at_ r' w
  | xc c d S' => exact h
  | rt d => obtain ⟨b, w, z⟩ := h; exact z.elim
  | bk S' => obtain ⟨b, w, z⟩ := h; exact z.elim
  | ct S' => obtain ⟨b, w, z⟩ := h; exact z.elim
/-! ### loops -/
def forM {m : Type → Type} [Mo m] {α β : Type} (st : β → α → m β) : List α → β → m β
  | [], b => pur b
  | x :: xs, b => bnd (st b x) fun b' => forM st xs b'
def forF {m : Type → Type} [Mo m] {α β ρ : Type} (st : β → α → m (Fw β ρ)) : List α → β → m (β ⊕ ρ)
  | [], b => pur (.inl b)
  | x :: xs, b => bnd (st b x) fun w => match w with
    | .nx b' => forF st xs b'
    | .ct b' => forF st xs b'
    | .bk b' => pur (.inl b')
    | .rt r => pur (.inr r)
def outF {m : Type → Type} {β ρ φ : Type} (k : β → m φ) (j : ρ → m φ) : β ⊕ ρ → m φ
  | .inl b => k b
  | .inr r => j r
theorem b_for {it : Lo → Ev (List D × Gd)} {tg : D → Lo → Ev Lo} {body g : Lo → Ev Fl} {px : m (List α)} {st : β → α → m β} {k : β → m φ} {b0 : β} {fsL : β → List SV} {fsT : β → α → List SV} (hi : IO fs it px) (hw : Wk fs (fsL b0)) (ht : ∀ b x, TgOk (fsL b) tg x (fsT b x))
    (hb : ∀ b x, Blk pp M0 (fsT b x) body (st b x) (KN pp M0 fsL)) (hr : ∀ b, Blk pp M0 (fsL b) g (k b) K) : Blk pp M0 fs (sSeq (sFor it tg body) g) (bnd px fun xs => bnd (forM st xs b0) k) K := Blk.of fun S M ns r Q X w => by
  refine Sim.seq (Sim.flG ((hi _ M0 S M ns r _ _ (Mo.bnd_wp w)).imp (fun d M1 ⟨xs, gd, e, hgd, w, r⟩ => ?_) (fun c d M1 ⟨x, r⟩ => ⟨x, r.fram⟩)))
  subst e
  have w := Mo.bnd_wp w
  show Sim (forL tg body gd (xs.map enc) S M1) _ NoX
  have gen : ∀ (xs : List α) (b : β) (S : Lo) (M : Store) (ns : Nat → Nat), Rel ⟨pp, []⟩ M0 (fsL b) S M ns → Mo.wp (forM st xs b) (fun a => Mo.wp (k a) Q X) X → Sim (forL tg body gd (xs.map enc) S M) (fun fl M' => match fl with
    | .nx S' => Sim (g S' M') (BP pp M0 Q X K) NoX
    | o => BP pp M0 Q X K o M') NoX := by
    intro xs
    induction xs with
    | nil =>
      intro b S M ns r w
      rw [List.map_nil, forL, chk_ok (hgd.grd r)]
      have w : Mo.wp (k b) Q X := Mo.pur_wp (Q := fun a => Mo.wp (k a) Q X) w
      exact (hr b).at_ r w
    | cons x xs ih =>
      intro b S M ns r w
      rw [List.map_cons, forL, chk_ok (hgd.grd r)]
      have w := Mo.bnd_wp w
      obtain ⟨S', h1, r1⟩ := ht b x _ M0 S M ns r
      refine Sim.bnd (Sim.ok h1 (Sim.bnd (((hb b x).at_ r1 w).imp (fun fl M2 h => ?_) (fun _ _ _ h => h))))
      cases fl with
      | nx S' => obtain ⟨b', w, ns', r'⟩ := h; exact ih b' S' M2 ns' r' w
      | xc c d S' => exact h
      | rt d => obtain ⟨b, w, z⟩ := h; exact z.elim
      | bk S' => obtain ⟨b, w, z⟩ := h; exact z.elim
      | ct S' => obtain ⟨b, w, z⟩ := h; exact z.elim
  exact gen xs b0 S M1 ns (r.wk hw) w
theorem b_forF {cc : Bool} {it : Lo → Ev (List D × Gd)} {tg : D → Lo → Ev Lo} {body g : Lo → Ev Fl} {px : m (List α)} {st : β → α → m (Fw β ρ)} {k : β → m φ} {inj : ρ → φ} {b0 : β} {fsL : β → List SV} {fsT : β → α → List SV} (hk : KRet cc pp M0 K inj) (hi : IO fs it px) (hw : Wk fs (fsL b0)) (ht : ∀ b x, TgOk (fsL b) tg x (fsT b x))
    (hb : ∀ b x, Blk pp M0 (fsT b x) body (st b x) (KF cc pp M0 fsL)) (hr : ∀ b, Blk pp M0 (fsL b) g (k b) K) : Blk pp M0 fs (sSeq (sFor it tg body) g) (bnd px fun xs => bnd (forF st xs b0) (outF k fun r => pur (inj r))) K := Blk.of fun S M ns r Q X w => by
  refine Sim.seq (Sim.flG ((hi _ M0 S M ns r _ _ (Mo.bnd_wp w)).imp (fun d M1 ⟨xs, gd, e, hgd, w, r⟩ => ?_) (fun c d M1 ⟨x, r⟩ => ⟨x, r.fram⟩)))
  subst e
  have w := Mo.bnd_wp w
  show Sim (forL tg body gd (xs.map enc) S M1) _ NoX
  have gen : ∀ (xs : List α) (b : β) (S : Lo) (M : Store) (ns : Nat → Nat), Rel ⟨pp, []⟩ M0 (fsL b) S M ns → Mo.wp (forF st xs b) (fun o => Mo.wp (outF k (fun r => pur (inj r)) o) Q X) X → Sim (forL tg body gd (xs.map enc) S M) (fun fl M' => match fl with
    | .nx S' => Sim (g S' M') (BP pp M0 Q X K) NoX
    | o => BP pp M0 Q X K o M') NoX := by
    intro xs
    induction xs with
    | nil =>
      intro b S M ns r w
      rw [List.map_nil, forL, chk_ok (hgd.grd r)]
      have w : Mo.wp (k b) Q X := Mo.pur_wp (a := Sum.inl b) (Q := fun o => Mo.wp (outF k (fun r => pur (inj r)) o) Q X) w
      exact (hr b).at_ r w
    | cons x xs ih =>
      intro b S M ns r w
      rw [List.map_cons, forL, chk_ok (hgd.grd r)]
      have w := Mo.bnd_wp w
      obtain ⟨S', h1, r1⟩ := ht b x _ M0 S M ns r
      refine Sim.bnd (Sim.ok h1 (Sim.bnd (((hb b x).at_ r1 w).imp (fun fl M2 h => ?_) (fun _ _ _ h => h))))
      cases fl with
      | nx S' =>
        obtain ⟨o, w, z⟩ := h
        cases o <;> first | exact z.elim | skip
        obtain ⟨ns', r'⟩ := z
        exact ih _ S' M2 ns' r' w
      | xc c d S' => exact h
      | rt d =>
        obtain ⟨o, w, z⟩ := h
        cases o <;> first | exact z.elim | skip
        rename_i rr
        have w : Mo.wp (m := m) (pur (inj rr)) Q X := Mo.pur_wp (a := Sum.inr rr) (Q := fun o => Mo.wp (outF k (fun r => pur (inj r)) o) Q X) w
        exact ⟨_, Mo.pur_wp w, hk _ _ _ z⟩
      | bk S' =>
        obtain ⟨o, w, z⟩ := h
        cases o <;> first | exact z.elim | skip
        obtain ⟨ns', r'⟩ := z
        rename_i bb
        have w : Mo.wp (k bb) Q X := Mo.pur_wp (a := Sum.inl bb) (Q := fun o => Mo.wp (outF k (fun r => pur (inj r)) o) Q X) w
        exact (hr _).at_ r' w
      | ct S' =>
        obtain ⟨o, w, z⟩ := h
        cases o <;> first | exact z.elim | skip
        obtain ⟨ns', r'⟩ := z
        exact ih _ S' M2 ns' r' w
  exact gen xs b0 S M1 ns (r.wk hw) w
def whileM {m : Type → Type} [Mo m] {β : Type} (c : β → m Bool) (st : β → m β) : Nat → β → m β
  | 0, _ => lft .bad
  | n + 1, b => bnd (c b) fun z => if z = true then bnd (st b) fun b' => whileM c st n b' else pur b
theorem b_while {n : Nat} {c : Lo → Ev Bool} {body g : Lo → Ev Fl} {pc : β → m Bool} {st : β → m β} {k : β → m φ} {b0 : β} {fsL : β → List SV} (hw : Wk fs (fsL b0)) (hc : ∀ b, TO (fsL b) c (pc b)) (hb : ∀ b, Blk pp M0 (fsL b) body (st b) (KN pp M0 fsL)) (hr : ∀ b, Blk pp M0 (fsL b) g (k b) K) :
    Blk pp M0 fs (sSeq (whileL c body n) g) (bnd (whileM pc st n b0) k) K := Blk.of fun S M ns r Q X w => by
  have w := Mo.bnd_wp w
  refine Sim.seq ?_
  have gen : ∀ (n : Nat) (b : β) (S : Lo) (M : Store) (ns : Nat → Nat), Rel ⟨pp, []⟩ M0 (fsL b) S M ns → Mo.wp (whileM pc st n b) (fun a => Mo.wp (k a) Q X) X → Sim (whileL c body n S M) (fun fl M' => match fl with
    | .nx S' => Sim (g S' M') (BP pp M0 Q X K) NoX
    | o => BP pp M0 Q X K o M') NoX := by
    intro n
    induction n with
    | zero => intro b S M ns r w; exact (Mo.lft_wp w).elim
    | succ n ih =>
      intro b S M ns r w
      refine Sim.flB ((hc b _ M0 S M ns r _ _ (Mo.bnd_wp w)).imp (fun z M1 ⟨w, r⟩ => ?_) (fun c d M1 ⟨x, r⟩ => ⟨x, r.fram⟩))
      cases z with
      | false =>
        have w : Mo.wp (k b) Q X := Mo.pur_wp (Q := fun a => Mo.wp (k a) Q X) w
        exact (hr b).at_ r w
      | true =>
        rw [if_pos rfl] at w ⊢
        refine Sim.bnd (((hb b).at_ r (Mo.bnd_wp w)).imp (fun fl M2 h => ?_) (fun _ _ _ h => h))
        cases fl with
        | nx S' => obtain ⟨b', w, ns', r'⟩ := h; exact ih b' S' M2 ns' r' w
        | xc c d S' => exact h
        | rt d => obtain ⟨b, w, z⟩ := h; exact z.elim
        | bk S' => obtain ⟨b, w, z⟩ := h; exact z.elim
        | ct S' => obtain ⟨b, w, z⟩ := h; exact z.elim
  exact gen n b0 S M ns (r.wk hw) w
end
end TL

set_option Elab.async false
set_option linter.all false
set_option maxRecDepth 100000
set_option maxHeartbeats 1000000
/-! TL5: comprehensions, calls, objects, pools. -/
namespace TL
open PySem L2 DL
open Mo (pur bnd lft)
open Enc (enc)
open EncL (encL)
/-! ### frames -/
theorem wk_n : Wk [] [] := trivial
theorem wk_a {a : SV} {as bs : List SV} (h : Wk as bs) : Wk (a :: as) (.any :: bs) := ⟨.inl rfl, h⟩
theorem wk_s {a : SV} {as bs : List SV} (h : Wk as bs) : Wk (a :: as) (a :: bs) := ⟨.inr rfl, h⟩
def Cin : List SV → List SV → Prop
  | [], [] => True
  | a :: as, b :: bs => (a.cell = false ∨ b = a) ∧ Cin as bs
  | _, _ => False
theorem ci_n : Cin [] [] := trivial
theorem ci_v {a b : SV} {as bs : List SV} (h : Cin as bs) (ha : a.cell = false := by rfl) : Cin (a :: as) (b :: bs) := ⟨.inl ha, h⟩
theorem ci_s {a : SV} {as bs : List SV} (h : Cin as bs) : Cin (a :: as) (a :: bs) := ⟨.inr rfl, h⟩
theorem Cin.get : ∀ {fs fs' : List SV} {i : Nat} {v : SV}, Cin fs fs' → fs[i]? = some v → v.cell = true → fs'[i]? = some v
  | [], [], _, _, _, h, _ => by simp at h
  | a :: as, b :: bs, 0, v, w, h, c => by
    simp at h; subst h
    rcases w.1 with e | e
    · rw [e] at c; cases c
    · simp [e]
  | a :: as, b :: bs, i + 1, v, w, h, c => by
    have := Cin.get (i := i) w.2 (by simpa using h) c
    simpa using this
section
variable {pp : PX} {M0 M M' : Store} {fs fs' fs2 : List SV} {S S2 : Lo} {ns : Nat → Nat} {i j n : Nat} {t : Tg} {l : List D} {d : D}
theorem Rel.back (r : Rel pp M0 fs S M ns) (r2 : Rel pp M0 fs2 S2 M' ns) (c : ∀ (i : Nat) (v : SV), fs[i]? = some v → v.cell = true → fs2[i]? = some v) : Rel pp M0 fs S M' ns := by
  refine ⟨r.len, r2.le, r2.fr, r2.pl, r2.cg, fun i v h => ?_, r.dj⟩
  have s := r.sl i v h
  cases v with
  | any => trivial
  | val d => exact s
  | lc t l => exact ⟨s.1, s.2.1, (r2.sl i _ (c i _ h rfl)).2.2⟩
  | lpl => exact ⟨s.1, s.2.1, (r2.sl i _ (c i _ h rfl)).2.2⟩
  | par n => exact s
  | pin n t l => exact ⟨s.1, s.2.1, s.2.2.1, (r2.sl i _ (c i _ h rfl)).2.2.2⟩
  | ro n t l => exact s
theorem Rel.setA {o : Option D} (r : Rel pp M0 fs S M ns) : Rel pp M0 (fs.set i .any) (S.set i o) M ns := by
  refine ⟨by simp [r.len], r.le, r.fr, r.pl, r.cg, fun j v h => ?_, fun j k u v hn hu hv cu cv => ?_⟩
  · rcases get_set h with ⟨rfl, rfl, hl⟩ | ⟨hn, h⟩
    · trivial
    · have s := r.sl j v h
      have e : (S.set i o)[j]? = S[j]? := List.getElem?_set_ne hn
      cases v <;> first | trivial | (unfold SlotOk at s ⊢; rw [e]; exact s)
  · rcases get_set hu with ⟨_, rfl, _⟩ | ⟨_, hu⟩
    · cases cu
    · rcases get_set hv with ⟨_, rfl, _⟩ | ⟨_, hv⟩
      · cases cv
      · exact r.dj j k u v hn hu hv cu cv
def wipeF (fs : List SV) : List Nat → List SV
  | [] => fs
  | v :: vs => (wipeF fs vs).set v .any
theorem Rel.wipe (r : Rel pp M0 fs S M ns) : ∀ vs, Rel pp M0 (wipeF fs vs) (wipeD S vs) M ns
  | [] => r
  | v :: vs => (r.wipe vs).setA
theorem wipeF_get : ∀ (vs : List Nat) {i : Nat} {v : SV}, (wipeF fs vs)[i]? = some v → v.cell = true → fs[i]? = some v
  | [], _, _, h, _ => h
  | u :: vs, i, v, h, c => by
    rcases get_set h with ⟨_, rfl, _⟩ | ⟨_, h⟩
    · cases c
    · exact wipeF_get vs h c
end
/-! ### comprehensions -/
def nox {m : Type → Type} [Mo m] {α : Type} (x : m α) : m α := Mo.tr x (fun _ _ => lft .bad)
def compM {m : Type → Type} [Mo m] {α β : Type} (c : α → m Bool) (f : α → m β) : List α → m (List β)
  | [] => pur []
  | x :: xs => bnd (nox (c x)) fun b => if b = true then bnd (nox (f x)) fun y => bnd (compM c f xs) fun ys => pur (y :: ys) else compM c f xs
def szL {α : Type} (xs : List α) : E Unit := if xs.length ≤ sizeLine then .ok () else .bad
def lcM {m : Type → Type} [Mo m] {α β : Type} (xs : List α) (c : α → m Bool) (f : α → m β) : m (List β) := bnd (lft (szL xs)) fun _ => compM c f xs
theorem Sim.nox {α : Type} {m : Ev α} {M : Store} {k : α → Store → Prop} {x : Str → D → Store → Prop} (h : Sim (m M) k NoX) : Sim (Ev.nox m M) k x := by
  unfold Ev.nox
  cases e : m M with
  | ok a M' => rw [e] at h; exact h
  | exc c d M' => rw [e] at h; exact h.elim
  | stuck => rw [e] at h; exact h.elim
section
variable {m : Type → Type} [Mo m] {pp : List Nat} {M0 : Store} {fs fs' fs'' : List SV} {α β γ τ φ ρ : Type} [Enc α] [Enc β] [Enc γ] [EncL τ] [Enc ρ] {K : φ → Fl → Store → Prop}
theorem nox_wp {x : m α} {Q : α → Prop} {X : Str → D → Prop} (w : Mo.wp (nox x) Q X) : Mo.wp x Q (fun c d => Mo.wp (m := m) (α := α) (lft E.bad) Q X) := Mo.tr_wp w
theorem nox_wpB {x : m Bool} {Q : Bool → Prop} {X : Str → D → Prop} (w : Mo.wp (nox x) Q X) : Mo.wp x Q (fun c d => Mo.wp (m := m) (α := Bool) (lft E.bad) Q X) := Mo.tr_wp w
theorem nl_lc {it : Lo → Ev (List D × Gd)} {tg : D → Lo → Ev Lo} {tt : Lo → Ev Bool} {te : Lo → Ev D} {vs : List Nat} {px : m (List α)} {c : α → m Bool} {f : α → m β} {fsT : α → List SV} (hi : IO fs it px) (ht : ∀ x, TgOk (wipeF fs vs) tg x (fsT x)) (hc : ∀ x, TO (fsT x) tt (c x)) (hf : ∀ x, EO (fsT x) te (f x)) (hC : ∀ x, Cin fs (fsT x)) :
    NL m fs (nLc it tg tt te vs) (bnd px fun xs => lcM xs c f) := fun pp M0 S M ns r Q X w => by
  refine Sim.bnd ((hi pp M0 S M ns r _ _ (Mo.bnd_wp w)).imp (fun d M1 ⟨xs, gd, e, hgd, w, r⟩ => ?_) (fun _ _ _ h => h))
  subst e
  have w := Mo.lft_wp (Mo.bnd_wp w)
  unfold szL at w
  by_cases hl : xs.length ≤ sizeLine
  · rw [if_pos hl] at w
    have w : Mo.wp (compM c f xs) Q X := w
    show Sim ((if (xs.map enc).length ≤ sizeLine then _ else Ev.no) M1) _ _
    rw [if_pos (by simpa using hl)]
    have gen : ∀ (xs : List α) (M : Store) (Q : List β → Prop), Rel pp M0 fs S M ns → Mo.wp (compM c f xs) Q X → Sim (compL tg tt te gd (wipeD S vs) (xs.map enc) M) (fun ys M' => ∃ v : List β, ys = v.map enc ∧ Q v ∧ Rel pp M0 fs S M' ns) NoX := by
      intro xs
      induction xs with
      | nil =>
        intro M Q r w
        rw [List.map_nil, compL, chk_ok (hgd.grd r)]
        exact ⟨[], rfl, Mo.pur_wp w, r⟩
      | cons x xs ih =>
        intro M Q r w
        rw [List.map_cons, compL, chk_ok (hgd.grd r)]
        have w := nox_wpB (Mo.bnd_wp w)
        obtain ⟨S1, h1, r1⟩ := ht x pp M0 _ M ns (r.wipe vs)
        refine Sim.bnd (Sim.ok (nox_ok h1) (Sim.bnd (Sim.nox (((hc x) pp M0 S1 M ns r1 _ _ w).imp (fun z M1 ⟨w, r1⟩ => ?_) (fun c d M1 ⟨x, r⟩ => Mo.lft_wp x)))))
        have r0 := r.back r1 (fun i v h hv => (hC x).get h hv)
        cases z with
        | false =>
          rw [if_neg (by decide)] at w ⊢
          exact ih M1 Q r0 w
        | true =>
          rw [if_pos rfl] at w ⊢
          have w := nox_wp (Mo.bnd_wp w)
          refine Sim.bnd (Sim.nox (((hf x) pp M0 S1 M1 ns r1 _ _ w).imp (fun z M2 ⟨y, e, w, r1⟩ => ?_) (fun c d M1 ⟨x, r⟩ => Mo.lft_wp x)))
          subst e
          have r0 := r.back r1 (fun i v h hv => (hC x).get h hv)
          refine Sim.bnd ((ih M2 _ r0 (Mo.bnd_wp w)).imp (fun ys M3 ⟨v, e, w, r0⟩ => ?_) (fun _ _ _ h => h))
          subst e
          exact ⟨y :: v, rfl, Mo.pur_wp w, r0⟩
    refine Sim.bnd ((gen xs M1 Q r w).imp (fun ys M3 ⟨v, e, w, r0⟩ => ?_) (fun _ _ _ h => h.elim))
    subst e
    exact ⟨v, rfl, w, r0⟩
  · rw [if_neg hl] at w; exact w.elim
theorem to_yes : TO (m := m) fs tYesD (pur true) := fun pp M0 S M ns r Q X w => ⟨Mo.pur_wp w, r⟩
/-! ### calls -/
mutual
theorem fz_base' {M : Store} {n n0 : Nat} (hn : n0 ≤ n) (k : Nat) (d d' : D) (h : fz M n k d = some d') (hr : rlt n0 d' = true) (h0 : ∀ j, rlt j d' = true) : fz M n0 k d = some d' := by
  cases d with
  | ref c =>
    unfold fz at h
    by_cases hc : c < n
    · rw [if_pos hc] at h
      cases h
      have := h0 0
      simp [rlt] at this
    · rw [if_neg hc] at h
      unfold fz
      rw [if_neg (by omega)]
      cases k with
      | zero => cases h
      | succ k =>
        dsimp only at h ⊢
        cases q : M[c]? with
        | none => rw [q] at h; cases h
        | some tl =>
          obtain ⟨t, l⟩ := tl
          rw [q] at h
          dsimp only at h ⊢
          cases q2 : fzs M n k l with
          | none => rw [q2] at h; cases h
          | some l' =>
            rw [q2] at h
            cases h
            rw [fzs_base' hn k l l' q2 (fun j => by have := h0 j; simpa [rlt] using this)]
            rfl
  | nd t l =>
    unfold fz at h ⊢
    cases q2 : fzs M n k l with
    | none => rw [q2] at h; cases h
    | some l' =>
      rw [q2] at h
      cases h
      rw [fzs_base' hn k l l' q2 (fun j => by have := h0 j; simpa [rlt] using this)]
      rfl
  | _ => unfold fz at h ⊢; exact h
  termination_by (k, sizeOf d)
theorem fzs_base' {M : Store} {n n0 : Nat} (hn : n0 ≤ n) (k : Nat) (l l' : List D) (h : fzs M n k l = some l') (h0 : ∀ j, rlts j l' = true) : fzs M n0 k l = some l' := by
  cases l with
  | nil => rw [fzs] at h ⊢; exact h
  | cons d l =>
    rw [fzs] at h ⊢
    cases q1 : fz M n k d with
    | none => rw [q1] at h; cases h
    | some a =>
      cases q2 : fzs M n k l with
      | none => rw [q1, q2] at h; cases h
      | some b =>
        rw [q1, q2] at h
        cases h
        have ha : ∀ j, rlt j a = true := fun j => by have := h0 j; simp [rlts] at this; exact this.1
        have hb : ∀ j, rlts j b = true := fun j => by have := h0 j; simp [rlts] at this; exact this.2
        rw [fz_base' hn k d a q1 (ha n0) ha, fzs_base' hn k l b q2 hb]
  termination_by (k, sizeOf l)
end
theorem Rel.call {pp : PX} {M0 M M' : Store} {S : Lo} {ns : Nat → Nat} (r : Rel pp M0 fs S M ns) (f : Fram [] M M') : Rel pp M0 fs S M' ns := r.store f.le fun k hk => f.fr k hk (by simp)
theorem Rel.callP {pp : PX} {M0 M M' : Store} {S : Lo} {ns : Nat → Nat} {i : Nat} {v : SV} (r : Rel pp M0 fs S M ns) (hv : fs[i]? = some v) (hp : v = .lpl ∨ ∃ n, v = .par n) (f : Fram [ns i] M M') : Rel pp M0 fs S M' ns :=
  r.storeP hv hp f.le (fun k hk hn => f.fr k hk (by simpa using hn)) (f.pl _ (by simp))
theorem Rel.re {pp : PX} {M0 M : Store} {S : Lo} {ns : Nat → Nat} (r : Rel pp M0 fs S M ns) {mr : Store} (h : Chg mr M) : Rel ⟨pp.pl, mr⟩ M0 fs S M ns := ⟨r.len, r.le, r.fr, r.pl, h, fun i v hv => by
  have := r.sl i v hv
  cases v <;> exact this, r.dj⟩
theorem Rel.cut {pp : PX} {M0 M M' : Store} {S : Lo} {ns : Nat → Nat} (r : Rel pp M0 fs S M ns) (r2 : Rel ⟨pp.pl, M⟩ M0 fs S M' ns) : Rel pp M0 fs S (M'.take M.length) ns := by
  have lt : (M'.take M.length).length = M.length := by rw [List.length_take]; have := r2.cg.le; dsimp only at this; omega
  refine ⟨r.len, by rw [lt]; exact r.le, fun k h1 h2 => ?_, fun n hn => ?_, ?_, fun i v hv => ?_, r.dj⟩
  · rw [List.getElem?_take_of_lt (Nat.lt_of_lt_of_le h1 r.le)]; exact r2.fr k h1 h2
  · have a := r.pl n hn
    exact ⟨a.1, (r2.pl n hn).2.same (List.getElem?_take_of_lt a.2.lt)⟩
  · refine r.cg.trans ⟨by omega, fun k hk => ?_⟩
    rcases r2.cg.same k hk with e | e
    · exact .inl (by rw [List.getElem?_take_of_lt hk]; exact e)
    · exact .inr (e.same (List.getElem?_take_of_lt hk))
  · have s := r.sl i v hv
    have s2 := r2.sl i v hv
    cases v with
    | any => trivial
    | val d => exact s
    | lc t l => exact ⟨s.1, s.2.1, by rw [List.getElem?_take_of_lt (s.lt r rfl)]; exact s2.2.2⟩
    | lpl => exact ⟨s.1, s.2.1, s2.2.2.same (List.getElem?_take_of_lt (s.lt r rfl))⟩
    | par n => exact s
    | pin n t l => exact ⟨s.1, s.2.1, s.2.2.1, by rw [List.getElem?_take_of_lt (by have := s.lt r rfl; rw [s.2.1] at this; exact this)]; exact s2.2.2.2⟩
    | ro n t l => exact s
theorem Chg.kept {M M' : Store} (h : Chg M M') : Kept M M' := ⟨h.le, fun i c hi hc => by
  rcases h.same i hi with e | ⟨c', h1, a, b, e, _⟩
  · exact .inl (by rw [← e]; exact hc)
  · rw [h1] at hc
    cases hc
    right
    rw [e]
    rfl⟩
/-- freezing what a whole piece gave -/
theorem sim_fz {cc : Bool} {pp : PX} {M0 M : Store} {S : Lo} {ns : Nat → Nat} {f : Ev D} {Q : ρ → Prop} {X : Str → D → Prop} (r : Rel pp M0 fs S M ns) (h : Sim (f M) (fun d M' => ∃ M1 q v, Q v ∧ Res cc q M1 v d M' ∧ M.length ≤ M1.length ∧ Rel ⟨pp.pl, M⟩ M0 fs S M' ns) (fun c d M' => X c d ∧ Rel ⟨pp.pl, M⟩ M0 fs S M' ns)) :
    Sim (fzE f M) (fun d M' => ∃ v, d = enc v ∧ Q v ∧ Rel pp M0 fs S M' ns) (fun c d M' => X c d ∧ Rel pp M0 fs S M' ns) := by
  cases e : f M with
  | ok d M' =>
    rw [e] at h
    obtain ⟨M1, q, v, hq, hres, hl, r2⟩ := h
    have hz := fz_base' hl 9 d _ hres.2.1 (Enc.nr v _) (fun j => Enc.nr v j)
    refine Sim.ok (a := enc v) (M := M'.take M.length) ?_ ⟨v, rfl, hq, r.cut r2⟩
    unfold fzE
    rw [e]
    dsimp only
    rw [if_pos r2.cg.kept, hz]
  | exc c d M' =>
    rw [e] at h
    unfold fzE
    rw [e]
    refine ⟨h.1, ?_⟩
    have := h.2.re (mr := pp.mr) (r.cg.trans h.2.cg)
    exact this
  | stuck => rw [e] at h; exact h.elim
/-- a call -/
theorem eo_call {cc : Bool} {n : Nat} {F : List D → Ev D} {f : Lo → Ev (List D)} {p : m τ} {q : τ → E ρ} (ha : AO fs f p) (hF : ∀ v, Ret cc [] (F (encL v)) (q v)) (hn : ∀ v : τ, (encL v).length = n) : EO fs (eFz (eCall (callD n F) f)) (bnd p fun v => lft (q v)) := fun pp M0 S M ns r Q X w => by
  refine sim_fz (cc := cc) r (Sim.bnd ((ha _ M0 S M ns (r.re (Chg.refl M)) _ _ (Mo.bnd_wp w)).imp (fun l M1 ⟨v, e, w, r1⟩ => ?_) (fun _ _ _ h => h)))
  subst e
  unfold callD
  rw [if_pos (hn v)]
  exact (hF v M1 (by simp) Q X (lft_wpE w)).imp (fun d M' ⟨v', hq, hres⟩ => ⟨M1, [], v', hq, hres, r1.cg.le, r1.call hres.1⟩) (fun c d M' ⟨x, fr⟩ => ⟨x, r1.call fr⟩)
/-- a call with pure arguments -/
theorem eo_callp {cc : Bool} {n : Nat} {F : List D → Ev D} {f : Lo → Ev (List D)} {v : τ} {q : E ρ} (ha : AP fs f v) (hF : Ret cc [] (F (encL v)) q) (hn : (encL v).length = n) : EO (m := m) fs (eFz (eCall (callD n F) f)) (lft q) := fun pp M0 S M ns r Q X w => by
  refine sim_fz (cc := cc) r (Sim.bnd (Sim.ok (ha _ M0 S M ns r) ?_))
  unfold callD
  rw [if_pos hn]
  have r1 := r.re (Chg.refl M)
  exact (hF M (by simp) Q X (lft_wpE w)).imp (fun d M' ⟨v', hq, hres⟩ => ⟨M, [], v', hq, hres, Nat.le_refl _, r1.call hres.1⟩) (fun c d M' ⟨x, fr⟩ => ⟨x, r1.call fr⟩)
/-- a call that draws from the pool -/
theorem eo_pool {cc : Bool} {n i : Nat} {sv : SV} {F : List D → Ev D} {f : Lo → Ev (List D)} {p : m τ} {q : τ → m ρ} (hv : fs[i]? = some sv) (hp : sv = .lpl ∨ ∃ n, sv = .par n) (ha : AO fs f p) (hF : ∀ c v, Ret cc [c] (F (.ref c :: encL v)) (q v)) (hn : ∀ v : τ, (encL v).length + 1 = n) : EO fs (eFz (eCall (callD n F) (eAc (eVar i) f))) (bnd p fun v => q v) := fun pp M0 S M ns r Q X w => by
  have h1 : eVar i S M = .ok (.ref (ns i)) M := by
    have s := r.sl i _ hv
    rcases hp with rfl | ⟨c, rfl⟩
    · unfold eVar; rw [s.1]; rfl
    · unfold eVar; rw [s.1, s.2.2]; rfl
  have hpool : ∀ M1, Rel ⟨pp.pl, M⟩ M0 fs S M1 ns → PoolAt M1 (ns i) := fun M1 r1 => by
    have s := r1.sl i _ hv
    rcases hp with rfl | ⟨c, rfl⟩
    · exact s.2.2
    · rw [s.2.2]; exact (r1.pl c s.2.1).2
  refine sim_fz (cc := cc) r (Sim.bnd (Sim.bnd (Sim.ok h1 (Sim.bnd ((ha _ M0 S M ns (r.re (Chg.refl M)) _ _ (Mo.bnd_wp w)).imp (fun l M1 ⟨v, e, w, r1⟩ => ?_) (fun _ _ _ h => h))))))
  subst e
  show Sim (callD n F (.ref (ns i) :: encL v) M1) _ _
  unfold callD
  rw [if_pos (by rw [List.length_cons]; exact hn v)]
  exact (hF (ns i) v M1 (by intro c hc; simp at hc; subst hc; exact hpool M1 r1) Q X w).imp (fun d M' ⟨v', hq, hres⟩ => ⟨M1, [ns i], v', hq, hres, r1.cg.le, r1.callP hv hp hres.1⟩) (fun c d M' ⟨x, fr⟩ => ⟨x, r1.callP hv hp fr⟩)
/-- a method of a frozen object -/
theorem eo_meth {cc : Bool} {cn mm : Str} {n : Nat} {F : List D → Ev D} {fo : Lo → Ev D} {f : Lo → Ev (List D)} {o : α} {os : List Str} {l : List D} {p : m τ} {q : τ → E ρ} (ho : EP fs fo o) (eo : enc o = .nd (.obj cn os) l) (hm : mm ∉ os) (ha : AO fs f p) (hF : ∀ v, Ret cc [] (F (enc o :: encL v)) (q v)) (hn : ∀ v : τ, (encL v).length + 1 = n) :
    EO fs (eFz (eMeth cn mm n F [] fo f)) (bnd p fun v => lft (q v)) := fun pp M0 S M ns r Q X w => by
  have hi : DL.isObj cn mm (enc o) M = .ok () M := by
    unfold DL.isObj
    rw [eo, bok (show vw (D.nd (.obj cn os) l) M = .ok (.obj cn os, l) M from rfl)]
    dsimp only
    rw [if_pos ⟨rfl, hm⟩]
    rfl
  refine sim_fz (cc := cc) r (Sim.bnd (Sim.ok (ho _ M0 S M ns r) (Sim.bnd (Sim.ok hi (Sim.bnd ((ha _ M0 S M ns (r.re (Chg.refl M)) _ _ (Mo.bnd_wp w)).imp (fun l M1 ⟨v, e, w, r1⟩ => ?_) (fun _ _ _ h => h)))))))
  subst e
  rw [List.append_nil]
  unfold callD
  rw [if_pos (by rw [List.length_cons]; exact hn v)]
  exact (hF v M1 (by simp) Q X (lft_wpE w)).imp (fun d M' ⟨v', hq, hres⟩ => ⟨M1, [], v', hq, hres, r1.cg.le, r1.call hres.1⟩) (fun c d M' ⟨x, fr⟩ => ⟨x, r1.call fr⟩)
theorem ep_fld {cn f : Str} {a : Lo → Ev D} {os : List Str} {l : List D} {v : α} (ha : EV fs a (.obj cn os) l) (hf : (os.zip l).lookup f = some (enc v)) : EP fs (e1 (fldE cn f) a) v := fun pp M0 S M ns r => by
  obtain ⟨d, h1, h2⟩ := ha pp M0 S M ns r
  unfold e1
  rw [bok h1]
  unfold fldE
  rw [bok h2]
  dsimp only
  rw [if_pos rfl, hf]
  rfl
/-! ### whole defs -/
theorem start_rel {n : Nat} {l : List D} (pp : List Nat) (M0 : Store) (hp : ∀ c ∈ pp, PoolAt M0 c) (fs : List SV) (hl : fs.length = n) (hle : l.length ≤ n) (hfs : ∀ (i : Nat) (v : SV), fs[i]? = some v → v = .any ∨ (∃ d, v = .val d ∧ l[i]? = some d)) : Rel ⟨pp, []⟩ M0 fs (startD n l) M0 (fun _ => 0) := by
  refine ⟨by unfold startD; simp; omega, Nat.le_refl _, fun _ _ _ => rfl, fun c hc => ⟨(hp c hc).lt, hp c hc⟩, Chg.none _, fun i v h => ?_, fun i j u v hn hu hv cu cv => ?_⟩
  · rcases hfs i v h with rfl | ⟨d, rfl, h2⟩
    · trivial
    · show (startD n l)[i]? = some (some d)
      unfold startD
      rw [List.getElem?_append_left (by have := (List.getElem?_eq_some_iff.mp h2).1; simpa using this), List.getElem?_map, h2]
      rfl
  · rcases hfs i u hu with rfl | ⟨d, rfl, h2⟩ <;> cases cu
theorem ret_of {cc : Bool} {n : Nat} {g : Lo → Ev Fl} {l : List D} {p : m ρ} {fs : List SV} (hl : fs.length = n) (hle : l.length ≤ n) (hfs : ∀ (i : Nat) (v : SV), fs[i]? = some v → v = .any ∨ (∃ d, v = .val d ∧ l[i]? = some d)) (h : ∀ M0, Blk [] M0 fs g p (KT cc [] M0)) : Ret cc [] (runF n g l) p := fun M hp Q X w => by
  have key := (h M).at_ (start_rel [] M (by simp) fs hl hle hfs) w
  unfold runF
  refine Sim.bnd ?_
  unfold Ev.nox
  cases e : g (startD n l) M with
  | stuck => rw [e] at key; exact key.elim
  | exc c d M' => rw [e] at key; exact key.elim
  | ok fl M' =>
    rw [e] at key
    cases fl with
    | nx S' => exact key
    | rt d => exact key
    | bk S' => obtain ⟨f, _, z⟩ := key; exact z.elim
    | ct S' => obtain ⟨f, _, z⟩ := key; exact z.elim
    | xc c d S' => exact key
/-- the def's frame: its values, then unbound names -/
def fr0 (vs : List D) (n : Nat) : List SV := vs.map SV.val ++ List.replicate (n - vs.length) .any
theorem fr0_ok {vs : List D} {n : Nat} (h : vs.length ≤ n) : (fr0 vs n).length = n ∧ ∀ (i : Nat) (v : SV), (fr0 vs n)[i]? = some v → v = .any ∨ (∃ d, v = .val d ∧ vs[i]? = some d) := by
  unfold fr0
  refine ⟨by simp; omega, fun i v hv => ?_⟩
  by_cases hi : i < vs.length
  · rw [List.getElem?_append_left (by simpa using hi), List.getElem?_map] at hv
    cases q : vs[i]? with
    | none => rw [q] at hv; cases hv
    | some d => rw [q] at hv; cases hv; exact .inr ⟨d, rfl, rfl⟩
  · rw [List.getElem?_append_right (by simpa using hi)] at hv
    obtain ⟨h1, h2⟩ := List.getElem?_eq_some_iff.mp hv
    rw [List.getElem_replicate] at h2
    exact .inl h2.symm
theorem ret_def {cc : Bool} {n : Nat} {g : Lo → Ev Fl} {l : List D} {p : m ρ} (hle : l.length ≤ n) (h : ∀ M0, Blk [] M0 (fr0 l n) g p (KT cc [] M0)) : Ret cc [] (runF n g l) p := ret_of (fr0_ok hle).1 hle (fr0_ok hle).2 h
/-- a def whose first argument is a pool -/
theorem ret_pool {cc : Bool} {n c : Nat} {g : Lo → Ev Fl} {l : List D} {p : m ρ} (hle : l.length + 1 ≤ n) (h : ∀ M0, Blk [c] M0 (.par c :: fr0 l (n - 1)) g p (KT cc [c] M0)) : Ret cc [c] (runF n g (.ref c :: l)) p := fun M hp Q X w => by
  obtain ⟨f1, f2⟩ := fr0_ok (vs := l) (n := n - 1) (by omega)
  have r0 := start_rel (l := l) [c] M hp (fr0 l (n - 1)) f1 (by omega) f2
  have r : Rel ⟨[c], []⟩ M (.par c :: fr0 l (n - 1)) (startD n (.ref c :: l)) M (fun _ => c) := by
    refine ⟨by unfold startD; simp [f1]; omega, Nat.le_refl _, fun _ _ _ => rfl, r0.pl, Chg.none _, fun i v hv => ?_, fun i j u v hn hu hv cu cv => ?_⟩
    · cases i with
      | zero => simp at hv; subst hv; exact ⟨rfl, by simp, rfl⟩
      | succ i =>
        have := r0.sl i v (by simpa using hv)
        rcases f2 i v (by simpa using hv) with rfl | ⟨d, rfl, h2⟩
        · trivial
        · show (startD n (.ref c :: l))[i + 1]? = some (some d)
          unfold startD
          rw [List.getElem?_append_left (by have := (List.getElem?_eq_some_iff.mp h2).1; simpa using this), List.getElem?_map, List.getElem?_cons_succ, h2]
          rfl
    · have z : ∀ i u, (SV.par c :: fr0 l (n - 1))[i]? = some u → u.cell = true → i = 0 := fun i u hu cu => by
        cases i with
        | zero => rfl
        | succ i =>
          rcases f2 i u (by simpa using hu) with rfl | ⟨d, rfl, h2⟩ <;> cases cu
      have a := z i u hu cu
      have b := z j v hv cv
      omega
  have key := (h M).at_ r w
  unfold runF
  refine Sim.bnd ?_
  unfold Ev.nox
  cases e : g (startD n (.ref c :: l)) M with
  | stuck => rw [e] at key; exact key.elim
  | exc c d M' => rw [e] at key; exact key.elim
  | ok fl M' =>
    rw [e] at key
    cases fl with
    | nx S' => exact key
    | rt d => exact key
    | bk S' => obtain ⟨f, _, z⟩ := key; exact z.elim
    | ct S' => obtain ⟨f, _, z⟩ := key; exact z.elim
    | xc c d S' => exact key
/-- a call whose list is kept as a cell -/
theorem b_callC {n i : Nat} {F : List D → Ev D} {f : Lo → Ev (List D)} {g : Lo → Ev Fl} {p : m τ} {q : τ → E (List α)} {k : List α → m φ} (ha : AO fs f p) (hF : ∀ v, Ret true [] (F (encL v)) (q v)) (hn : ∀ v : τ, (encL v).length = n) (hr : ∀ x, Blk pp M0 (fs.set i (.L x)) g (k x) K) :
    Blk pp M0 fs (sSeq (sAsg (eCall (callD n F) f) (gNm i)) g) (bnd (bnd p fun v => lft (q v)) k) K := Blk.of fun S M ns r Q X w => by
  refine Sim.seq (Sim.fl (Sim.bnd ((ha _ M0 S M ns r _ _ (Mo.bnd_wp (Mo.bnd_wp w))).imp (fun l M1 ⟨v, e, w, r1⟩ => ?_) (fun c d M1 ⟨x, r⟩ => ⟨x, r.fram⟩))))
  subst e
  unfold callD
  rw [if_pos (hn v)]
  refine (hF v M1 (by simp) _ _ (lft_wpE w)).imp (fun d M' ⟨v', hq, hres⟩ => ?_) (fun c d M' ⟨x, fr⟩ => ⟨x, (r1.call fr).fram⟩)
  obtain ⟨fr, _, h3⟩ := hres
  obtain ⟨c, t, l, rfl, hc, hm, he⟩ := h3 rfl
  cases he
  exact (hr v').at_ (r1.setC (i := i) hc hm fr.le (fun k hk => fr.fr k hk (by simp))) hq
/-- the same, drawing from the pool -/
theorem b_poolC {n i j : Nat} {sv : SV} {F : List D → Ev D} {f : Lo → Ev (List D)} {g : Lo → Ev Fl} {p : m τ} {q : τ → m (List α)} {k : List α → m φ} (hv : fs[j]? = some sv) (hp : sv = .lpl ∨ ∃ n, sv = .par n) (ha : AO fs f p) (hF : ∀ c v, Ret true [c] (F (.ref c :: encL v)) (q v)) (hn : ∀ v : τ, (encL v).length + 1 = n) (hr : ∀ x, Blk pp M0 (fs.set i (.L x)) g (k x) K) :
    Blk pp M0 fs (sSeq (sAsg (eCall (callD n F) (eAc (eVar j) f)) (gNm i)) g) (bnd (bnd p fun v => q v) k) K := Blk.of fun S M ns r Q X w => by
  have h1 : eVar j S M = .ok (.ref (ns j)) M := by
    have s := r.sl j _ hv
    rcases hp with rfl | ⟨c, rfl⟩
    · unfold eVar; rw [s.1]; rfl
    · unfold eVar; rw [s.1, s.2.2]; rfl
  refine Sim.seq (Sim.fl (Sim.bnd (Sim.bnd (Sim.ok h1 (Sim.bnd ((ha _ M0 S M ns r _ _ (Mo.bnd_wp (Mo.bnd_wp w))).imp (fun l M1 ⟨v, e, w, r1⟩ => ?_) (fun c d M1 ⟨x, r⟩ => ⟨x, r.fram⟩)))))))
  subst e
  have hpool : PoolAt M1 (ns j) := by
    have s := r1.sl j _ hv
    rcases hp with rfl | ⟨c, rfl⟩
    · exact s.2.2
    · rw [s.2.2]; exact (r1.pl c s.2.1).2
  show Sim (callD n F (.ref (ns j) :: encL v) M1) _ _
  unfold callD
  rw [if_pos (by rw [List.length_cons]; exact hn v)]
  refine (hF (ns j) v M1 (by intro c hc; simp at hc; subst hc; exact hpool) _ _ w).imp (fun d M' ⟨v', hq, hres⟩ => ?_) (fun c d M' ⟨x, fr⟩ => ⟨x, (r1.callP hv hp fr).fram⟩)
  obtain ⟨fr, _, h3⟩ := hres
  obtain ⟨c, t, l, rfl, hc, hm, he⟩ := h3 rfl
  cases he
  -- first the pool, then the new cell
  have r2 := r1.callP hv hp (M' := M'.take M1.length) ⟨by rw [List.length_take]; have := fr.le; omega, fun k hk hn => by rw [List.getElem?_take_of_lt hk]; exact fr.fr k hk hn, fun n hn => by simp at hn; subst hn; exact (fr.pl _ (by simp)).same (List.getElem?_take_of_lt hpool.lt)⟩
  have lt : (M'.take M1.length).length = M1.length := by rw [List.length_take]; have := fr.le; omega
  exact (hr v').at_ (r2.setC (i := i) (n := c) (by rw [lt]; exact hc) hm (by rw [lt]; exact fr.le) (fun k hk => by rw [List.getElem?_take_of_lt (by omega)])) hq
/-- a new pool -/
def PoolRet (f : Ev D) : Prop := ∀ M, ∃ c M', f M = .ok (.ref c) M' ∧ M.length ≤ c ∧ PoolAt M' c ∧ M.length ≤ M'.length ∧ ∀ k, k < M.length → M'[k]? = M[k]?
theorem b_newPool {n i : Nat} {F : List D → Ev D} {f : Lo → Ev (List D)} {g : Lo → Ev Fl} {v : τ} {p : m φ} (ha : AP fs f v) (hF : PoolRet (F (encL v))) (hn : (encL v).length = n) (hr : Blk pp M0 (fs.set i .lpl) g p K) : Blk pp M0 fs (sSeq (sAsg (eCall (callD n F) f) (gNm i)) g) p K := Blk.of fun S M ns r Q X w => by
  obtain ⟨c, M', h1, h2, h3, h4, h5⟩ := hF M
  have e : eCall (callD n F) f S M = .ok (.ref c) M' := by
    unfold eCall
    rw [bok (ha _ M0 S M ns r)]
    unfold callD
    rw [if_pos hn, h1]
  exact Sim.seq (Sim.fl (Sim.ok e (hr.at_ (r.setP (i := i) h2 h3 h4 h5) w)))
end
end TL

set_option Elab.async false
set_option linter.all false
set_option maxRecDepth 100000
set_option maxHeartbeats 1000000
/-! TL6: dicts with numbers as keys, objects made, zip, insert. -/
namespace TL
open PySem L2 DL
open Mo (pur bnd lft)
open Enc (enc)
open EncL (encL)
/-- a dict by its pairs -/
structure Dc (α : Type) where
  kv : List (Int × α)
abbrev dks {α : Type} (d : Dc α) : List Key := d.kv.map fun p => Sum.inl p.1
abbrev dvs {α : Type} [Enc α] (d : Dc α) : List D := d.kv.map fun p => enc p.2
theorem nrv {α : Type} [Enc α] (n : Nat) : ∀ xs : List (Int × α), rlts n (xs.map fun p => enc p.2) = true
  | [] => rfl
  | x :: xs => by simp [rlts, Enc.nr x.2 n, nrv n xs]
instance {α : Type} [Enc α] : Enc (Dc α) := ⟨fun d => .nd (.dct (dks d)) (dvs d), fun d n => by simp [rlt, nrv]⟩
abbrev SV.D {α : Type} [Enc α] (d : Dc α) : SV := .lc (.dct (dks d)) (dvs d)
def dfind {α : Type} (d : Dc α) (k : Int) : Option α := (d.kv.find? fun p => decide (p.1 = k)).map (·.2)
def dget {α : Type} (d : Dc α) (k : Int) : E α := match dfind d k with
  | some a => .ok a
  | none => .bad
def dhas {α : Type} (d : Dc α) (k : Int) : Bool := (dfind d k).isSome
def dputV {α : Type} (d : Dc α) (k : Int) (a : α) : Dc α := ⟨if (d.kv.any fun p => decide (p.1 = k)) = true then d.kv.map (fun p => if p.1 = k then (p.1, a) else p) else d.kv ++ [(k, a)]⟩
def dput {α : Type} (d : Dc α) (k : Int) (a : α) : E (Dc α) := if d.kv.length < sizeLine then .ok (dputV d k a) else .bad
section
variable {α : Type} [Enc α]
theorem zip_kv (l : List (Int × α)) : (l.map fun p => (Sum.inl p.1 : Key)).zip (l.map fun p => enc p.2) = l.map fun p => ((Sum.inl p.1 : Key), enc p.2) := by
  induction l with
  | nil => rfl
  | cons x l ih => simp [ih]
theorem vd_kv (d : Dc α) (k : Int) : vd ((dks d).zip (dvs d)) (.inl k) = (dfind d k).map enc := by
  unfold vd dfind dks dvs
  rw [zip_kv]
  generalize d.kv = l
  induction l with
  | nil => rfl
  | cons x l ih =>
    rw [List.map_cons, List.find?_cons, List.find?_cons]
    have e : decide ((Sum.inl x.1 : Key) = Sum.inl k) = decide (x.1 = k) := by simp
    rw [e]
    cases decide (x.1 = k) with
    | true => rfl
    | false => exact ih
theorem pk_kv (d : Dc α) (k : Int) (a : α) : pk ((dks d).zip (dvs d)) (.inl k) (enc a) = (dputV d k a).kv.map fun p => ((Sum.inl p.1 : Key), enc p.2) := by
  unfold pk dputV dks dvs
  rw [zip_kv]
  have e : ((d.kv.map fun p => ((Sum.inl p.1 : Key), enc p.2)).any fun p => decide (p.1 = .inl k)) = d.kv.any fun p => decide (p.1 = k) := by
    rw [List.any_map]
    congr 1
    funext p
    simp
  rw [e]
  cases d.kv.any fun p => decide (p.1 = k) with
  | true =>
    rw [if_pos rfl, if_pos rfl, List.map_map, List.map_map]
    apply List.map_congr_left
    intro p _
    by_cases h : p.1 = k
    · simp [h]
    · simp [h]
  | false => rw [if_neg (by decide), if_neg (by decide), List.map_append]; rfl
end
section
variable {m : Type → Type} [Mo m] {pp : List Nat} {M0 : Store} {fs fs' fs'' : List SV} {α β γ τ κ φ ρ ω : Type} [Enc α] [Enc β] [Enc γ] [EncL τ] [EncL κ] [Enc ρ] [Enc ω] {K : φ → Fl → Store → Prop}
theorem EP.dv {e : Lo → Ev D} {d : Dc α} (h : EP fs e d) : EV fs e (.dct (dks d)) (dvs d) := h.ev rfl
theorem eo_dget {a b : Lo → Ev D} {d : Dc α} {k : Int} (ha : EV fs a (.dct (dks d)) (dvs d)) (hb : EP fs b k) : EO (m := m) fs (e2 getK a b) (lft (dget d k)) := eo_v2p ha hb fun x M h => by
  unfold dget
  cases q : dfind d k with
  | none => trivial
  | some v =>
    show getK x (.int k) M = _
    unfold getK
    rw [bok h]
    show (match vd ((dks d).zip (dvs d)) (.inl k) with
      | some d => Ev.ret d
      | none => Ev.no) M = _
    rw [vd_kv, q]
    rfl
theorem ep_din {neg : Bool} {a b : Lo → Ev D} {d : Dc α} {k : Int} (ha : EP fs a k) (hb : EV fs b (.dct (dks d)) (dvs d)) : EP fs (e2 (inK neg) a b) (neg ^^ dhas d k) := fun pp M0 S M ns r => by
  obtain ⟨x, h1, h2⟩ := hb pp M0 S M ns r
  unfold e2
  rw [bok (ha pp M0 S M ns r), bok h1]
  show inK neg (.int k) x M = _
  unfold inK
  rw [bok h2]
  show Out.ok (D.bl (neg ^^ (vd ((dks d).zip (dvs d)) (.inl k)).isSome)) M = _
  rw [vd_kv]
  unfold dhas
  cases dfind d k <;> rfl
/-- d[k] = v -/
theorem b_dput {i : Nat} {fi fv : Lo → Ev D} {g : Lo → Ev Fl} {d : Dc α} {n : Int} {pe : m α} {k : Dc α → m φ} (hi : fs[i]? = some (.D d)) (hn : EP fs fi n) (he : EO fs fv pe) (hr : ∀ x, Blk pp M0 (fs.set i (.D x)) g (k x) K) :
    Blk pp M0 fs (sSeq (sDPutD (eVar i) fi fv) g) (bnd pe fun v => bnd (lft (dput d n v)) k) K := Blk.of fun S M ns r Q X w => by
  refine Sim.seq (Sim.fl ((he _ M0 S M ns r _ _ (Mo.bnd_wp w)).imp (fun x M1 ⟨v, e, w, r⟩ => ?_) (fun c d M1 ⟨x, r⟩ => ⟨x, r.fram⟩)))
  subst e
  have s := r.sl i _ hi
  have h1 : eVar i S M1 = .ok (.ref (ns i)) M1 := by unfold eVar; rw [s.1]; rfl
  have w := Mo.lft_wp (Mo.bnd_wp w)
  unfold dput at w
  by_cases hl : d.kv.length < sizeLine
  · rw [if_pos hl] at w
    refine Sim.fl (Sim.ok h1 (Sim.fl (Sim.ok (hn _ M0 S M1 ns r) (Sim.bnd (Sim.ok (a := ()) (M := M1.set (ns i) (.dct (dks (dputV d n v)), dvs (dputV d n v))) ?_ ?_)))))
    · show putE (enc v) (.ref (ns i)) (.int n) M1 = _
      unfold putE
      simp only [toK, s.2.2]
      rw [if_pos ⟨by simpa using hl, by simp⟩, pk_kv, List.map_map, List.map_map]
      rfl
    · exact (hr _).at_ (r.wr rfl hi) w
  · rw [if_neg hl] at w; exact w.elim
/-- an empty dict; one with a single pair -/
theorem b_dnew {i : Nat} {g : Lo → Ev Fl} {p : m φ} (hr : Blk pp M0 (fs.set i (.D (⟨[]⟩ : Dc α))) g p K) : Blk pp M0 fs (sSeq (sAsg (eCl (fun _ => Ev.ret (NR.n (.dct []) []))) (gNm i)) g) p K := Blk.of fun S M ns r Q X w => by
  refine Sim.seq (Sim.fl (Sim.ok (a := .ref M.length) (M := M ++ [(.dct [], [])]) rfl ?_))
  exact hr.at_ (r.setC (i := i) (n := M.length) (t := .dct []) (l := []) (M' := M ++ [(.dct [], [])]) (Nat.le_refl _) (by simp) (by simp) (fun k hk => List.getElem?_append_left hk)) w
theorem b_done {i : Nat} {fk fv : Lo → Ev D} {g : Lo → Ev Fl} {n : Int} {v : α} {p : m φ} (hn : EP fs fk n) (hv : EP fs fv v) (hr : Blk pp M0 (fs.set i (.D (⟨[(n, v)]⟩ : Dc α))) g p K) : Blk pp M0 fs (sSeq (sAsg (eCl (nDisp (pCons fk fv pNil))) (gNm i)) g) p K := Blk.of fun S M ns r Q X w => by
  have h1 : pCons fk fv pNil S M = .ok [(.inl n, enc v)] M := by
    unfold pCons
    rw [bok (hn _ M0 S M ns r), bok (hv _ M0 S M ns r)]
    rfl
  have h2 : eCl (nDisp (pCons fk fv pNil)) S M = .ok (.ref M.length) (M ++ [(.dct [.inl n], [enc v])]) := by
    unfold eCl nDisp
    have : ((pCons fk fv pNil S).bnd fun kd => if kd.length ≤ 15 then Ev.ret (NR.n (.dct ((pMrg kd).map (·.1))) ((pMrg kd).map (·.2))) else Ev.no) M = .ok (.n (.dct [.inl n]) [enc v]) M := by
      rw [bok h1]
      rfl
    rw [bok this]
    rfl
  refine Sim.seq (Sim.fl (Sim.ok h2 ?_))
  exact hr.at_ (r.setC (i := i) (n := M.length) (t := .dct [.inl n]) (l := [enc v]) (M' := M ++ [(.dct [.inl n], [enc v])]) (Nat.le_refl _) (by simp) (by simp) (fun k hk => List.getElem?_append_left hk)) w
/-- a dict goes back -/
theorem b_retD {cc : Bool} (i : Nat) {d : Dc α} {inj : Dc α → φ} (hk : KRet cc pp M0 K inj) (hi : fs[i]? = some (.D d)) : Blk (m := m) pp M0 fs (sRet (eVar i)) (pur (inj d)) K := Blk.of fun S M ns r Q X w => by
  have s := r.sl i _ hi
  have h1 : eVar i S M = .ok (.ref (ns i)) M := by unfold eVar; rw [s.1]; rfl
  exact Sim.fl (Sim.ok h1 ⟨inj d, Mo.pur_wp w, hk d _ _ ⟨r.fram, fz_cell s.2.1 s.2.2 (nrv _ _), fun _ => ⟨ns i, _, _, rfl, s.2.1, s.2.2, rfl⟩⟩⟩)
/-! ### zip -/
theorem zp_map (xs : List α) (ys : List β) : zpD (xs.map enc) (ys.map enc) = (xs.zip ys).map enc := by
  unfold zpD
  induction xs generalizing ys with
  | nil => simp
  | cons x xs ih => cases ys with
    | nil => simp
    | cons y ys => simp only [List.map_cons, List.zipWith_cons_cons, List.zip_cons_cons, ih]; rfl
theorem io_zip {a b : Lo → Ev D} {p : m (List α)} {q : m (List β)} (ha : EO fs a p) (hb : EO fs b q) : IO (α := α × β) fs (iZp (eAc a (eAc b eA0))) (bnd p fun xs => bnd q fun ys => pur (List.zip xs ys)) := fun pp M0 S M ns r Q X w => by
  refine Sim.bnd (Sim.bnd ((ha pp M0 S M ns r _ _ (Mo.bnd_wp w)).imp (fun d M1 ⟨xs, e, w, r⟩ => ?_) (fun _ _ _ h => h)))
  subst e
  refine Sim.bnd (Sim.bnd ((hb pp M0 S M1 ns r _ _ (Mo.bnd_wp w)).imp (fun d M1 ⟨ys, e, w, r⟩ => ?_) (fun _ _ _ h => h)))
  subst e
  refine ⟨List.zip xs ys, none, ?_, .inl rfl, Mo.pur_wp w, r⟩
  show (zpD (xs.map enc) (ys.map enc), none) = _
  rw [zp_map]
/-! ### insert, [::-1], in -/
open Classical in
noncomputable def insL {α : Type} (xs : List α) (i : Int) (x : α) : E (List α) := if insOk xs.length i then .ok (xs.take i.toNat ++ [x] ++ xs.drop i.toNat) else .bad
theorem b_ins {i : Nat} {fa : Lo → Ev (List D)} {g : Lo → Ev Fl} {xs : List α} {pe : m (Int × α × Unit)} {k : List α → m φ} (hi : fs[i]? = some (.L xs)) (he : AO fs fa pe) (hr : ∀ x, Blk pp M0 (fs.set i (.L x)) g (k x) K) :
    Blk pp M0 fs (sSeq (sExp (eBm (cellM opInsert) (eVar i) fa)) g) (bnd pe fun v => bnd (lft (insL xs v.1 v.2.1)) k) K := Blk.of fun S M ns r Q X w => by
  have s := r.sl i _ hi
  have h1 : eVar i S M = .ok (.ref (ns i)) M := by unfold eVar; rw [s.1]; rfl
  have h2 : isCellL (.ref (ns i)) M = .ok () M := by unfold isCellL; simp only [s.2.2]
  refine Sim.seq (Sim.fl (Sim.bnd (Sim.ok h1 (Sim.bnd (Sim.ok h2 (Sim.bnd ((he _ M0 S M ns r _ _ (Mo.bnd_wp w)).imp (fun d M1 ⟨v, e, w, r⟩ => ?_) (fun c d M1 ⟨x, r⟩ => ⟨x, r.fram⟩))))))))
  subst e
  have s := r.sl i _ hi
  have w := Mo.lft_wp (Mo.bnd_wp w)
  unfold insL at w
  by_cases hl : insOk xs.length v.1
  · rw [if_pos hl] at w
    have e0 : opInsert (xs.map enc) (encL v) = some (.non, (xs.take v.1.toNat ++ [v.2.1] ++ xs.drop v.1.toNat).map enc) := by
      have hl' : insOk (xs.map (enc (α := α))).length v.1 := by rw [List.length_map]; exact hl
      have := if_pos (α := Option (D × List D)) (c := insOk (xs.map (enc (α := α))).length v.1) (t := some (D.non, (xs.map enc).take v.1.toNat ++ [enc v.2.1] ++ (xs.map enc).drop v.1.toNat)) (e := none) (h := Classical.propDecidable _) hl'
      rw [List.map_append, List.map_append, List.map_take, List.map_drop]
      exact this
    have h3 : cellM opInsert (.ref (ns i)) (encL v) M1 = .ok .non (M1.set (ns i) (.lst, (xs.take v.1.toNat ++ [v.2.1] ++ xs.drop v.1.toNat).map enc)) := by
      simp only [cellM, s.2.2, e0]
    refine Sim.ok h3 ?_
    exact (hr _).at_ (r.wr (t' := .lst) rfl hi) w
  · rw [if_neg hl] at w; exact w.elim
theorem nl_rev {a : Lo → Ev D} {p : m (List α)} (ha : EO fs a p) : NL m fs (nRev a) (bnd p fun xs => pur xs.reverse) := fun pp M0 S M ns r Q X w => by
  refine Sim.bnd ((ha pp M0 S M ns r _ _ (Mo.bnd_wp w)).imp (fun d M1 ⟨xs, e, w, r⟩ => ?_) (fun _ _ _ h => h))
  subst e
  refine ⟨xs.reverse, ?_, Mo.pur_wp w, r⟩
  show NR.n .lst (xs.map enc).reverse = NR.n .lst (xs.reverse.map enc)
  rw [List.map_reverse]
theorem eo_in {neg : Bool} {a b : Lo → Ev D} {p : m Int} {q : m (List Int)} (ha : EO fs a p) (hb : EO fs b q) : EO fs (e2 (inE neg) a b) (bnd p fun x => bnd q fun xs => lft (.ok (neg ^^ inI x xs))) := eo_2 ha hb fun x xs M => by
  have h := ep_in (fs := []) (neg := neg) (a := eC (enc x)) (b := eC (enc xs)) (t := .lst) (x := x) (xs := xs) (ep_c rfl) (EP.ls (ep_c rfl)) rfl ⟨[], []⟩ [] [] M (fun _ => 0) ⟨rfl, by simp, by simp, by simp, Chg.none _, by simp, by simp⟩
  exact h
/-! ### objects made -/
theorem b_fld {cn f : Str} {i : Nat} {fv : Lo → Ev D} {g : Lo → Ev Fl} {os : List Str} {l : List D} {pe : m α} {k : α → m φ} {c : Nat} (hi : fs[i]? = some (.pin c (.obj cn os) l)) (ho : Nat.ble (os.length + 1) 1000 = true) (he : EO fs fv pe) (hr : ∀ x, Blk pp M0 (fs.set i (.pin c (.obj cn (putD f (enc x) os l).1) (putD f (enc x) os l).2)) g (k x) K) :
    Blk pp M0 fs (sSeq (sFldD cn f (eVar i) fv) g) (bnd pe k) K := Blk.of fun S M ns r Q X w => by
  refine Sim.seq (Sim.fl ((he _ M0 S M ns r _ _ (Mo.bnd_wp w)).imp (fun x M1 ⟨v, e, w, r⟩ => ?_) (fun c d M1 ⟨x, r⟩ => ⟨x, r.fram⟩)))
  subst e
  have s := r.sl i _ hi
  have h1 : eVar i S M1 = .ok (.ref c) M1 := by unfold eVar; rw [s.1]; rfl
  refine Sim.fl (Sim.ok h1 (Sim.bnd (Sim.ok (a := ()) (M := M1.set c (.obj cn (putD f (enc v) os l).1, (putD f (enc v) os l).2)) ?_ ?_)))
  · unfold stE
    simp only [s.2.2.2]
    rw [if_pos ⟨trivial, Nat.le_of_ble_eq_true ho⟩]
  · exact (hr v).at_ (r.wrP rfl hi) w
/-- what __init__ makes of an object -/
def Ini {ω : Type} [Enc ω] (cn : Str) (F : List D → Ev D) (l : List D) (p : E ω) : Prop := ∀ M Q X, Mo.wp p Q X → Sim (F (.ref M.length :: l) (M ++ [(.obj cn [], [])]))
  (fun d M' => d = .non ∧ ∃ o os vs, Q o ∧ Fram [] M M' ∧ M'[M.length]? = some (.obj cn os, vs) ∧ enc o = .nd (.obj cn os) vs) (fun c d M' => X c d ∧ Fram [] M M')
/-- a tail block of __init__ -/
def KI {ω : Type} [Enc ω] (cn : Str) (c : Nat) (M0 : Store) : ω → Fl → Store → Prop := fun o fl M' => match fl with
  | .nx S => ∃ ns fs os vs, Rel ⟨[], []⟩ M0 fs S M' ns ∧ fs[0]? = some (.pin c (.obj cn os) vs) ∧ enc o = .nd (.obj cn os) vs
  | _ => False
theorem b_endI {cn : Str} {c : Nat} {o : ω} {os : List Str} {vs : List D} (h : fs[0]? = some (.pin c (.obj cn os) vs)) (he : enc o = .nd (.obj cn os) vs) : Blk (m := m) [] M0 fs sNext (pur o) (KI cn c M0) := Blk.of fun S M ns r Q X w => ⟨o, Mo.pur_wp w, ns, fs, os, vs, r, h, he⟩
theorem ini_def {cn : Str} {n : Nat} {g : Lo → Ev Fl} {l : List D} {p : E ω} (hle : l.length + 1 ≤ n) (h : ∀ M0 c, Blk [] M0 (.pin c (.obj cn []) [] :: fr0 l (n - 1)) g p (KI cn c M0)) : Ini cn (runF n g) l p := fun M Q X w => by
  obtain ⟨f1, f2⟩ := fr0_ok (vs := l) (n := n - 1) (by omega)
  have g0 : (M ++ [(Tg.obj cn [], [])])[M.length]? = some (.obj cn [], []) := by simp
  have r : Rel ⟨[], []⟩ M (.pin M.length (.obj cn []) [] :: fr0 l (n - 1)) (startD n (.ref M.length :: l)) (M ++ [(.obj cn [], [])]) (fun _ => M.length) := by
    refine ⟨by unfold startD; simp [f1]; omega, by simp, fun k hk _ => List.getElem?_append_left hk, by simp, Chg.none _, fun i v hv => ?_, fun i j u v hn hu hv cu cv => ?_⟩
    · cases i with
      | zero => simp at hv; subst hv; exact ⟨rfl, rfl, Nat.le_refl _, g0⟩
      | succ i =>
        rcases f2 i v (by simpa using hv) with rfl | ⟨d, rfl, h2⟩
        · trivial
        · show (startD n (.ref M.length :: l))[i + 1]? = some (some d)
          unfold startD
          rw [List.getElem?_append_left (by have := (List.getElem?_eq_some_iff.mp h2).1; simpa using this), List.getElem?_map, List.getElem?_cons_succ, h2]
          rfl
    · have z : ∀ i u, (SV.pin M.length (.obj cn []) [] :: fr0 l (n - 1))[i]? = some u → u.cell = true → i = 0 := fun i u hu cu => by
        cases i with
        | zero => rfl
        | succ i =>
          rcases f2 i u (by simpa using hu) with rfl | ⟨d, rfl, h2⟩ <;> cases cu
      have a := z i u hu cu
      have b := z j v hv cv
      omega
  have key := (h M M.length).at_ r w
  unfold runF
  refine Sim.bnd ?_
  unfold Ev.nox
  cases e : g (startD n (.ref M.length :: l)) (M ++ [(.obj cn [], [])]) with
  | stuck => rw [e] at key; exact key.elim
  | exc c d M' => rw [e] at key; exact key.elim
  | ok fl M' =>
    rw [e] at key
    cases fl with
    | nx S' =>
      obtain ⟨o, q, ns, fs, os, vs, r', h1, h2⟩ := key
      have s := r'.sl 0 _ h1
      exact ⟨rfl, o, os, vs, q, r'.fram, s.2.2.2, h2⟩
    | rt d => obtain ⟨f, _, z⟩ := key; exact z.elim
    | bk S' => obtain ⟨f, _, z⟩ := key; exact z.elim
    | ct S' => obtain ⟨f, _, z⟩ := key; exact z.elim
    | xc c d S' => exact key
theorem rlts_obj {o : ω} {t : Tg} {vs : List D} (h : enc o = .nd t vs) (n : Nat) : rlts n vs = true := by
  have := Enc.nr o n
  rw [h] at this
  simpa [rlt] using this
/-- C(..., k=...) -/
theorem eo_make {cn : Str} {n i j : Nat} {F : List D → Ev D} {f g : Lo → Ev (List D)} {v : τ} {z : κ} {q : E ω} (ha : AP fs f v) (hk : AP fs g z) (hF : Ini cn F (encL v ++ encL z) q) (hi : (encL v).length = i) (hj : (encL z).length = j) : EO (m := m) fs (eFz (eMake cn n i j (fun d l z => d :: (l ++ z)) F f g)) (lft q) := fun pp M0 S M ns r Q X w => by
  have e0 : eMake cn n i j (fun d l z => d :: (l ++ z)) F f g S M = makeD cn F (fun d => d :: (encL v ++ encL z)) M := by
    unfold eMake
    rw [bok (ha _ M0 S M ns r), bok (hk _ M0 S M ns r), if_pos ⟨hi, hj⟩]
  refine sim_fz (cc := false) r ?_
  rw [e0]
  have key := hF M Q X (lft_wpE w)
  unfold makeD
  have r1 := r.re (Chg.refl M)
  cases e : F (.ref M.length :: (encL v ++ encL z)) (M ++ [(.obj cn [], [])]) with
  | stuck => rw [e] at key; exact key.elim
  | exc c d M' => rw [e] at key; exact ⟨key.1, r1.call key.2⟩
  | ok d M' =>
    rw [e] at key
    obtain ⟨rfl, o, os, vs, hq, fr, hm, he⟩ := key
    refine ⟨M, [], o, hq, ⟨fr, ?_, fun h => by cases h⟩, Nat.le_refl _, r1.call fr⟩
    rw [he]
    exact fz_cell (Nat.le_refl _) hm (rlts_obj he _)
end
end TL

set_option Elab.async false
set_option linter.all false
set_option maxRecDepth 100000
set_option maxHeartbeats 1000000
/-! TL7: isinstance, parallel stores, pools made, walks over own cells, the law's end. -/
namespace TL
open PySem L2 DL
open Mo (pur bnd lft)
open Enc (enc)
open EncL (encL)
theorem fz_int {M : Store} {n k : Nat} {d : D} {b : Int} (h : fz M n k d = some (.int b)) : d = .int b := by
  cases d with
  | ref c =>
    unfold fz at h
    by_cases hc : c < n
    · rw [if_pos hc] at h; cases h
    · rw [if_neg hc] at h
      cases k with
      | zero => cases h
      | succ k =>
        dsimp only at h
        cases q : M[c]? with
        | none => rw [q] at h; cases h
        | some tl =>
          rw [q] at h
          dsimp only at h
          cases q2 : fzs M n k tl.2 with
          | none => rw [q2] at h; cases h
          | some l => rw [q2] at h; cases h
  | nd t l =>
    unfold fz at h
    cases q2 : fzs M n k l with
    | none => rw [q2] at h; cases h
    | some l => rw [q2] at h; cases h
  | int c => unfold fz at h; cases h; rfl
  | _ => unfold fz at h; cases h
section
variable {m : Type → Type} [Mo m] {pp : List Nat} {M0 : Store} {fs fs' fs'' : List SV} {α β γ τ κ φ ρ ω : Type} [Enc α] [Enc β] [Enc γ] [EncL τ] [Enc ρ] [Enc ω] {K : φ → Fl → Store → Prop}
theorem ep_isi {a : Lo → Ev D} {v : α} {t T : String} {b : Bool} (ha : EP fs a v) (ht : ∀ M, tyN (enc v) M = .ok t M) (hb : isiB t T = some b) : EP fs (eCall (op2 isiE) (eAc a (eAc (eC (.ty T)) eA0))) b := fun pp M0 S M ns r => by
  have h : eAc a (eAc (eC (.ty T)) eA0) S M = .ok [enc v, .ty T] M := by
    unfold eAc
    rw [bok (ha pp M0 S M ns r)]
    rfl
  unfold eCall
  rw [bok h]
  show isiE (enc v) (.ty T) M = _
  unfold isiE
  rw [bok (ht M)]
  dsimp only
  rw [hb]
  rfl
theorem tysOf_map (Ts : List String) : tysOf (Ts.map D.ty) = some Ts := by
  induction Ts with
  | nil => rfl
  | cons t l ih => rw [List.map_cons, tysOf, ih]; rfl
theorem ep_isiT {a : Lo → Ev D} {f : Lo → Ev (List D)} {v : α} {t : String} {Ts : List String} {b : Bool} (ha : EP fs a v) (ht : ∀ M, tyN (enc v) M = .ok t M) (hf : ∀ S M, f S M = .ok (Ts.map D.ty) M) (hl : Ts.length ≤ 1000) (hb : isiA t Ts = some b) :
    EP fs (eCall (op2 isiTE) (eAc a (eAc (eF (nNew .tup f)) eA0))) b := fun pp M0 S M ns r => by
  have h0 : eF (nNew .tup f) S M = .ok (.nd .tup (Ts.map D.ty)) M := by
    have : nNew .tup f S M = .ok (.n .tup (Ts.map D.ty)) M := by
      unfold nNew
      rw [bok (hf S M), if_pos (by rw [List.length_map]; exact Nat.le_trans hl (by decide))]
      rfl
    unfold eF
    rw [bok this]
    rfl
  have h1 : (eAc (eF (nNew .tup f)) eA0) S M = .ok [.nd .tup (Ts.map D.ty)] M := by
    unfold eAc
    rw [bok h0]
    rfl
  have h : eAc a (eAc (eF (nNew .tup f)) eA0) S M = .ok [enc v, .nd .tup (Ts.map D.ty)] M := by
    show ((a S).bnd _) M = _
    rw [bok (ha pp M0 S M ns r)]
    show ((eAc (eF (nNew .tup f)) eA0 S).bnd _) M = _
    rw [bok h1]
    rfl
  unfold eCall
  rw [bok h]
  show isiTE (enc v) (.nd .tup (Ts.map D.ty)) M = _
  unfold isiTE
  rw [bok (ht M), bok (show vw (D.nd .tup (Ts.map D.ty)) M = .ok (.tup, Ts.map D.ty) M from rfl)]
  dsimp only
  rw [tysOf_map]
  dsimp only
  rw [hb]
  rfl
noncomputable def lenG (n : Int) : E Int := if lenB n = true then .ok n else .bad
theorem eo_lenO {cc : Bool} {cn : Str} {F : List D → Ev D} {a : Lo → Ev D} {o : α} {os : List Str} {l : List D} {q : E Int} (ha : EP fs a o) (eo : enc o = .nd (.obj cn os) l) (hm : ("__len__" : Str) ∉ os) (hF : Ret cc [] (F [enc o]) q) : EO (m := m) fs (eCall (op1 (lenO cn F)) (eAc a eA0)) (bnd (lft q) fun n => lft (lenG n)) := fun pp M0 S M ns r Q X w => by
  have h0 : eAc a eA0 S M = .ok [enc o] M := by
    unfold eAc
    rw [bok (ha pp M0 S M ns r)]
    rfl
  have hi : DL.isObj cn "__len__" (enc o) M = .ok () M := by
    unfold DL.isObj
    rw [eo, bok (show vw (D.nd (.obj cn os) l) M = .ok (.obj cn os, l) M from rfl)]
    dsimp only
    rw [if_pos ⟨rfl, hm⟩]
    rfl
  refine Sim.bnd (Sim.ok h0 ?_)
  show Sim (lenO cn F (enc o) M) _ _
  refine Sim.bnd (Sim.ok hi (Sim.bnd ?_))
  show Sim (callD 1 F [enc o] M) _ _
  unfold callD
  rw [if_pos (show [enc o].length = 1 from rfl)]
  refine (hF M (by simp) _ _ (lft_wpE (Mo.bnd_wp w))).imp (fun d M' ⟨n, w, hres⟩ => ?_) (fun c d M' ⟨x, fr⟩ => ⟨x, r.call fr⟩)
  have := fz_int hres.2.1
  subst this
  have w := Mo.lft_wp w
  unfold lenG at w
  unfold lenK
  dsimp only
  by_cases hc : lenB n = true
  · rw [if_pos hc] at w ⊢
    exact ⟨n, rfl, w, r.call hres.1⟩
  · rw [if_neg hc] at w; exact w.elim
theorem ep_lenD {a : Lo → Ev D} {t : Tg} {l : List D} {n : Int} (ha : EV fs a t l) (ht : FC.isSeq t = true) (hn : (l.length : Int) = n) : EP fs (eCall (op1 lenE) (eAc a eA0)) n := ep_cv ha fun d M h => by
  rw [vw_len h ht, hn]
  rfl
/-- a part of a tuple that is worked out -/
theorem eo_tupM {a : Lo → Ev D} {i : Int} {p : m α} {f : α → γ} (ha : EO fs a p) (l : α → List D) (h1 : ∀ x, enc x = .nd .tup (l x)) (h2 : ∀ x, atI (l x) i = some (enc (f x))) : EO fs (e2 ixE a (eC (.int i))) (bnd p fun x => pur (f x)) := fun pp M0 S M ns r Q X w => by
  refine Sim.bnd ((ha pp M0 S M ns r _ _ (Mo.bnd_wp w)).imp (fun d M1 ⟨x, e, w, r⟩ => ?_) (fun _ _ _ h => h))
  subst e
  refine Sim.bnd (Sim.ok (a := .int i) (M := M1) rfl ?_)
  have : ixE (enc x) (.int i) M1 = .ok (enc (f x)) M1 := by
    rw [h1 x]
    show ((sq (.nd .tup (l x))).bnd fun l => optE (atI l i)) M1 = _
    rw [bok (vw_sq (t := .tup) (l := l x) rfl rfl), h2 x]
    rfl
  exact Sim.ok this ⟨f x, rfl, Mo.pur_wp w, r⟩
theorem eo_dinM {neg : Bool} {a b : Lo → Ev D} {d : Dc α} {p : m Int} (ha : EO fs a p) (hb : EV fs b (.dct (dks d)) (dvs d)) : EO fs (e2 (inK neg) a b) (bnd p fun k => lft (.ok (neg ^^ dhas d k))) := fun pp M0 S M ns r Q X w => by
  refine Sim.bnd ((ha pp M0 S M ns r _ _ (Mo.bnd_wp w)).imp (fun x M1 ⟨k, e, w, r⟩ => ?_) (fun _ _ _ h => h))
  subst e
  have h := ep_din (neg := neg) (a := eC (enc k)) (ep_c (v := k) rfl) hb pp M0 S M1 ns r
  refine Sim.ok (a := enc (neg ^^ dhas d k)) (M := M1) ?_ ⟨_, rfl, Mo.lft_wp w, r⟩
  exact h
theorem eo_inV {neg : Bool} {a b : Lo → Ev D} {xs : List Int} {t : Tg} {p : m Int} (ha : EO fs a p) (hb : EV fs b t (xs.map enc)) (ht : FC.isSeq t = true) : EO fs (e2 (inE neg) a b) (bnd p fun k => lft (.ok (neg ^^ inI k xs))) := fun pp M0 S M ns r Q X w => by
  refine Sim.bnd ((ha pp M0 S M ns r _ _ (Mo.bnd_wp w)).imp (fun x M1 ⟨k, e, w, r⟩ => ?_) (fun _ _ _ h => h))
  subst e
  have h := ep_in (neg := neg) (a := eC (enc k)) (ep_c (v := k) rfl) hb ht pp M0 S M1 ns r
  refine Sim.ok (a := enc (neg ^^ inI k xs)) (M := M1) ?_ ⟨_, rfl, Mo.lft_wp w, r⟩
  exact h
theorem nl_repM {a b : Lo → Ev D} {xs : List α} {p : m Int} (ha : EP fs a xs) (hb : EO fs b p) : NL m fs (n2 repN a b) (bnd p fun k => lft (repL xs k)) := fun pp M0 S M ns r Q X w => by
  refine Sim.bnd (Sim.ok (ha pp M0 S M ns r) (Sim.bnd ((hb pp M0 S M ns r _ _ (Mo.bnd_wp w)).imp (fun x M1 ⟨k, e, w, r⟩ => ?_) (fun _ _ _ h => h))))
  subst e
  exact nl_rep (m := m) (a := eC (enc xs)) (b := eC (enc k)) (EP.ls (ep_c rfl)) (ep_c (v := k) rfl) pp M0 S M1 ns r Q X w
/-- x, y = a, b -/
theorem b_par {i j : Nat} {f : Lo → Ev (List D)} {g : Lo → Ev Fl} {p : m (α × β × Unit)} {k : (α × β × Unit) → m φ} (ha : AO fs f p) (hr : ∀ x, Blk pp M0 ((fs.set i (.val (enc x.1))).set j (.val (enc x.2.1))) g (k x) K) : Blk pp M0 fs (sSeq (sPar i j f) g) (bnd p k) K := Blk.of fun S M ns r Q X w => by
  refine Sim.seq (Sim.flG ((ha _ M0 S M ns r _ _ (Mo.bnd_wp w)).imp (fun l M1 ⟨v, e, w, r⟩ => ?_) (fun c d M1 ⟨x, r⟩ => ⟨x, r.fram⟩)))
  subst e
  exact (hr v).at_ ((r.setV (i := i)).setV (i := j)) w
def grdC (b : Bool) : E Unit := if b = true then .ok () else .bad
theorem b_newPoolG {n i : Nat} {b : Bool} {F : List D → Ev D} {f : Lo → Ev (List D)} {g : Lo → Ev Fl} {v : τ} {p : m φ} (ha : AP fs f v) (hF : b = true → PoolRet (F (encL v))) (hn : (encL v).length = n) (hr : Blk pp M0 (fs.set i .lpl) g p K) : Blk pp M0 fs (sSeq (sAsg (eCall (callD n F) f) (gNm i)) g) (bnd (lft (grdC b)) fun _ => p) K := Blk.of fun S M ns r Q X w => by
  have w := Mo.lft_wp (Mo.bnd_wp w)
  unfold grdC at w
  cases b with
  | false => exact w.elim
  | true => exact (b_newPool (i := i) ha (hF rfl) hn hr).at_ r w
/-- a walk over a list of one's own, which the body leaves alone -/
theorem b_forC {i : Nat} {tg : D → Lo → Ev Lo} {body g : Lo → Ev Fl} {xs : List α} {st : β → α → m β} {k : β → m φ} {b0 : β} {fsL : β → List SV} {fsT : Nat → β → α → List SV} (hi : fs[i]? = some (.L xs)) (hw : Wk fs (fsL b0)) (hiL : ∀ b, (fsL b)[i]? = some (.L xs)) (ht : ∀ c b x, TgOk ((fsL b).set i (.pin c .lst (xs.map enc))) tg x (fsT c b x))
    (hb : ∀ c b x, Blk pp M0 (fsT c b x) body (st b x) (KN pp M0 fun b => (fsL b).set i (.pin c .lst (xs.map enc)))) (hr : ∀ b, Blk pp M0 (fsL b) g (k b) K) : Blk pp M0 fs (sSeq (sFor (iSeq (eVar i)) tg body) g) (bnd (pur xs) fun ys => bnd (forM st ys b0) k) K := Blk.of fun S M ns r Q X w => by
  have w : Mo.wp (bnd (forM st xs b0) k) Q X := Mo.pur_wp (Q := fun ys => Mo.wp (bnd (forM st ys b0) k) Q X) (Mo.bnd_wp w)
  have w := Mo.bnd_wp w
  have s := r.sl i _ hi
  have h1 : iSeq (eVar i) S M = .ok (xs.map enc, some (ns i, (.lst, xs.map enc))) M := by
    have h0 : eVar i S M = .ok (.ref (ns i)) M := by unfold eVar; rw [s.1]; rfl
    unfold iSeq
    rw [bok h0]
    unfold itSq
    rw [bok (show vw (.ref (ns i)) M = .ok (.lst, xs.map enc) M from by unfold vw; simp only [s.2.2])]
    rfl
  refine Sim.seq (Sim.flG (Sim.ok h1 ?_))
  dsimp only
  generalize hc : ns i = c
  have gen : ∀ (ys : List α) (b : β) (S : Lo) (M : Store) (ns : Nat → Nat), Rel ⟨pp, []⟩ M0 ((fsL b).set i (.pin c .lst (xs.map enc))) S M ns → Mo.wp (forM st ys b) (fun a => Mo.wp (k a) Q X) X → Sim (forL tg body (some (c, (.lst, xs.map enc))) (ys.map enc) S M) (fun fl M' => match fl with
    | .nx S' => Sim (g S' M') (BP pp M0 Q X K) NoX
    | o => BP pp M0 Q X K o M') NoX := by
    have pin : ∀ b, ((fsL b).set i (.pin c .lst (xs.map enc)))[i]? = some (.pin c .lst (xs.map enc)) := fun b => List.getElem?_set_self (List.getElem?_eq_some_iff.mp (hiL b)).1
    have back : ∀ b, (((fsL b).set i (.pin c .lst (xs.map enc))).set i (.L xs)) = fsL b := fun b => by
      rw [List.set_set]
      apply List.ext_getElem?
      intro j
      by_cases e : i = j
      · subst e; rw [List.getElem?_set_self (List.getElem?_eq_some_iff.mp (hiL b)).1, hiL b]
      · rw [List.getElem?_set_ne e]
    intro ys
    induction ys with
    | nil =>
      intro b S M ns r w
      have gd : grd (some (c, (Tg.lst, xs.map enc))) M := (r.sl i _ (pin b)).2.2.2
      rw [List.map_nil, forL, chk_ok gd]
      have w : Mo.wp (k b) Q X := Mo.pur_wp (Q := fun a => Mo.wp (k a) Q X) w
      have r' := r.unpin (pin b)
      rw [back b] at r'
      exact (hr b).at_ r' w
    | cons x ys ih =>
      intro b S M ns r w
      have gd : grd (some (c, (Tg.lst, xs.map enc))) M := (r.sl i _ (pin b)).2.2.2
      rw [List.map_cons, forL, chk_ok gd]
      have w := Mo.bnd_wp w
      obtain ⟨S', h1, r1⟩ := ht c b x _ M0 S M ns r
      refine Sim.bnd (Sim.ok h1 (Sim.bnd (((hb c b x).at_ r1 w).imp (fun fl M2 h => ?_) (fun _ _ _ h => h))))
      cases fl with
      | nx S' => obtain ⟨b', w, ns', r'⟩ := h; exact ih b' S' M2 ns' r' w
      | xc c d S' => exact h
      | rt d => obtain ⟨b, w, z⟩ := h; exact z.elim
      | bk S' => obtain ⟨b, w, z⟩ := h; exact z.elim
      | ct S' => obtain ⟨b, w, z⟩ := h; exact z.elim
  have r2 := (r.wk hw).pin (hiL b0)
  rw [hc] at r2
  exact gen xs b0 S M ns r2 w
/-! ### lists of the caller, read only -/
def RetR {ρ : Type} [Enc ρ] (c : Nat) (t : Tg) (l : List D) (cc : Bool) (f : Ev D) (p : E ρ) : Prop := ∀ M, M[c]? = some (t, l) → ∀ Q X, Mo.wp p Q X →
  Sim (f M) (fun d M' => ∃ r, Q r ∧ Res cc [] M r d M') (fun c d M' => X c d ∧ Fram [] M M')
def AR (fs : List SV) (f : Lo → Ev (List D)) (i : Nat) (L : Nat → List D) : Prop := ∀ pp M0 S M ns, Rel pp M0 fs S M ns → f S M = .ok (L (ns i)) M
theorem ar_nil {i : Nat} : AR fs eA0 i (fun _ => []) := fun _ _ _ _ _ _ => rfl
theorem ar_v {i : Nat} {a : Lo → Ev D} {r : Lo → Ev (List D)} {x : α} {L : Nat → List D} (ha : EP fs a x) (hr : AR fs r i L) : AR fs (eAc a r) i (fun c => enc x :: L c) := fun pp M0 S M ns rl => by
  unfold eAc
  rw [bok (ha pp M0 S M ns rl), bok (hr pp M0 S M ns rl)]
  rfl
theorem ar_c {i : Nat} {r : Lo → Ev (List D)} {t : Tg} {l : List D} {L : Nat → List D} (hi : fs[i]? = some (.lc t l)) (hr : AR fs r i L) : AR fs (eAc (eVar i) r) i (fun c => .ref c :: L c) := fun pp M0 S M ns rl => by
  have h1 : eVar i S M = .ok (.ref (ns i)) M := by unfold eVar; rw [(rl.sl i _ hi).1]; rfl
  unfold eAc
  rw [bok h1, bok (hr pp M0 S M ns rl)]
  rfl
theorem eo_callR {cc : Bool} {n i : Nat} {t : Tg} {l : List D} {F : List D → Ev D} {f : Lo → Ev (List D)} {L : Nat → List D} {q : E ρ} (hi : fs[i]? = some (.lc t l)) (ha : AR fs f i L) (hF : ∀ c, RetR c t l cc (F (L c)) q) (hn : ∀ c, (L c).length = n) : EO (m := m) fs (eFz (eCall (callD n F) f)) (lft q) := fun pp M0 S M ns r Q X w => by
  refine sim_fz (cc := cc) r (Sim.bnd (Sim.ok (ha _ M0 S M ns r) ?_))
  unfold callD
  rw [if_pos (hn _)]
  have r1 := r.re (Chg.refl M)
  exact (hF (ns i) M (r.sl i _ hi).2.2 Q X (lft_wpE w)).imp (fun d M' ⟨v', hq, hres⟩ => ⟨M, [], v', hq, hres, Nat.le_refl _, r1.call hres.1⟩) (fun c d M' ⟨x, fr⟩ => ⟨x, r1.call fr⟩)
theorem eo_callRr {cc : Bool} {n i c : Nat} {t : Tg} {l : List D} {F : List D → Ev D} {f : Lo → Ev (List D)} {L : List D} {q : E ρ} (hi : fs[i]? = some (.ro c t l)) (ha : AR fs f i (fun _ => L)) (hF : RetR c t l cc (F L) q) (hn : L.length = n) : EO (m := m) fs (eFz (eCall (callD n F) f)) (lft q) := fun pp M0 S M ns r Q X w => by
  refine sim_fz (cc := cc) r (Sim.bnd (Sim.ok (ha _ M0 S M ns r) ?_))
  unfold callD
  rw [if_pos hn]
  have r1 := r.re (Chg.refl M)
  have s := r.sl i _ hi
  exact (hF M (r.grd_ s.2.1 s.2.2) Q X (lft_wpE w)).imp (fun d M' ⟨v', hq, hres⟩ => ⟨M, [], v', hq, hres, Nat.le_refl _, r1.call hres.1⟩) (fun c d M' ⟨x, fr⟩ => ⟨x, r1.call fr⟩)
theorem ar_r {i c : Nat} {r : Lo → Ev (List D)} {t : Tg} {l L : List D} (hi : fs[i]? = some (.ro c t l)) (hr : AR fs r i (fun _ => L)) : AR fs (eAc (eVar i) r) i (fun _ => .ref c :: L) := fun pp M0 S M ns rl => by
  have h1 : eVar i S M = .ok (.ref c) M := by unfold eVar; rw [(rl.sl i _ hi).1]; rfl
  unfold eAc
  rw [bok h1, bok (hr pp M0 S M ns rl)]
  rfl
def ARO (fs : List SV) (f : Lo → Ev (List D)) (i : Nat) (p : m κ) (L : κ → Nat → List D) : Prop := ∀ pp M0 S M ns, Rel pp M0 fs S M ns → ∀ Q X, Mo.wp p Q X →
  Sim (f S M) (fun d M' => ∃ v, d = L v (ns i) ∧ Q v ∧ Rel pp M0 fs S M' ns) (fun c d M' => X c d ∧ Rel pp M0 fs S M' ns)
theorem aro_nil {i : Nat} : ARO (m := m) fs eA0 i (pur ()) (fun _ _ => []) := fun pp M0 S M ns r Q X w => ⟨(), rfl, Mo.pur_wp w, r⟩
theorem aro_v {i : Nat} {a : Lo → Ev D} {r : Lo → Ev (List D)} {p : m α} {q : m κ} {L : κ → Nat → List D} (ha : EO fs a p) (hr : ARO fs r i q L) : ARO fs (eAc a r) i (bnd p fun x => bnd q fun v => pur (x, v)) (fun v c => enc v.1 :: L v.2 c) := fun pp M0 S M ns rl Q X w => by
  refine Sim.bnd ((ha pp M0 S M ns rl _ _ (Mo.bnd_wp w)).imp (fun d M1 ⟨x, e, w, rl⟩ => ?_) (fun _ _ _ h => h))
  subst e
  refine Sim.bnd ((hr pp M0 S M1 ns rl _ _ (Mo.bnd_wp w)).imp (fun d M1 ⟨v, e, w, rl⟩ => ?_) (fun _ _ _ h => h))
  subst e
  exact ⟨(x, v), rfl, Mo.pur_wp w, rl⟩
theorem aro_c {i : Nat} {r : Lo → Ev (List D)} {t : Tg} {l : List D} {q : m κ} {L : κ → Nat → List D} (hi : fs[i]? = some (.lc t l)) (hr : ARO fs r i q L) : ARO fs (eAc (eVar i) r) i q (fun v c => .ref c :: L v c) := fun pp M0 S M ns rl Q X w => by
  have h1 : eVar i S M = .ok (.ref (ns i)) M := by unfold eVar; rw [(rl.sl i _ hi).1]; rfl
  refine Sim.bnd (Sim.ok h1 (Sim.bnd ((hr pp M0 S M ns rl _ _ w).imp (fun d M1 ⟨v, e, w, rl⟩ => ?_) (fun _ _ _ h => h))))
  subst e
  exact ⟨v, rfl, w, rl⟩
theorem aro_r {i c : Nat} {r : Lo → Ev (List D)} {t : Tg} {l : List D} {q : m κ} {L : κ → List D} (hi : fs[i]? = some (.ro c t l)) (hr : ARO fs r i q (fun v _ => L v)) : ARO fs (eAc (eVar i) r) i q (fun v _ => .ref c :: L v) := fun pp M0 S M ns rl Q X w => by
  have h1 : eVar i S M = .ok (.ref c) M := by unfold eVar; rw [(rl.sl i _ hi).1]; rfl
  refine Sim.bnd (Sim.ok h1 (Sim.bnd ((hr pp M0 S M ns rl _ _ w).imp (fun d M1 ⟨v, e, w, rl⟩ => ?_) (fun _ _ _ h => h))))
  subst e
  exact ⟨v, rfl, w, rl⟩
theorem eo_callRO {cc : Bool} {n i : Nat} {t : Tg} {l : List D} {F : List D → Ev D} {f : Lo → Ev (List D)} {p : m κ} {L : κ → Nat → List D} {q : κ → E ρ} (hi : fs[i]? = some (.lc t l)) (ha : ARO fs f i p L) (hF : ∀ v c, RetR c t l cc (F (L v c)) (q v)) (hn : ∀ v c, (L v c).length = n) : EO fs (eFz (eCall (callD n F) f)) (bnd p fun v => lft (q v)) := fun pp M0 S M ns r Q X w => by
  refine sim_fz (cc := cc) r (Sim.bnd ((ha _ M0 S M ns (r.re (Chg.refl M)) _ _ (Mo.bnd_wp w)).imp (fun d M1 ⟨v, e, w, r1⟩ => ?_) (fun _ _ _ h => h)))
  subst e
  unfold callD
  rw [if_pos (hn _ _)]
  exact (hF v (ns i) M1 (r1.sl i _ hi).2.2 Q X (lft_wpE w)).imp (fun d M' ⟨v', hq, hres⟩ => ⟨M1, [], v', hq, hres, r1.cg.le, r1.call hres.1⟩) (fun c d M' ⟨x, fr⟩ => ⟨x, r1.call fr⟩)
theorem eo_callROr {cc : Bool} {n i c : Nat} {t : Tg} {l : List D} {F : List D → Ev D} {f : Lo → Ev (List D)} {p : m κ} {L : κ → List D} {q : κ → E ρ} (hi : fs[i]? = some (.ro c t l)) (ha : ARO fs f i p (fun v _ => L v)) (hF : ∀ v, RetR c t l cc (F (L v)) (q v)) (hn : ∀ v, (L v).length = n) : EO fs (eFz (eCall (callD n F) f)) (bnd p fun v => lft (q v)) := fun pp M0 S M ns r Q X w => by
  refine sim_fz (cc := cc) r (Sim.bnd ((ha _ M0 S M ns (r.re (Chg.refl M)) _ _ (Mo.bnd_wp w)).imp (fun d M1 ⟨v, e, w, r1⟩ => ?_) (fun _ _ _ h => h)))
  subst e
  unfold callD
  rw [if_pos (hn _)]
  have s := r1.sl i _ hi
  exact (hF v M1 (r1.grd_ s.2.1 s.2.2) Q X (lft_wpE w)).imp (fun d M' ⟨v', hq, hres⟩ => ⟨M1, [], v', hq, hres, r1.cg.le, r1.call hres.1⟩) (fun c d M' ⟨x, fr⟩ => ⟨x, r1.call fr⟩)
/-- a def with a list of the caller -/
theorem ret_defR {cc : Bool} {n j c : Nat} {t : Tg} {l : List D} {g : Lo → Ev Fl} {ds : List D} {p : E ρ} (hle : ds.length ≤ n) (hj : ds[j]? = some (.ref c)) (h : ∀ M0, Blk [] M0 ((fr0 ds n).set j (.ro c t l)) g p (KT cc [] M0)) : RetR c t l cc (runF n g ds) p := fun M hc Q X w => by
  obtain ⟨f1, f2⟩ := fr0_ok (vs := ds) hle
  have r0 := start_rel (l := ds) [] M (by simp) (fr0 ds n) f1 hle f2
  have r : Rel ⟨[], []⟩ M ((fr0 ds n).set j (.ro c t l)) (startD n ds) M (fun _ => 0) := by
    refine ⟨by rw [List.length_set]; exact r0.len, r0.le, r0.fr, r0.pl, r0.cg, fun i v hv => ?_, fun i k u v hn hu hv cu cv => ?_⟩
    · rcases get_set hv with ⟨rfl, rfl, hl⟩ | ⟨hne, hv⟩
      · refine ⟨?_, by simp, hc⟩
        unfold startD
        rw [List.getElem?_append_left (by have := (List.getElem?_eq_some_iff.mp hj).1; simpa using this), List.getElem?_map, hj]
        rfl
      · exact r0.sl i v hv
    · rcases get_set hu with ⟨_, rfl, _⟩ | ⟨_, hu⟩
      · cases cu
      · rcases f2 i u hu with rfl | ⟨d, rfl, _⟩ <;> cases cu
  have key := (h M).at_ r w
  unfold runF
  refine Sim.bnd ?_
  unfold Ev.nox
  cases e : g (startD n ds) M with
  | stuck => rw [e] at key; exact key.elim
  | exc c d M' => rw [e] at key; exact key.elim
  | ok fl M' =>
    rw [e] at key
    cases fl with
    | nx S' => exact key
    | rt d => exact key
    | bk S' => obtain ⟨f, _, z⟩ := key; exact z.elim
    | ct S' => obtain ⟨f, _, z⟩ := key; exact z.elim
    | xc c d S' => exact key
theorem ep_isiV {a : Lo → Ev D} {t : Tg} {l : List D} {tn T : String} {b : Bool} (ha : EV fs a t l) (ht : tyS t = some tn) (hb : isiB tn T = some b) : EP fs (eCall (op2 isiE) (eAc a (eAc (eC (.ty T)) eA0))) b := fun pp M0 S M ns r => by
  obtain ⟨d, h1, h2⟩ := ha pp M0 S M ns r
  have h : eAc a (eAc (eC (.ty T)) eA0) S M = .ok [d, .ty T] M := by
    unfold eAc
    rw [bok h1]
    rfl
  have h3 : tyN d M = .ok tn M := by
    unfold tyN
    cases d with
    | ref n => show ((vw (.ref n)).bnd _) M = _; rw [bok h2]; dsimp only; rw [ht]; rfl
    | nd t l => show ((vw (.nd t l)).bnd _) M = _; rw [bok h2]; dsimp only; rw [ht]; rfl
    | _ => cases h2
  unfold eCall
  rw [bok h]
  show isiE d (.ty T) M = _
  unfold isiE
  rw [bok h3]
  dsimp only
  rw [hb]
  rfl
/-- a walk over a list of the caller, in a comprehension or a loop that changes no cell -/
theorem vw_it {d : D} {M : Store} {l : List D} (h : vw d M = .ok (.lst, l) M) : itSq d M = .ok (l, match d with | .ref n => some (n, (.lst, l)) | _ => none) M := by
  unfold itSq
  cases d with
  | ref n => rw [bok h]; rfl
  | nd t k => rw [bok h]; rfl
  | _ => cases h
end
/-! ### the end -/
theorem fz_bl {M : Store} {n k : Nat} {d : D} {b : Bool} (h : fz M n k d = some (.bl b)) : d = .bl b := by
  cases d with
  | ref c =>
    unfold fz at h
    by_cases hc : c < n
    · rw [if_pos hc] at h; cases h
    · rw [if_neg hc] at h
      cases k with
      | zero => cases h
      | succ k =>
        dsimp only at h
        cases q : M[c]? with
        | none => rw [q] at h; cases h
        | some tl =>
          rw [q] at h
          dsimp only at h
          cases q2 : fzs M n k tl.2 with
          | none => rw [q2] at h; cases h
          | some l => rw [q2] at h; cases h
  | nd t l =>
    unfold fz at h
    cases q2 : fzs M n k l with
    | none => rw [q2] at h; cases h
    | some l => rw [q2] at h; cases h
  | bl c => unfold fz at h; cases h; rfl
  | _ => unfold fz at h; cases h
theorem law_end {f : Ev D} {p : W Bool} (h : Ret false [] f p) (w : p (fun v => v = true) (fun _ _ => False)) : ∃ M', f [] = .ok (.bl true) M' := by
  have key := h [] (by simp) (fun v => v = true) (fun _ _ => False) (by rw [wpW]; exact w)
  cases e : f [] with
  | stuck => rw [e] at key; exact key.elim
  | exc c d M' => rw [e] at key; exact key.1.elim
  | ok d M' =>
    rw [e] at key
    obtain ⟨r, rfl, _, hz, _⟩ := key
    have := fz_bl hz
    subst this
    exact ⟨M', rfl⟩
end TL

set_option Elab.async false
set_option linter.all false
set_option maxRecDepth 100000
set_option maxHeartbeats 4000000
namespace Lw
open PySem L2 DL
noncomputable def g__law_pool : Lo → Ev Fl := sSeq (sAsg (eC (.int 0)) (gNm 2)) (sSeq (sIf (eB (e2 ltE (eVar 1) (eCall (op1 lenE) (eAc (eVar 0) eA0)))) (sAsg (e2 ixE (eVar 0) (eVar 1)) (gNm 2)) sNext) (sSeq (sAsg (e2 modE (e2 mulE (eF (n2 addN (eF (n2 addN (e2 modE (eVar 2) (eC (.int 2147483629))) (e2 mulE (e2 mulE (eC (.int 7919)) (eVar 1)) (eVar 1)))) (eC (.int 13)))) (eC (.int 48271))) (eC (.int 2147483647))) (gNm 3)) (sSeq (sIf (eB (e2 ltE (eVar 2) (e2 powE (eC (.int 10)) (eC (.int 18))))) (sAsg (eC (.int 0)) (gNm 2)) sNext) (sRet (eCl (nNew .lst (eAc (eVar 2) (eAc (eF (n2 addN (e2 modE (e2 mulE (eVar 3) (eVar 3)) (eC (.int 2147483587))) (eC (.int 1)))) eA0))))))))
noncomputable def F__law_pool : List D → Ev D := runF 4 g__law_pool
noncomputable def g__law_take : Lo → Ev Fl := sSeq (sIf (eB (e2 gtE (e2 ixE (eVar 0) (eC (.int 0))) (eC (.int 0)))) (sSeq (sAsg (e2 modE (e2 ixE (eVar 0) (eC (.int 0))) (eVar 1)) (gNm 2)) (sSeq (sAsg (e2 divE (e2 ixE (eVar 0) (eC (.int 0))) (eVar 1)) (gSet (eVar 0) (eC (.int 0)))) (sRet (eVar 2)))) sNext) (sSeq (sAsg (e2 modE (eF (n2 addN (e2 mulE (e2 ixE (eVar 0) (eC (.int 1))) (eC (.int 48271))) (eC (.int 11)))) (eC (.int 2147483647))) (gSet (eVar 0) (eC (.int 1)))) (sRet (e2 modE (e2 divE (e2 modE (e2 mulE (e2 ixE (eVar 0) (eC (.int 1))) (e2 ixE (eVar 0) (eC (.int 1)))) (eC (.int 2147483629))) (eC (.int 64))) (eVar 1))))
noncomputable def F__law_take : List D → Ev D := runF 3 g__law_take
noncomputable def g__law_modulus : Lo → Ev Fl := sRet (e2 ixE (eF (nNew .lst (eAc (eC (.int 0)) (eAc (eC (.int 0)) (eAc (eC (.int 2)) (eAc (eC (.int 3)) (eAc (eC (.int 4)) (eAc (eC (.int 5)) (eAc (eC (.int 12)) (eAc (eC (.int 60)) eA0)))))))))) (eFz (eCall (callD 2 F__law_take) (eAc (eVar 0) (eAc (eC (.int 8)) eA0)))))
noncomputable def F__law_modulus : List D → Ev D := runF 1 g__law_modulus
noncomputable def g__law_links : Lo → Ev Fl := sSeq (sAsg (eCl (nNew .lst eA0)) (gNm 3)) (sSeq (sFor (iR1 (eAc (eFz (eCall (callD 2 F__law_take) (eAc (eVar 0) (eAc (eF (n2 addN (eVar 2) (eC (.int 1)))) eA0)))) eA0)) (gNm 4) (sExp (eBm (cellM opAppend) (eVar 3) (eAc (eF (nNew .tup (eAc (eFz (eCall (callD 2 F__law_take) (eAc (eVar 0) (eAc (eVar 1) eA0)))) (eAc (eFz (eCall (callD 2 F__law_take) (eAc (eVar 0) (eAc (eVar 1) eA0)))) eA0)))) eA0)))) (sRet (eVar 3)))
noncomputable def F__law_links : List D → Ev D := runF 5 g__law_links
noncomputable def g_is_integer : Lo → Ev Fl := sRet (eAndV (eCall (op2 isiE) (eAc (eVar 0) (eAc (eC (.ty "int")) eA0))) (eNotV (eCall (op2 isiE) (eAc (eVar 0) (eAc (eC (.ty "bool")) eA0)))))
noncomputable def F_is_integer : List D → Ev D := runF 1 g_is_integer
noncomputable def g_is_within : Lo → Ev Fl := sRet (eAndV (eFz (eCall (callD 1 F_is_integer) (eAc (eVar 0) eA0))) (eChain leE leE (eVar 1) (eVar 0) (eVar 2)))
noncomputable def F_is_within : List D → Ev D := runF 3 g_is_within
noncomputable def g_is_edge : Lo → Ev Fl := sSeq (sIf (eOr (eNot (eTru (eCall (op2 isiE) (eAc (eVar 0) (eAc (eC (.ty "tuple")) eA0))))) (eB (e2 (eqE true) (eCall (op1 lenE) (eAc (eVar 0) eA0)) (eC (.int 2))))) (sRet (eC (.bl false))) sNext) (sRet (eAndV (eFz (eCall (callD 3 F_is_within) (eAc (e2 ixE (eVar 0) (eC (.int 0))) (eAc (eC (.int 0)) (eAc (e2 subE (eVar 1) (eC (.int 1))) eA0))))) (eFz (eCall (callD 3 F_is_within) (eAc (e2 ixE (eVar 0) (eC (.int 1))) (eAc (eC (.int 0)) (eAc (e2 subE (eVar 1) (eC (.int 1))) eA0)))))))
noncomputable def F_is_edge : List D → Ev D := runF 2 g_is_edge
noncomputable def g_check_edges : Lo → Ev Fl := sSeq (sIf (eNot (eTru (eCall (op2 isiTE) (eAc (eVar 1) (eAc (eF (nNew .tup (eAc (eC (.ty "list")) (eAc (eC (.ty "tuple")) eA0)))) eA0))))) sNo sNext) (sSeq (sFor (iSeq (eVar 1)) (gNm 2) (sIf (eNot (eTru (eFz (eCall (callD 2 F_is_edge) (eAc (eVar 2) (eAc (eVar 0) eA0)))))) sNo sNext)) (sIf (eB (e2 gtE (eCall (op1 lenE) (eAc (eVar 1) eA0)) (eC (.int 60)))) sNo sNext))
noncomputable def F_check_edges : List D → Ev D := runF 3 g_check_edges
noncomputable def g_is_modulus : Lo → Ev Fl := sRet (eAndV (eFz (eCall (callD 3 F_is_within) (eAc (eVar 0) (eAc (eC (.int 0)) (eAc (eC (.int 60)) eA0))))) (e2 (eqE true) (eVar 0) (eC (.int 1))))
noncomputable def F_is_modulus : List D → Ev D := runF 1 g_is_modulus
noncomputable def g_forest_of : Lo → Ev Fl := sSeq (sAsg (eF (lrN (r1E (eVar 0)))) (gNm 2)) (sSeq (sAsg (eCl (nNew .lst eA0)) (gNm 3)) (sSeq (sFor (iEn (eAc (eVar 1) eA0)) (gTp 2 (gCn (gNm 4) (gCn (gTp 2 (gCn (gNm 5) (gCn (gNm 6) gNl))) gNl))) (sIf (eB (e2 (eqE true) (e2 ixE (eVar 2) (eVar 5)) (e2 ixE (eVar 2) (eVar 6)))) (sSeq (sExp (eBm (cellM opAppend) (eVar 3) (eAc (eVar 4) eA0))) (sAsg (eF (nLc (iSeq (eVar 2)) (gNm 7) tYesD (eIf (eB (e2 (eqE false) (eVar 7) (e2 ixE (eVar 2) (eVar 6)))) (e2 ixE (eVar 2) (eVar 5)) (eVar 7)) [7])) (gNm 2))) sNext)) (sRet (eVar 3))))
noncomputable def F_forest_of : List D → Ev D := runF 8 g_forest_of
noncomputable def g_links_of : Lo → Ev Fl := sSeq (sAsg (fun S => (nLc (iR1 (eAc (eVar 0) eA0)) (gNm 7) tYesD (eCl (nNew .lst eA0)) [7] S).bnd frz) (gNm 3)) (sSeq (sFor (iSeq (eVar 2)) (gNm 4) (sSeq (sAsg (e2 ixE (eVar 1) (eVar 4)) (gTp 2 (gCn (gNm 5) (gCn (gNm 6) gNl)))) (sSeq (sExp (eBm (cellM opAppend) (e2 ixE (eVar 3) (eVar 5)) (eAc (eF (nNew .tup (eAc (eVar 4) (eAc (eC (.int 1)) (eAc (eVar 6) eA0))))) eA0))) (sExp (eBm (cellM opAppend) (e2 ixE (eVar 3) (eVar 6)) (eAc (eF (nNew .tup (eAc (eVar 4) (eAc (e1 negE (eC (.int 1))) (eAc (eVar 5) eA0))))) eA0)))))) (sRet (eVar 3)))
noncomputable def F_links_of : List D → Ev D := runF 8 g_links_of
noncomputable def g_Web___init__ : Lo → Ev Fl := sSeq (sIf (eNot (eTru (eFz (eCall (callD 3 F_is_within) (eAc (eVar 1) (eAc (eC (.int 1)) (eAc (eC (.int 30)) eA0))))))) sNo sNext) (sSeq (sExp (eFz (eCall (callD 2 F_check_edges) (eAc (eVar 1) (eAc (eVar 2) eA0))))) (sSeq (sIf (eNot (eTru (eFz (eCall (callD 1 F_is_modulus) (eAc (eVar 3) eA0))))) sNo sNext) (sSeq (sFldD ("Web" : Str) ("own_size" : Str) (eVar 0) (eVar 1)) (sSeq (sFldD ("Web" : Str) ("own_edges" : Str) (eVar 0) (eF (nCall (op1 listN) (eAc (eVar 2) eA0)))) (sSeq (sFldD ("Web" : Str) ("own_modulus" : Str) (eVar 0) (eVar 3)) (sSeq (sFldD ("Web" : Str) ("own_forest" : Str) (eVar 0) (eFz (eCall (callD 2 F_forest_of) (eAc (eVar 1) (eAc (eVar 2) eA0))))) (sFldD ("Web" : Str) ("links" : Str) (eVar 0) (eFz (eCall (callD 3 F_links_of) (eAc (eVar 1) (eAc (eVar 2) (eAc (e1 (fldE ("Web" : Str) ("own_forest" : Str)) (eVar 0)) eA0))))))))))))
noncomputable def F_Web___init__ : List D → Ev D := runF 4 g_Web___init__
noncomputable def g__law_number : Lo → Ev Fl := sSeq (sIf (eB (e2 gtE (eVar 1) (eC (.int 0)))) (sRet (eFz (eCall (callD 2 F__law_take) (eAc (eVar 0) (eAc (eVar 1) eA0))))) sNext) (sRet (e2 ixE (eF (nNew .lst (eAc (e2 subE (eFz (eCall (callD 2 F__law_take) (eAc (eVar 0) (eAc (eC (.int 9)) eA0)))) (eC (.int 4))) (eAc (eC (.int 0)) (eAc (e2 subE (eFz (eCall (callD 2 F__law_take) (eAc (eVar 0) (eAc (e2 powE (eC (.int 10)) (eC (.int 18))) eA0)))) (e2 mulE (eC (.int 5)) (e2 powE (eC (.int 10)) (eC (.int 17))))) eA0))))) (eFz (eCall (callD 2 F__law_take) (eAc (eVar 0) (eAc (eC (.int 3)) eA0))))))
noncomputable def F__law_number : List D → Ev D := runF 2 g__law_number
noncomputable def g__law_numbers : Lo → Ev Fl := sRet (eF (nLc (iR1 (eAc (eVar 2) eA0)) (gNm 3) tYesD (eFz (eCall (callD 2 F__law_number) (eAc (eVar 0) (eAc (eVar 1) eA0)))) [3]))
noncomputable def F__law_numbers : List D → Ev D := runF 4 g__law_numbers
noncomputable def g__law_round : Lo → Ev Fl := sSeq (sAsg (eFz (eCall (callD 2 F__law_take) (eAc (eVar 0) (eAc (eVar 2) eA0)))) (gNm 3)) (sSeq (sAsg (eCl (nDisp (pCons (eVar 3) (eF (nNew .lst eA0)) pNil))) (gNm 4)) (sSeq (sFor (iR1 (eAc (eVar 2) eA0)) (gNm 5) (sFor (iEn (eAc (eVar 1) eA0)) (gTp 2 (gCn (gNm 6) (gCn (gTp 2 (gCn (gNm 7) (gCn (gNm 8) gNl))) gNl))) (sSeq (sIf (eAnd (eB (e2 (inK false) (eVar 7) (eVar 4))) (eB (e2 (inK true) (eVar 8) (eVar 4)))) (sDPutD (eVar 4) (eVar 8) (eF (n2 addN (e2 getK (eVar 4) (eVar 7)) (eF (nNew .lst (eAc (eF (nNew .tup (eAc (eVar 6) (eAc (eC (.int 1)) eA0)))) eA0)))))) sNext) (sIf (eAnd (eB (e2 (inK false) (eVar 8) (eVar 4))) (eB (e2 (inK true) (eVar 7) (eVar 4)))) (sDPutD (eVar 4) (eVar 7) (eF (n2 addN (e2 getK (eVar 4) (eVar 8)) (eF (nNew .lst (eAc (eF (nNew .tup (eAc (eVar 6) (eAc (e1 negE (eC (.int 1))) eA0)))) eA0)))))) sNext)))) (sSeq (sAsg (fun S => (nLc (iR1 (eAc (eCall (op1 lenE) (eAc (eVar 1) eA0)) eA0)) (gNm 6) (eB (e2 (inK false) (e2 ixE (e2 ixE (eVar 1) (eVar 6)) (eC (.int 0))) (eVar 4))) (eVar 6) [6] S).bnd frz) (gNm 9)) (sSeq (sIf (eB (e2 (eqE false) (eVar 9) (eF (nNew .lst eA0)))) (sRet (eF (nNew .lst eA0))) sNext) (sSeq (sAsg (e2 ixE (eVar 9) (eFz (eCall (callD 2 F__law_take) (eAc (eVar 0) (eAc (eCall (op1 lenE) (eAc (eVar 9) eA0)) eA0))))) (gNm 6)) (sSeq (sAsg (e2 ixE (eVar 1) (eVar 6)) (gTp 2 (gCn (gNm 7) (gCn (gNm 8) gNl)))) (sRet (eF (n2 addN (eF (n2 addN (e2 getK (eVar 4) (eVar 7)) (eF (nNew .lst (eAc (eF (nNew .tup (eAc (eVar 6) (eAc (eC (.int 1)) eA0)))) eA0))))) (eF (nLc (iSeq (eF (nRev (e2 getK (eVar 4) (eVar 8))))) (gTp 2 (gCn (gNm 10) (gCn (gNm 11) gNl))) tYesD (eF (nNew .tup (eAc (eVar 10) (eAc (e2 subE (eC (.int 0)) (eVar 11)) eA0)))) [10, 11])))))))))))
noncomputable def F__law_round : List D → Ev D := runF 12 g__law_round
noncomputable def g_Web_modulus : Lo → Ev Fl := sRet (e1 (fldE ("Web" : Str) ("own_modulus" : Str)) (eVar 0))
noncomputable def F_Web_modulus : List D → Ev D := runF 1 g_Web_modulus
noncomputable def g_is_residue : Lo → Ev Fl := sSeq (sIf (eB (e2 (eqE false) (eFz (eMeth ("Web" : Str) ("modulus" : Str) 1 F_Web_modulus [] (eVar 0) eA0)) (eC (.int 0)))) (sRet (eFz (eCall (callD 1 F_is_integer) (eAc (eVar 1) eA0)))) sNext) (sRet (eFz (eCall (callD 3 F_is_within) (eAc (eVar 1) (eAc (eC (.int 0)) (eAc (e2 subE (eFz (eMeth ("Web" : Str) ("modulus" : Str) 1 F_Web_modulus [] (eVar 0) eA0)) (eC (.int 1))) eA0))))))
noncomputable def F_is_residue : List D → Ev D := runF 2 g_is_residue
noncomputable def g_are_residues : Lo → Ev Fl := sRet (eAndV (eCall (op2 isiE) (eAc (eVar 1) (eAc (eC (.ty "list")) eA0))) (eAndV (e2 (eqE false) (eCall (op1 lenE) (eAc (eVar 1) eA0)) (eVar 2)) (eCall (op1 allE) (eAc (eF (nLc (iSeq (eVar 1)) (gNm 3) tYesD (eFz (eCall (callD 2 F_is_residue) (eAc (eVar 0) (eAc (eVar 3) eA0)))) [3])) eA0))))
noncomputable def F_are_residues : List D → Ev D := runF 4 g_are_residues
noncomputable def g_Web___len__ : Lo → Ev Fl := sRet (eCall (op1 lenE) (eAc (e1 (fldE ("Web" : Str) ("own_edges" : Str)) (eVar 0)) eA0))
noncomputable def F_Web___len__ : List D → Ev D := runF 1 g_Web___len__
noncomputable def g_is_gains : Lo → Ev Fl := sRet (eFz (eCall (callD 3 F_are_residues) (eAc (eVar 0) (eAc (eVar 1) (eAc (eCall (op1 (lenO ("Web" : Str) F_Web___len__)) (eAc (eVar 0) eA0)) eA0)))))
noncomputable def F_is_gains : List D → Ev D := runF 2 g_is_gains
noncomputable def g_check_gains : Lo → Ev Fl := sIf (eNot (eTru (eFz (eCall (callD 2 F_is_gains) (eAc (eVar 0) (eAc (eVar 1) eA0)))))) sNo sNext
noncomputable def F_check_gains : List D → Ev D := runF 2 g_check_gains
noncomputable def g_is_step : Lo → Ev Fl := sSeq (sIf (eOr (eNot (eTru (eCall (op2 isiE) (eAc (eVar 1) (eAc (eC (.ty "tuple")) eA0))))) (eB (e2 (eqE true) (eCall (op1 lenE) (eAc (eVar 1) eA0)) (eC (.int 2))))) (sRet (eC (.bl false))) sNext) (sRet (eAndV (eFz (eCall (callD 3 F_is_within) (eAc (e2 ixE (eVar 1) (eC (.int 0))) (eAc (eC (.int 0)) (eAc (e2 subE (eCall (op1 (lenO ("Web" : Str) F_Web___len__)) (eAc (eVar 0) eA0)) (eC (.int 1))) eA0))))) (eAndV (eFz (eCall (callD 3 F_is_within) (eAc (e2 ixE (eVar 1) (eC (.int 1))) (eAc (e1 negE (eC (.int 1))) (eAc (eC (.int 1)) eA0))))) (e2 (eqE true) (e2 ixE (eVar 1) (eC (.int 1))) (eC (.int 0))))))
noncomputable def F_is_step : List D → Ev D := runF 2 g_is_step
noncomputable def g_Web_edge : Lo → Ev Fl := sSeq (sIf (eNot (eTru (eFz (eCall (callD 3 F_is_within) (eAc (eVar 1) (eAc (eC (.int 0)) (eAc (e2 subE (eCall (op1 lenE) (eAc (e1 (fldE ("Web" : Str) ("own_edges" : Str)) (eVar 0)) eA0)) (eC (.int 1))) eA0))))))) sNo sNext) (sRet (e2 ixE (e1 (fldE ("Web" : Str) ("own_edges" : Str)) (eVar 0)) (eVar 1)))
noncomputable def F_Web_edge : List D → Ev D := runF 2 g_Web_edge
noncomputable def g_step_ends : Lo → Ev Fl := sSeq (sAsg (eVar 1) (gTp 2 (gCn (gNm 2) (gCn (gNm 3) gNl)))) (sSeq (sAsg (eFz (eMeth ("Web" : Str) ("edge" : Str) 2 F_Web_edge [] (eVar 0) (eAc (eVar 2) eA0))) (gTp 2 (gCn (gNm 4) (gCn (gNm 5) gNl)))) (sRet (eIf (eB (e2 (eqE false) (eVar 3) (eC (.int 1)))) (eF (nNew .tup (eAc (eVar 4) (eAc (eVar 5) eA0)))) (eF (nNew .tup (eAc (eVar 5) (eAc (eVar 4) eA0)))))))
noncomputable def F_step_ends : List D → Ev D := runF 6 g_step_ends
noncomputable def g_is_walk : Lo → Ev Fl := sSeq (sIf (eOr (eNot (eTru (eCall (op2 isiE) (eAc (eVar 1) (eAc (eC (.ty "list")) eA0))))) (eB (e2 (eqE false) (eVar 1) (eF (nNew .lst eA0))))) (sRet (eC (.bl false))) sNext) (sSeq (sIf (eNot (eTru (eCall (op1 allE) (eAc (eF (nLc (iSeq (eVar 1)) (gNm 3) tYesD (eFz (eCall (callD 2 F_is_step) (eAc (eVar 0) (eAc (eVar 3) eA0)))) [3])) eA0)))) (sRet (eC (.bl false))) sNext) (sSeq (sAsg (fun S => (nLc (iSeq (eVar 1)) (gNm 3) tYesD (eFz (eCall (callD 2 F_step_ends) (eAc (eVar 0) (eAc (eVar 3) eA0)))) [3] S).bnd frz) (gNm 2)) (sRet (eCall (op1 allE) (eAc (eF (nLc (iZp (eAc (eVar 2) (eAc (eF (nSl (eVar 2) (oSo (eC (.int 1))) oNo)) eA0))) (gTp 2 (gCn (gNm 4) (gCn (gNm 5) gNl))) tYesD (e2 (eqE false) (e2 ixE (eVar 4) (eC (.int 1))) (e2 ixE (eVar 5) (eC (.int 0)))) [4, 5])) eA0)))))
noncomputable def F_is_walk : List D → Ev D := runF 6 g_is_walk
noncomputable def g_reduced_number : Lo → Ev Fl := sRet (eIf (eB (e2 gtE (eVar 1) (eC (.int 0)))) (e2 modE (eVar 0) (eVar 1)) (eVar 0))
noncomputable def F_reduced_number : List D → Ev D := runF 2 g_reduced_number
noncomputable def g_residue : Lo → Ev Fl := sSeq (sIf (eNot (eTru (eFz (eCall (callD 1 F_is_integer) (eAc (eVar 1) eA0))))) sNo sNext) (sRet (eFz (eCall (callD 2 F_reduced_number) (eAc (eVar 1) (eAc (eFz (eMeth ("Web" : Str) ("modulus" : Str) 1 F_Web_modulus [] (eVar 0) eA0)) eA0)))))
noncomputable def F_residue : List D → Ev D := runF 2 g_residue
noncomputable def g_walk_sum : Lo → Ev Fl := sSeq (sExp (eFz (eCall (callD 2 F_check_gains) (eAc (eVar 0) (eAc (eVar 1) eA0))))) (sSeq (sIf (eNot (eTru (eFz (eCall (callD 2 F_is_walk) (eAc (eVar 0) (eAc (eVar 2) eA0)))))) sNo sNext) (sRet (eFz (eCall (callD 2 F_residue) (eAc (eVar 0) (eAc (eCall (op1 sumE) (eAc (eF (nLc (iSeq (eVar 2)) (gTp 2 (gCn (gNm 3) (gCn (gNm 4) gNl))) tYesD (e2 mulE (eVar 4) (e2 ixE (eVar 1) (eVar 3))) [3, 4])) eA0)) eA0))))))
noncomputable def F_walk_sum : List D → Ev D := runF 5 g_walk_sum
noncomputable def g_Web_size : Lo → Ev Fl := sRet (e1 (fldE ("Web" : Str) ("own_size" : Str)) (eVar 0))
noncomputable def F_Web_size : List D → Ev D := runF 1 g_Web_size
noncomputable def g_is_potential : Lo → Ev Fl := sRet (eFz (eCall (callD 3 F_are_residues) (eAc (eVar 0) (eAc (eVar 1) (eAc (eFz (eMeth ("Web" : Str) ("size" : Str) 1 F_Web_size [] (eVar 0) eA0)) eA0)))))
noncomputable def F_is_potential : List D → Ev D := runF 2 g_is_potential
noncomputable def g_check_potential : Lo → Ev Fl := sIf (eNot (eTru (eFz (eCall (callD 2 F_is_potential) (eAc (eVar 0) (eAc (eVar 1) eA0)))))) sNo sNext
noncomputable def F_check_potential : List D → Ev D := runF 2 g_check_potential
noncomputable def g_Web_edges : Lo → Ev Fl := sRet (eF (nCall (op1 listN) (eAc (e1 (fldE ("Web" : Str) ("own_edges" : Str)) (eVar 0)) eA0)))
noncomputable def F_Web_edges : List D → Ev D := runF 1 g_Web_edges
noncomputable def g_switched : Lo → Ev Fl := sSeq (sExp (eFz (eCall (callD 2 F_check_gains) (eAc (eVar 0) (eAc (eVar 1) eA0))))) (sSeq (sExp (eFz (eCall (callD 2 F_check_potential) (eAc (eVar 0) (eAc (eVar 2) eA0))))) (sSeq (sAsg (eCl (nNew .lst eA0)) (gNm 3)) (sSeq (sFor (iZp (eAc (eVar 1) (eAc (eFz (eMeth ("Web" : Str) ("edges" : Str) 1 F_Web_edges [] (eVar 0) eA0)) eA0))) (gTp 2 (gCn (gNm 4) (gCn (gTp 2 (gCn (gNm 5) (gCn (gNm 6) gNl))) gNl))) (sExp (eBm (cellM opAppend) (eVar 3) (eAc (eFz (eCall (callD 2 F_residue) (eAc (eVar 0) (eAc (e2 subE (eF (n2 addN (eVar 4) (e2 ixE (eVar 2) (eVar 5)))) (e2 ixE (eVar 2) (eVar 6))) eA0)))) eA0)))) (sRet (eVar 3)))))
noncomputable def F_switched : List D → Ev D := runF 7 g_switched
noncomputable def g_is_switch : Lo → Ev Fl := sSeq (sIf (eOr (eNot (eTru (eCall (op2 isiE) (eAc (eVar 1) (eAc (eC (.ty "tuple")) eA0))))) (eB (e2 (eqE true) (eCall (op1 lenE) (eAc (eVar 1) eA0)) (eC (.int 2))))) (sRet (eC (.bl false))) sNext) (sRet (eAndV (eFz (eCall (callD 3 F_is_within) (eAc (e2 ixE (eVar 1) (eC (.int 0))) (eAc (eC (.int 0)) (eAc (e2 subE (eFz (eMeth ("Web" : Str) ("size" : Str) 1 F_Web_size [] (eVar 0) eA0)) (eC (.int 1))) eA0))))) (eFz (eCall (callD 1 F_is_integer) (eAc (e2 ixE (eVar 1) (eC (.int 1))) eA0)))))
noncomputable def F_is_switch : List D → Ev D := runF 2 g_is_switch
noncomputable def g_potential_of : Lo → Ev Fl := sSeq (sIf (eNot (eTru (eCall (op2 isiE) (eAc (eVar 1) (eAc (eC (.ty "list")) eA0))))) sNo sNext) (sSeq (sAsg (eCl (n2 repN (eF (nNew .lst (eAc (eC (.int 0)) eA0))) (eFz (eMeth ("Web" : Str) ("size" : Str) 1 F_Web_size [] (eVar 0) eA0)))) (gNm 2)) (sSeq (sFor (iSeq (eVar 1)) (gNm 3) (sSeq (sIf (eNot (eTru (eFz (eCall (callD 2 F_is_switch) (eAc (eVar 0) (eAc (eVar 3) eA0)))))) sNo sNext) (sSeq (sAsg (eVar 3) (gTp 2 (gCn (gNm 4) (gCn (gNm 5) gNl)))) (sAsg (eFz (eCall (callD 2 F_residue) (eAc (eVar 0) (eAc (eF (n2 addN (e2 ixE (eVar 2) (eVar 4)) (eVar 5))) eA0)))) (gSet (eVar 2) (eVar 4)))))) (sRet (eVar 2))))
noncomputable def F_potential_of : List D → Ev D := runF 6 g_potential_of
noncomputable def g__law_mixed : Lo → Ev Fl := sSeq (sAsg (eCl (nNew .lst eA0)) (gNm 2)) (sSeq (sFor (iSeq (eVar 1)) (gNm 3) (sExp (eBm (cellM opInsert) (eVar 2) (eAc (eFz (eCall (callD 2 F__law_take) (eAc (eVar 0) (eAc (eF (n2 addN (eCall (op1 lenE) (eAc (eVar 2) eA0)) (eC (.int 1)))) eA0)))) (eAc (eVar 3) eA0))))) (sRet (eVar 2)))
noncomputable def F__law_mixed : List D → Ev D := runF 4 g__law_mixed
noncomputable def g_check_node : Lo → Ev Fl := sIf (eNot (eTru (eFz (eCall (callD 3 F_is_within) (eAc (eVar 1) (eAc (eC (.int 0)) (eAc (e2 subE (eFz (eMeth ("Web" : Str) ("size" : Str) 1 F_Web_size [] (eVar 0) eA0)) (eC (.int 1))) eA0))))))) sNo sNext
noncomputable def F_check_node : List D → Ev D := runF 2 g_check_node
noncomputable def g_switch : Lo → Ev Fl := sSeq (sExp (eFz (eCall (callD 2 F_check_gains) (eAc (eVar 0) (eAc (eVar 1) eA0))))) (sSeq (sExp (eFz (eCall (callD 2 F_check_node) (eAc (eVar 0) (eAc (eVar 2) eA0))))) (sSeq (sAsg (eCl (n2 repN (eF (nNew .lst (eAc (eC (.int 0)) eA0))) (eFz (eMeth ("Web" : Str) ("size" : Str) 1 F_Web_size [] (eVar 0) eA0)))) (gNm 4)) (sSeq (sAsg (eFz (eCall (callD 2 F_residue) (eAc (eVar 0) (eAc (eVar 3) eA0)))) (gSet (eVar 4) (eVar 2))) (sRet (eFz (eCall (callD 3 F_switched) (eAc (eVar 0) (eAc (eVar 1) (eAc (eVar 4) eA0)))))))))
noncomputable def F_switch : List D → Ev D := runF 5 g_switch
noncomputable def g_law : Lo → Ev Fl := sSeq (sFor (iR1 (eAc (eCall (op2 maxE) (eAc (eC (.int 1)) (eAc (eCall (op2 minE) (eAc (eCall (op1 lenE) (eAc (eVar 0) eA0)) (eAc (eC (.int 4)) eA0))) eA0))) eA0)) (gNm 1) (sSeq (sAsg (eCall (callD 2 F__law_pool) (eAc (eVar 0) (eAc (eVar 1) eA0))) (gNm 2)) (sSeq (sAsg (eF (nNew .tup (eAc (eF (n2 addN (eC (.int 1)) (eFz (eCall (callD 2 F__law_take) (eAc (eVar 2) (eAc (eC (.int 12)) eA0)))))) (eAc (eFz (eCall (callD 1 F__law_modulus) (eAc (eVar 2) eA0))) eA0)))) (gTp 2 (gCn (gNm 3) (gCn (gNm 4) gNl)))) (sSeq (sAsg (eFz (eCall (callD 3 F__law_links) (eAc (eVar 2) (eAc (eVar 3) (eAc (eC (.int 30)) eA0))))) (gNm 5)) (sSeq (sAsg (eFz (eMake ("Web" : Str) 4 2 1 (fun d l z => d :: (l ++ z)) F_Web___init__ (eAc (eVar 3) (eAc (eVar 5) eA0)) (eAc (eVar 4) eA0))) (gNm 6)) (sSeq (sAsg (eFz (eCall (callD 3 F__law_numbers) (eAc (eVar 2) (eAc (eVar 4) (eAc (eCall (op1 lenE) (eAc (eVar 5) eA0)) eA0))))) (gNm 7)) (sSeq (sAsg (fun S => (nLc (iR1 (eAc (eFz (eCall (callD 2 F__law_take) (eAc (eVar 2) (eAc (eC (.int 15)) eA0)))) eA0)) (gNm 17) tYesD (eF (nNew .tup (eAc (eFz (eCall (callD 2 F__law_take) (eAc (eVar 2) (eAc (eVar 3) eA0)))) (eAc (eFz (eCall (callD 2 F__law_number) (eAc (eVar 2) (eAc (eC (.int 0)) eA0)))) eA0)))) [17] S).bnd frz) (gNm 8)) (sSeq (sAsg (fun S => (nLc (iSeq (eF (nLc (iR1 (eAc (eC (.int 3)) eA0)) (gNm 17) tYesD (eFz (eCall (callD 3 F__law_round) (eAc (eVar 2) (eAc (eVar 5) (eAc (eVar 3) eA0))))) [17]))) (gNm 18) (eB (e2 (eqE true) (eVar 18) (eF (nNew .lst eA0)))) (eVar 18) [18] S).bnd frz) (gNm 9)) (sSeq (sAsg (fun S => (nLc (iSeq (eVar 9)) (gNm 18) tYesD (eFz (eCall (callD 3 F_walk_sum) (eAc (eVar 6) (eAc (eVar 7) (eAc (eVar 18) eA0))))) [18] S).bnd frz) (gNm 10)) (sSeq (sAsg (eFz (eCall (callD 3 F_switched) (eAc (eVar 6) (eAc (eVar 7) (eAc (eFz (eCall (callD 2 F_potential_of) (eAc (eVar 6) (eAc (eVar 8) eA0)))) eA0))))) (gNm 11)) (sSeq (sAsg (eF (n2 addN (eF (n2 addN (eF (nSl (eVar 8) (oSo (eC (.int 1))) oNo)) (eF (nLc (iSeq (eF (nSl (eVar 8) oNo (oSo (eC (.int 1)))))) (gTp 2 (gCn (gNm 15) (gCn (gNm 16) gNl))) tYesD (eF (nNew .tup (eAc (eVar 15) (eAc (e2 subE (eVar 16) (eC (.int 7))) eA0)))) [15, 16])))) (eF (nLc (iSeq (eF (nSl (eVar 8) oNo (oSo (eC (.int 1)))))) (gTp 2 (gCn (gNm 15) (gCn (gNm 16) gNl))) tYesD (eF (nNew .tup (eAc (eVar 15) (eAc (eC (.int 7)) eA0)))) [15, 16])))) (gNm 12)) (sFor (iSeq (eF (nNew .lst (eAc (eFz (eCall (callD 2 F__law_mixed) (eAc (eVar 2) (eAc (eVar 8) eA0)))) (eAc (eFz (eCall (callD 2 F__law_mixed) (eAc (eVar 2) (eAc (eVar 12) eA0)))) eA0))))) (gNm 13) (sSeq (sAsg (eF (nCall (op1 listN) (eAc (eVar 7) eA0))) (gNm 14)) (sSeq (sFor (iSeq (eVar 13)) (gTp 2 (gCn (gNm 15) (gCn (gNm 16) gNl))) (sSeq (sAsg (eFz (eCall (callD 4 F_switch) (eAc (eVar 6) (eAc (eVar 14) (eAc (eVar 15) (eAc (eVar 16) eA0)))))) (gNm 14)) (sIf (eB (e2 (eqE true) (eF (nLc (iSeq (eVar 9)) (gNm 18) tYesD (eFz (eCall (callD 3 F_walk_sum) (eAc (eVar 6) (eAc (eVar 14) (eAc (eVar 18) eA0))))) [18])) (eVar 10))) (sRet (eC (.bl false))) sNext))) (sIf (eB (e2 (eqE true) (eVar 14) (eVar 11))) (sRet (eC (.bl false))) sNext))))))))))))))) (sRet (eC (.bl true)))
noncomputable def F_law : List D → Ev D := runF 19 g_law
end Lw

set_option Elab.async false
set_option linter.all false
set_option maxRecDepth 100000
set_option maxHeartbeats 4000000
/-! TA: evaluation by hand, for links_of. -/
namespace DL
open PySem L2
theorem run_rt {N : Nat} {g : Lo → Ev Fl} {l : List D} {M M' : Store} {d : D} (h : g (startD N l) M = .ok (.rt d) M') : runF N g l M = .ok d M' := by
  simp only [runF, Ev.bnd, Ev.nox, h, Out.bnd, Ev.ret]
theorem run_nx {N : Nat} {g : Lo → Ev Fl} {l : List D} {M M' : Store} {S : Lo} (h : g (startD N l) M = .ok (.nx S) M') : runF N g l M = .ok .non M' := by
  simp only [runF, Ev.bnd, Ev.nox, h, Out.bnd, Ev.ret]
theorem seq_nx {f g : Lo → Ev Fl} {S S1 : Lo} {M M1 : Store} (h : f S M = .ok (.nx S1) M1) : sSeq f g S M = g S1 M1 := by
  simp only [sSeq, Ev.bnd, h, Out.bnd]
theorem seq_rt {f g : Lo → Ev Fl} {S : Lo} {M M1 : Store} {d : D} (h : f S M = .ok (.rt d) M1) : sSeq f g S M = .ok (.rt d) M1 := by
  simp only [sSeq, Ev.bnd, h, Out.bnd, Ev.ret]
theorem asg_nm {f : Lo → Ev D} {i : Nat} {S : Lo} {M M1 : Store} {d : D} (h : f S M = .ok d M1) : sAsg f (gNm i) S M = .ok (.nx (S.set i (some d))) M1 := by
  simp only [sAsg, Ev.fl, h, gNm, Ev.bnd, Ev.ret, Out.bnd]
theorem exp_ok {f : Lo → Ev D} {S : Lo} {M M1 : Store} {d : D} (h : f S M = .ok d M1) : sExp f S M = .ok (.nx S) M1 := by
  simp only [sExp, Ev.fl, h, Ev.ret]
theorem ret_ok {f : Lo → Ev D} {S : Lo} {M M1 : Store} {d : D} (h : f S M = .ok d M1) : sRet f S M = .ok (.rt d) M1 := by
  simp only [sRet, Ev.fl, h, Ev.ret]
theorem if_ok {c : Lo → Ev Bool} {f g : Lo → Ev Fl} {S : Lo} {M M1 : Store} {b : Bool} (h : c S M = .ok b M1) : sIf c f g S M = if b = true then f S M1 else g S M1 := by
  simp only [sIf, Ev.flB, h]
  cases b <;> rfl
theorem bnd_ok {α β : Type} {m : Ev α} {k : α → Ev β} {M M1 : Store} {a : α} (h : m M = .ok a M1) : (m.bnd k) M = k a M1 := by
  simp only [Ev.bnd, h, Out.bnd]
/-- a walk: what holds of the part walked -/
theorem for_inv {α : Type} {enc : α → D} {tg : D → Lo → Ev Lo} {body : Lo → Ev Fl} {g : Gd} (J : List α → Lo → Store → Prop) (xs : List α) {S : Lo} {M : Store} (h0 : J [] S M) (hg : ∀ pre S M, J pre S M → grd g M)
    (step : ∀ pre x post S M, xs = pre ++ x :: post → J pre S M → ∃ S1 M1 S2 M2, tg (enc x) S M = .ok S1 M1 ∧ body S1 M1 = .ok (.nx S2) M2 ∧ J (pre ++ [x]) S2 M2) :
    ∃ S' M', forL tg body g (xs.map enc) S M = .ok (.nx S') M' ∧ J xs S' M' := by
  have gen : ∀ (post pre : List α) (S : Lo) (M : Store), xs = pre ++ post → J pre S M → ∃ S' M', forL tg body g (post.map enc) S M = .ok (.nx S') M' ∧ J xs S' M' := by
    intro post
    induction post with
    | nil =>
      intro pre S M e j
      rw [List.append_nil] at e
      subst e
      exact ⟨S, M, by rw [List.map_nil, forL, chk_ok (hg _ _ _ j)]; rfl, j⟩
    | cons x post ih =>
      intro pre S M e j
      obtain ⟨S1, M1, S2, M2, h1, h2, j2⟩ := step pre x post S M e j
      obtain ⟨S', M', h3, j3⟩ := ih (pre ++ [x]) S2 M2 (by rw [e]; simp) j2
      refine ⟨S', M', ?_, j3⟩
      rw [List.map_cons, forL, chk_ok (hg _ _ _ j), bnd_ok h1, bnd_ok h2]
      exact h3
  exact gen xs [] S M rfl h0
/-- a walk that folds -/
theorem for_fold {α β : Type} {enc : α → D} {tg : D → Lo → Ev Lo} {body : Lo → Ev Fl} {g : Gd} (J : β → Lo → Store → Prop) (st : β → α → β) (xs : List α) {b : β} {S : Lo} {M : Store} (h0 : J b S M) (hg : ∀ b S M, J b S M → grd g M)
    (step : ∀ b x S M, x ∈ xs → J b S M → ∃ S1 M1 S2 M2, tg (enc x) S M = .ok S1 M1 ∧ body S1 M1 = .ok (.nx S2) M2 ∧ J (st b x) S2 M2) :
    ∃ S' M', forL tg body g (xs.map enc) S M = .ok (.nx S') M' ∧ J (xs.foldl st b) S' M' := by
  have := for_inv (enc := enc) (tg := tg) (body := body) (g := g) (fun pre S M => J (pre.foldl st b) S M) xs h0 (fun pre S M j => hg _ S M j) (fun pre x post S M e j => by
    obtain ⟨S1, M1, S2, M2, h1, h2, j2⟩ := step _ x S M (by rw [e]; simp) j
    exact ⟨S1, M1, S2, M2, h1, h2, by rw [List.foldl_append]; exact j2⟩)
  exact this
theorem sfor_ok {fi : Lo → Ev (List D × Gd)} {tg : D → Lo → Ev Lo} {body : Lo → Ev Fl} {S : Lo} {M M1 : Store} {r : List D × Gd} (h : fi S M = .ok r M1) : sFor fi tg body S M = forL tg body r.2 r.1 S M1 := by
  simp only [sFor, Ev.flG, h]
/-- a list built by walking, in general -/
theorem comp_inv {α : Type} {enc : α → D} {tg : D → Lo → Ev Lo} {tt : Lo → Ev Bool} {te : Lo → Ev D} {g : Gd} {S : Lo} (J : List α → List D → Store → Prop) (xs : List α) {M : Store} (h0 : J [] [] M) (hg : ∀ pre o M, J pre o M → grd g M)
    (step : ∀ pre x post o M, xs = pre ++ x :: post → J pre o M → ∃ S1 M1 b M2, tg (enc x) S M = .ok S1 M1 ∧ tt S1 M1 = .ok b M2 ∧ (b = true → ∃ y M3, te S1 M2 = .ok y M3 ∧ J (pre ++ [x]) (o ++ [y]) M3) ∧ (b = false → J (pre ++ [x]) o M2)) :
    ∃ ys M', compL tg tt te g S (xs.map enc) M = .ok ys M' ∧ J xs ys M' := by
  have gen : ∀ (post pre : List α) (o : List D) (M : Store), xs = pre ++ post → J pre o M → ∃ ys M', compL tg tt te g S (post.map enc) M = .ok ys M' ∧ J xs (o ++ ys) M' := by
    intro post
    induction post with
    | nil =>
      intro pre o M e j
      rw [List.append_nil] at e
      subst e
      exact ⟨[], M, by rw [List.map_nil, compL, chk_ok (hg _ _ _ j)]; rfl, by rw [List.append_nil]; exact j⟩
    | cons x post ih =>
      intro pre o M e j
      obtain ⟨S1, M1, b, M2, h1, h2, h3, h4⟩ := step pre x post o M e j
      cases b with
      | true =>
        obtain ⟨y, M3, h5, j3⟩ := h3 rfl
        obtain ⟨ys, M', h6, j4⟩ := ih (pre ++ [x]) (o ++ [y]) M3 (by rw [e]; simp) j3
        refine ⟨y :: ys, M', ?_, by rw [List.append_assoc] at j4; exact j4⟩
        rw [List.map_cons, compL, chk_ok (hg _ _ _ j), bnd_ok (nox_ok h1), bnd_ok (nox_ok h2), if_pos rfl, bnd_ok (nox_ok h5), bnd_ok h6]
        rfl
      | false =>
        obtain ⟨ys, M', h6, j4⟩ := ih (pre ++ [x]) o M2 (by rw [e]; simp) (h4 rfl)
        refine ⟨ys, M', ?_, j4⟩
        rw [List.map_cons, compL, chk_ok (hg _ _ _ j), bnd_ok (nox_ok h1), bnd_ok (nox_ok h2), if_neg (by decide)]
        exact h6
  obtain ⟨ys, M', h, j⟩ := gen xs [] [] M rfl h0
  exact ⟨ys, M', h, j⟩
/-- a list built by walking that changes nothing -/
theorem comp_map {α : Type} {enc : α → D} {tg : D → Lo → Ev Lo} {tt : Lo → Ev Bool} {te : Lo → Ev D} {g : Gd} {S : Lo} {M : Store} (p : α → Bool) (f : α → D) (hg : grd g M) : ∀ (xs : List α),
    (∀ x ∈ xs, ∃ S1, tg (enc x) S M = .ok S1 M ∧ tt S1 M = .ok (p x) M ∧ (p x = true → te S1 M = .ok (f x) M)) → compL tg tt te g S (xs.map enc) M = .ok ((xs.filter p).map f) M
  | [], _ => by rw [List.map_nil, compL, chk_ok hg]; rfl
  | x :: xs, h => by
    obtain ⟨S1, h1, h2, h3⟩ := h x (by simp)
    have ih := comp_map p f hg xs (fun y hy => h y (by simp [hy]))
    rw [List.map_cons, compL, chk_ok hg, bnd_ok (nox_ok h1), bnd_ok (nox_ok h2)]
    cases q : p x with
    | true => rw [if_pos rfl, bnd_ok (nox_ok (h3 q)), bnd_ok ih]; simp [q, Ev.ret]
    | false => rw [if_neg (by decide), ih]; simp [q]
theorem lc_ok {fi : Lo → Ev (List D × Gd)} {tg : D → Lo → Ev Lo} {tt : Lo → Ev Bool} {te : Lo → Ev D} {vs : List Nat} {S : Lo} {M M1 M2 : Store} {r : List D × Gd} {ys : List D} (h : fi S M = .ok r M1) (hl : r.1.length ≤ sizeLine) (h2 : compL tg tt te r.2 (wipeD S vs) r.1 M1 = .ok ys M2) : nLc fi tg tt te vs S M = .ok (.n .lst ys) M2 := by
  simp only [nLc]
  rw [bnd_ok h, if_pos hl, bnd_ok h2]
  rfl
theorem sl_le {n : Nat} (h : n ≤ 1000) : n ≤ sizeLine := Nat.le_trans h (by decide)
theorem lt_sl {n : Nat} (h : n < 1000) : n < sizeLine := Nat.lt_of_lt_of_le h (by decide)
def newK (t : Tg) (l : List D) : Ev NR := if l.length ≤ sizeLine then Ev.ret (.n t l) else Ev.no
theorem nNew_eq (t : Tg) (f : Lo → Ev (List D)) (S : Lo) : nNew t f S = (f S).bnd (newK t) := rfl
theorem newK_ok (t : Tg) (l : List D) (h : l.length ≤ 1000) : newK t l = Ev.ret (.n t l) := if_pos (sl_le h)
theorem new0 (t : Tg) : newK t [] = Ev.ret (.n t []) := newK_ok t _ (by simp)
theorem new1 (t : Tg) (a : D) : newK t [a] = Ev.ret (.n t [a]) := newK_ok t _ (by simp)
theorem new2 (t : Tg) (a b : D) : newK t [a, b] = Ev.ret (.n t [a, b]) := newK_ok t _ (by simp)
theorem new3 (t : Tg) (a b c : D) : newK t [a, b, c] = Ev.ret (.n t [a, b, c]) := newK_ok t _ (by simp)
theorem new4 (t : Tg) (a b c d : D) : newK t [a, b, c, d] = Ev.ret (.n t [a, b, c, d]) := newK_ok t _ (by simp)
theorem new8 (t : Tg) (a b c d e f g h : D) : newK t [a, b, c, d, e, f, g, h] = Ev.ret (.n t [a, b, c, d, e, f, g, h]) := newK_ok t _ (by simp)
theorem add_int (i j : Int) : addN (.int i) (.int j) = Ev.ret (.v (.int (i + j))) := rfl
theorem at_nat {α : Type} (xs : List α) (k : Nat) : atI xs (k : Int) = xs[k]? := by
  unfold atI ixN
  rw [if_pos (by omega)]
  by_cases h : k < xs.length
  · rw [if_pos (by omega)]; simp
  · rw [if_neg (by omega)]; simp; omega
theorem ix_nd {t : Tg} {l : List D} {k : Nat} {M : Store} {d : D} (ht : FC.isSeq t = true) (h : l[k]? = some d) : ixE (.nd t l) (.int (k : Int)) M = .ok d M := by
  simp only [ixE, sq, vw, Ev.bnd, Ev.ret, Out.bnd, ht, if_pos, at_nat, h, optE]
theorem ix_ref {n : Nat} {t : Tg} {l : List D} {k : Nat} {M : Store} {d : D} (hm : M[n]? = some (t, l)) (ht : FC.isSeq t = true) (h : l[k]? = some d) : ixE (.ref n) (.int (k : Int)) M = .ok d M := by
  simp only [ixE, sq, vw, Ev.bnd, Ev.ret, Out.bnd, ht, if_pos, at_nat, h, optE, hm]
theorem mul_i {i j : Int} (h : CMul i j) : mulE (.int i) (.int j) = Ev.ret (.int (i * j)) := if_pos h
theorem mod_i {i j : Int} (h : 0 < j) : modE (.int i) (.int j) = Ev.ret (.int (i % j)) := if_pos h
theorem div_i {i j : Int} (h : CDivW i j) : divE (.int i) (.int j) = Ev.ret (.int (i / j)) := if_pos h
theorem a0_ok {S : Lo} {M : Store} : eA0 S M = .ok [] M := rfl
theorem e2_ret {op : D → D → Ev D} {fa fb : Lo → Ev D} {S : Lo} {M M1 M2 : Store} {x y z : D} (ha : fa S M = .ok x M1) (hb : fb S M1 = .ok y M2) (ho : op x y = Ev.ret z) : e2 op fa fb S M = .ok z M2 := by
  unfold e2
  rw [bnd_ok ha, bnd_ok hb, ho]
  rfl
theorem add_ret {fa fb : Lo → Ev D} {S : Lo} {M M1 M2 : Store} {x y : Int} (ha : fa S M = .ok (.int x) M1) (hb : fb S M1 = .ok (.int y) M2) : eF (n2 addN fa fb) S M = .ok (.int (x + y)) M2 := by
  have h : n2 addN fa fb S M = .ok (.v (.int (x + y))) M2 := by
    unfold n2
    rw [bnd_ok ha, bnd_ok hb, add_int]
    rfl
  unfold eF
  rw [bnd_ok h]
  rfl
theorem c_ok (d : D) (S : Lo) (M : Store) : eC d S M = .ok d M := rfl
theorem v_ok {i : Nat} {S : Lo} {M : Store} {d : D} (h : S[i]? = some (some d)) : eVar i S M = .ok d M := by
  unfold eVar
  rw [h]
  rfl

theorem ac_ok {f : Lo → Ev D} {g : Lo → Ev (List D)} {S : Lo} {M M1 M2 : Store} {x : D} {l : List D} (h : f S M = .ok x M1) (h2 : g S M1 = .ok l M2) : eAc f g S M = .ok (x :: l) M2 := by
  simp only [eAc, Ev.bnd, h, h2, Out.bnd, Ev.ret]
theorem call_ok {F : List D → Ev D} {n : Nat} {f : Lo → Ev (List D)} {S : Lo} {M M1 : Store} {l : List D} (h : f S M = .ok l M1) (hn : l.length = n) : eCall (callD n F) f S M = F l M1 := by
  simp only [eCall, Ev.bnd, h, Out.bnd, callD, hn, if_pos]
theorem fcall_same {F : List D → Ev D} {n : Nat} {f : Lo → Ev (List D)} {S : Lo} {M : Store} {l : List D} {d : D} (h : f S M = .ok l M) (hn : l.length = n) (h2 : F l M = .ok d M) (hd : rlt M.length d = true) :
    eFz (eCall (callD n F) f) S M = .ok d M := fzE_same (by rw [call_ok h hn]; exact h2) hd
theorem fcall_app {F : List D → Ev D} {n : Nat} {f : Lo → Ev (List D)} {S : Lo} {M N : Store} {l : List D} {d d' : D} (h : f S M = .ok l M) (hn : l.length = n) (h2 : F l M = .ok d (M ++ N)) (hz : fz (M ++ N) M.length 9 d = some d') :
    eFz (eCall (callD n F) f) S M = .ok d' M := fzE_app (by rw [call_ok h hn]; exact h2) hz
abbrev eInt (i : Int) : D := .int i
abbrev nI (k : Nat) : D := .int (k : Int)
def encE (e : Nat × Nat) : D := .tup [nI e.1, nI e.2]
theorem rg_nat (n : Nat) : rgD 0 (n : Int) = (List.range n).map nI := by
  unfold rgD
  simp
theorem rgi {n : Nat} (h : n ≤ 4096) : RgI 0 (n : Int) := ⟨by decide, by decide, Int.le_trans (by decide : -(2^62 : Int) ≤ 0) (Int.natCast_nonneg n), Int.lt_of_le_of_lt (Int.ofNat_le.mpr h) (by decide)⟩
theorem ir1_ok {f : Lo → Ev (List D)} {S : Lo} {M M1 : Store} {n : Nat} (h : f S M = .ok [.int (n : Int)] M1) (hn : n ≤ 4096) : iR1 f S M = .ok ((List.range n).map nI, none) M1 := by
  have e : op1 r1K [D.int (n : Int)] = Ev.ret ((List.range n).map nI, none) := by rw [← rg_nat]; exact rngE_ok (rgi hn)
  unfold iR1
  rw [bnd_ok h, e, Ev.ret]
theorem grd_none (M : Store) : grd none M := trivial
theorem append_ok {fo : Lo → Ev D} {fa : Lo → Ev (List D)} {S : Lo} {M M1 M2 : Store} {n : Nat} {l l2 : List D} {d : D} (h : fo S M = .ok (.ref n) M1) (hc : M1[n]? = some (.lst, l)) (ha : fa S M1 = .ok [d] M2) (hc2 : M2[n]? = some (.lst, l2)) (hl : l2.length < 1000) :
    eBm (cellM opAppend) fo fa S M = .ok .non (M2.set n (.lst, l2 ++ [d])) := by
  have : opAppend l2 [d] = some (.non, l2 ++ [d]) := by unfold opAppend; exact if_pos (lt_sl hl)
  simp only [eBm, Ev.bnd, h, Out.bnd, isCellL, hc, ha, cellM, hc2, this]
theorem fl_ok {f : Lo → Ev NR} {S : Lo} {M M1 : Store} {l : List D} (h : f S M = .ok (.n .lst l) M1) : eF f S M = .ok (.lst l) M1 := by
  simp only [eF, Ev.bnd, h, Out.bnd, frz, Ev.ret]
theorem cl_ok {f : Lo → Ev NR} {S : Lo} {M M1 : Store} {l : List D} (h : f S M = .ok (.n .lst l) M1) : eCl f S M = .ok (.ref M1.length) (M1 ++ [(.lst, l)]) := by
  simp only [eCl, Ev.bnd, h, Out.bnd, cel]
theorem tup_ok {f : Lo → Ev (List D)} {S : Lo} {M M1 : Store} {l : List D} (h : f S M = .ok l M1) (hl : l.length ≤ 1000) : eF (nNew .tup f) S M = .ok (.tup l) M1 := by
  simp only [eF, nNew_eq, Ev.bnd, h, Out.bnd, newK_ok _ l hl, frz, Ev.ret]
theorem get_last {M : Store} {c : Tg × List D} : (M ++ [c])[M.length]? = some c := by simp
theorem set_last {M : Store} {c c' : Tg × List D} : (M ++ [c]).set M.length c' = M ++ [c'] := by simp
theorem isi_ok {x : D} {t T : String} {b : Bool} (h : tyN x = Ev.ret t) (hb : isiB t T = some b) : isiE x (.ty T) = Ev.ret (.bl b) := by
  unfold isiE
  rw [h]
  funext M
  simp only [Ev.bnd, Ev.ret, Out.bnd, hb, optE]
theorem py_int (M : Store) (k : Nat) (i : Int) : py M (k + 1) (.int i) = some (.int i) := by simp [py]
theorem eq_int (neg : Bool) (i j : Int) : eqE neg (.int i) (.int j) = Ev.ret (.bl (neg ^^ decide (i = j))) := by
  funext M
  unfold eqE
  rw [py_int, py_int]
  have : PyData.eqv (.int i) (.int j) = decide (i = j) := by rw [PyData.eqv]; rfl
  simp only [this, Ev.ret]
theorem eq_nat (neg : Bool) (i j : Nat) : eqE neg (nI i) (nI j) = Ev.ret (.bl (neg ^^ decide (i = j))) := by
  rw [eq_int]
  have : decide ((i : Int) = j) = decide (i = j) := by rw [decide_eq_decide]; omega
  rw [this]
theorem call_okr {F : List D → Ev D} {n : Nat} {f : Lo → Ev (List D)} {S : Lo} {M M1 M2 : Store} {l : List D} {d : D} (h : f S M = .ok l M1) (hF : F l M1 = .ok d M2) (hn : l.length = n) : eCall (callD n F) f S M = .ok d M2 := by
  rw [call_ok h hn, hF]
theorem op1_ok {op : D → Ev D} {f : Lo → Ev (List D)} {S : Lo} {M M1 : Store} {x z : D} (h : f S M = .ok [x] M1) (ho : op x = Ev.ret z) : eCall (op1 op) f S M = .ok z M1 := by
  simp only [eCall, Ev.bnd, h, Out.bnd, op1, ho, Ev.ret]
theorem op2_ok {op : D → D → Ev D} {f : Lo → Ev (List D)} {S : Lo} {M M1 : Store} {x y z : D} (h : f S M = .ok [x, y] M1) (ho : op x y = Ev.ret z) : eCall (op2 op) f S M = .ok z M1 := by
  simp only [eCall, Ev.bnd, h, Out.bnd, op2, ho, Ev.ret]
theorem andV_t {f g : Lo → Ev D} {S : Lo} {M M1 : Store} (h : f S M = .ok (.bl true) M1) : eAndV f g S M = g S M1 := by
  unfold eAndV
  rw [bnd_ok h]
  rfl
theorem notV_ok {f : Lo → Ev D} {S : Lo} {M M1 : Store} {b : Bool} (h : f S M = .ok (.bl b) M1) : eNotV f S M = .ok (.bl (!b)) M1 := by
  unfold eNotV
  rw [bnd_ok h]
  rfl
theorem tru_ok {f : Lo → Ev D} {S : Lo} {M M1 : Store} {b : Bool} (h : f S M = .ok (.bl b) M1) : eTru f S M = .ok b M1 := by
  unfold eTru
  rw [bnd_ok h]
  rfl
theorem not_ok {f : Lo → Ev Bool} {S : Lo} {M M1 : Store} {b : Bool} (h : f S M = .ok b M1) : eNot f S M = .ok (!b) M1 := by
  unfold eNot
  rw [bnd_ok h]
  rfl
theorem b_ok {f : Lo → Ev D} {S : Lo} {M M1 : Store} {b : Bool} (h : f S M = .ok (.bl b) M1) : eB f S M = .ok b M1 := by
  unfold eB
  rw [bnd_ok h]
  rfl
theorem or_f {f g : Lo → Ev Bool} {S : Lo} {M M1 : Store} (h : f S M = .ok false M1) : eOr f g S M = g S M1 := by
  unfold eOr
  rw [bnd_ok h]
  rfl
theorem if_f {c : Lo → Ev Bool} {f g : Lo → Ev Fl} {S : Lo} {M M1 : Store} (h : c S M = .ok false M1) : sIf c f g S M = g S M1 := by rw [if_ok h]; rfl
theorem if_t {c : Lo → Ev Bool} {f g : Lo → Ev Fl} {S : Lo} {M M1 : Store} (h : c S M = .ok true M1) : sIf c f g S M = f S M1 := by rw [if_ok h]; rfl
theorem lt_int (i j : Int) : ltE (.int i) (.int j) = Ev.ret (.bl (decide (i < j))) := rfl
theorem gt_int (i j : Int) : gtE (.int i) (.int j) = Ev.ret (.bl (decide (j < i))) := rfl
theorem le_int (i j : Int) : leE (.int i) (.int j) = Ev.ret (.bl (decide (i ≤ j))) := rfl
theorem sub_int (i j : Int) : subE (.int i) (.int j) = Ev.ret (.int (i - j)) := rfl
theorem len_nd {t : Tg} {l : List D} (ht : FC.isSeq t = true) : lenE (.nd t l) = Ev.ret (.int l.length) := by
  funext M
  simp only [lenE, sq, vw, Ev.bnd, Ev.ret, Out.bnd, ht, if_pos]
theorem ix_ret {t : Tg} {l : List D} {k : Nat} {d : D} (ht : FC.isSeq t = true) (h : l[k]? = some d) : ixE (.nd t l) (nI k) = Ev.ret d := by
  funext M
  exact ix_nd ht h
theorem chain_ok {fa fb fc : Lo → Ev D} {S : Lo} {M : Store} {i j k : Int} (ha : fa S M = .ok (.int i) M) (hb : fb S M = .ok (.int j) M) (hc : fc S M = .ok (.int k) M) (h1 : i ≤ j) (h2 : j ≤ k) : eChain leE leE fa fb fc S M = .ok (.bl true) M := by
  unfold eChain
  rw [bnd_ok ha, bnd_ok hb]
  have e1 : leE (.int i) (.int j) = Ev.ret (.bl true) := by rw [le_int, decide_eq_true h1]
  have e2 : leE (.int j) (.int k) = Ev.ret (.bl true) := by rw [le_int, decide_eq_true h2]
  rw [e1]
  show ((fc S).bnd fun w => leE (.int j) w) M = _
  rw [bnd_ok hc, e2]
  rfl
theorem iseq_nd {f : Lo → Ev D} {S : Lo} {M M1 : Store} {t : Tg} {l : List D} (h : f S M = .ok (.nd t l) M1) (ht : FC.isSeq t = true) : iSeq f S M = .ok (l, none) M1 := by
  unfold iSeq
  rw [bnd_ok h]
  simp only [itSq, vw, Ev.bnd, Ev.ret, Out.bnd, ht, if_pos]
theorem enD_map (es : List (Nat × Nat)) : ∀ k, enD k (es.map encE) = (es.zipIdx k).map fun x => D.tup [nI x.2, encE x.1] := by
  induction es with
  | nil => intro k; rfl
  | cons e es ih => intro k; simp only [List.map_cons, enD, List.zipIdx_cons, ih]
theorem gtp2 {ga gb : D → Lo → Ev Lo} {S S1 S2 : Lo} {M : Store} {x y : D} (h1 : ga x S M = .ok S1 M) (h2 : gb y S1 M = .ok S2 M) : gTp 2 (gCn ga (gCn gb gNl)) (.tup [x, y]) S M = .ok S2 M := by
  simp only [gTp, vw, Ev.bnd, Ev.ret, Out.bnd, gCn, h1, h2, gNl, List.length_cons, List.length_nil, if_pos]
theorem gtp3 {ga gb gc : D → Lo → Ev Lo} {S S1 S2 S3 : Lo} {M : Store} {x y z : D} (h1 : ga x S M = .ok S1 M) (h2 : gb y S1 M = .ok S2 M) (h3 : gc z S2 M = .ok S3 M) : gTp 3 (gCn ga (gCn gb (gCn gc gNl))) (.tup [x, y, z]) S M = .ok S3 M := by
  simp only [gTp, vw, Ev.bnd, Ev.ret, Out.bnd, gCn, h1, h2, h3, gNl, List.length_cons, List.length_nil, if_pos]
theorem g_nm (i : Nat) (d : D) (S : Lo) (M : Store) : gNm i d S M = .ok (S.set i (some d)) M := rfl
theorem asg_g {f : Lo → Ev D} {g : D → Lo → Ev Lo} {S S1 : Lo} {M M1 M2 : Store} {d : D} (h : f S M = .ok d M1) (hg : g d S M1 = .ok S1 M2) : sAsg f g S M = .ok (.nx S1) M2 := by
  simp only [sAsg, Ev.fl, h, Ev.bnd, hg, Ev.ret, Out.bnd]
theorem eif_ok {c : Lo → Ev Bool} {f g : Lo → Ev D} {S : Lo} {M M1 : Store} {b : Bool} (h : c S M = .ok b M1) : eIf c f g S M = if b = true then f S M1 else g S M1 := by
  unfold eIf
  rw [bnd_ok h]
  cases b <;> rfl
theorem ien_nd {f : Lo → Ev (List D)} {S : Lo} {M M1 : Store} {l : List D} (h : f S M = .ok [.lst l] M1) : iEn f S M = .ok (enD 0 l, none) M1 := by
  unfold iEn
  rw [bnd_ok h]
  simp only [op1, vw, Ev.bnd, Ev.ret, Out.bnd]
theorem lr_ok {f : Lo → Ev D} {S : Lo} {M M1 : Store} {n : Nat} (h : f S M = .ok (nI n) M1) (hn : n ≤ 4096) : lrN (r1E f) S M = .ok (.n .lst ((List.range n).map nI)) M1 := by
  have h1 : r1E f S M = .ok (0, (n : Int)) M1 := by
    unfold r1E
    rw [bnd_ok h]
    rfl
  unfold lrN
  rw [bnd_ok h1, rgN_ok (RgOk.of_le (Int.le_refl 0) (by show (n : Int) ≤ _; omega) (by show (0 : Int) ≤ _; decide) (by show (0 : Int) ≤ n; omega))]
  show Out.ok (NR.n .lst (rgD 0 (n : Int))) M1 = _
  rw [rg_nat]
theorem new_ok {t : Tg} {f : Lo → Ev (List D)} {S : Lo} {M M1 : Store} {l : List D} (h : f S M = .ok l M1) (hl : l.length ≤ 1000) : nNew t f S M = .ok (.n t l) M1 := by
  rw [nNew_eq, bnd_ok h, newK_ok _ _ hl]
  rfl
theorem fz_ref {M : Store} {n k m : Nat} {t : Tg} {l l' : List D} (hm : n ≤ m) (h : M[m]? = some (t, l)) (hl : fzs M n k l = some l') : fz M n (k + 1) (.ref m) = some (.nd t l') := by
  rw [fz]
  simp only [h, hl, Option.map_some]
  rw [if_neg (by omega)]
theorem fz_nd {M : Store} {n k : Nat} {t : Tg} {l l' : List D} (hl : fzs M n k l = some l') : fz M n k (.nd t l) = some (.nd t l') := by
  rw [fz, hl]
  rfl
theorem fzs_map {α : Type} {M : Store} {n k : Nat} (f g : α → D) : ∀ (xs : List α), (∀ x ∈ xs, fz M n k (f x) = some (g x)) → fzs M n k (xs.map f) = some (xs.map g)
  | [], _ => by rw [List.map_nil, List.map_nil, fzs]
  | x :: xs, h => by
    have a := h x (by simp)
    have b := fzs_map f g xs (fun y hy => h y (by simp [hy]))
    rw [List.map_cons, List.map_cons, fzs, a, b]
theorem get_app {M X : Store} {k : Nat} : (M ++ X)[M.length + k]? = X[k]? := by
  rw [List.getElem?_append_right (by omega)]
  congr 1
  omega
theorem set_app' {M X : Store} {k : Nat} {c : Tg × List D} : (M ++ X).set (M.length + k) c = M ++ X.set k c := by
  rw [List.set_append, if_neg (by omega)]
  congr 2
  omega
end DL
namespace Lw
open PySem L2 DL
def encK (x : Nat × Int × Nat) : D := .tup [nI x.1, .int x.2.1, nI x.2.2]
abbrev Rows := List (List (Nat × Int × Nat))
def rowD (r : List (Nat × Int × Nat)) : D := .lst (r.map encK)
def rowC (r : List (Nat × Int × Nat)) : Tg × List D := (.lst, r.map encK)
def lput (L : Rows) (k : Nat) (x : Nat × Int × Nat) : Rows := L.set k (L.getD k [] ++ [x])
def lstep (es : List (Nat × Nat)) (L : Rows) (i : Nat) : Rows := lput (lput L (es.getD i (0, 0)).1 (i, 1, (es.getD i (0, 0)).2)) (es.getD i (0, 0)).2 (i, -1, (es.getD i (0, 0)).1)
def linksA (n : Nat) (es : List (Nat × Nat)) (fs : List Nat) : Rows := fs.foldl (lstep es) (List.replicate n [])
theorem lput_len (L : Rows) (k : Nat) (x : Nat × Int × Nat) : (lput L k x).length = L.length := by simp [lput]
theorem lput_row {L : Rows} {k b : Nat} {x : Nat × Int × Nat} (h : ∀ r ∈ L, r.length ≤ b) : ∀ r ∈ lput L k x, r.length ≤ b + 1 := by
  intro r hr
  unfold lput at hr
  rcases List.mem_or_eq_of_mem_set hr with z | z
  · have := h r z; omega
  · subst z
    rw [List.length_append, List.length_singleton]
    have : (L.getD k []).length ≤ b := by
      rw [List.getD_eq_getElem?_getD]
      cases q : L[k]? with
      | none => simp
      | some r' => simpa using h r' (List.mem_of_getElem? q)
    omega
theorem linksA_ok (n : Nat) (es : List (Nat × Nat)) (fs : List Nat) : (linksA n es fs).length = n ∧ ∀ r ∈ linksA n es fs, r.length ≤ 2 * fs.length := by
  have gen : ∀ (fs : List Nat) (L : Rows) (b : Nat), (∀ r ∈ L, r.length ≤ b) → (fs.foldl (lstep es) L).length = L.length ∧ ∀ r ∈ fs.foldl (lstep es) L, r.length ≤ b + 2 * fs.length := by
    intro fs
    induction fs with
    | nil => intro L b h; exact ⟨rfl, by simpa using h⟩
    | cons i fs ih =>
      intro L b h
      obtain ⟨a, c⟩ := ih (lstep es L i) (b + 1 + 1) (lput_row (lput_row h))
      refine ⟨by rw [List.foldl_cons, a]; unfold lstep; rw [lput_len, lput_len], fun r hr => ?_⟩
      have := c r (by rw [List.foldl_cons] at hr; exact hr)
      rw [List.length_cons]
      omega
  have := gen fs (List.replicate n []) 0 (fun r hr => by rw [(List.mem_replicate.mp hr).2]; exact Nat.le_refl _)
  refine ⟨by rw [linksA, this.1]; simp, fun r hr => by have := this.2 r hr; omega⟩
theorem linksA_snoc (n : Nat) (es : List (Nat × Nat)) (fs : List Nat) (i : Nat) : linksA n es (fs ++ [i]) = lstep es (linksA n es fs) i := by
  unfold linksA
  rw [List.foldl_append]
  rfl
/-- one row longer -/
theorem put_ok {M : Store} {L : Rows} {k : Nat} {fo : Lo → Ev D} {fa : Lo → Ev (List D)} {S : Lo} {x : Nat × Int × Nat} (hk : k < L.length) (h1 : fo S (M ++ L.map rowC) = .ok (.ref (M.length + k)) (M ++ L.map rowC)) (h2 : fa S (M ++ L.map rowC) = .ok [encK x] (M ++ L.map rowC)) (hl : ∀ r ∈ L, r.length < 1000) :
    eBm (cellM opAppend) fo fa S (M ++ L.map rowC) = .ok .non (M ++ (lput L k x).map rowC) := by
  have g : (M ++ L.map rowC)[M.length + k]? = some (.lst, (L.getD k []).map encK) := by
    rw [get_app, List.getElem?_map, List.getElem?_eq_getElem hk, List.getD_eq_getElem?_getD, List.getElem?_eq_getElem hk]
    rfl
  have a := append_ok h1 g h2 g (by
    rw [List.length_map]
    have : (L.getD k []) ∈ L := by
      rw [List.getD_eq_getElem?_getD, List.getElem?_eq_getElem hk]
      exact List.getElem_mem hk
    exact hl _ this)
  rw [a, set_app']
  unfold lput
  rw [List.map_set]
  unfold rowC
  rw [List.map_append]
  rfl
def refsD (b n : Nat) : D := .lst ((List.range n).map fun i => .ref (b + i))
theorem links_body {n : Nat} {es : List (Nat × Nat)} {fl : D} {L : Rows} {i : Nat} {M : Store} {o5 o6 : Option D} (hL : L.length = n) (hi : i < es.length) (h : ∀ e ∈ es, e.1 < n ∧ e.2 < n) (hr : ∀ r ∈ L, r.length < 900) (S : Lo) (hS : S = [some (nI n), some (.lst (es.map encE)), some fl, some (refsD M.length n), some (nI i), o5, o6, none]) :
    sSeq (sAsg (e2 ixE (eVar 1) (eVar 4)) (gTp 2 (gCn (gNm 5) (gCn (gNm 6) gNl)))) (sSeq (sExp (eBm (cellM opAppend) (e2 ixE (eVar 3) (eVar 5)) (eAc (eF (nNew .tup (eAc (eVar 4) (eAc (eC (.int 1)) (eAc (eVar 6) eA0))))) eA0))) (sExp (eBm (cellM opAppend) (e2 ixE (eVar 3) (eVar 6)) (eAc (eF (nNew .tup (eAc (eVar 4) (eAc (e1 negE (eC (.int 1))) (eAc (eVar 5) eA0))))) eA0)))) S (M ++ L.map rowC) =
      .ok (.nx [some (nI n), some (.lst (es.map encE)), some fl, some (refsD M.length n), some (nI i), some (nI (es.getD i (0, 0)).1), some (nI (es.getD i (0, 0)).2), none]) (M ++ (lstep es L i).map rowC) := by
  subst hS
  have he : es[i]? = some (es.getD i (0, 0)) := by
    rw [List.getD_eq_getElem?_getD, List.getElem?_eq_getElem hi]
    rfl
  obtain ⟨h1, h2⟩ := h _ (List.mem_of_getElem? he)
  unfold lstep
  generalize es.getD i (0, 0) = e at he h1 h2 ⊢
  have ge : (es.map encE)[i]? = some (encE e) := by rw [List.getElem?_map, he]; rfl
  refine Eq.trans (seq_nx (asg_g (e2_ret (v_ok rfl) (v_ok rfl) (ix_ret rfl ge)) (gtp2 (g_nm _ _ _ _) (g_nm _ _ _ _)))) ?_
  have rf : ∀ k, k < n → ((List.range n).map fun i => D.ref (M.length + i))[k]? = some (.ref (M.length + k)) := fun k hk => by
    rw [List.getElem?_map, List.getElem?_range hk]
    rfl
  refine Eq.trans (seq_nx (exp_ok (put_ok (k := e.1) (x := (i, 1, e.2)) (by omega) (e2_ret (v_ok rfl) (v_ok rfl) (ix_ret rfl (rf _ h1))) (ac_ok (tup_ok (ac_ok (v_ok rfl) (ac_ok (c_ok _ _ _) (ac_ok (v_ok rfl) a0_ok))) (by simp)) a0_ok) (fun r z => by have := hr r z; omega)))) ?_
  have ng : e1 negE (eC (.int 1)) [some (nI n), some (.lst (es.map encE)), some fl, some (refsD M.length n), some (nI i), some (nI e.1), some (nI e.2), none] (M ++ (lput L e.1 (i, 1, e.2)).map rowC) = .ok (.int (-1)) (M ++ (lput L e.1 (i, 1, e.2)).map rowC) := rfl
  exact exp_ok (put_ok (k := e.2) (x := (i, -1, e.1)) (by rw [lput_len]; omega) (e2_ret (v_ok rfl) (v_ok rfl) (ix_ret rfl (rf _ h2))) (ac_ok (tup_ok (ac_ok (v_ok rfl) (ac_ok ng (ac_ok (v_ok rfl) a0_ok))) (by simp)) a0_ok) (fun r z => by have := lput_row (b := 900) (fun r z => by have := hr r z; omega) r z; omega))
theorem links_made {n : Nat} {es : List (Nat × Nat)} {fs : List Nat} (M : Store) (hn : n ≤ 900) (hf : fs.length ≤ 400) (hi : ∀ i ∈ fs, i < es.length) (h : ∀ e ∈ es, e.1 < n ∧ e.2 < n) : F_links_of [nI n, .lst (es.map encE), .lst (fs.map nI)] M = .ok (refsD M.length n) (M ++ (linksA n es fs).map rowC) := by
  have cm := comp_inv (enc := nI) (tg := gNm 7) (tt := tYesD) (te := eCl (nNew .lst eA0)) (g := none) (S := [some (nI n), some (.lst (es.map encE)), some (.lst (fs.map nI)), none, none, none, none, none])
    (fun pre o M' => M' = M ++ (List.replicate pre.length []).map rowC ∧ o = (List.range pre.length).map fun i => .ref (M.length + i)) (List.range n) (M := M) ⟨by simp, rfl⟩ (fun _ _ _ _ => grd_none _) (fun pre x post o M' e j => by
      obtain ⟨rfl, rfl⟩ := j
      refine ⟨_, _, _, _, g_nm _ _ _ _, rfl, fun _ => ⟨_, _, cl_ok (new_ok a0_ok (by simp)), ?_, ?_⟩, fun z => by cases z⟩
      · rw [List.append_assoc, List.length_append, List.length_singleton, List.replicate_succ', List.map_append]
        rfl
      · have e1 : (pre ++ [x]).length = pre.length + 1 := by simp
        rw [e1, List.range_succ, List.map_append, List.length_append, List.length_map, List.length_replicate]
        rfl)
  obtain ⟨ys, M', hc, rfl, rfl⟩ := cm
  rw [List.length_range] at hc
  have lp := for_inv (enc := nI) (g := none) (tg := gNm 4) (body := sSeq (sAsg (e2 ixE (eVar 1) (eVar 4)) (gTp 2 (gCn (gNm 5) (gCn (gNm 6) gNl)))) (sSeq (sExp (eBm (cellM opAppend) (e2 ixE (eVar 3) (eVar 5)) (eAc (eF (nNew .tup (eAc (eVar 4) (eAc (eC (.int 1)) (eAc (eVar 6) eA0))))) eA0))) (sExp (eBm (cellM opAppend) (e2 ixE (eVar 3) (eVar 6)) (eAc (eF (nNew .tup (eAc (eVar 4) (eAc (e1 negE (eC (.int 1))) (eAc (eVar 5) eA0))))) eA0)))))
    (fun pre S M' => ∃ o4 o5 o6, S = [some (nI n), some (.lst (es.map encE)), some (.lst (fs.map nI)), some (refsD M.length n), o4, o5, o6, none] ∧ M' = M ++ (linksA n es pre).map rowC) fs (S := [some (nI n), some (.lst (es.map encE)), some (.lst (fs.map nI)), some (refsD M.length n), none, none, none, none]) (M := M ++ (List.replicate n []).map rowC) ⟨none, none, none, rfl, rfl⟩ (fun _ _ _ _ => grd_none _) (fun pre x post S M' e j => by
      obtain ⟨o4, o5, o6, rfl, rfl⟩ := j
      have hx : x ∈ fs := by rw [e]; simp
      have hp : pre.length ≤ fs.length := by rw [e]; simp
      have lk := linksA_ok n es pre
      have b := links_body (fl := .lst (fs.map nI)) (o5 := o5) (o6 := o6) (M := M) lk.1 (hi x hx) h (fun r z => by have := lk.2 r z; omega) _ rfl
      refine ⟨_, _, _, _, g_nm _ _ _ _, b, some (nI x), some (nI (es.getD x (0, 0)).1), some (nI (es.getD x (0, 0)).2), rfl, ?_⟩
      rw [linksA_snoc])
  obtain ⟨S', M', hl, o4, o5, o6, rfl, rfl⟩ := lp
  refine run_rt ?_
  show g_links_of [some (nI n), some (.lst (es.map encE)), some (.lst (fs.map nI)), none, none, none, none, none] M = _
  unfold g_links_of
  have lc := lc_ok (vs := [7]) (ir1_ok (f := eAc (eVar 0) eA0) (S := [some (nI n), some (.lst (es.map encE)), some (.lst (fs.map nI)), none, none, none, none, none]) (M := M) (ac_ok (v_ok rfl) a0_ok) (by omega)) (sl_le (by rw [List.length_map, List.length_range]; omega)) hc
  refine Eq.trans (seq_nx (asg_nm (M1 := M ++ (List.replicate n []).map rowC) (d := refsD M.length n) (by rw [bnd_ok lc]; rfl))) ?_
  refine Eq.trans (seq_nx (Eq.trans (sfor_ok (iseq_nd (v_ok rfl) rfl)) hl)) ?_
  exact ret_ok (v_ok rfl)
theorem links_fz {n : Nat} {L : Rows} (M : Store) (hL : L.length = n) : fz (M ++ L.map rowC) M.length 9 (refsD M.length n) = some (.lst (L.map rowD)) := by
  have e : L.map rowD = (List.range n).map fun i => rowD (L.getD i []) := by
    apply List.ext_getElem?
    intro i
    rw [List.getElem?_map, List.getElem?_map]
    by_cases q : i < n
    · rw [List.getElem?_range q, Option.map_some, List.getD_eq_getElem?_getD, List.getElem?_eq_getElem (by omega)]
      rfl
    · rw [List.getElem?_eq_none (by omega), List.getElem?_eq_none (by rw [List.length_range]; omega)]
      rfl
  rw [e]
  refine fz_nd (fzs_map _ _ _ fun i hi => ?_)
  have hi : i < L.length := by rw [List.mem_range] at hi; omega
  refine fz_ref (by omega) (t := .lst) (l := (L.getD i []).map encK) ?_ (fzs_map _ _ _ fun x _ => fz_id _ _ _ _ ?_)
  · rw [get_app, List.getElem?_map, List.getD_eq_getElem?_getD, List.getElem?_eq_getElem hi]
    rfl
  · simp [encK, rlt, rlts]
end Lw

set_option Elab.async false
set_option linter.all false
set_option maxRecDepth 100000
set_option maxHeartbeats 4000000
/-! TT0: the pool. -/
namespace Lw
open PySem L2 DL TL
theorem take_ok {M : Store} {p : Nat} {s : Int} (hp : PoolAt M p) (hs : 0 < s) (hs2 : s < 2 ^ 128) : ∃ r c, F__law_take [.ref p, .int s] M = .ok (.int r) (M.set p (.lst, c)) ∧ Pl c ∧ 0 ≤ r ∧ r < s := by
  have hl : p < M.length := hp.lt
  obtain ⟨c, hc, a, b, rfl, hb0, hb1⟩ := hp
  have hdv := div_i (i := a) (j := s) ⟨hs, by
    have : s.natAbs < 2 ^ 128 := by omega
    rcases Nat.eq_zero_or_pos s.natAbs with z | z
    · rw [z]; decide
    · exact Nat.lt_trans ((Nat.log2_lt (by omega)).mpr this) (by decide)⟩
  have i0 : ∀ x y : D, atI [x, y] (0 : Int) = some x := fun _ _ => rfl
  have i1 : ∀ x y : D, atI [x, y] (1 : Int) = some y := fun _ _ => rfl
  by_cases h0 : 0 < a
  · refine ⟨a % s, [.int (a / s), .int b], ?_, ⟨a / s, b, rfl, hb0, hb1⟩, Int.emod_nonneg _ (by omega), Int.emod_lt_of_pos _ hs⟩
    refine run_rt ?_
    show g__law_take [some (.ref p), some (.int s), none] M = _
    have n0 : ixN 2 0 = some 0 := rfl
    unfold g__law_take
    simp only [sSeq, sAsg, sExp, sRet, sRetN, sIf, sNext, e1, e2, eVar, eC, eA0, eAc, asB, eB, eAnd, eOr, eNot, eAndV, eOrV, eNotV, eIf, eF, eCl, n2, nNew_eq, new0, new1, new2, new3, new4, new8, frz, cel, eCall, nCall, op1, op2, callD, iop, subE, mod_i, ltE, leE, gtE, geE, negE, eChain, minE, maxE, Ev.bnd, Out.bnd, Ev.ret, Ev.no, Ev.fl, Ev.flB, Ev.flG, Ev.nox, gNm, gTp, gCn, gNl, gSet, eBm, tYesD, oNo, oSo, asI, sFor, iR1, iSeq, iEn, itSq, lenE, sq, vw, FC.isSeq, add_int, List.set_cons_zero, List.set_cons_succ, List.getElem?_cons_zero, List.getElem?_cons_succ, List.length_cons, List.length_nil, Option.map_some, ite_true, ite_false, if_true, if_false, reduceIte, reduceCtorEq, decide_true, decide_false, Bool.false_eq_true, Nat.reduceAdd, Nat.reduceLeDiff, ixE, optE, hc, i0, h0, hs, hdv, setE, n0]
  · refine ⟨((b * 48271 + 11) % 2147483647 * ((b * 48271 + 11) % 2147483647)) % 2147483629 / 64 % s, [.int a, .int ((b * 48271 + 11) % 2147483647)], ?_, ⟨a, _, rfl, Int.emod_nonneg _ (by decide), Int.lt_of_lt_of_le (Int.emod_lt_of_pos _ (by decide)) (by decide)⟩, Int.emod_nonneg _ (by omega), Int.emod_lt_of_pos _ hs⟩
    refine run_rt ?_
    show g__law_take [some (.ref p), some (.int s), none] M = _
    have n1 : ixN 2 1 = some 1 := rfl
    have c1 : mulE (.int b) (.int 48271) = _ := mul_i (.inr (by decide))
    have u : 0 ≤ (b * 48271 + 11) % 2147483647 ∧ (b * 48271 + 11) % 2147483647 < 2147483647 := ⟨Int.emod_nonneg _ (by decide), Int.emod_lt_of_pos _ (by decide)⟩
    have c2 := mul_i (i := (b * 48271 + 11) % 2147483647) (j := (b * 48271 + 11) % 2147483647) (.inl (by omega))
    have c3 : ∀ z : Int, divE (.int z) (.int 64) = Ev.ret (.int (z / 64)) := fun z => div_i ⟨by decide, by decide⟩
    have g1 : (M.set p (Tg.lst, [D.int a, D.int ((b * 48271 + 11) % 2147483647)]))[p]? = some (Tg.lst, [D.int a, D.int ((b * 48271 + 11) % 2147483647)]) := List.getElem?_set_self hl
    unfold g__law_take
    simp only [sSeq, sAsg, sExp, sRet, sRetN, sIf, sNext, e1, e2, eVar, eC, eA0, eAc, asB, eB, eAnd, eOr, eNot, eAndV, eOrV, eNotV, eIf, eF, eCl, n2, nNew_eq, new0, new1, new2, new3, new4, new8, frz, cel, eCall, nCall, op1, op2, callD, iop, subE, mod_i, ltE, leE, gtE, geE, negE, eChain, minE, maxE, Ev.bnd, Out.bnd, Ev.ret, Ev.no, Ev.fl, Ev.flB, Ev.flG, Ev.nox, gNm, gTp, gCn, gNl, gSet, eBm, tYesD, oNo, oSo, asI, sFor, iR1, iSeq, iEn, itSq, lenE, sq, vw, FC.isSeq, add_int, List.set_cons_zero, List.set_cons_succ, List.getElem?_cons_zero, List.getElem?_cons_succ, List.length_cons, List.length_nil, Option.map_some, ite_true, ite_false, if_true, if_false, reduceIte, reduceCtorEq, decide_true, decide_false, Bool.false_eq_true, Nat.reduceAdd, Nat.reduceLeDiff, ixE, optE, hc, i0, i1, h0, hs, setE, n1, c1, c2, c3, g1, Int.reduceLT]
def takeW (s : Int) : W Int := fun Q _ => 0 < s ∧ s < 2 ^ 128 ∧ ∀ r : Int, 0 ≤ r → r < s → Q r
theorem t__law_take (c : Nat) (s : Int) : Ret false [c] (F__law_take (.ref c :: [Enc.enc s])) (takeW s) := fun M hp Q X w => by
  obtain ⟨h1, h2, h3⟩ : 0 < s ∧ s < 2 ^ 128 ∧ ∀ r : Int, 0 ≤ r → r < s → Q r := by rw [wpW] at w; exact w
  have hpc := hp c (by simp)
  obtain ⟨r, k, e, pl, r0, r1⟩ := take_ok hpc h1 h2
  refine Sim.ok e ⟨r, h3 r r0 r1, ⟨by simp, fun i hi hn => ?_, fun n hn => ?_⟩, fz_id _ _ _ _ rfl, fun h => by cases h⟩
  · rw [List.getElem?_set_ne (by simp at hn; exact fun z => hn z.symm)]
  · simp at hn; subst hn
    exact ⟨k, List.getElem?_set_self hpc.lt, pl⟩
theorem pool_cell {M : Store} {ns : List Int} {k : Nat} : ∃ cell : Int, sIf (eB (e2 ltE (eVar 1) (eCall (op1 lenE) (eAc (eVar 0) eA0)))) (sAsg (e2 ixE (eVar 0) (eVar 1)) (gNm 2)) sNext [some (scr ns), some (.int k), some (.int 0), none] M = .ok (.nx [some (scr ns), some (.int k), some (.int cell), none]) M := by
  by_cases hk : (k : Int) < ns.length
  · have hk' : k < ns.length := by omega
    have hg : (ns.map D.int)[k]? = some (.int ns[k]) := by
      simp [List.getElem?_eq_getElem hk']
    exact ⟨ns[k], by simp only [sSeq, sAsg, sExp, sRet, sRetN, sIf, sNext, e1, e2, eVar, eC, eA0, eAc, asB, eB, eAnd, eOr, eNot, eAndV, eOrV, eNotV, eIf, eF, eCl, n2, nNew_eq, new0, new1, new2, new3, new4, new8, frz, cel, eCall, nCall, op1, op2, callD, iop, subE, mod_i, ltE, leE, gtE, geE, negE, eChain, minE, maxE, Ev.bnd, Out.bnd, Ev.ret, Ev.no, Ev.fl, Ev.flB, Ev.flG, Ev.nox, gNm, gTp, gCn, gNl, gSet, eBm, tYesD, oNo, oSo, asI, sFor, iR1, iSeq, iEn, itSq, lenE, sq, vw, FC.isSeq, add_int, List.set_cons_zero, List.set_cons_succ, List.getElem?_cons_zero, List.getElem?_cons_succ, List.length_cons, List.length_nil, Option.map_some, ite_true, ite_false, if_true, if_false, reduceIte, reduceCtorEq, decide_true, decide_false, Bool.false_eq_true, Nat.reduceAdd, Nat.reduceLeDiff, List.length_map, hk, ixE, at_nat, hg, optE]⟩
  · exact ⟨0, by simp only [sSeq, sAsg, sExp, sRet, sRetN, sIf, sNext, e1, e2, eVar, eC, eA0, eAc, asB, eB, eAnd, eOr, eNot, eAndV, eOrV, eNotV, eIf, eF, eCl, n2, nNew_eq, new0, new1, new2, new3, new4, new8, frz, cel, eCall, nCall, op1, op2, callD, iop, subE, mod_i, ltE, leE, gtE, geE, negE, eChain, minE, maxE, Ev.bnd, Out.bnd, Ev.ret, Ev.no, Ev.fl, Ev.flB, Ev.flG, Ev.nox, gNm, gTp, gCn, gNl, gSet, eBm, tYesD, oNo, oSo, asI, sFor, iR1, iSeq, iEn, itSq, lenE, sq, vw, FC.isSeq, add_int, List.set_cons_zero, List.set_cons_succ, List.getElem?_cons_zero, List.getElem?_cons_succ, List.length_cons, List.length_nil, Option.map_some, ite_true, ite_false, if_true, if_false, reduceIte, reduceCtorEq, decide_true, decide_false, Bool.false_eq_true, Nat.reduceAdd, Nat.reduceLeDiff, List.length_map, hk]⟩
theorem pool_cut {M : Store} {a b : D} {cell seed : Int} : ∃ cell2 : Int, sIf (eB (e2 ltE (eVar 2) (e2 powE (eC (.int 10)) (eC (.int 18))))) (sAsg (eC (.int 0)) (gNm 2)) sNext [some a, some b, some (.int cell), some (.int seed)] M = .ok (.nx [some a, some b, some (.int cell2), some (.int seed)]) M := by
  have c5 : powE (.int 10) (.int 18) = Ev.ret (.int (10 ^ (18 : Int).toNat)) := by unfold powE iop; exact if_pos ⟨by decide, by decide, by decide⟩
  generalize (10 : Int) ^ (18 : Int).toNat = z at c5
  by_cases q : cell < z
  · exact ⟨0, by simp only [sSeq, sAsg, sExp, sRet, sRetN, sIf, sNext, e1, e2, eVar, eC, eA0, eAc, asB, eB, eAnd, eOr, eNot, eAndV, eOrV, eNotV, eIf, eF, eCl, n2, nNew_eq, new0, new1, new2, new3, new4, new8, frz, cel, eCall, nCall, op1, op2, callD, iop, subE, mod_i, ltE, leE, gtE, geE, negE, eChain, minE, maxE, Ev.bnd, Out.bnd, Ev.ret, Ev.no, Ev.fl, Ev.flB, Ev.flG, Ev.nox, gNm, gTp, gCn, gNl, gSet, eBm, tYesD, oNo, oSo, asI, sFor, iR1, iSeq, iEn, itSq, lenE, sq, vw, FC.isSeq, add_int, List.set_cons_zero, List.set_cons_succ, List.getElem?_cons_zero, List.getElem?_cons_succ, List.length_cons, List.length_nil, Option.map_some, ite_true, ite_false, if_true, if_false, reduceIte, reduceCtorEq, decide_true, decide_false, Bool.false_eq_true, Nat.reduceAdd, Nat.reduceLeDiff, c5, q]⟩
  · exact ⟨cell, by simp only [sSeq, sAsg, sExp, sRet, sRetN, sIf, sNext, e1, e2, eVar, eC, eA0, eAc, asB, eB, eAnd, eOr, eNot, eAndV, eOrV, eNotV, eIf, eF, eCl, n2, nNew_eq, new0, new1, new2, new3, new4, new8, frz, cel, eCall, nCall, op1, op2, callD, iop, subE, mod_i, ltE, leE, gtE, geE, negE, eChain, minE, maxE, Ev.bnd, Out.bnd, Ev.ret, Ev.no, Ev.fl, Ev.flB, Ev.flG, Ev.nox, gNm, gTp, gCn, gNl, gSet, eBm, tYesD, oNo, oSo, asI, sFor, iR1, iSeq, iEn, itSq, lenE, sq, vw, FC.isSeq, add_int, List.set_cons_zero, List.set_cons_succ, List.getElem?_cons_zero, List.getElem?_cons_succ, List.length_cons, List.length_nil, Option.map_some, ite_true, ite_false, if_true, if_false, reduceIte, reduceCtorEq, decide_true, decide_false, Bool.false_eq_true, Nat.reduceAdd, Nat.reduceLeDiff, c5, q]⟩
theorem pool_seed {M : Store} {ns : List Int} {k : Nat} {cell : Int} (hk : k < 100) : ∃ seed : Int, 0 ≤ seed ∧ seed < 2147483647 ∧ sAsg (e2 modE (e2 mulE (eF (n2 addN (eF (n2 addN (e2 modE (eVar 2) (eC (.int 2147483629))) (e2 mulE (e2 mulE (eC (.int 7919)) (eVar 1)) (eVar 1)))) (eC (.int 13)))) (eC (.int 48271))) (eC (.int 2147483647))) (gNm 3) [some (scr ns), some (.int k), some (.int cell), none] M = .ok (.nx [some (scr ns), some (.int k), some (.int cell), some (.int seed)]) M := by
  have c1 := mul_i (i := 7919) (j := k) (.inl (by decide))
  have c2 := mul_i (i := 7919 * (k : Int)) (j := k) (.inr (by omega))
  have c3 : ∀ z : Int, mulE (.int z) (.int 48271) = Ev.ret (.int (z * 48271)) := fun z => mul_i (.inr (by decide))
  refine ⟨((cell % 2147483629 + 7919 * (k : Int) * k + 13) * 48271) % 2147483647, Int.emod_nonneg _ (by decide), Int.emod_lt_of_pos _ (by decide), ?_⟩
  exact asg_nm (i := 3) (e2_ret (e2_ret (add_ret (add_ret (e2_ret (v_ok rfl) (c_ok _ _ _) (mod_i (by decide))) (e2_ret (e2_ret (c_ok _ _ _) (v_ok rfl) c1) (v_ok rfl) c2)) (c_ok _ _ _)) (c_ok _ _ _) (c3 _)) (c_ok _ _ _) (mod_i (by decide)))
theorem pool_ok {M : Store} {ns : List Int} {k : Nat} (hk : k < 100) : ∃ c, F__law_pool [scr ns, .int k] M = .ok (.ref M.length) (M ++ [(.lst, c)]) ∧ Pl c := by
  obtain ⟨cell, h1⟩ := pool_cell (M := M) (ns := ns) (k := k)
  have h2 := pool_seed (M := M) (ns := ns) (cell := cell) hk
  obtain ⟨seed, s0, s1, h2⟩ := h2
  obtain ⟨cell2, h3⟩ := pool_cut (M := M) (a := scr ns) (b := .int k) (cell := cell) (seed := seed)
  have c4 := mul_i (i := seed) (j := seed) (.inl (by omega))
  refine ⟨[.int cell2, .int (seed * seed % 2147483587 + 1)], run_rt ?_, ⟨_, _, rfl, ?_, ?_⟩⟩
  · show g__law_pool [some (scr ns), some (.int k), none, none] M = _
    unfold g__law_pool
    rw [seq_nx (S1 := [some (scr ns), some (.int k), some (.int 0), none]) (M1 := M) (by simp only [sSeq, sAsg, sExp, sRet, sRetN, sIf, sNext, e1, e2, eVar, eC, eA0, eAc, asB, eB, eAnd, eOr, eNot, eAndV, eOrV, eNotV, eIf, eF, eCl, n2, nNew_eq, new0, new1, new2, new3, new4, new8, frz, cel, eCall, nCall, op1, op2, callD, iop, subE, mod_i, ltE, leE, gtE, geE, negE, eChain, minE, maxE, Ev.bnd, Out.bnd, Ev.ret, Ev.no, Ev.fl, Ev.flB, Ev.flG, Ev.nox, gNm, gTp, gCn, gNl, gSet, eBm, tYesD, oNo, oSo, asI, sFor, iR1, iSeq, iEn, itSq, lenE, sq, vw, FC.isSeq, add_int, List.set_cons_zero, List.set_cons_succ, List.getElem?_cons_zero, List.getElem?_cons_succ, List.length_cons, List.length_nil, Option.map_some, ite_true, ite_false, if_true, if_false, reduceIte, reduceCtorEq, decide_true, decide_false, Bool.false_eq_true, Nat.reduceAdd, Nat.reduceLeDiff]), seq_nx h1, seq_nx h2, seq_nx h3]
    simp only [sSeq, sAsg, sExp, sRet, sRetN, sIf, sNext, e1, e2, eVar, eC, eA0, eAc, asB, eB, eAnd, eOr, eNot, eAndV, eOrV, eNotV, eIf, eF, eCl, n2, nNew_eq, new0, new1, new2, new3, new4, new8, frz, cel, eCall, nCall, op1, op2, callD, iop, subE, mod_i, ltE, leE, gtE, geE, negE, eChain, minE, maxE, Ev.bnd, Out.bnd, Ev.ret, Ev.no, Ev.fl, Ev.flB, Ev.flG, Ev.nox, gNm, gTp, gCn, gNl, gSet, eBm, tYesD, oNo, oSo, asI, sFor, iR1, iSeq, iEn, itSq, lenE, sq, vw, FC.isSeq, add_int, List.set_cons_zero, List.set_cons_succ, List.getElem?_cons_zero, List.getElem?_cons_succ, List.length_cons, List.length_nil, Option.map_some, ite_true, ite_false, if_true, if_false, reduceIte, reduceCtorEq, decide_true, decide_false, Bool.false_eq_true, Nat.reduceAdd, Nat.reduceLeDiff, c4, Int.reduceLT]
  · exact Int.add_nonneg (Int.emod_nonneg _ (by decide)) (by decide)
  · exact Int.lt_trans (Int.add_lt_add_right (Int.emod_lt_of_pos _ (by decide)) 1) (by decide)
/-- the script, as a type of its own -/
structure Scr where
  ns : List Int
instance : TL.Enc Scr := ⟨fun x => scr x.ns, fun x n => by
  show rlts n (x.ns.map D.int) = true
  exact TL.nrs (α := Int) n x.ns⟩
theorem t__law_pool (s : Scr) (k : Nat) (hk : k < 100) : PoolRet (F__law_pool (TL.EncL.encL (s, ((k : Int), ())))) := fun M => by
  obtain ⟨c, h, pl⟩ := pool_ok (M := M) (ns := s.ns) hk
  exact ⟨M.length, M ++ [(.lst, c)], h, Nat.le_refl _, ⟨c, by simp, pl⟩, by simp, fun i hi => List.getElem?_append_left hi⟩
theorem t__law_poolG (s : Scr) (k : Int) (h : (decide (0 ≤ k) && decide (k < 100)) = true) : PoolRet (F__law_pool (TL.EncL.encL (s, (k, ())))) := by
  have h := Bool.and_eq_true_iff.mp h
  have h1 := of_decide_eq_true h.1
  have h2 := of_decide_eq_true h.2
  obtain ⟨n, rfl⟩ := Int.eq_ofNat_of_zero_le h1
  exact t__law_pool s n (by omega)
end Lw

set_option Elab.async false
set_option linter.all false
set_option maxRecDepth 100000
set_option maxHeartbeats 1000000
/-! TW: links_of and Web, typed. -/
namespace Lw
open PySem L2 DL TL
open Mo (pur bnd lft)
open Enc (enc)
def cE (e : Nat × Nat) : Int × Int := ((e.1 : Int), (e.2 : Int))
def cN (k : Nat) : Int := k
def cL (x : Nat × Int × Nat) : T3 Int Int Int := ⟨(x.1 : Int), x.2.1, (x.2.2 : Int)⟩
theorem enc_es (es : List (Nat × Nat)) : enc (es.map cE) = .lst (es.map encE) := by
  show D.nd .lst ((es.map cE).map enc) = _
  rw [List.map_map]
  rfl
theorem enc_ns (ks : List Nat) : enc (ks.map cN) = .lst (ks.map nI) := by
  show D.nd .lst ((ks.map cN).map enc) = _
  rw [List.map_map]
  rfl
structure LinkOk (n : Int) (es : List (Int × Int)) (fs : List Int) (x : Nat × List (Nat × Nat) × List Nat) : Prop where
  n : n = cN x.1
  es : es = x.2.1.map cE
  fs : fs = x.2.2.map cN
  h1 : x.1 ≤ 900
  h2 : x.2.2.length ≤ 400
  h3 : ∀ i ∈ x.2.2, i < x.2.1.length
  h4 : ∀ e ∈ x.2.1, e.1 < x.1 ∧ e.2 < x.1
def linksI (x : Nat × List (Nat × Nat) × List Nat) : List (List (T3 Int Int Int)) := (linksA x.1 x.2.1 x.2.2).map (·.map cL)
open Classical in
noncomputable def p_links_of (n : Int) (es : List (Int × Int)) (fs : List Int) : E (List (List (T3 Int Int Int))) := if h : ∃ x, LinkOk n es fs x then .ok (linksI h.choose) else .bad
theorem cE_inj : ∀ {a b : List (Nat × Nat)}, a.map cE = b.map cE → a = b := fun {a b} h => by
  refine (List.map_inj_right (fun x y h => ?_)).mp h
  unfold cE at h
  cases x; cases y
  simp at h
  simp; omega
theorem cN_inj : ∀ {a b : List Nat}, a.map cN = b.map cN → a = b := fun {a b} h => by
  refine (List.map_inj_right (fun x y h => ?_)).mp h
  unfold cN at h
  omega
theorem links_val {n : Nat} {es : List (Nat × Nat)} {fs : List Nat} (h : LinkOk (cN n) (es.map cE) (fs.map cN) (n, es, fs)) : p_links_of (cN n) (es.map cE) (fs.map cN) = .ok (linksI (n, es, fs)) := by
  unfold p_links_of
  have hx : ∃ x, LinkOk (cN n) (es.map cE) (fs.map cN) x := ⟨_, h⟩
  rw [dif_pos hx]
  have c := hx.choose_spec
  generalize hx.choose = x at c
  obtain ⟨k, ds, gs⟩ := x
  have e1 : k = n := by have := c.n; unfold cN at this; dsimp only at this; omega
  have e2 : ds = es := (cE_inj c.es).symm
  have e3 : gs = fs := (cN_inj c.fs).symm
  rw [e1, e2, e3]
theorem t_links_of (n : Int) (es : List (Int × Int)) (fs : List Int) : Ret false [] (F_links_of [enc n, enc es, enc fs]) (p_links_of n es fs) := fun M hp Q X w => by
  rw [wpE] at w
  unfold p_links_of at w
  by_cases hx : ∃ x, LinkOk n es fs x
  · rw [dif_pos hx] at w
    have c := hx.choose_spec
    generalize hx.choose = x at c w
    obtain ⟨k, ds, gs⟩ := x
    obtain ⟨rfl, rfl, rfl, h1, h2, h3, h4⟩ := c
    dsimp only at h1 h2 h3 h4 w ⊢
    have key := links_made (n := k) (es := ds) (fs := gs) M h1 h2 h3 h4
    rw [enc_es, enc_ns]
    refine Sim.ok key ⟨_, w, ⟨by simp, fun i hi _ => List.getElem?_append_left hi, by simp⟩, ?_, fun h => by cases h⟩
    rw [links_fz M (linksA_ok k ds gs).1]
    show some (D.nd .lst _) = some (D.nd .lst (((linksA k ds gs).map (·.map cL)).map enc))
    rw [List.map_map]
    congr 2
    apply List.map_congr_left
    intro r _
    show D.nd .lst _ = D.nd .lst ((r.map cL).map enc)
    rw [List.map_map]
    rfl
  · rw [dif_neg hx] at w; exact w.elim
structure OWeb where
  own_size : Int
  own_edges : List (Int × Int)
  own_modulus : Int
  own_forest : List Int
  links : List (List (T3 Int Int Int))
instance : TL.Enc OWeb := ⟨fun o => .nd (.obj "Web" ["own_size", "own_edges", "own_modulus", "own_forest", "links"]) [enc o.own_size, enc o.own_edges, enc o.own_modulus, enc o.own_forest, enc o.links], fun o n => by
  simp [rlt, rlts, TL.Enc.nr]⟩
end Lw

set_option Elab.async false
set_option linter.all false
set_option maxRecDepth 100000
set_option maxHeartbeats 4000000
namespace Lw
open PySem L2 DL TL
open Mo (pur bnd lft)
open Enc (enc)
open EncL (encL)
noncomputable def p__law_modulus  : W Int := bnd (bnd (pur ([(0 : Int), (0 : Int), (2 : Int), (3 : Int), (4 : Int), (5 : Int), (12 : Int), (60 : Int)] : List Int)) fun xs8 => bnd (bnd (pur ((8 : Int), ())) fun v7 => takeW v7.1) fun i9 => lft (ixL xs8 i9)) fun r10 => pur (id r10)
theorem t__law_modulus (pc : Nat)  : Ret false [pc] (F__law_modulus (.ref pc :: [])) (p__law_modulus ) := by
  refine ret_pool (n := 1) (g := g__law_modulus) (l := []) (by exact Nat.le_of_ble_eq_true rfl) (fun M0 => ?_)
  unfold g__law_modulus p__law_modulus
  exact b_ret kr_t rfl (eo_ix (EP.eo (ep_lst (xs := ([(0 : Int), (0 : Int), (2 : Int), (3 : Int), (4 : Int), (5 : Int), (12 : Int), (60 : Int)] : List Int)) (np_new (n := 8) (ap_cons (ep_c (v := (0 : Int)) rfl) (ap_cons (ep_c (v := (0 : Int)) rfl) (ap_cons (ep_c (v := (2 : Int)) rfl) (ap_cons (ep_c (v := (3 : Int)) rfl) (ap_cons (ep_c (v := (4 : Int)) rfl) (ap_cons (ep_c (v := (5 : Int)) rfl) (ap_cons (ep_c (v := (12 : Int)) rfl) (ap_cons (ep_c (v := (60 : Int)) rfl) ap_nil)))))))) rfl))) (eo_pool (i := 0) rfl (.inr ⟨_, rfl⟩) (AP.ao (ap_cons (ep_c (v := (8 : Int)) rfl) ap_nil)) (fun pc v7 => t__law_take pc v7.1) (fun _ => rfl)))
noncomputable def p__law_links (law_nodes : Int) (law_most : Int) : W (List (Int × Int)) := bnd (pur ([] : List (Int × Int))) fun (law_found28 : (List (Int × Int))) => bnd (bnd (bnd (pur ((law_most + (1 : Int)), ())) fun v29 => takeW v29.1) fun n30 => lft (rgW 0 n30)) fun xs42 => bnd (forM (fun (b31 : (List (Int × Int))) (x32 : Int) => bnd (bnd (bnd (bnd (pur (law_nodes, ())) fun v33 => takeW v33.1) fun x37 => bnd (bnd (bnd (pur (law_nodes, ())) fun v34 => takeW v34.1) fun x35 => bnd (pur ()) fun v36 => pur (x35, v36)) fun v38 => pur (x37, v38)) fun v39 => pur (v39.1, v39.2.1)) fun v40 => bnd (lft (appL b31 v40)) fun law_found41 => pur law_found41) xs42 law_found28) fun (b31 : (List (Int × Int))) => pur (id b31)
theorem t__law_links (pc : Nat) (law_nodes : Int) (law_most : Int) : Ret true [pc] (F__law_links (.ref pc :: [enc law_nodes, enc law_most])) (p__law_links law_nodes law_most) := by
  refine ret_pool (n := 5) (g := g__law_links) (l := [enc law_nodes, enc law_most]) (by exact Nat.le_of_ble_eq_true rfl) (fun M0 => ?_)
  unfold g__law_links p__law_links
  exact b_cell (i := 3) (NP.nl (xs := ([] : List (Int × Int))) (np_new (n := 0) ap_nil rfl)) (fun law_found28 => b_for (b0 := law_found28) (fsL := fun (b31 : (List (Int × Int))) => [.par pc, .v law_nodes, .v law_most, .L b31, .any]) (io_range1 (eo_pool (i := 0) rfl (.inr ⟨_, rfl⟩) (AP.ao (ap_cons (ep_add (ep_var (v := law_most) 2 rfl) (ep_c (v := (1 : Int)) rfl)) ap_nil)) (fun pc v29 => t__law_take pc v29.1) (fun _ => rfl))) (wk_s (wk_s (wk_s (wk_s (wk_a wk_n))))) (fun b31 x32 => tg_nm 4 x32) (fun b31 x32 => b_last (b_app (i := 3) rfl (eo_frz (f := fun v39 => (v39.1, v39.2.1)) (no_new (n := 2) (ao_cons (eo_pool (i := 0) rfl (.inr ⟨_, rfl⟩) (AP.ao (ap_cons (ep_var (v := law_nodes) 1 rfl) ap_nil)) (fun pc v33 => t__law_take pc v33.1) (fun _ => rfl)) (ao_cons (eo_pool (i := 0) rfl (.inr ⟨_, rfl⟩) (AP.ao (ap_cons (ep_var (v := law_nodes) 1 rfl) ap_nil)) (fun pc v34 => t__law_take pc v34.1) (fun _ => rfl)) (AP.ao ap_nil))) (fun _ => rfl)) (fun _ => rfl) (fun _ => .inr rfl)) (fun law_found41 => b_end law_found41 (wk_s (wk_s (wk_s (wk_s (wk_a wk_n)))))))) (fun b31 => b_retC 3 kr_t rfl))
noncomputable def p_is_integer (thing : Int) : E Bool := bnd (pur (true && (!false))) fun r45 => pur (id r45)
theorem t_is_integer (thing : Int) : Ret false [] (F_is_integer [enc thing]) (p_is_integer thing) := by
  refine ret_def (n := 1) (g := g_is_integer) (l := [enc thing]) (by exact Nat.le_of_ble_eq_true rfl) (fun M0 => ?_)
  unfold g_is_integer p_is_integer
  exact b_ret kr_t rfl (EP.eo (ep_and (ep_isi (b := true) (ep_var (v := thing) 0 rfl) (fun _ => rfl) (by decide +kernel)) (ep_not (ep_isi (b := false) (ep_var (v := thing) 0 rfl) (fun _ => rfl) (by decide +kernel)))))
noncomputable def p_is_within (thing : Int) (least : Int) (most : Int) : E Bool := bnd (bnd (lft (p_is_integer thing)) fun z46 => if z46 = true then (pur (decide (least ≤ thing) && decide (thing ≤ most))) else pur false) fun r47 => pur (id r47)
theorem t_is_within (thing : Int) (least : Int) (most : Int) : Ret false [] (F_is_within [enc thing, enc least, enc most]) (p_is_within thing least most) := by
  refine ret_def (n := 3) (g := g_is_within) (l := [enc thing, enc least, enc most]) (by exact Nat.le_of_ble_eq_true rfl) (fun M0 => ?_)
  unfold g_is_within p_is_within
  exact b_ret kr_t rfl (eo_and (eo_callp (ap_cons (ep_var (v := thing) 0 rfl) ap_nil) (t_is_integer thing) rfl) (EP.eo (ep_chain (ep_var (v := least) 1 rfl) (ep_var (v := thing) 0 rfl) (ep_var (v := most) 2 rfl) (o_le _ _) (o_le _ _))))
noncomputable def p_is_edge (thing : (Int × Int)) (size : Int) : E Bool := bnd (pur ((!true) || (true ^^ eqB (2 : Int) (2 : Int)))) fun z => if z = true then (bnd (pur false) fun r51 => pur (id r51)) else (bnd (bnd (lft (p_is_within thing.1 (0 : Int) (size - (1 : Int)))) fun z52 => if z52 = true then (lft (p_is_within thing.2 (0 : Int) (size - (1 : Int)))) else pur false) fun r53 => pur (id r53))
theorem t_is_edge (thing : (Int × Int)) (size : Int) : Ret false [] (F_is_edge [enc thing, enc size]) (p_is_edge thing size) := by
  refine ret_def (n := 2) (g := g_is_edge) (l := [enc thing, enc size]) (by exact Nat.le_of_ble_eq_true rfl) (fun M0 => ?_)
  unfold g_is_edge p_is_edge
  exact b_ifD (TP.to (tp_or (tp_not (tp_tru (ep_isi (b := true) (ep_var (v := thing) 0 rfl) (fun _ => rfl) (by decide +kernel)))) (tp_b (ep_eq (neg := true) (EP.ey (ep_lenD (n := (2 : Int)) (EP.ev (ep_var (v := thing) 0 rfl) rfl) rfl rfl)) (EP.ey (ep_c (v := (2 : Int)) rfl)))))) (b_retS kr_t rfl (EP.eo (ep_c (v := false) rfl))) (b_skip (b_ret kr_t rfl (eo_and (eo_callp (ap_cons (ep_tup (z := thing.1) (EP.ev (ep_var (v := thing) 0 rfl) rfl) rfl) (ap_cons (ep_c (v := (0 : Int)) rfl) (ap_cons (ep_2 (ep_var (v := size) 1 rfl) (ep_c (v := (1 : Int)) rfl) (o_sub _ _)) ap_nil))) (t_is_within thing.1 (0 : Int) (size - (1 : Int))) rfl) (eo_callp (ap_cons (ep_tup (z := thing.2) (EP.ev (ep_var (v := thing) 0 rfl) rfl) rfl) (ap_cons (ep_c (v := (0 : Int)) rfl) (ap_cons (ep_2 (ep_var (v := size) 1 rfl) (ep_c (v := (1 : Int)) rfl) (o_sub _ _)) ap_nil))) (t_is_within thing.2 (0 : Int) (size - (1 : Int))) rfl))))
noncomputable def p_check_edges (size : Int) (edges : (List (Int × Int))) : E Unit := bnd (pur (!true)) fun z => if z = true then (lft .bad) else (bnd (pur edges) fun xs55 => bnd (forM (fun (b49 : Unit) (x50 : (Int × Int)) => bnd (bnd (lft (p_is_edge x50 size)) fun z54 => pur (!z54)) fun z => if z = true then (lft .bad) else (pur ())) xs55 ()) fun (b49 : Unit) => bnd (pur (decide ((60 : Int) < ((edges).length : Int)))) fun z => if z = true then (lft .bad) else (pur ()))
theorem t_check_edges (size : Int) (edges : (List (Int × Int))) : Ret false [] (F_check_edges [enc size, enc edges]) (p_check_edges size edges) := by
  refine ret_def (n := 3) (g := g_check_edges) (l := [enc size, enc edges]) (by exact Nat.le_of_ble_eq_true rfl) (fun M0 => ?_)
  unfold g_check_edges p_check_edges
  exact b_ifD (TP.to (tp_not (tp_tru (ep_isiT (b := true) (Ts := ["list", "tuple"]) (ep_var (v := edges) 1 rfl) (fun _ => rfl) (fun _ _ => rfl) (by decide) (by decide +kernel))))) (b_bad bad_wp) (b_skip (b_for (b0 := ()) (fsL := fun (b49 : Unit) => [.v size, .v edges, .any]) (io_seq (EP.eo (ep_var (v := edges) 1 rfl))) (wk_s (wk_s (wk_a wk_n))) (fun b49 x50 => tg_nm 2 x50) (fun b49 x50 => b_if (to_not (to_tru (eo_callp (ap_cons (ep_var (v := x50) 2 rfl) (ap_cons (ep_var (v := size) 0 rfl) ap_nil)) (t_is_edge x50 size) rfl))) (b_last (b_bad bad_wp)) (b_end () (wk_s (wk_s (wk_a wk_n))))) (fun b49 => b_if (TP.to (tp_b (ep_2 (ep_len (EP.ls (ep_var (v := edges) 1 rfl)) rfl) (ep_c (v := (60 : Int)) rfl) (o_gt _ _)))) (b_last (b_bad bad_wp)) (b_endT rfl))))
noncomputable def p_is_modulus (thing : Int) : E Bool := bnd (bnd (lft (p_is_within thing (0 : Int) (60 : Int))) fun z57 => if z57 = true then (pur (true ^^ eqB thing (1 : Int))) else pur false) fun r58 => pur (id r58)
theorem t_is_modulus (thing : Int) : Ret false [] (F_is_modulus [enc thing]) (p_is_modulus thing) := by
  refine ret_def (n := 1) (g := g_is_modulus) (l := [enc thing]) (by exact Nat.le_of_ble_eq_true rfl) (fun M0 => ?_)
  unfold g_is_modulus p_is_modulus
  exact b_ret kr_t rfl (eo_and (eo_callp (ap_cons (ep_var (v := thing) 0 rfl) (ap_cons (ep_c (v := (0 : Int)) rfl) (ap_cons (ep_c (v := (60 : Int)) rfl) ap_nil))) (t_is_within thing (0 : Int) (60 : Int)) rfl) (EP.eo (ep_eq (neg := true) (EP.ey (ep_var (v := thing) 0 rfl)) (EP.ey (ep_c (v := (1 : Int)) rfl)))))
noncomputable def p_forest_of (size : Int) (pairs : (List (Int × Int))) : E (List Int) := bnd (bnd (pur size) fun n64 => lft (rgL 0 n64)) fun (groups63 : (List Int)) => bnd (pur ([] : List Int)) fun (found65 : (List Int)) => bnd (bnd (pur pairs) fun xs66 => pur (enI 0 xs66)) fun xs79 => bnd (forM (fun (b67 : ((List Int) × (List Int))) (x68 : (Int × (Int × Int))) => bnd (bnd (lft (ixL b67.1 x68.2.1)) fun x69 => bnd (lft (ixL b67.1 x68.2.2)) fun y70 => lft (.ok (true ^^ eqB x69 y70))) fun z => if z = true then (bnd (pur x68.1) fun v71 => bnd (lft (appL b67.2 v71)) fun found72 => bnd (bnd (pur b67.1) fun xs78 => lcM xs78 (fun (x74 : Int) => pur true) (fun (x74 : Int) => bnd (bnd (pur x74) fun x75 => bnd (lft (ixL b67.1 x68.2.2)) fun y76 => lft (.ok (false ^^ eqB x75 y76))) fun z77 => if z77 = true then (lft (ixL b67.1 x68.2.1)) else (pur x74))) fun (groups73 : (List Int)) => pur (groups73, found72)) else (pur (b67.1, b67.2))) xs79 (groups63, found65)) fun (b67 : ((List Int) × (List Int))) => pur (id b67.2)
theorem t_forest_of (size : Int) (pairs : (List (Int × Int))) : Ret true [] (F_forest_of [enc size, enc pairs]) (p_forest_of size pairs) := by
  refine ret_def (n := 8) (g := g_forest_of) (l := [enc size, enc pairs]) (by exact Nat.le_of_ble_eq_true rfl) (fun M0 => ?_)
  unfold g_forest_of p_forest_of
  exact b_asg (i := 2) (eo_lst (nl_range1 (EP.eo (ep_var (v := size) 0 rfl)))) (fun groups63 => b_cell (i := 3) (NP.nl (xs := ([] : List Int)) (np_new (n := 0) ap_nil rfl)) (fun found65 => b_for (b0 := (groups63, found65)) (fsL := fun (b67 : ((List Int) × (List Int))) => [.v size, .v pairs, .v b67.1, .L b67.2, .any, .any, .any, .any]) (io_enum (EP.eo (ep_var (v := pairs) 1 rfl))) (wk_s (wk_s (wk_s (wk_s (wk_a (wk_a (wk_a (wk_a wk_n)))))))) (fun b67 x68 => tg_2 (tg_nm 4 x68.1) (tg_2 (tg_nm 5 x68.2.1) (tg_nm 6 x68.2.2))) (fun b67 x68 => b_if (to_b (eo_2 (eo_ixp (EP.ls (ep_var (v := b67.1) 2 rfl)) (ep_var (v := x68.2.1) 5 rfl) rfl) (eo_ixp (EP.ls (ep_var (v := b67.1) 2 rfl)) (ep_var (v := x68.2.2) 6 rfl) rfl) (E1 fun x y => o_eqE (neg := true) (by decide) x y))) (b_app (i := 3) rfl (EP.eo (ep_var (v := x68.1) 4 rfl)) (fun found72 => b_last (b_asg (i := 2) (eo_lst (nl_lc (io_seq (EP.eo (ep_var (v := b67.1) 2 rfl))) (fun x74 => tg_nm 7 x74) (fun x74 => to_yes) (fun x74 => eo_if (to_b (eo_2 (EP.eo (ep_var (v := x74) 7 rfl)) (eo_ixp (EP.ls (ep_var (v := b67.1) 2 rfl)) (ep_var (v := x68.2.2) 6 rfl) rfl) (E1 fun x y => o_eqE (neg := false) (by decide) x y))) (eo_ixp (EP.ls (ep_var (v := b67.1) 2 rfl)) (ep_var (v := x68.2.1) 5 rfl) rfl) (EP.eo (ep_var (v := x74) 7 rfl))) (fun x74 => ci_v (ci_v (ci_v (ci_s (ci_v (ci_v (ci_v (ci_v ci_n)))))))))) (fun groups73 => b_end (groups73, found72) (wk_s (wk_s (wk_s (wk_s (wk_a (wk_a (wk_a (wk_a wk_n)))))))))))) (b_end (b67.1, b67.2) (wk_s (wk_s (wk_s (wk_s (wk_a (wk_a (wk_a (wk_a wk_n)))))))))) (fun b67 => b_retC 3 kr_t rfl)))
noncomputable def p_Web___init__ (size : Int) (edges : (List (Int × Int))) (modulus : Int) : E OWeb := bnd (bnd (lft (p_is_within size (1 : Int) (30 : Int))) fun z48 => pur (!z48)) fun z => if z = true then (lft .bad) else (bnd (lft (p_check_edges size edges)) fun u56 => bnd (bnd (lft (p_is_modulus modulus)) fun z59 => pur (!z59)) fun z => if z = true then (lft .bad) else (bnd (pur size) fun (own_size60 : Int) => bnd (pur edges) fun (own_edges61 : (List (Int × Int))) => bnd (pur modulus) fun (own_modulus62 : Int) => bnd (lft (p_forest_of size edges)) fun (own_forest80 : (List Int)) => bnd (lft (p_links_of size edges own_forest80)) fun (links81 : (List (List (T3 Int Int Int)))) => pur (OWeb.mk own_size60 own_edges61 own_modulus62 own_forest80 links81)))
theorem t_Web___init__ (size : Int) (edges : (List (Int × Int))) (modulus : Int) : Ini ("Web" : Str) F_Web___init__ [enc size, enc edges, enc modulus] (p_Web___init__ size edges modulus) := by
  refine ini_def (n := 4) (g := g_Web___init__) (by exact Nat.le_of_ble_eq_true rfl) (fun M0 cself => ?_)
  unfold g_Web___init__ p_Web___init__
  exact b_ifD (to_not (to_tru (eo_callp (ap_cons (ep_var (v := size) 1 rfl) (ap_cons (ep_c (v := (1 : Int)) rfl) (ap_cons (ep_c (v := (30 : Int)) rfl) ap_nil))) (t_is_within size (1 : Int) (30 : Int)) rfl))) (b_bad bad_wp) (b_skip (b_exp (eo_callp (ap_cons (ep_var (v := size) 1 rfl) (ap_cons (ep_var (v := edges) 2 rfl) ap_nil)) (t_check_edges size edges) rfl) (fun u56 => b_ifD (to_not (to_tru (eo_callp (ap_cons (ep_var (v := modulus) 3 rfl) ap_nil) (t_is_modulus modulus) rfl))) (b_bad bad_wp) (b_skip (b_fld (i := 0) rfl rfl (EP.eo (ep_var (v := size) 1 rfl)) (fun own_size60 => b_fld (i := 0) rfl rfl (eo_lst (NP.nl (xs := edges) (np_list (EP.ls (ep_var (v := edges) 2 rfl)) rfl))) (fun own_edges61 => b_fld (i := 0) rfl rfl (EP.eo (ep_var (v := modulus) 3 rfl)) (fun own_modulus62 => b_fld (i := 0) rfl rfl (eo_callp (ap_cons (ep_var (v := size) 1 rfl) (ap_cons (ep_var (v := edges) 2 rfl) ap_nil)) (t_forest_of size edges) rfl) (fun own_forest80 => b_last (b_fld (i := 0) rfl rfl (eo_callp (ap_cons (ep_var (v := size) 1 rfl) (ap_cons (ep_var (v := edges) 2 rfl) (ap_cons (ep_fld (v := own_forest80) (ev_pin 0 rfl) rfl) ap_nil))) (t_links_of size edges own_forest80) rfl) (fun links81 => b_endI (o := (OWeb.mk own_size60 own_edges61 own_modulus62 own_forest80 links81)) rfl rfl)))))))))))
noncomputable def p__law_number (law_dial : Int) : W Int := bnd (pur (decide ((0 : Int) < law_dial))) fun z => if z = true then (bnd (bnd (pur (law_dial, ())) fun v85 => takeW v85.1) fun r86 => pur (id r86)) else (bnd (bnd (bnd (bnd (bnd (bnd (pur ((9 : Int), ())) fun v87 => takeW v87.1) fun x88 => bnd (pur (4 : Int)) fun y89 => lft (.ok (x88 - y89))) fun x97 => bnd (bnd (pur (0 : Int)) fun x95 => bnd (bnd (bnd (bnd (pur ((1000000000000000000 : Int), ())) fun v90 => takeW v90.1) fun x91 => bnd (pur ((5 : Int) * (100000000000000000 : Int))) fun y92 => lft (.ok (x91 - y92))) fun x93 => bnd (pur ()) fun v94 => pur (x93, v94)) fun v96 => pur (x95, v96)) fun v98 => pur (x97, v98)) fun v99 => pur ([v99.1, v99.2.1, v99.2.2.1] : List Int)) fun xs101 => bnd (bnd (pur ((3 : Int), ())) fun v100 => takeW v100.1) fun i102 => lft (ixL xs101 i102)) fun r103 => pur (id r103))
theorem t__law_number (pc : Nat) (law_dial : Int) : Ret false [pc] (F__law_number (.ref pc :: [enc law_dial])) (p__law_number law_dial) := by
  refine ret_pool (n := 2) (g := g__law_number) (l := [enc law_dial]) (by exact Nat.le_of_ble_eq_true rfl) (fun M0 => ?_)
  unfold g__law_number p__law_number
  exact b_ifD (TP.to (tp_b (ep_2 (ep_var (v := law_dial) 1 rfl) (ep_c (v := (0 : Int)) rfl) (o_gt _ _)))) (b_retS kr_t rfl (eo_pool (i := 0) rfl (.inr ⟨_, rfl⟩) (AP.ao (ap_cons (ep_var (v := law_dial) 1 rfl) ap_nil)) (fun pc v85 => t__law_take pc v85.1) (fun _ => rfl))) (b_skip (b_ret kr_t rfl (eo_ix (eo_frz (f := fun v99 => ([v99.1, v99.2.1, v99.2.2.1] : List Int)) (no_new (n := 3) (ao_cons (eo_2 (eo_pool (i := 0) rfl (.inr ⟨_, rfl⟩) (AP.ao (ap_cons (ep_c (v := (9 : Int)) rfl) ap_nil)) (fun pc v87 => t__law_take pc v87.1) (fun _ => rfl)) (EP.eo (ep_c (v := (4 : Int)) rfl)) (E1 fun x y => o_sub x y)) (ao_cons (EP.eo (ep_c (v := (0 : Int)) rfl)) (ao_cons (eo_2 (eo_pool (i := 0) rfl (.inr ⟨_, rfl⟩) (AP.ao (ap_cons (ep_2 (ep_c (v := (10 : Int)) rfl) (ep_c (v := (18 : Int)) rfl) (o_pow _ _ (1000000000000000000 : Int) ⟨by decide, by decide, by decide⟩ (by decide +kernel))) ap_nil)) (fun pc v90 => t__law_take pc v90.1) (fun _ => rfl)) (EP.eo (ep_2 (ep_c (v := (5 : Int)) rfl) (ep_2 (ep_c (v := (10 : Int)) rfl) (ep_c (v := (17 : Int)) rfl) (o_pow _ _ (100000000000000000 : Int) ⟨by decide, by decide, by decide⟩ (by decide +kernel))) (o_mulL _ _ (.inl (by decide))))) (E1 fun x y => o_sub x y)) (AP.ao ap_nil)))) (fun _ => rfl)) (fun _ => rfl) (fun _ => .inl rfl)) (eo_pool (i := 0) rfl (.inr ⟨_, rfl⟩) (AP.ao (ap_cons (ep_c (v := (3 : Int)) rfl) ap_nil)) (fun pc v100 => t__law_take pc v100.1) (fun _ => rfl)))))
noncomputable def p__law_numbers (law_dial : Int) (law_count : Int) : W (List Int) := bnd (bnd (bnd (pur law_count) fun n83 => lft (rgW 0 n83)) fun xs105 => lcM xs105 (fun (x84 : Int) => pur true) (fun (x84 : Int) => bnd (pur (law_dial, ())) fun v104 => p__law_number v104.1)) fun r106 => pur (id r106)
theorem t__law_numbers (pc : Nat) (law_dial : Int) (law_count : Int) : Ret false [pc] (F__law_numbers (.ref pc :: [enc law_dial, enc law_count])) (p__law_numbers law_dial law_count) := by
  refine ret_pool (n := 4) (g := g__law_numbers) (l := [enc law_dial, enc law_count]) (by exact Nat.le_of_ble_eq_true rfl) (fun M0 => ?_)
  unfold g__law_numbers p__law_numbers
  exact b_ret kr_t rfl (eo_lst (nl_lc (io_range1 (EP.eo (ep_var (v := law_count) 2 rfl))) (fun x84 => tg_nm 3 x84) (fun x84 => to_yes) (fun x84 => eo_pool (i := 0) rfl (.inr ⟨_, rfl⟩) (AP.ao (ap_cons (ep_var (v := law_dial) 1 rfl) ap_nil)) (fun pc v104 => t__law_number pc v104.1) (fun _ => rfl)) (fun x84 => ci_s (ci_v (ci_v (ci_v ci_n))))))
noncomputable def p__law_round (law_links_here : (List (Int × Int))) (law_nodes : Int) : W (List (Int × Int)) := bnd (bnd (pur (law_nodes, ())) fun v124 => takeW v124.1) fun (law_start123 : Int) => bnd (bnd (pur law_nodes) fun n126 => lft (rgW 0 n126)) fun xs162 => bnd (forM (fun (b127 : (Dc (List (Int × Int)))) (x128 : Int) => bnd (bnd (pur law_links_here) fun xs129 => pur (enI 0 xs129)) fun xs141 => bnd (forM (fun (b130 : (Dc (List (Int × Int)))) (x131 : (Int × (Int × Int))) => bnd (bnd (pur ((false ^^ dhas b130 x131.2.1) && (true ^^ dhas b130 x131.2.2))) fun z => if z = true then (bnd (bnd (lft (dget b130 x131.2.1)) fun xs133 => bnd (pur ([(x131.1, (1 : Int))] : List (Int × Int))) fun ys134 => lft (catL xs133 ys134)) fun v135 => bnd (lft (dput b130 x131.2.2 v135)) fun law_paths136 => pur law_paths136) else (pur b130)) fun (b132 : (Dc (List (Int × Int)))) => bnd (pur ((false ^^ dhas b132 x131.2.2) && (true ^^ dhas b132 x131.2.1))) fun z => if z = true then (bnd (bnd (lft (dget b132 x131.2.2)) fun xs137 => bnd (pur ([(x131.1, (-(1 : Int)))] : List (Int × Int))) fun ys138 => lft (catL xs137 ys138)) fun v139 => bnd (lft (dput b132 x131.2.1 v139)) fun law_paths140 => pur law_paths140) else (pur b132)) xs141 b127) fun (b130 : (Dc (List (Int × Int)))) => pur b130) xs162 (⟨[(law_start123, ([] : List (Int × Int)))]⟩ : Dc (List (Int × Int)))) fun (b127 : (Dc (List (Int × Int)))) => bnd (bnd (bnd (pur ((law_links_here).length : Int)) fun n143 => lft (rgW 0 n143)) fun xs147 => lcM xs147 (fun (x144 : Int) => bnd (bnd (lft (ixL law_links_here x144)) fun x145 => pur x145.1) fun k146 => lft (.ok (false ^^ dhas b127 k146))) (fun (x144 : Int) => pur x144)) fun (law_some142 : (List Int)) => bnd (pur (false ^^ eqB law_some142 ([] : List Int))) fun z => if z = true then (bnd (pur ([] : List (Int × Int))) fun r148 => pur (id r148)) else (bnd (bnd (pur law_some142) fun xs151 => bnd (bnd (pur (((law_some142).length : Int), ())) fun v150 => takeW v150.1) fun i152 => lft (ixL xs151 i152)) fun (law_number_here149 : Int) => bnd (lft (ixL law_links_here law_number_here149)) fun x153 => bnd (bnd (bnd (lft (dget b127 x153.1)) fun xs154 => bnd (pur ([(law_number_here149, (1 : Int))] : List (Int × Int))) fun ys155 => lft (catL xs154 ys155)) fun xs159 => bnd (bnd (bnd (lft (dget b127 x153.2)) fun xs156 => pur xs156.reverse) fun xs158 => lcM xs158 (fun (x157 : (Int × Int)) => pur true) (fun (x157 : (Int × Int)) => pur (x157.1, ((0 : Int) - x157.2)))) fun ys160 => lft (catL xs159 ys160)) fun r161 => pur (id r161))
theorem t__law_round (pc : Nat) (law_links_here : (List (Int × Int))) (law_nodes : Int) : Ret false [pc] (F__law_round (.ref pc :: [enc law_links_here, enc law_nodes])) (p__law_round law_links_here law_nodes) := by
  refine ret_pool (n := 12) (g := g__law_round) (l := [enc law_links_here, enc law_nodes]) (by exact Nat.le_of_ble_eq_true rfl) (fun M0 => ?_)
  unfold g__law_round p__law_round
  exact b_asg (i := 3) (eo_pool (i := 0) rfl (.inr ⟨_, rfl⟩) (AP.ao (ap_cons (ep_var (v := law_nodes) 2 rfl) ap_nil)) (fun pc v124 => t__law_take pc v124.1) (fun _ => rfl)) (fun law_start123 => b_done (i := 4) (ep_var (v := law_start123) 3 rfl) (ep_lst (xs := ([] : List (Int × Int))) (np_new (n := 0) ap_nil rfl)) (b_for (b0 := (⟨[(law_start123, ([] : List (Int × Int)))]⟩ : Dc (List (Int × Int)))) (fsL := fun (b127 : (Dc (List (Int × Int)))) => [.par pc, .v law_links_here, .v law_nodes, .v law_start123, .D b127, .any, .any, .any, .any, .any, .any, .any]) (io_range1 (EP.eo (ep_var (v := law_nodes) 2 rfl))) (wk_s (wk_s (wk_s (wk_s (wk_s (wk_a (wk_a (wk_a (wk_a (wk_a (wk_a (wk_a wk_n)))))))))))) (fun b127 x128 => tg_nm 5 x128) (fun b127 x128 => b_last (b_for (b0 := b127) (fsL := fun (b130 : (Dc (List (Int × Int)))) => [.par pc, .v law_links_here, .v law_nodes, .v law_start123, .D b130, .v x128, .any, .any, .any, .any, .any, .any]) (io_enum (EP.eo (ep_var (v := law_links_here) 1 rfl))) (wk_s (wk_s (wk_s (wk_s (wk_s (wk_s (wk_a (wk_a (wk_a (wk_a (wk_a (wk_a wk_n)))))))))))) (fun b130 x131 => tg_2 (tg_nm 6 x131.1) (tg_2 (tg_nm 7 x131.2.1) (tg_nm 8 x131.2.2))) (fun b130 x131 => b_ifJ (fsJ := fun (b132 : (Dc (List (Int × Int)))) => [.par pc, .v law_links_here, .v law_nodes, .v law_start123, .D b132, .v x128, .v x131.1, .v x131.2.1, .v x131.2.2, .any, .any, .any]) (TP.to (tp_and (tp_b (ep_din (neg := false) (ep_var (v := x131.2.1) 7 rfl) (ev_cell 4 rfl))) (tp_b (ep_din (neg := true) (ep_var (v := x131.2.2) 8 rfl) (ev_cell 4 rfl))))) (b_last (b_dput (i := 4) rfl (ep_var (v := x131.2.2) 8 rfl) (eo_lst (nl_cat (eo_dget (ev_cell 4 rfl) (ep_var (v := x131.2.1) 7 rfl)) (EP.eo (ep_lst (xs := ([(x131.1, (1 : Int))] : List (Int × Int))) (np_new (n := 1) (ap_cons (ep_frt (v := (x131.1, (1 : Int))) (np_new (n := 2) (ap_cons (ep_var (v := x131.1) 6 rfl) (ap_cons (ep_c (v := (1 : Int)) rfl) ap_nil)) rfl) rfl) ap_nil) rfl))))) (fun law_paths136 => b_end law_paths136 (wk_s (wk_s (wk_s (wk_s (wk_s (wk_s (wk_s (wk_s (wk_s (wk_a (wk_a (wk_a wk_n))))))))))))))) (b_end b130 (wk_s (wk_s (wk_s (wk_s (wk_s (wk_s (wk_s (wk_s (wk_s (wk_a (wk_a (wk_a wk_n))))))))))))) (fun b132 => b_if (TP.to (tp_and (tp_b (ep_din (neg := false) (ep_var (v := x131.2.2) 8 rfl) (ev_cell 4 rfl))) (tp_b (ep_din (neg := true) (ep_var (v := x131.2.1) 7 rfl) (ev_cell 4 rfl))))) (b_last (b_dput (i := 4) rfl (ep_var (v := x131.2.1) 7 rfl) (eo_lst (nl_cat (eo_dget (ev_cell 4 rfl) (ep_var (v := x131.2.2) 8 rfl)) (EP.eo (ep_lst (xs := ([(x131.1, (-(1 : Int)))] : List (Int × Int))) (np_new (n := 1) (ap_cons (ep_frt (v := (x131.1, (-(1 : Int)))) (np_new (n := 2) (ap_cons (ep_var (v := x131.1) 6 rfl) (ap_cons (ep_1 (ep_c (v := (1 : Int)) rfl) (o_neg _)) ap_nil)) rfl) rfl) ap_nil) rfl))))) (fun law_paths140 => b_end law_paths140 (wk_s (wk_s (wk_s (wk_s (wk_s (wk_s (wk_a (wk_a (wk_a (wk_a (wk_a (wk_a wk_n))))))))))))))) (b_end b132 (wk_s (wk_s (wk_s (wk_s (wk_s (wk_s (wk_a (wk_a (wk_a (wk_a (wk_a (wk_a wk_n))))))))))))))) (fun b130 => b_end b130 (wk_s (wk_s (wk_s (wk_s (wk_s (wk_a (wk_a (wk_a (wk_a (wk_a (wk_a (wk_a wk_n))))))))))))))) (fun b127 => b_val' (i := 9) (nl_lc (io_range1 (EP.eo (ep_len (EP.ls (ep_var (v := law_links_here) 1 rfl)) rfl))) (fun x144 => tg_nm 6 x144) (fun x144 => to_b (eo_dinM (neg := false) (eo_tupM (f := fun x145 => x145.1) (eo_ixp (EP.ls (ep_var (v := law_links_here) 1 rfl)) (ep_var (v := x144) 6 rfl) rfl) (fun x145 => [enc x145.1, enc x145.2]) (fun _ => rfl) (fun _ => rfl)) (ev_cell 4 rfl))) (fun x144 => EP.eo (ep_var (v := x144) 6 rfl)) (fun x144 => ci_s (ci_v (ci_v (ci_v (ci_s (ci_v (ci_v (ci_v (ci_v (ci_v (ci_v (ci_v ci_n))))))))))))) (fun law_some142 => b_ifD (TP.to (tp_b (ep_eq (neg := false) (EP.ey (ep_var (v := law_some142) 9 rfl)) (EP.ey (ep_lst (xs := ([] : List Int)) (np_new (n := 0) ap_nil rfl)))))) (b_retS kr_t rfl (EP.eo (ep_lst (xs := ([] : List (Int × Int))) (np_new (n := 0) ap_nil rfl)))) (b_skip (b_asg (i := 6) (eo_ix (EP.eo (ep_var (v := law_some142) 9 rfl)) (eo_pool (i := 0) rfl (.inr ⟨_, rfl⟩) (AP.ao (ap_cons (ep_len (EP.ls (ep_var (v := law_some142) 9 rfl)) rfl) ap_nil)) (fun pc v150 => t__law_take pc v150.1) (fun _ => rfl))) (fun law_number_here149 => b_tgt (eo_ixp (EP.ls (ep_var (v := law_links_here) 1 rfl)) (ep_var (v := law_number_here149) 6 rfl) rfl) (fun x153 => tg_2 (tg_nm 7 x153.1) (tg_nm 8 x153.2)) (fun x153 => b_ret kr_t rfl (eo_lst (nl_cat (eo_lst (nl_cat (eo_dget (ev_cell 4 rfl) (ep_var (v := x153.1) 7 rfl)) (EP.eo (ep_lst (xs := ([(law_number_here149, (1 : Int))] : List (Int × Int))) (np_new (n := 1) (ap_cons (ep_frt (v := (law_number_here149, (1 : Int))) (np_new (n := 2) (ap_cons (ep_var (v := law_number_here149) 6 rfl) (ap_cons (ep_c (v := (1 : Int)) rfl) ap_nil)) rfl) rfl) ap_nil) rfl))))) (eo_lst (nl_lc (io_seq (eo_lst (nl_rev (eo_dget (ev_cell 4 rfl) (ep_var (v := x153.2) 8 rfl))))) (fun x157 => tg_2 (tg_nm 10 x157.1) (tg_nm 11 x157.2)) (fun x157 => to_yes) (fun x157 => EP.eo (ep_frt (v := (x157.1, ((0 : Int) - x157.2))) (np_new (n := 2) (ap_cons (ep_var (v := x157.1) 10 rfl) (ap_cons (ep_2 (ep_c (v := (0 : Int)) rfl) (ep_var (v := x157.2) 11 rfl) (o_sub _ _)) ap_nil)) rfl) rfl)) (fun x157 => ci_s (ci_v (ci_v (ci_v (ci_s (ci_v (ci_v (ci_v (ci_v (ci_v (ci_v (ci_v ci_n))))))))))))))))))))))))
noncomputable def p_Web___len__ (self : OWeb) : E Int := bnd (pur ((self.own_edges).length : Int)) fun r169 => pur (id r169)
theorem t_Web___len__ (self : OWeb) : Ret false [] (F_Web___len__ [enc self]) (p_Web___len__ self) := by
  refine ret_def (n := 1) (g := g_Web___len__) (l := [enc self]) (by exact Nat.le_of_ble_eq_true rfl) (fun M0 => ?_)
  unfold g_Web___len__ p_Web___len__
  exact b_ret kr_t rfl (EP.eo (ep_len (EP.ls (ep_fld (v := self.own_edges) (EP.ev (ep_var (v := self) 0 rfl) rfl) rfl)) rfl))
noncomputable def p_Web_modulus (self : OWeb) : E Int := bnd (pur self.own_modulus) fun r178 => pur (id r178)
theorem t_Web_modulus (self : OWeb) : Ret false [] (F_Web_modulus [enc self]) (p_Web_modulus self) := by
  refine ret_def (n := 1) (g := g_Web_modulus) (l := [enc self]) (by exact Nat.le_of_ble_eq_true rfl) (fun M0 => ?_)
  unfold g_Web_modulus p_Web_modulus
  exact b_ret kr_t rfl (EP.eo (ep_fld (v := self.own_modulus) (EP.ev (ep_var (v := self) 0 rfl) rfl) rfl))
noncomputable def p_is_residue (web : OWeb) (thing : Int) : E Bool := bnd (bnd (bnd (pur ()) fun v179 => lft (p_Web_modulus web )) fun x180 => bnd (pur (0 : Int)) fun y181 => lft (.ok (false ^^ eqB x180 y181))) fun z => if z = true then (bnd (lft (p_is_integer thing)) fun r182 => pur (id r182)) else (bnd (bnd (bnd (pur thing) fun x190 => bnd (bnd (pur (0 : Int)) fun x188 => bnd (bnd (bnd (bnd (pur ()) fun v183 => lft (p_Web_modulus web )) fun x184 => bnd (pur (1 : Int)) fun y185 => lft (.ok (x184 - y185))) fun x186 => bnd (pur ()) fun v187 => pur (x186, v187)) fun v189 => pur (x188, v189)) fun v191 => pur (x190, v191)) fun v192 => lft (p_is_within v192.1 v192.2.1 v192.2.2.1)) fun r193 => pur (id r193))
theorem t_is_residue (web : OWeb) (thing : Int) : Ret false [] (F_is_residue [enc web, enc thing]) (p_is_residue web thing) := by
  refine ret_def (n := 2) (g := g_is_residue) (l := [enc web, enc thing]) (by exact Nat.le_of_ble_eq_true rfl) (fun M0 => ?_)
  unfold g_is_residue p_is_residue
  exact b_ifD (to_b (eo_2 (eo_meth (o := web) (ep_var (v := web) 0 rfl) rfl (by decide) (AP.ao ap_nil) (fun v179 => t_Web_modulus web ) (fun _ => rfl)) (EP.eo (ep_c (v := (0 : Int)) rfl)) (E1 fun x y => o_eqE (neg := false) (by decide) x y))) (b_retS kr_t rfl (eo_callp (ap_cons (ep_var (v := thing) 1 rfl) ap_nil) (t_is_integer thing) rfl)) (b_skip (b_ret kr_t rfl (eo_call (ao_cons (EP.eo (ep_var (v := thing) 1 rfl)) (ao_cons (EP.eo (ep_c (v := (0 : Int)) rfl)) (ao_cons (eo_2 (eo_meth (o := web) (ep_var (v := web) 0 rfl) rfl (by decide) (AP.ao ap_nil) (fun v183 => t_Web_modulus web ) (fun _ => rfl)) (EP.eo (ep_c (v := (1 : Int)) rfl)) (E1 fun x y => o_sub x y)) (AP.ao ap_nil)))) (fun v192 => t_is_within v192.1 v192.2.1 v192.2.2.1) (fun _ => rfl))))
noncomputable def p_are_residues (web : OWeb) (thing : (List Int)) (count : Int) : E Bool := bnd (bnd (pur true) fun z199 => if z199 = true then (bnd (pur (false ^^ eqB ((thing).length : Int) count)) fun z198 => if z198 = true then (bnd (bnd (bnd (pur thing) fun xs194 => lcM xs194 (fun (x177 : Int) => pur true) (fun (x177 : Int) => lft (p_is_residue web x177))) fun x195 => bnd (pur ()) fun v196 => pur (x195, v196)) fun v197 => lft (.ok (v197.1.all id))) else pur false) else pur false) fun r200 => pur (id r200)
theorem t_are_residues (web : OWeb) (thing : (List Int)) (count : Int) : Ret false [] (F_are_residues [enc web, enc thing, enc count]) (p_are_residues web thing count) := by
  refine ret_def (n := 4) (g := g_are_residues) (l := [enc web, enc thing, enc count]) (by exact Nat.le_of_ble_eq_true rfl) (fun M0 => ?_)
  unfold g_are_residues p_are_residues
  exact b_ret kr_t rfl (eo_and (EP.eo (ep_isi (b := true) (ep_var (v := thing) 1 rfl) (fun _ => rfl) (by decide +kernel))) (eo_and (EP.eo (ep_eq (neg := false) (EP.ey (ep_len (EP.ls (ep_var (v := thing) 1 rfl)) rfl)) (EP.ey (ep_var (v := count) 2 rfl)))) (eo_c1 (ao_cons (eo_lst (nl_lc (io_seq (EP.eo (ep_var (v := thing) 1 rfl))) (fun x177 => tg_nm 3 x177) (fun x177 => to_yes) (fun x177 => eo_callp (ap_cons (ep_var (v := web) 0 rfl) (ap_cons (ep_var (v := x177) 3 rfl) ap_nil)) (t_is_residue web x177) rfl) (fun x177 => ci_v (ci_v (ci_v (ci_v ci_n)))))) (AP.ao ap_nil)) (E2 o_all))))
noncomputable def p_is_gains (web : OWeb) (thing : (List Int)) : E Bool := bnd (bnd (bnd (pur web) fun x175 => bnd (bnd (pur thing) fun x173 => bnd (bnd (bnd (lft (p_Web___len__ web)) fun n170 => lft (lenG n170)) fun x171 => bnd (pur ()) fun v172 => pur (x171, v172)) fun v174 => pur (x173, v174)) fun v176 => pur (x175, v176)) fun v201 => lft (p_are_residues v201.1 v201.2.1 v201.2.2.1)) fun r202 => pur (id r202)
theorem t_is_gains (web : OWeb) (thing : (List Int)) : Ret false [] (F_is_gains [enc web, enc thing]) (p_is_gains web thing) := by
  refine ret_def (n := 2) (g := g_is_gains) (l := [enc web, enc thing]) (by exact Nat.le_of_ble_eq_true rfl) (fun M0 => ?_)
  unfold g_is_gains p_is_gains
  exact b_ret kr_t rfl (eo_call (ao_cons (EP.eo (ep_var (v := web) 0 rfl)) (ao_cons (EP.eo (ep_var (v := thing) 1 rfl)) (ao_cons (eo_lenO (o := web) (ep_var (v := web) 0 rfl) rfl (by decide) (t_Web___len__ web)) (AP.ao ap_nil)))) (fun v201 => t_are_residues v201.1 v201.2.1 v201.2.2.1) (fun _ => rfl))
noncomputable def p_check_gains (web : OWeb) (gains : (List Int)) : E Unit := bnd (bnd (lft (p_is_gains web gains)) fun z203 => pur (!z203)) fun z => if z = true then (lft .bad) else (pur ())
theorem t_check_gains (web : OWeb) (gains : (List Int)) : Ret false [] (F_check_gains [enc web, enc gains]) (p_check_gains web gains) := by
  refine ret_def (n := 2) (g := g_check_gains) (l := [enc web, enc gains]) (by exact Nat.le_of_ble_eq_true rfl) (fun M0 => ?_)
  unfold g_check_gains p_check_gains
  exact b_if (to_not (to_tru (eo_callp (ap_cons (ep_var (v := web) 0 rfl) (ap_cons (ep_var (v := gains) 1 rfl) ap_nil)) (t_is_gains web gains) rfl))) (b_last (b_bad bad_wp)) (b_endT rfl)
noncomputable def p_is_step (web : OWeb) (thing : (Int × Int)) : E Bool := bnd (pur ((!true) || (true ^^ eqB (2 : Int) (2 : Int)))) fun z => if z = true then (bnd (pur false) fun r207 => pur (id r207)) else (bnd (bnd (bnd (bnd (pur thing.1) fun x215 => bnd (bnd (pur (0 : Int)) fun x213 => bnd (bnd (bnd (bnd (lft (p_Web___len__ web)) fun n208 => lft (lenG n208)) fun x209 => bnd (pur (1 : Int)) fun y210 => lft (.ok (x209 - y210))) fun x211 => bnd (pur ()) fun v212 => pur (x211, v212)) fun v214 => pur (x213, v214)) fun v216 => pur (x215, v216)) fun v217 => lft (p_is_within v217.1 v217.2.1 v217.2.2.1)) fun z219 => if z219 = true then (bnd (lft (p_is_within thing.2 (-(1 : Int)) (1 : Int))) fun z218 => if z218 = true then (pur (true ^^ eqB thing.2 (0 : Int))) else pur false) else pur false) fun r220 => pur (id r220))
theorem t_is_step (web : OWeb) (thing : (Int × Int)) : Ret false [] (F_is_step [enc web, enc thing]) (p_is_step web thing) := by
  refine ret_def (n := 2) (g := g_is_step) (l := [enc web, enc thing]) (by exact Nat.le_of_ble_eq_true rfl) (fun M0 => ?_)
  unfold g_is_step p_is_step
  exact b_ifD (TP.to (tp_or (tp_not (tp_tru (ep_isi (b := true) (ep_var (v := thing) 1 rfl) (fun _ => rfl) (by decide +kernel)))) (tp_b (ep_eq (neg := true) (EP.ey (ep_lenD (n := (2 : Int)) (EP.ev (ep_var (v := thing) 1 rfl) rfl) rfl rfl)) (EP.ey (ep_c (v := (2 : Int)) rfl)))))) (b_retS kr_t rfl (EP.eo (ep_c (v := false) rfl))) (b_skip (b_ret kr_t rfl (eo_and (eo_call (ao_cons (EP.eo (ep_tup (z := thing.1) (EP.ev (ep_var (v := thing) 1 rfl) rfl) rfl)) (ao_cons (EP.eo (ep_c (v := (0 : Int)) rfl)) (ao_cons (eo_2 (eo_lenO (o := web) (ep_var (v := web) 0 rfl) rfl (by decide) (t_Web___len__ web)) (EP.eo (ep_c (v := (1 : Int)) rfl)) (E1 fun x y => o_sub x y)) (AP.ao ap_nil)))) (fun v217 => t_is_within v217.1 v217.2.1 v217.2.2.1) (fun _ => rfl)) (eo_and (eo_callp (ap_cons (ep_tup (z := thing.2) (EP.ev (ep_var (v := thing) 1 rfl) rfl) rfl) (ap_cons (ep_1 (ep_c (v := (1 : Int)) rfl) (o_neg _)) (ap_cons (ep_c (v := (1 : Int)) rfl) ap_nil))) (t_is_within thing.2 (-(1 : Int)) (1 : Int)) rfl) (EP.eo (ep_eq (neg := true) (EP.ey (ep_tup (z := thing.2) (EP.ev (ep_var (v := thing) 1 rfl) rfl) rfl)) (EP.ey (ep_c (v := (0 : Int)) rfl))))))))
noncomputable def p_Web_edge (self : OWeb) (number : Int) : E (Int × Int) := bnd (bnd (lft (p_is_within number (0 : Int) (((self.own_edges).length : Int) - (1 : Int)))) fun z230 => pur (!z230)) fun z => if z = true then (lft .bad) else (bnd (lft (ixL self.own_edges number)) fun r231 => pur (id r231))
theorem t_Web_edge (self : OWeb) (number : Int) : Ret false [] (F_Web_edge [enc self, enc number]) (p_Web_edge self number) := by
  refine ret_def (n := 2) (g := g_Web_edge) (l := [enc self, enc number]) (by exact Nat.le_of_ble_eq_true rfl) (fun M0 => ?_)
  unfold g_Web_edge p_Web_edge
  exact b_ifD (to_not (to_tru (eo_callp (ap_cons (ep_var (v := number) 1 rfl) (ap_cons (ep_c (v := (0 : Int)) rfl) (ap_cons (ep_2 (ep_len (EP.ls (ep_fld (v := self.own_edges) (EP.ev (ep_var (v := self) 0 rfl) rfl) rfl)) rfl) (ep_c (v := (1 : Int)) rfl) (o_sub _ _)) ap_nil))) (t_is_within number (0 : Int) (((self.own_edges).length : Int) - (1 : Int))) rfl))) (b_bad bad_wp) (b_skip (b_ret kr_t rfl (eo_ixp (EP.ls (ep_fld (v := self.own_edges) (EP.ev (ep_var (v := self) 0 rfl) rfl) rfl)) (ep_var (v := number) 1 rfl) rfl)))
noncomputable def p_step_ends (web : OWeb) (step : (Int × Int)) : E (Int × Int) := bnd (pur step) fun x229 => bnd (bnd (pur (x229.1, ())) fun v232 => lft (p_Web_edge web v232.1)) fun x234 => bnd (pur (if (false ^^ eqB x229.2 (1 : Int)) = true then (x234.1, x234.2) else (x234.2, x234.1))) fun r235 => pur (id r235)
theorem t_step_ends (web : OWeb) (step : (Int × Int)) : Ret false [] (F_step_ends [enc web, enc step]) (p_step_ends web step) := by
  refine ret_def (n := 6) (g := g_step_ends) (l := [enc web, enc step]) (by exact Nat.le_of_ble_eq_true rfl) (fun M0 => ?_)
  unfold g_step_ends p_step_ends
  exact b_tgt (EP.eo (ep_var (v := step) 1 rfl)) (fun x229 => tg_2 (tg_nm 2 x229.1) (tg_nm 3 x229.2)) (fun x229 => b_tgt (eo_meth (o := web) (ep_var (v := web) 0 rfl) rfl (by decide) (AP.ao (ap_cons (ep_var (v := x229.1) 2 rfl) ap_nil)) (fun v232 => t_Web_edge web v232.1) (fun _ => rfl)) (fun x234 => tg_2 (tg_nm 4 x234.1) (tg_nm 5 x234.2)) (fun x234 => b_ret kr_t rfl (EP.eo (ep_if (tp_b (ep_eq (neg := false) (EP.ey (ep_var (v := x229.2) 3 rfl)) (EP.ey (ep_c (v := (1 : Int)) rfl)))) (ep_frt (v := (x234.1, x234.2)) (np_new (n := 2) (ap_cons (ep_var (v := x234.1) 4 rfl) (ap_cons (ep_var (v := x234.2) 5 rfl) ap_nil)) rfl) rfl) (ep_frt (v := (x234.2, x234.1)) (np_new (n := 2) (ap_cons (ep_var (v := x234.2) 5 rfl) (ap_cons (ep_var (v := x234.1) 4 rfl) ap_nil)) rfl) rfl)))))
noncomputable def p_is_walk (web : OWeb) (thing : (List (Int × Int))) : E Bool := bnd (pur ((!true) || (false ^^ eqB thing ([] : List (Int × Int))))) fun z => if z = true then (bnd (pur false) fun r205 => pur (id r205)) else (bnd (bnd (bnd (bnd (bnd (pur thing) fun xs221 => lcM xs221 (fun (x206 : (Int × Int)) => pur true) (fun (x206 : (Int × Int)) => lft (p_is_step web x206))) fun x222 => bnd (pur ()) fun v223 => pur (x222, v223)) fun v224 => lft (.ok (v224.1.all id))) fun z225 => pur (!z225)) fun z => if z = true then (bnd (pur false) fun r226 => pur (id r226)) else (bnd (bnd (pur thing) fun xs236 => lcM xs236 (fun (x228 : (Int × Int)) => pur true) (fun (x228 : (Int × Int)) => lft (p_step_ends web x228))) fun (ends227 : (List (Int × Int))) => bnd (bnd (bnd (bnd (bnd (pur ends227) fun xs237 => bnd (pur (cutL ends227 (some (1 : Int)) none)) fun ys238 => pur (List.zip xs237 ys238)) fun xs240 => lcM xs240 (fun (x239 : ((Int × Int) × (Int × Int))) => pur true) (fun (x239 : ((Int × Int) × (Int × Int))) => pur (false ^^ eqB x239.1.2 x239.2.1))) fun x241 => bnd (pur ()) fun v242 => pur (x241, v242)) fun v243 => lft (.ok (v243.1.all id))) fun r244 => pur (id r244)))
theorem t_is_walk (web : OWeb) (thing : (List (Int × Int))) : Ret false [] (F_is_walk [enc web, enc thing]) (p_is_walk web thing) := by
  refine ret_def (n := 6) (g := g_is_walk) (l := [enc web, enc thing]) (by exact Nat.le_of_ble_eq_true rfl) (fun M0 => ?_)
  unfold g_is_walk p_is_walk
  exact b_ifD (TP.to (tp_or (tp_not (tp_tru (ep_isi (b := true) (ep_var (v := thing) 1 rfl) (fun _ => rfl) (by decide +kernel)))) (tp_b (ep_eq (neg := false) (EP.ey (ep_var (v := thing) 1 rfl)) (EP.ey (ep_lst (xs := ([] : List (Int × Int))) (np_new (n := 0) ap_nil rfl))))))) (b_retS kr_t rfl (EP.eo (ep_c (v := false) rfl))) (b_skip (b_ifD (to_not (to_tru (eo_c1 (ao_cons (eo_lst (nl_lc (io_seq (EP.eo (ep_var (v := thing) 1 rfl))) (fun x206 => tg_nm 3 x206) (fun x206 => to_yes) (fun x206 => eo_callp (ap_cons (ep_var (v := web) 0 rfl) (ap_cons (ep_var (v := x206) 3 rfl) ap_nil)) (t_is_step web x206) rfl) (fun x206 => ci_v (ci_v (ci_v (ci_v (ci_v (ci_v ci_n)))))))) (AP.ao ap_nil)) (E2 o_all)))) (b_retS kr_t rfl (EP.eo (ep_c (v := false) rfl))) (b_skip (b_val' (i := 2) (nl_lc (io_seq (EP.eo (ep_var (v := thing) 1 rfl))) (fun x228 => tg_nm 3 x228) (fun x228 => to_yes) (fun x228 => eo_callp (ap_cons (ep_var (v := web) 0 rfl) (ap_cons (ep_var (v := x228) 3 rfl) ap_nil)) (t_step_ends web x228) rfl) (fun x228 => ci_v (ci_v (ci_v (ci_v (ci_v (ci_v ci_n))))))) (fun ends227 => b_ret kr_t rfl (eo_c1 (ao_cons (eo_lst (nl_lc (io_zip (EP.eo (ep_var (v := ends227) 2 rfl)) (eo_lst (NP.nl (xs := cutL ends227 (some (1 : Int)) none) (np_cut (EP.ls (ep_var (v := ends227) 2 rfl)) (op_so (ep_c (v := (1 : Int)) rfl)) op_no (.inl rfl))))) (fun x239 => tg_2 (tg_nm 4 x239.1) (tg_nm 5 x239.2)) (fun x239 => to_yes) (fun x239 => EP.eo (ep_eq (neg := false) (EP.ey (ep_tup (z := x239.1.2) (EP.ev (ep_var (v := x239.1) 4 rfl) rfl) rfl)) (EP.ey (ep_tup (z := x239.2.1) (EP.ev (ep_var (v := x239.2) 5 rfl) rfl) rfl)))) (fun x239 => ci_v (ci_v (ci_v (ci_v (ci_v (ci_v ci_n)))))))) (AP.ao ap_nil)) (E2 o_all)))))))
noncomputable def p_reduced_number (number : Int) (modulus : Int) : E Int := bnd (bnd (pur (decide ((0 : Int) < modulus))) fun z263 => if z263 = true then (lft (modZ number modulus)) else (pur number)) fun r264 => pur (id r264)
theorem t_reduced_number (number : Int) (modulus : Int) : Ret false [] (F_reduced_number [enc number, enc modulus]) (p_reduced_number number modulus) := by
  refine ret_def (n := 2) (g := g_reduced_number) (l := [enc number, enc modulus]) (by exact Nat.le_of_ble_eq_true rfl) (fun M0 => ?_)
  unfold g_reduced_number p_reduced_number
  exact b_ret kr_t rfl (eo_if (TP.to (tp_b (ep_2 (ep_var (v := modulus) 1 rfl) (ep_c (v := (0 : Int)) rfl) (o_gt _ _)))) (eo_2p (ep_var (v := number) 0 rfl) (ep_var (v := modulus) 1 rfl) (o_mod _ _)) (EP.eo (ep_var (v := number) 0 rfl)))
noncomputable def p_residue (web : OWeb) (number : Int) : E Int := bnd (bnd (lft (p_is_integer number)) fun z257 => pur (!z257)) fun z => if z = true then (lft .bad) else (bnd (bnd (bnd (pur number) fun x261 => bnd (bnd (bnd (pur ()) fun v258 => lft (p_Web_modulus web )) fun x259 => bnd (pur ()) fun v260 => pur (x259, v260)) fun v262 => pur (x261, v262)) fun v265 => lft (p_reduced_number v265.1 v265.2.1)) fun r266 => pur (id r266))
theorem t_residue (web : OWeb) (number : Int) : Ret false [] (F_residue [enc web, enc number]) (p_residue web number) := by
  refine ret_def (n := 2) (g := g_residue) (l := [enc web, enc number]) (by exact Nat.le_of_ble_eq_true rfl) (fun M0 => ?_)
  unfold g_residue p_residue
  exact b_ifD (to_not (to_tru (eo_callp (ap_cons (ep_var (v := number) 1 rfl) ap_nil) (t_is_integer number) rfl))) (b_bad bad_wp) (b_skip (b_ret kr_t rfl (eo_call (ao_cons (EP.eo (ep_var (v := number) 1 rfl)) (ao_cons (eo_meth (o := web) (ep_var (v := web) 0 rfl) rfl (by decide) (AP.ao ap_nil) (fun v258 => t_Web_modulus web ) (fun _ => rfl)) (AP.ao ap_nil))) (fun v265 => t_reduced_number v265.1 v265.2.1) (fun _ => rfl))))
noncomputable def p_walk_sum (web : OWeb) (gains : (List Int)) (walk : (List (Int × Int))) : E Int := bnd (lft (p_check_gains web gains)) fun u204 => bnd (bnd (lft (p_is_walk web walk)) fun z245 => pur (!z245)) fun z => if z = true then (lft .bad) else (bnd (bnd (bnd (pur web) fun x255 => bnd (bnd (bnd (bnd (bnd (pur walk) fun xs249 => lcM xs249 (fun (x246 : (Int × Int)) => pur true) (fun (x246 : (Int × Int)) => bnd (pur x246.2) fun x247 => bnd (lft (ixL gains x246.1)) fun y248 => lft (mulZ x247 y248))) fun x250 => bnd (pur ()) fun v251 => pur (x250, v251)) fun v252 => lft (.ok (v252.1.sum))) fun x253 => bnd (pur ()) fun v254 => pur (x253, v254)) fun v256 => pur (x255, v256)) fun v267 => lft (p_residue v267.1 v267.2.1)) fun r268 => pur (id r268))
theorem t_walk_sum (web : OWeb) (gains : (List Int)) (walk : (List (Int × Int))) : Ret false [] (F_walk_sum [enc web, enc gains, enc walk]) (p_walk_sum web gains walk) := by
  refine ret_def (n := 5) (g := g_walk_sum) (l := [enc web, enc gains, enc walk]) (by exact Nat.le_of_ble_eq_true rfl) (fun M0 => ?_)
  unfold g_walk_sum p_walk_sum
  exact b_exp (eo_callp (ap_cons (ep_var (v := web) 0 rfl) (ap_cons (ep_var (v := gains) 1 rfl) ap_nil)) (t_check_gains web gains) rfl) (fun u204 => b_ifD (to_not (to_tru (eo_callp (ap_cons (ep_var (v := web) 0 rfl) (ap_cons (ep_var (v := walk) 2 rfl) ap_nil)) (t_is_walk web walk) rfl))) (b_bad bad_wp) (b_skip (b_ret kr_t rfl (eo_call (ao_cons (EP.eo (ep_var (v := web) 0 rfl)) (ao_cons (eo_c1 (ao_cons (eo_lst (nl_lc (io_seq (EP.eo (ep_var (v := walk) 2 rfl))) (fun x246 => tg_2 (tg_nm 3 x246.1) (tg_nm 4 x246.2)) (fun x246 => to_yes) (fun x246 => eo_2 (EP.eo (ep_var (v := x246.2) 4 rfl)) (eo_ixp (EP.ls (ep_var (v := gains) 1 rfl)) (ep_var (v := x246.1) 3 rfl) rfl) o_mul) (fun x246 => ci_v (ci_v (ci_v (ci_v (ci_v ci_n))))))) (AP.ao ap_nil)) (E2 o_sum)) (AP.ao ap_nil))) (fun v267 => t_residue v267.1 v267.2.1) (fun _ => rfl)))))
noncomputable def p_Web_size (self : OWeb) : E Int := bnd (pur self.own_size) fun r272 => pur (id r272)
theorem t_Web_size (self : OWeb) : Ret false [] (F_Web_size [enc self]) (p_Web_size self) := by
  refine ret_def (n := 1) (g := g_Web_size) (l := [enc self]) (by exact Nat.le_of_ble_eq_true rfl) (fun M0 => ?_)
  unfold g_Web_size p_Web_size
  exact b_ret kr_t rfl (EP.eo (ep_fld (v := self.own_size) (EP.ev (ep_var (v := self) 0 rfl) rfl) rfl))
noncomputable def p_is_switch (web : OWeb) (thing : (Int × Int)) : E Bool := bnd (pur ((!true) || (true ^^ eqB (2 : Int) (2 : Int)))) fun z => if z = true then (bnd (pur false) fun r277 => pur (id r277)) else (bnd (bnd (bnd (bnd (pur thing.1) fun x285 => bnd (bnd (pur (0 : Int)) fun x283 => bnd (bnd (bnd (bnd (pur ()) fun v278 => lft (p_Web_size web )) fun x279 => bnd (pur (1 : Int)) fun y280 => lft (.ok (x279 - y280))) fun x281 => bnd (pur ()) fun v282 => pur (x281, v282)) fun v284 => pur (x283, v284)) fun v286 => pur (x285, v286)) fun v287 => lft (p_is_within v287.1 v287.2.1 v287.2.2.1)) fun z288 => if z288 = true then (lft (p_is_integer thing.2)) else pur false) fun r289 => pur (id r289))
theorem t_is_switch (web : OWeb) (thing : (Int × Int)) : Ret false [] (F_is_switch [enc web, enc thing]) (p_is_switch web thing) := by
  refine ret_def (n := 2) (g := g_is_switch) (l := [enc web, enc thing]) (by exact Nat.le_of_ble_eq_true rfl) (fun M0 => ?_)
  unfold g_is_switch p_is_switch
  exact b_ifD (TP.to (tp_or (tp_not (tp_tru (ep_isi (b := true) (ep_var (v := thing) 1 rfl) (fun _ => rfl) (by decide +kernel)))) (tp_b (ep_eq (neg := true) (EP.ey (ep_lenD (n := (2 : Int)) (EP.ev (ep_var (v := thing) 1 rfl) rfl) rfl rfl)) (EP.ey (ep_c (v := (2 : Int)) rfl)))))) (b_retS kr_t rfl (EP.eo (ep_c (v := false) rfl))) (b_skip (b_ret kr_t rfl (eo_and (eo_call (ao_cons (EP.eo (ep_tup (z := thing.1) (EP.ev (ep_var (v := thing) 1 rfl) rfl) rfl)) (ao_cons (EP.eo (ep_c (v := (0 : Int)) rfl)) (ao_cons (eo_2 (eo_meth (o := web) (ep_var (v := web) 0 rfl) rfl (by decide) (AP.ao ap_nil) (fun v278 => t_Web_size web ) (fun _ => rfl)) (EP.eo (ep_c (v := (1 : Int)) rfl)) (E1 fun x y => o_sub x y)) (AP.ao ap_nil)))) (fun v287 => t_is_within v287.1 v287.2.1 v287.2.2.1) (fun _ => rfl)) (eo_callp (ap_cons (ep_tup (z := thing.2) (EP.ev (ep_var (v := thing) 1 rfl) rfl) rfl) ap_nil) (t_is_integer thing.2) rfl))))
noncomputable def p_potential_of (web : OWeb) (switches : (List (Int × Int))) : E (List Int) := bnd (pur (!true)) fun z => if z = true then (lft .bad) else (bnd (bnd (bnd (pur ()) fun v273 => lft (p_Web_size web )) fun k274 => lft (repL ([(0 : Int)] : List Int) k274)) fun (found271 : (List Int)) => bnd (pur switches) fun xs301 => bnd (forM (fun (b275 : (List Int)) (x276 : (Int × Int)) => bnd (bnd (lft (p_is_switch web x276)) fun z290 => pur (!z290)) fun z => if z = true then (lft .bad) else (bnd (pur x276) fun x291 => bnd (bnd (bnd (pur web) fun x296 => bnd (bnd (bnd (lft (ixL b275 x291.1)) fun x292 => bnd (pur x291.2) fun y293 => pur (x292 + y293)) fun x294 => bnd (pur ()) fun v295 => pur (x294, v295)) fun v297 => pur (x296, v297)) fun v298 => lft (p_residue v298.1 v298.2.1)) fun v299 => bnd (lft (setL b275 x291.1 v299)) fun found300 => pur found300)) xs301 found271) fun (b275 : (List Int)) => pur (id b275))
theorem t_potential_of (web : OWeb) (switches : (List (Int × Int))) : Ret true [] (F_potential_of [enc web, enc switches]) (p_potential_of web switches) := by
  refine ret_def (n := 6) (g := g_potential_of) (l := [enc web, enc switches]) (by exact Nat.le_of_ble_eq_true rfl) (fun M0 => ?_)
  unfold g_potential_of p_potential_of
  exact b_ifD (TP.to (tp_not (tp_tru (ep_isi (b := true) (ep_var (v := switches) 1 rfl) (fun _ => rfl) (by decide +kernel))))) (b_bad bad_wp) (b_skip (b_cell (i := 2) (nl_repM (ep_lst (xs := ([(0 : Int)] : List Int)) (np_new (n := 1) (ap_cons (ep_c (v := (0 : Int)) rfl) ap_nil) rfl)) (eo_meth (o := web) (ep_var (v := web) 0 rfl) rfl (by decide) (AP.ao ap_nil) (fun v273 => t_Web_size web ) (fun _ => rfl))) (fun found271 => b_for (b0 := found271) (fsL := fun (b275 : (List Int)) => [.v web, .v switches, .L b275, .any, .any, .any]) (io_seq (EP.eo (ep_var (v := switches) 1 rfl))) (wk_s (wk_s (wk_s (wk_a (wk_a (wk_a wk_n)))))) (fun b275 x276 => tg_nm 3 x276) (fun b275 x276 => b_ifD (to_not (to_tru (eo_callp (ap_cons (ep_var (v := web) 0 rfl) (ap_cons (ep_var (v := x276) 3 rfl) ap_nil)) (t_is_switch web x276) rfl))) (b_bad bad_wp) (b_skip (b_tgt (EP.eo (ep_var (v := x276) 3 rfl)) (fun x291 => tg_2 (tg_nm 4 x291.1) (tg_nm 5 x291.2)) (fun x291 => b_last (b_put (i := 2) rfl (ep_var (v := x291.1) 4 rfl) (eo_call (ao_cons (EP.eo (ep_var (v := web) 0 rfl)) (ao_cons (eo_add (eo_ixp (ev_cell 2 rfl) (ep_var (v := x291.1) 4 rfl) rfl) (EP.eo (ep_var (v := x291.2) 5 rfl))) (AP.ao ap_nil))) (fun v298 => t_residue v298.1 v298.2.1) (fun _ => rfl)) (fun found300 => b_end found300 (wk_s (wk_s (wk_s (wk_a (wk_a (wk_a wk_n)))))))))))) (fun b275 => b_retC 2 kr_t rfl))))
noncomputable def p_is_potential (web : OWeb) (thing : (List Int)) : E Bool := bnd (bnd (bnd (pur web) fun x314 => bnd (bnd (pur thing) fun x312 => bnd (bnd (bnd (pur ()) fun v309 => lft (p_Web_size web )) fun x310 => bnd (pur ()) fun v311 => pur (x310, v311)) fun v313 => pur (x312, v313)) fun v315 => pur (x314, v315)) fun v316 => lft (p_are_residues v316.1 v316.2.1 v316.2.2.1)) fun r317 => pur (id r317)
theorem t_is_potential (web : OWeb) (thing : (List Int)) : Ret false [] (F_is_potential [enc web, enc thing]) (p_is_potential web thing) := by
  refine ret_def (n := 2) (g := g_is_potential) (l := [enc web, enc thing]) (by exact Nat.le_of_ble_eq_true rfl) (fun M0 => ?_)
  unfold g_is_potential p_is_potential
  exact b_ret kr_t rfl (eo_call (ao_cons (EP.eo (ep_var (v := web) 0 rfl)) (ao_cons (EP.eo (ep_var (v := thing) 1 rfl)) (ao_cons (eo_meth (o := web) (ep_var (v := web) 0 rfl) rfl (by decide) (AP.ao ap_nil) (fun v309 => t_Web_size web ) (fun _ => rfl)) (AP.ao ap_nil)))) (fun v316 => t_are_residues v316.1 v316.2.1 v316.2.2.1) (fun _ => rfl))
noncomputable def p_check_potential (web : OWeb) (potential : (List Int)) : E Unit := bnd (bnd (lft (p_is_potential web potential)) fun z318 => pur (!z318)) fun z => if z = true then (lft .bad) else (pur ())
theorem t_check_potential (web : OWeb) (potential : (List Int)) : Ret false [] (F_check_potential [enc web, enc potential]) (p_check_potential web potential) := by
  refine ret_def (n := 2) (g := g_check_potential) (l := [enc web, enc potential]) (by exact Nat.le_of_ble_eq_true rfl) (fun M0 => ?_)
  unfold g_check_potential p_check_potential
  exact b_if (to_not (to_tru (eo_callp (ap_cons (ep_var (v := web) 0 rfl) (ap_cons (ep_var (v := potential) 1 rfl) ap_nil)) (t_is_potential web potential) rfl))) (b_last (b_bad bad_wp)) (b_endT rfl)
noncomputable def p_Web_edges (self : OWeb) : E (List (Int × Int)) := bnd (pur self.own_edges) fun r321 => pur (id r321)
theorem t_Web_edges (self : OWeb) : Ret false [] (F_Web_edges [enc self]) (p_Web_edges self) := by
  refine ret_def (n := 1) (g := g_Web_edges) (l := [enc self]) (by exact Nat.le_of_ble_eq_true rfl) (fun M0 => ?_)
  unfold g_Web_edges p_Web_edges
  exact b_ret kr_t rfl (eo_lst (NP.nl (xs := self.own_edges) (np_list (EP.ls (ep_fld (v := self.own_edges) (EP.ev (ep_var (v := self) 0 rfl) rfl) rfl)) rfl)))
noncomputable def p_switched (web : OWeb) (gains : (List Int)) (potential : (List Int)) : E (List Int) := bnd (lft (p_check_gains web gains)) fun u308 => bnd (lft (p_check_potential web potential)) fun u319 => bnd (pur ([] : List Int)) fun (found320 : (List Int)) => bnd (bnd (pur gains) fun xs323 => bnd (bnd (pur ()) fun v322 => lft (p_Web_edges web )) fun ys324 => pur (List.zip xs323 ys324)) fun xs338 => bnd (forM (fun (b325 : (List Int)) (x326 : (Int × (Int × Int))) => bnd (bnd (bnd (pur web) fun x333 => bnd (bnd (bnd (bnd (pur x326.1) fun x327 => bnd (lft (ixL potential x326.2.1)) fun y328 => pur (x327 + y328)) fun x329 => bnd (lft (ixL potential x326.2.2)) fun y330 => lft (.ok (x329 - y330))) fun x331 => bnd (pur ()) fun v332 => pur (x331, v332)) fun v334 => pur (x333, v334)) fun v335 => lft (p_residue v335.1 v335.2.1)) fun v336 => bnd (lft (appL b325 v336)) fun found337 => pur found337) xs338 found320) fun (b325 : (List Int)) => pur (id b325)
theorem t_switched (web : OWeb) (gains : (List Int)) (potential : (List Int)) : Ret true [] (F_switched [enc web, enc gains, enc potential]) (p_switched web gains potential) := by
  refine ret_def (n := 7) (g := g_switched) (l := [enc web, enc gains, enc potential]) (by exact Nat.le_of_ble_eq_true rfl) (fun M0 => ?_)
  unfold g_switched p_switched
  exact b_exp (eo_callp (ap_cons (ep_var (v := web) 0 rfl) (ap_cons (ep_var (v := gains) 1 rfl) ap_nil)) (t_check_gains web gains) rfl) (fun u308 => b_exp (eo_callp (ap_cons (ep_var (v := web) 0 rfl) (ap_cons (ep_var (v := potential) 2 rfl) ap_nil)) (t_check_potential web potential) rfl) (fun u319 => b_cell (i := 3) (NP.nl (xs := ([] : List Int)) (np_new (n := 0) ap_nil rfl)) (fun found320 => b_for (b0 := found320) (fsL := fun (b325 : (List Int)) => [.v web, .v gains, .v potential, .L b325, .any, .any, .any]) (io_zip (EP.eo (ep_var (v := gains) 1 rfl)) (eo_meth (o := web) (ep_var (v := web) 0 rfl) rfl (by decide) (AP.ao ap_nil) (fun v322 => t_Web_edges web ) (fun _ => rfl))) (wk_s (wk_s (wk_s (wk_s (wk_a (wk_a (wk_a wk_n))))))) (fun b325 x326 => tg_2 (tg_nm 4 x326.1) (tg_2 (tg_nm 5 x326.2.1) (tg_nm 6 x326.2.2))) (fun b325 x326 => b_last (b_app (i := 3) rfl (eo_call (ao_cons (EP.eo (ep_var (v := web) 0 rfl)) (ao_cons (eo_2 (eo_add (EP.eo (ep_var (v := x326.1) 4 rfl)) (eo_ixp (EP.ls (ep_var (v := potential) 2 rfl)) (ep_var (v := x326.2.1) 5 rfl) rfl)) (eo_ixp (EP.ls (ep_var (v := potential) 2 rfl)) (ep_var (v := x326.2.2) 6 rfl) rfl) (E1 fun x y => o_sub x y)) (AP.ao ap_nil))) (fun v335 => t_residue v335.1 v335.2.1) (fun _ => rfl)) (fun found337 => b_end found337 (wk_s (wk_s (wk_s (wk_s (wk_a (wk_a (wk_a wk_n)))))))))) (fun b325 => b_retC 3 kr_t rfl))))
noncomputable def p__law_mixed (law_rows : (List (Int × Int))) : W (List (Int × Int)) := bnd (pur ([] : List (Int × Int))) fun (law_found349 : (List (Int × Int))) => bnd (pur law_rows) fun xs359 => bnd (forM (fun (b350 : (List (Int × Int))) (x351 : (Int × Int)) => bnd (bnd (bnd (pur ((((b350).length : Int) + (1 : Int)), ())) fun v352 => takeW v352.1) fun x355 => bnd (bnd (pur x351) fun x353 => bnd (pur ()) fun v354 => pur (x353, v354)) fun v356 => pur (x355, v356)) fun v357 => bnd (lft (insL b350 v357.1 v357.2.1)) fun law_found358 => pur law_found358) xs359 law_found349) fun (b350 : (List (Int × Int))) => pur (id b350)
theorem t__law_mixed (pc : Nat) (law_rows : (List (Int × Int))) : Ret true [pc] (F__law_mixed (.ref pc :: [enc law_rows])) (p__law_mixed law_rows) := by
  refine ret_pool (n := 4) (g := g__law_mixed) (l := [enc law_rows]) (by exact Nat.le_of_ble_eq_true rfl) (fun M0 => ?_)
  unfold g__law_mixed p__law_mixed
  exact b_cell (i := 2) (NP.nl (xs := ([] : List (Int × Int))) (np_new (n := 0) ap_nil rfl)) (fun law_found349 => b_for (b0 := law_found349) (fsL := fun (b350 : (List (Int × Int))) => [.par pc, .v law_rows, .L b350, .any]) (io_seq (EP.eo (ep_var (v := law_rows) 1 rfl))) (wk_s (wk_s (wk_s (wk_a wk_n)))) (fun b350 x351 => tg_nm 3 x351) (fun b350 x351 => b_last (b_ins (i := 2) rfl (ao_cons (eo_pool (i := 0) rfl (.inr ⟨_, rfl⟩) (AP.ao (ap_cons (ep_add (ep_len (ev_cell 2 rfl) rfl) (ep_c (v := (1 : Int)) rfl)) ap_nil)) (fun pc v352 => t__law_take pc v352.1) (fun _ => rfl)) (ao_cons (EP.eo (ep_var (v := x351) 3 rfl)) (AP.ao ap_nil))) (fun law_found358 => b_end law_found358 (wk_s (wk_s (wk_s (wk_a wk_n))))))) (fun b350 => b_retC 2 kr_t rfl))
noncomputable def p_check_node (web : OWeb) (node : Int) : E Unit := bnd (bnd (bnd (bnd (pur node) fun x381 => bnd (bnd (pur (0 : Int)) fun x379 => bnd (bnd (bnd (bnd (pur ()) fun v374 => lft (p_Web_size web )) fun x375 => bnd (pur (1 : Int)) fun y376 => lft (.ok (x375 - y376))) fun x377 => bnd (pur ()) fun v378 => pur (x377, v378)) fun v380 => pur (x379, v380)) fun v382 => pur (x381, v382)) fun v383 => lft (p_is_within v383.1 v383.2.1 v383.2.2.1)) fun z384 => pur (!z384)) fun z => if z = true then (lft .bad) else (pur ())
theorem t_check_node (web : OWeb) (node : Int) : Ret false [] (F_check_node [enc web, enc node]) (p_check_node web node) := by
  refine ret_def (n := 2) (g := g_check_node) (l := [enc web, enc node]) (by exact Nat.le_of_ble_eq_true rfl) (fun M0 => ?_)
  unfold g_check_node p_check_node
  exact b_if (to_not (to_tru (eo_call (ao_cons (EP.eo (ep_var (v := node) 1 rfl)) (ao_cons (EP.eo (ep_c (v := (0 : Int)) rfl)) (ao_cons (eo_2 (eo_meth (o := web) (ep_var (v := web) 0 rfl) rfl (by decide) (AP.ao ap_nil) (fun v374 => t_Web_size web ) (fun _ => rfl)) (EP.eo (ep_c (v := (1 : Int)) rfl)) (E1 fun x y => o_sub x y)) (AP.ao ap_nil)))) (fun v383 => t_is_within v383.1 v383.2.1 v383.2.2.1) (fun _ => rfl)))) (b_last (b_bad bad_wp)) (b_endT rfl)
noncomputable def p_are_residues_2 (web : OWeb) (thing : (List Int)) (count : Int) : E Bool := bnd (bnd (pur true) fun z399 => if z399 = true then (bnd (pur (false ^^ eqB ((thing).length : Int) count)) fun z398 => if z398 = true then (bnd (bnd (bnd (pur thing) fun xs394 => lcM xs394 (fun (x393 : Int) => pur true) (fun (x393 : Int) => lft (p_is_residue web x393))) fun x395 => bnd (pur ()) fun v396 => pur (x395, v396)) fun v397 => lft (.ok (v397.1.all id))) else pur false) else pur false) fun r400 => pur (id r400)
theorem t_are_residues_2 (pro : Nat) (web : OWeb) (thing : (List Int)) (count : Int) : RetR pro .lst (List.map enc thing) false (F_are_residues [enc web, .ref pro, enc count]) (p_are_residues_2 web thing count) := by
  refine ret_defR (n := 4) (g := g_are_residues) (ds := [enc web, .ref pro, enc count]) (j := 1) (by exact Nat.le_of_ble_eq_true rfl) rfl (fun M0 => ?_)
  unfold g_are_residues p_are_residues_2
  exact b_ret kr_t rfl (eo_and (EP.eo (ep_isiV (tn := "list") (b := true) (ev_ro 1 rfl) rfl (by decide +kernel))) (eo_and (EP.eo (ep_eq (neg := false) (EP.ey (ep_len (ev_ro 1 rfl) rfl)) (EP.ey (ep_var (v := count) 2 rfl)))) (eo_c1 (ao_cons (eo_lst (nl_lc (io_ro 1 rfl) (fun x393 => tg_nm 3 x393) (fun x393 => to_yes) (fun x393 => eo_callp (ap_cons (ep_var (v := web) 0 rfl) (ap_cons (ep_var (v := x393) 3 rfl) ap_nil)) (t_is_residue web x393) rfl) (fun x393 => ci_v (ci_v (ci_v (ci_v ci_n)))))) (AP.ao ap_nil)) (E2 o_all))))
noncomputable def p_is_potential_2 (web : OWeb) (thing : (List Int)) : E Bool := bnd (bnd (bnd (pur web) fun x403 => bnd (bnd (bnd (pur ()) fun v392 => lft (p_Web_size web )) fun x401 => bnd (pur ()) fun v402 => pur (x401, v402)) fun v404 => pur (x403, v404)) fun v405 => lft (p_are_residues_2 v405.1 thing v405.2.1)) fun r406 => pur (id r406)
theorem t_is_potential_2 (pro : Nat) (web : OWeb) (thing : (List Int)) : RetR pro .lst (List.map enc thing) false (F_is_potential [enc web, .ref pro]) (p_is_potential_2 web thing) := by
  refine ret_defR (n := 2) (g := g_is_potential) (ds := [enc web, .ref pro]) (j := 1) (by exact Nat.le_of_ble_eq_true rfl) rfl (fun M0 => ?_)
  unfold g_is_potential p_is_potential_2
  exact b_ret kr_t rfl (eo_callROr (i := 1) rfl (aro_v (EP.eo (ep_var (v := web) 0 rfl)) (aro_r rfl (aro_v (eo_meth (o := web) (ep_var (v := web) 0 rfl) rfl (by decide) (AP.ao ap_nil) (fun v392 => t_Web_size web ) (fun _ => rfl)) aro_nil))) (fun v405 => t_are_residues_2 pro v405.1 thing v405.2.1) (fun _ => rfl))
noncomputable def p_check_potential_2 (web : OWeb) (potential : (List Int)) : E Unit := bnd (bnd (lft (p_is_potential_2 web potential)) fun z407 => pur (!z407)) fun z => if z = true then (lft .bad) else (pur ())
theorem t_check_potential_2 (pro : Nat) (web : OWeb) (potential : (List Int)) : RetR pro .lst (List.map enc potential) false (F_check_potential [enc web, .ref pro]) (p_check_potential_2 web potential) := by
  refine ret_defR (n := 2) (g := g_check_potential) (ds := [enc web, .ref pro]) (j := 1) (by exact Nat.le_of_ble_eq_true rfl) rfl (fun M0 => ?_)
  unfold g_check_potential p_check_potential_2
  exact b_if (to_not (to_tru (eo_callRr (i := 1) rfl (ar_v (ep_var (v := web) 0 rfl) (ar_r rfl ar_nil)) (t_is_potential_2 pro web potential) rfl))) (b_last (b_bad bad_wp)) (b_endT rfl)
noncomputable def p_switched_2 (web : OWeb) (gains : (List Int)) (potential : (List Int)) : E (List Int) := bnd (lft (p_check_gains web gains)) fun u391 => bnd (lft (p_check_potential_2 web potential)) fun u408 => bnd (pur ([] : List Int)) fun (found409 : (List Int)) => bnd (bnd (pur gains) fun xs411 => bnd (bnd (pur ()) fun v410 => lft (p_Web_edges web )) fun ys412 => pur (List.zip xs411 ys412)) fun xs426 => bnd (forM (fun (b413 : (List Int)) (x414 : (Int × (Int × Int))) => bnd (bnd (bnd (pur web) fun x421 => bnd (bnd (bnd (bnd (pur x414.1) fun x415 => bnd (lft (ixL potential x414.2.1)) fun y416 => pur (x415 + y416)) fun x417 => bnd (lft (ixL potential x414.2.2)) fun y418 => lft (.ok (x417 - y418))) fun x419 => bnd (pur ()) fun v420 => pur (x419, v420)) fun v422 => pur (x421, v422)) fun v423 => lft (p_residue v423.1 v423.2.1)) fun v424 => bnd (lft (appL b413 v424)) fun found425 => pur found425) xs426 found409) fun (b413 : (List Int)) => pur (id b413)
theorem t_switched_2 (pro : Nat) (web : OWeb) (gains : (List Int)) (potential : (List Int)) : RetR pro .lst (List.map enc potential) true (F_switched [enc web, enc gains, .ref pro]) (p_switched_2 web gains potential) := by
  refine ret_defR (n := 7) (g := g_switched) (ds := [enc web, enc gains, .ref pro]) (j := 2) (by exact Nat.le_of_ble_eq_true rfl) rfl (fun M0 => ?_)
  unfold g_switched p_switched_2
  exact b_exp (eo_callp (ap_cons (ep_var (v := web) 0 rfl) (ap_cons (ep_var (v := gains) 1 rfl) ap_nil)) (t_check_gains web gains) rfl) (fun u391 => b_exp (eo_callRr (i := 2) rfl (ar_v (ep_var (v := web) 0 rfl) (ar_r rfl ar_nil)) (t_check_potential_2 pro web potential) rfl) (fun u408 => b_cell (i := 3) (NP.nl (xs := ([] : List Int)) (np_new (n := 0) ap_nil rfl)) (fun found409 => b_for (b0 := found409) (fsL := fun (b413 : (List Int)) => [.v web, .v gains, .ro pro .lst (List.map enc potential), .L b413, .any, .any, .any]) (io_zip (EP.eo (ep_var (v := gains) 1 rfl)) (eo_meth (o := web) (ep_var (v := web) 0 rfl) rfl (by decide) (AP.ao ap_nil) (fun v410 => t_Web_edges web ) (fun _ => rfl))) (wk_s (wk_s (wk_s (wk_s (wk_a (wk_a (wk_a wk_n))))))) (fun b413 x414 => tg_2 (tg_nm 4 x414.1) (tg_2 (tg_nm 5 x414.2.1) (tg_nm 6 x414.2.2))) (fun b413 x414 => b_last (b_app (i := 3) rfl (eo_call (ao_cons (EP.eo (ep_var (v := web) 0 rfl)) (ao_cons (eo_2 (eo_add (EP.eo (ep_var (v := x414.1) 4 rfl)) (eo_ixp (ev_ro 2 rfl) (ep_var (v := x414.2.1) 5 rfl) rfl)) (eo_ixp (ev_ro 2 rfl) (ep_var (v := x414.2.2) 6 rfl) rfl) (E1 fun x y => o_sub x y)) (AP.ao ap_nil))) (fun v423 => t_residue v423.1 v423.2.1) (fun _ => rfl)) (fun found425 => b_end found425 (wk_s (wk_s (wk_s (wk_s (wk_a (wk_a (wk_a wk_n)))))))))) (fun b413 => b_retC 3 kr_t rfl))))
noncomputable def p_switch (web : OWeb) (gains : (List Int)) (node : Int) (amount : Int) : E (List Int) := bnd (lft (p_check_gains web gains)) fun u373 => bnd (lft (p_check_node web node)) fun u385 => bnd (bnd (bnd (pur ()) fun v387 => lft (p_Web_size web )) fun k388 => lft (repL ([(0 : Int)] : List Int) k388)) fun (potential386 : (List Int)) => bnd (lft (p_residue web amount)) fun v389 => bnd (lft (setL potential386 node v389)) fun potential390 => bnd (lft (p_switched_2 web gains potential390)) fun r427 => pur (id r427)
theorem t_switch (web : OWeb) (gains : (List Int)) (node : Int) (amount : Int) : Ret false [] (F_switch [enc web, enc gains, enc node, enc amount]) (p_switch web gains node amount) := by
  refine ret_def (n := 5) (g := g_switch) (l := [enc web, enc gains, enc node, enc amount]) (by exact Nat.le_of_ble_eq_true rfl) (fun M0 => ?_)
  unfold g_switch p_switch
  exact b_exp (eo_callp (ap_cons (ep_var (v := web) 0 rfl) (ap_cons (ep_var (v := gains) 1 rfl) ap_nil)) (t_check_gains web gains) rfl) (fun u373 => b_exp (eo_callp (ap_cons (ep_var (v := web) 0 rfl) (ap_cons (ep_var (v := node) 2 rfl) ap_nil)) (t_check_node web node) rfl) (fun u385 => b_cell (i := 4) (nl_repM (ep_lst (xs := ([(0 : Int)] : List Int)) (np_new (n := 1) (ap_cons (ep_c (v := (0 : Int)) rfl) ap_nil) rfl)) (eo_meth (o := web) (ep_var (v := web) 0 rfl) rfl (by decide) (AP.ao ap_nil) (fun v387 => t_Web_size web ) (fun _ => rfl))) (fun potential386 => b_put (i := 4) rfl (ep_var (v := node) 2 rfl) (eo_callp (ap_cons (ep_var (v := web) 0 rfl) (ap_cons (ep_var (v := amount) 3 rfl) ap_nil)) (t_residue web amount) rfl) (fun potential390 => b_ret kr_t rfl (eo_callR (i := 4) rfl (ar_v (ep_var (v := web) 0 rfl) (ar_v (ep_var (v := gains) 1 rfl) (ar_c rfl ar_nil))) (fun c => t_switched_2 c web gains potential390) (fun _ => rfl))))))
noncomputable def p_law (law_script : Scr) : W Bool := bnd (bnd (pur (if (if (4 : Int) < (law_script.ns.length : Int) then (4 : Int) else (law_script.ns.length : Int)) > (1 : Int) then (if (4 : Int) < (law_script.ns.length : Int) then (4 : Int) else (law_script.ns.length : Int)) else (1 : Int))) fun n1 => lft (rgW 0 n1)) fun xs437 => bnd (forF (ρ := Bool) (fun (b2 : Unit) (x3 : Int) => bnd (lft (grdC (decide (0 ≤ x3) && decide (x3 < 100)))) fun _ => bnd (bnd (bnd (bnd (pur (1 : Int)) fun x5 => bnd (bnd (pur ((12 : Int), ())) fun v4 => takeW v4.1) fun y6 => pur (x5 + y6)) fun x14 => bnd (bnd (bnd (pur ()) fun v11 => p__law_modulus ) fun x12 => bnd (pur ()) fun v13 => pur (x12, v13)) fun v15 => pur (x14, v15)) fun v16 => pur (v16.1, v16.2.1)) fun x26 => bnd (bnd (pur (x26.1, ((30 : Int), ()))) fun v43 => p__law_links v43.1 v43.2.1) fun (law_links_here27 : (List (Int × Int))) => bnd (lft (p_Web___init__ x26.1 law_links_here27 x26.2)) fun (law_web44 : OWeb) => bnd (bnd (pur (x26.2, (((law_links_here27).length : Int), ()))) fun v107 => p__law_numbers v107.1 v107.2.1) fun (law_held82 : (List Int)) => bnd (bnd (bnd (bnd (pur ((15 : Int), ())) fun v109 => takeW v109.1) fun n110 => lft (rgW 0 n110)) fun xs119 => lcM xs119 (fun (x111 : Int) => pur true) (fun (x111 : Int) => bnd (bnd (bnd (pur (x26.1, ())) fun v112 => takeW v112.1) fun x116 => bnd (bnd (bnd (pur ((0 : Int), ())) fun v113 => p__law_number v113.1) fun x114 => bnd (pur ()) fun v115 => pur (x114, v115)) fun v117 => pur (x116, v117)) fun v118 => pur (v118.1, v118.2.1))) fun (law_rows108 : (List (Int × Int))) => bnd (bnd (bnd (bnd (pur (3 : Int)) fun n121 => lft (rgW 0 n121)) fun xs164 => lcM xs164 (fun (x122 : Int) => pur true) (fun (x122 : Int) => bnd (pur (law_links_here27, (x26.1, ()))) fun v163 => p__law_round v163.1 v163.2.1)) fun xs166 => lcM xs166 (fun (x165 : (List (Int × Int))) => pur (true ^^ eqB x165 ([] : List (Int × Int)))) (fun (x165 : (List (Int × Int))) => pur x165)) fun (law_rounds120 : (List (List (Int × Int)))) => bnd (bnd (pur law_rounds120) fun xs269 => lcM xs269 (fun (x168 : (List (Int × Int))) => pur true) (fun (x168 : (List (Int × Int))) => lft (p_walk_sum law_web44 law_held82 x168))) fun (law_totals167 : (List Int)) => bnd (bnd (bnd (pur law_web44) fun x306 => bnd (bnd (pur law_held82) fun x304 => bnd (bnd (lft (p_potential_of law_web44 law_rows108)) fun x302 => bnd (pur ()) fun v303 => pur (x302, v303)) fun v305 => pur (x304, v305)) fun v307 => pur (x306, v307)) fun v339 => lft (p_switched v339.1 v339.2.1 v339.2.2.1)) fun (law_due270 : (List Int)) => bnd (bnd (bnd (pur (cutL law_rows108 (some (1 : Int)) none)) fun xs343 => bnd (bnd (pur (cutL law_rows108 none (some (1 : Int)))) fun xs342 => lcM xs342 (fun (x341 : (Int × Int)) => pur true) (fun (x341 : (Int × Int)) => pur (x341.1, (x341.2 - (7 : Int))))) fun ys344 => lft (catL xs343 ys344)) fun xs347 => bnd (bnd (pur (cutL law_rows108 none (some (1 : Int)))) fun xs346 => lcM xs346 (fun (x345 : (Int × Int)) => pur true) (fun (x345 : (Int × Int)) => pur (x345.1, (7 : Int)))) fun ys348 => lft (catL xs347 ys348)) fun (law_split340 : (List (Int × Int))) => bnd (bnd (bnd (bnd (pur (law_rows108, ())) fun v360 => p__law_mixed v360.1) fun x364 => bnd (bnd (bnd (pur (law_split340, ())) fun v361 => p__law_mixed v361.1) fun x362 => bnd (pur ()) fun v363 => pur (x362, v363)) fun v365 => pur (x364, v365)) fun v366 => pur ([v366.1, v366.2.1] : List (List (Int × Int)))) fun xs435 => bnd (forF (ρ := Bool) (fun (b367 : Unit) (x368 : (List (Int × Int))) => bnd (pur law_held82) fun (law_here369 : (List Int)) => bnd (pur x368) fun xs434 => bnd (forF (ρ := Bool) (fun (b370 : (List Int)) (x371 : (Int × Int)) => bnd (lft (p_switch law_web44 b370 x371.1 x371.2)) fun (law_here372 : (List Int)) => bnd (bnd (bnd (pur law_rounds120) fun xs429 => lcM xs429 (fun (x428 : (List (Int × Int))) => pur true) (fun (x428 : (List (Int × Int))) => lft (p_walk_sum law_web44 law_here372 x428))) fun x430 => bnd (pur law_totals167) fun y431 => lft (.ok (true ^^ eqB x430 y431))) fun z => if z = true then (bnd (pur false) fun r432 => pur (Fw.rt r432)) else (pur (Fw.nx law_here372))) xs434 law_here369) (outF (fun (b370 : (List Int)) => bnd (pur (true ^^ eqB b370 law_due270)) fun z => if z = true then (bnd (pur false) fun r433 => pur (Fw.rt r433)) else (pur (Fw.nx ()))) (fun xs434r => pur (Fw.rt xs434r)))) xs435 ()) (outF (fun (b367 : Unit) => pur (Fw.nx ())) (fun xs435r => pur (Fw.rt xs435r)))) xs437 ()) (outF (fun (b2 : Unit) => bnd (pur true) fun r436 => pur (id r436)) (fun xs437r => pur (id xs437r)))
theorem t_law (law_script : Scr) : Ret false [] (F_law [enc law_script]) (p_law law_script) := by
  refine ret_def (n := 19) (g := g_law) (l := [enc law_script]) (by exact Nat.le_of_ble_eq_true rfl) (fun M0 => ?_)
  unfold g_law p_law
  exact b_forF (b0 := ()) (fsL := fun (b2 : Unit) => [.v law_script, .any, .any, .any, .any, .any, .any, .any, .any, .any, .any, .any, .any, .any, .any, .any, .any, .any, .any]) kr_t (io_range1 (EP.eo (ep_c2 (ap_cons (ep_c (v := (1 : Int)) rfl) (ap_cons (ep_c2 (ap_cons (ep_len (xs := law_script.ns) (EP.ev (ep_var (v := law_script) 0 rfl) rfl) rfl) (ap_cons (ep_c (v := (4 : Int)) rfl) ap_nil)) (o_min _ _)) ap_nil)) (o_max _ _)))) (wk_s (wk_a (wk_a (wk_a (wk_a (wk_a (wk_a (wk_a (wk_a (wk_a (wk_a (wk_a (wk_a (wk_a (wk_a (wk_a (wk_a (wk_a (wk_a wk_n))))))))))))))))))) (fun b2 x3 => tg_nm 1 x3) (fun b2 x3 => b_newPoolG (i := 2) (b := (decide (0 ≤ x3) && decide (x3 < 100))) (ap_cons (ep_var (v := law_script) 0 rfl) (ap_cons (ep_var (v := x3) 1 rfl) ap_nil)) (t__law_poolG law_script x3) rfl (b_tgt (eo_frz (f := fun v16 => (v16.1, v16.2.1)) (no_new (n := 2) (ao_cons (eo_add (EP.eo (ep_c (v := (1 : Int)) rfl)) (eo_pool (i := 2) rfl (.inl rfl) (AP.ao (ap_cons (ep_c (v := (12 : Int)) rfl) ap_nil)) (fun pc v4 => t__law_take pc v4.1) (fun _ => rfl))) (ao_cons (eo_pool (i := 2) rfl (.inl rfl) (AP.ao ap_nil) (fun pc v11 => t__law_modulus pc ) (fun _ => rfl)) (AP.ao ap_nil))) (fun _ => rfl)) (fun _ => rfl) (fun _ => .inr rfl)) (fun x26 => tg_2 (tg_nm 3 x26.1) (tg_nm 4 x26.2)) (fun x26 => b_asg (i := 5) (eo_pool (i := 2) rfl (.inl rfl) (AP.ao (ap_cons (ep_var (v := x26.1) 3 rfl) (ap_cons (ep_c (v := (30 : Int)) rfl) ap_nil))) (fun pc v43 => t__law_links pc v43.1 v43.2.1) (fun _ => rfl)) (fun law_links_here27 => b_asg (i := 6) (eo_make (ap_cons (ep_var (v := x26.1) 3 rfl) (ap_cons (ep_var (v := law_links_here27) 5 rfl) ap_nil)) (ap_cons (ep_var (v := x26.2) 4 rfl) ap_nil) (t_Web___init__ x26.1 law_links_here27 x26.2) rfl rfl) (fun law_web44 => b_asg (i := 7) (eo_pool (i := 2) rfl (.inl rfl) (AP.ao (ap_cons (ep_var (v := x26.2) 4 rfl) (ap_cons (ep_len (EP.ls (ep_var (v := law_links_here27) 5 rfl)) rfl) ap_nil))) (fun pc v107 => t__law_numbers pc v107.1 v107.2.1) (fun _ => rfl)) (fun law_held82 => b_val' (i := 8) (nl_lc (io_range1 (eo_pool (i := 2) rfl (.inl rfl) (AP.ao (ap_cons (ep_c (v := (15 : Int)) rfl) ap_nil)) (fun pc v109 => t__law_take pc v109.1) (fun _ => rfl))) (fun x111 => tg_nm 17 x111) (fun x111 => to_yes) (fun x111 => eo_frz (f := fun v118 => (v118.1, v118.2.1)) (no_new (n := 2) (ao_cons (eo_pool (i := 2) rfl (.inl rfl) (AP.ao (ap_cons (ep_var (v := x26.1) 3 rfl) ap_nil)) (fun pc v112 => t__law_take pc v112.1) (fun _ => rfl)) (ao_cons (eo_pool (i := 2) rfl (.inl rfl) (AP.ao (ap_cons (ep_c (v := (0 : Int)) rfl) ap_nil)) (fun pc v113 => t__law_number pc v113.1) (fun _ => rfl)) (AP.ao ap_nil))) (fun _ => rfl)) (fun _ => rfl) (fun _ => .inr rfl)) (fun x111 => ci_v (ci_v (ci_s (ci_v (ci_v (ci_v (ci_v (ci_v (ci_v (ci_v (ci_v (ci_v (ci_v (ci_v (ci_v (ci_v (ci_v (ci_v (ci_v ci_n)))))))))))))))))))) (fun law_rows108 => b_val' (i := 9) (nl_lc (io_seq (eo_lst (nl_lc (io_range1 (EP.eo (ep_c (v := (3 : Int)) rfl))) (fun x122 => tg_nm 17 x122) (fun x122 => to_yes) (fun x122 => eo_pool (i := 2) rfl (.inl rfl) (AP.ao (ap_cons (ep_var (v := law_links_here27) 5 rfl) (ap_cons (ep_var (v := x26.1) 3 rfl) ap_nil))) (fun pc v163 => t__law_round pc v163.1 v163.2.1) (fun _ => rfl)) (fun x122 => ci_v (ci_v (ci_s (ci_v (ci_v (ci_v (ci_v (ci_v (ci_v (ci_v (ci_v (ci_v (ci_v (ci_v (ci_v (ci_v (ci_v (ci_v (ci_v ci_n)))))))))))))))))))))) (fun x165 => tg_nm 18 x165) (fun x165 => TP.to (tp_b (ep_eq (neg := true) (EP.ey (ep_var (v := x165) 18 rfl)) (EP.ey (ep_lst (xs := ([] : List (Int × Int))) (np_new (n := 0) ap_nil rfl)))))) (fun x165 => EP.eo (ep_var (v := x165) 18 rfl)) (fun x165 => ci_v (ci_v (ci_s (ci_v (ci_v (ci_v (ci_v (ci_v (ci_v (ci_v (ci_v (ci_v (ci_v (ci_v (ci_v (ci_v (ci_v (ci_v (ci_v ci_n)))))))))))))))))))) (fun law_rounds120 => b_val' (i := 10) (nl_lc (io_seq (EP.eo (ep_var (v := law_rounds120) 9 rfl))) (fun x168 => tg_nm 18 x168) (fun x168 => to_yes) (fun x168 => eo_callp (ap_cons (ep_var (v := law_web44) 6 rfl) (ap_cons (ep_var (v := law_held82) 7 rfl) (ap_cons (ep_var (v := x168) 18 rfl) ap_nil))) (t_walk_sum law_web44 law_held82 x168) rfl) (fun x168 => ci_v (ci_v (ci_s (ci_v (ci_v (ci_v (ci_v (ci_v (ci_v (ci_v (ci_v (ci_v (ci_v (ci_v (ci_v (ci_v (ci_v (ci_v (ci_v ci_n)))))))))))))))))))) (fun law_totals167 => b_asg (i := 11) (eo_call (ao_cons (EP.eo (ep_var (v := law_web44) 6 rfl)) (ao_cons (EP.eo (ep_var (v := law_held82) 7 rfl)) (ao_cons (eo_callp (ap_cons (ep_var (v := law_web44) 6 rfl) (ap_cons (ep_var (v := law_rows108) 8 rfl) ap_nil)) (t_potential_of law_web44 law_rows108) rfl) (AP.ao ap_nil)))) (fun v339 => t_switched v339.1 v339.2.1 v339.2.2.1) (fun _ => rfl)) (fun law_due270 => b_asg (i := 12) (eo_lst (nl_cat (eo_lst (nl_cat (eo_lst (NP.nl (xs := cutL law_rows108 (some (1 : Int)) none) (np_cut (EP.ls (ep_var (v := law_rows108) 8 rfl)) (op_so (ep_c (v := (1 : Int)) rfl)) op_no (.inl rfl)))) (eo_lst (nl_lc (io_seq (eo_lst (NP.nl (xs := cutL law_rows108 none (some (1 : Int))) (np_cut (EP.ls (ep_var (v := law_rows108) 8 rfl)) op_no (op_so (ep_c (v := (1 : Int)) rfl)) (.inl rfl))))) (fun x341 => tg_2 (tg_nm 15 x341.1) (tg_nm 16 x341.2)) (fun x341 => to_yes) (fun x341 => EP.eo (ep_frt (v := (x341.1, (x341.2 - (7 : Int)))) (np_new (n := 2) (ap_cons (ep_var (v := x341.1) 15 rfl) (ap_cons (ep_2 (ep_var (v := x341.2) 16 rfl) (ep_c (v := (7 : Int)) rfl) (o_sub _ _)) ap_nil)) rfl) rfl)) (fun x341 => ci_v (ci_v (ci_s (ci_v (ci_v (ci_v (ci_v (ci_v (ci_v (ci_v (ci_v (ci_v (ci_v (ci_v (ci_v (ci_v (ci_v (ci_v (ci_v ci_n))))))))))))))))))))))) (eo_lst (nl_lc (io_seq (eo_lst (NP.nl (xs := cutL law_rows108 none (some (1 : Int))) (np_cut (EP.ls (ep_var (v := law_rows108) 8 rfl)) op_no (op_so (ep_c (v := (1 : Int)) rfl)) (.inl rfl))))) (fun x345 => tg_2 (tg_nm 15 x345.1) (tg_nm 16 x345.2)) (fun x345 => to_yes) (fun x345 => EP.eo (ep_frt (v := (x345.1, (7 : Int))) (np_new (n := 2) (ap_cons (ep_var (v := x345.1) 15 rfl) (ap_cons (ep_c (v := (7 : Int)) rfl) ap_nil)) rfl) rfl)) (fun x345 => ci_v (ci_v (ci_s (ci_v (ci_v (ci_v (ci_v (ci_v (ci_v (ci_v (ci_v (ci_v (ci_v (ci_v (ci_v (ci_v (ci_v (ci_v (ci_v ci_n))))))))))))))))))))))) (fun law_split340 => b_last (b_forF (b0 := ()) (fsL := fun (b367 : Unit) => [.v law_script, .v x3, .lpl, .v x26.1, .v x26.2, .v law_links_here27, .v law_web44, .v law_held82, .v law_rows108, .v law_rounds120, .v law_totals167, .v law_due270, .v law_split340, .any, .any, .any, .any, .any, .any]) kr_f (io_seq (eo_frz (f := fun v366 => ([v366.1, v366.2.1] : List (List (Int × Int)))) (no_new (n := 2) (ao_cons (eo_pool (i := 2) rfl (.inl rfl) (AP.ao (ap_cons (ep_var (v := law_rows108) 8 rfl) ap_nil)) (fun pc v360 => t__law_mixed pc v360.1) (fun _ => rfl)) (ao_cons (eo_pool (i := 2) rfl (.inl rfl) (AP.ao (ap_cons (ep_var (v := law_split340) 12 rfl) ap_nil)) (fun pc v361 => t__law_mixed pc v361.1) (fun _ => rfl)) (AP.ao ap_nil))) (fun _ => rfl)) (fun _ => rfl) (fun _ => .inl rfl))) (wk_s (wk_s (wk_s (wk_s (wk_s (wk_s (wk_s (wk_s (wk_s (wk_s (wk_s (wk_s (wk_s (wk_a (wk_a (wk_a (wk_a (wk_a (wk_a wk_n))))))))))))))))))) (fun b367 x368 => tg_nm 13 x368) (fun b367 x368 => b_asg (i := 14) (eo_lst (NP.nl (xs := law_held82) (np_list (EP.ls (ep_var (v := law_held82) 7 rfl)) rfl))) (fun law_here369 => b_forF (b0 := law_here369) (fsL := fun (b370 : (List Int)) => [.v law_script, .v x3, .lpl, .v x26.1, .v x26.2, .v law_links_here27, .v law_web44, .v law_held82, .v law_rows108, .v law_rounds120, .v law_totals167, .v law_due270, .v law_split340, .v x368, .v b370, .any, .any, .any, .any]) kr_f (io_seq (EP.eo (ep_var (v := x368) 13 rfl))) (wk_s (wk_s (wk_s (wk_s (wk_s (wk_s (wk_s (wk_s (wk_s (wk_s (wk_s (wk_s (wk_s (wk_s (wk_s (wk_a (wk_a (wk_a (wk_a wk_n))))))))))))))))))) (fun b370 x371 => tg_2 (tg_nm 15 x371.1) (tg_nm 16 x371.2)) (fun b370 x371 => b_asg (i := 14) (eo_callp (ap_cons (ep_var (v := law_web44) 6 rfl) (ap_cons (ep_var (v := b370) 14 rfl) (ap_cons (ep_var (v := x371.1) 15 rfl) (ap_cons (ep_var (v := x371.2) 16 rfl) ap_nil)))) (t_switch law_web44 b370 x371.1 x371.2) rfl) (fun law_here372 => b_if (to_b (eo_2 (eo_lst (nl_lc (io_seq (EP.eo (ep_var (v := law_rounds120) 9 rfl))) (fun x428 => tg_nm 18 x428) (fun x428 => to_yes) (fun x428 => eo_callp (ap_cons (ep_var (v := law_web44) 6 rfl) (ap_cons (ep_var (v := law_here372) 14 rfl) (ap_cons (ep_var (v := x428) 18 rfl) ap_nil))) (t_walk_sum law_web44 law_here372 x428) rfl) (fun x428 => ci_v (ci_v (ci_s (ci_v (ci_v (ci_v (ci_v (ci_v (ci_v (ci_v (ci_v (ci_v (ci_v (ci_v (ci_v (ci_v (ci_v (ci_v (ci_v ci_n))))))))))))))))))))) (EP.eo (ep_var (v := law_totals167) 10 rfl)) (E1 fun x y => o_eqE (neg := true) (by decide) x y))) (b_ret kr_f rfl (EP.eo (ep_c (v := false) rfl))) (b_endF law_here372 (wk_s (wk_s (wk_s (wk_s (wk_s (wk_s (wk_s (wk_s (wk_s (wk_s (wk_s (wk_s (wk_s (wk_s (wk_s (wk_a (wk_a (wk_a (wk_a wk_n)))))))))))))))))))))) (fun b370 => b_if (TP.to (tp_b (ep_eq (neg := true) (EP.ey (ep_var (v := b370) 14 rfl)) (EP.ey (ep_var (v := law_due270) 11 rfl))))) (b_ret kr_f rfl (EP.eo (ep_c (v := false) rfl))) (b_endF () (wk_s (wk_s (wk_s (wk_s (wk_s (wk_s (wk_s (wk_s (wk_s (wk_s (wk_s (wk_s (wk_s (wk_a (wk_a (wk_a (wk_a (wk_a (wk_a wk_n))))))))))))))))))))))) (fun b367 => b_endF () (wk_s (wk_a (wk_a (wk_a (wk_a (wk_a (wk_a (wk_a (wk_a (wk_a (wk_a (wk_a (wk_a (wk_a (wk_a (wk_a (wk_a (wk_a (wk_a wk_n)))))))))))))))))))))))))))))))) (fun b2 => b_ret kr_t rfl (EP.eo (ep_c (v := true) rfl)))
end Lw

set_option Elab.async false
set_option linter.all false
set_option maxRecDepth 100000
set_option maxHeartbeats 1000000
/-! XA: working out typed pieces. -/
namespace TL
open PySem L2 DL
open Mo (pur bnd lft)
theorem bndWa {α β : Type} (x : W α) (k : α → W β) (Q : β → Prop) (X : Str → D → Prop) : bnd x k Q X = x (fun a => k a Q X) X := by rw [bndW]
theorem purWa {α : Type} (a : α) (Q : α → Prop) (X : Str → D → Prop) : (pur a : W α) Q X = Q a := by rw [purW]
theorem lftWa {α : Type} (x : E α) (Q : α → Prop) (X : Str → D → Prop) : (lft x : W α) Q X = x.wp Q X := by rw [lftW]
theorem trWa {α : Type} (x : W α) (k : Str → D → W α) (Q : α → Prop) (X : Str → D → Prop) : Mo.tr x k Q X = x Q (fun c d => k c d Q X) := by rw [trW]
theorem pur_bnd {α β : Type} (a : α) (k : α → E β) : bnd (pur a) k = k a := by rw [bndE, purE]; rfl
theorem lok_bnd {α β : Type} (a : α) (k : α → E β) : bnd (lft (E.ok a)) k = k a := by rw [bndE, lftE]; rfl
theorem ok_bndE {α β : Type} (a : α) (k : α → E β) : bnd (E.ok a) k = k a := by rw [bndE]; rfl
theorem pur_bndW {α β : Type} (a : α) (k : α → W β) : bnd (pur a) k = k a := by rw [bndW, purW]
theorem lok_bndW {α β : Type} (a : α) (k : α → W β) : bnd (lft (E.ok a)) k = k a := by rw [bndW, lftW]; rfl
theorem bnd_assoc {α β γ : Type} (x : E α) (k : α → E β) (j : β → E γ) : bnd (bnd x k) j = bnd x fun a => bnd (k a) j := by
  simp only [bndE]; cases x <;> rfl
theorem bnd_assocW {α β γ : Type} (x : W α) (k : α → W β) (j : β → W γ) : bnd (bnd x k) j = bnd x fun a => bnd (k a) j := by
  simp only [bndW]
theorem sl_small {n : Nat} (h : n ≤ 10000) : n ≤ sizeLine := Nat.le_trans h (by decide)
theorem at_nat' {α : Type} (xs : List α) (k : Nat) : atI xs (k : Int) = xs[k]? := by
  unfold atI ixN
  rw [if_pos (by omega)]
  by_cases h : k < xs.length
  · rw [if_pos (by omega)]; simp
  · rw [if_neg (by omega)]; simp; omega
theorem ixL_nat {α : Type} {xs : List α} {k : Nat} {a : α} (h : xs[k]? = some a) : ixL xs (k : Int) = .ok a := by
  unfold ixL
  rw [at_nat', h]
theorem ixL_lt {α : Type} [Inhabited α] {xs : List α} {i : Int} (h0 : 0 ≤ i) (h1 : i < xs.length) : ixL xs i = .ok (xs.getD i.toNat default) := by
  obtain ⟨k, rfl⟩ := Int.eq_ofNat_of_zero_le h0
  have hk : k < xs.length := by omega
  refine (ixL_nat (a := xs[k]) (List.getElem?_eq_getElem hk)).trans ?_
  simp [hk]
theorem setL_lt {α : Type} {xs : List α} {i : Int} {x : α} (h0 : 0 ≤ i) (h1 : i < xs.length) : setL xs i x = .ok (xs.set i.toNat x) := by
  unfold setL ixN
  rw [if_pos h0, if_pos h1]
theorem appL_ok {α : Type} {xs : List α} {x : α} (h : xs.length < 10000) : appL xs x = .ok (xs ++ [x]) := by
  unfold appL
  exact if_pos (Nat.lt_of_lt_of_le h (by decide))
theorem catL_ok {α : Type} {xs ys : List α} (h : xs.length + ys.length ≤ 10000) : catL xs ys = .ok (xs ++ ys) := by
  unfold catL
  exact if_pos (sl_small h)
theorem rgI_small {a b : Int} (h0 : -1000000 ≤ a) (h1 : a ≤ 1000000) (h2 : -1000000 ≤ b) (h3 : b ≤ 1000000) : RgI a b :=
  ⟨Int.le_trans (by decide) h0, Int.lt_of_le_of_lt h1 (by decide), Int.le_trans (by decide) h2, Int.lt_of_le_of_lt h3 (by decide)⟩
theorem rgW_ok {a b : Int} (h0 : -1000000 ≤ a) (h1 : a ≤ 1000000) (h2 : -1000000 ≤ b) (h3 : b ≤ 1000000) : rgW a b = .ok (rg a b) := by
  unfold rgW
  exact @if_pos _ (Classical.propDecidable _) (rgI_small h0 h1 h2 h3) _ _ _
theorem rgL_ok {n : Int} (h2 : 0 ≤ n) (h3 : n ≤ 4096) : rgL 0 n = .ok (rg 0 n) := by
  unfold rgL
  exact @if_pos _ (Classical.propDecidable _) (RgOk.of_le (Int.le_refl 0) (Int.le_trans h3 (by decide)) (by decide) h2) _ _ _
theorem rg_len (n : Int) : (rg 0 n).length = n.toNat := by unfold rg; simp
theorem rg_mem {n i : Int} : i ∈ rg 0 n ↔ 0 ≤ i ∧ i < n := by
  unfold rg
  simp only [List.mem_map, List.mem_range]
  constructor
  · rintro ⟨k, hk, rfl⟩; omega
  · rintro ⟨h0, h1⟩; exact ⟨i.toNat, by omega, by omega⟩
theorem repL_ok {x : Int} {k : Int} (h0 : 0 ≤ k) (h1 : k ≤ 10000) : repL [x] k = .ok (List.replicate k.toNat x) := by
  unfold repL
  have : -(2 ^ 63) ≤ k ∧ k < 2 ^ 63 ∧ [x].length * k.toNat ≤ sizeLine := ⟨by omega, by omega, by rw [List.length_singleton]; exact sl_small (by omega)⟩
  rw [if_pos this]
  congr 1
  induction k.toNat with
  | zero => rfl
  | succ n ih => rw [List.replicate_succ, List.flatten_cons, ih]; rfl
theorem lenG_ok {n : Nat} (h : n ≤ 10000) : lenG (n : Int) = .ok (n : Int) := by
  unfold lenG
  rw [if_pos (lenB_iff.mpr ⟨by omega, by omega⟩)]
theorem mulZ_small {x y : Int} (h0 : -10 ≤ x) (h1 : x ≤ 10) : mulZ x y = .ok (x * y) := by
  unfold mulZ
  exact if_pos (.inl ⟨by omega, by omega⟩)
theorem modZ_eq {x m : Int} (h : 0 < m) : modZ x m = .ok (x % m) := if_pos h
theorem insL_ok {α : Type} {xs : List α} {x : α} {i : Int} (h : xs.length ≤ 1000) (h0 : 0 ≤ i) (h1 : i ≤ xs.length) : insL xs i x = .ok (xs.take i.toNat ++ [x] ++ xs.drop i.toNat) := by
  unfold insL
  exact @if_pos _ (Classical.propDecidable _) ⟨Nat.lt_of_le_of_lt h (by decide), h0, by omega⟩ _ _ _
theorem ex_then {α β : Type} {x : E α} {k : α → E β} {J : α → Prop} {P : β → Prop} (h : ∃ r, x = .ok r ∧ J r) (h2 : ∀ r, J r → ∃ p, k r = .ok p ∧ P p) : ∃ p, bnd x k = .ok p ∧ P p := by
  obtain ⟨r, e, j⟩ := h
  rw [e, ok_bndE]
  exact h2 r j
/-! ### loops -/
theorem forM_ok {α β : Type} {st : β → α → E β} (f : β → α → β) : ∀ (xs : List α) (b : β), (∀ b x, x ∈ xs → st b x = .ok (f b x)) → forM st xs b = .ok (xs.foldl f b)
  | [], b, _ => by rw [forM, purE]; rfl
  | x :: xs, b, h => by rw [forM, h b x (by simp), ok_bndE, forM_ok f xs _ (fun b y hy => h b y (by simp [hy]))]; rfl
/-- with an invariant that goes along -/
theorem forM_inv {α β : Type} {st : β → α → E β} (J : List α → β → Prop) {xs : List α} {b : β} (h0 : J [] b) (h : ∀ pre x post b, xs = pre ++ x :: post → J pre b → ∃ b', st b x = .ok b' ∧ J (pre ++ [x]) b') : ∃ b', forM st xs b = .ok b' ∧ J xs b' := by
  have gen : ∀ (post pre : List α) (b : β), xs = pre ++ post → J pre b → ∃ b', forM st post b = .ok b' ∧ J xs b' := by
    intro post
    induction post with
    | nil => intro pre b e j; rw [List.append_nil] at e; subst e; exact ⟨b, by rw [forM, purE], j⟩
    | cons x post ih =>
      intro pre b e j
      obtain ⟨b', h1, j'⟩ := h pre x post b e j
      obtain ⟨b'', h2, j''⟩ := ih (pre ++ [x]) b' (by rw [e]; simp) j'
      exact ⟨b'', by rw [forM, h1, ok_bndE]; exact h2, j''⟩
  exact gen xs [] b rfl h0
theorem forM_W {α β : Type} {st : β → α → W β} {Q : β → Prop} {X : Str → D → Prop} (J : List α → β → Prop) {xs : List α} {b : β} (h0 : J [] b) (h : ∀ pre x post b, xs = pre ++ x :: post → J pre b → ∀ Q' : β → Prop, (∀ b', J (pre ++ [x]) b' → Q' b') → st b x Q' X) (hq : ∀ b, J xs b → Q b) : forM st xs b Q X := by
  have gen : ∀ (post pre : List α) (b : β), xs = pre ++ post → J pre b → forM st post b Q X := by
    intro post
    induction post with
    | nil => intro pre b e j; rw [List.append_nil] at e; subst e; rw [forM, purWa]; exact hq b j
    | cons x post ih =>
      intro pre b e j
      rw [forM, bndWa]
      exact h pre x post b e j _ (fun b' j' => ih (pre ++ [x]) b' (by rw [e]; simp) j')
  exact gen xs [] b rfl h0
theorem forF_W {α β ρ : Type} {st : β → α → W (Fw β ρ)} {Q : β ⊕ ρ → Prop} {X : Str → D → Prop} (J : β → Prop) {xs : List α} {b : β} (h0 : J b) (h : ∀ b x, x ∈ xs → J b → ∀ Q' : Fw β ρ → Prop, (∀ b', J b' → Q' (.nx b')) → st b x Q' X) (hq : ∀ b, J b → Q (.inl b)) : forF st xs b Q X := by
  induction xs generalizing b with
  | nil => rw [forF, purWa]; exact hq b h0
  | cons x xs ih =>
    rw [forF, bndWa]
    exact h b x (by simp) h0 _ (fun b' j' => ih j' (fun b y hy => h b y (by simp [hy])))
theorem forF_Wp {α β ρ : Type} {st : β → α → W (Fw β ρ)} {Q : β ⊕ ρ → Prop} {X : Str → D → Prop} (J : List α → β → Prop) {xs : List α} {b : β} (h0 : J [] b) (h : ∀ pre x post b, xs = pre ++ x :: post → J pre b → ∀ Q' : Fw β ρ → Prop, (∀ b', J (pre ++ [x]) b' → Q' (.nx b')) → st b x Q' X) (hq : ∀ b, J xs b → Q (.inl b)) : forF st xs b Q X := by
  have gen : ∀ (post pre : List α) (b : β), xs = pre ++ post → J pre b → forF st post b Q X := by
    intro post
    induction post with
    | nil => intro pre b e j; rw [List.append_nil] at e; subst e; rw [forF, purWa]; exact hq b j
    | cons x post ih =>
      intro pre b e j
      rw [forF, bndWa]
      exact h pre x post b e j _ (fun b' j' => ih (pre ++ [x]) b' (by rw [e]; simp) j')
  exact gen xs [] b rfl h0
/-! ### lists made -/
theorem nox_ok {α : Type} (a : α) : nox (E.ok a) = E.ok a := by unfold nox; rw [trE]; rfl
theorem comp_ok {α β : Type} {c : α → E Bool} {f : α → E β} (p : α → Bool) (g : α → β) : ∀ xs : List α, (∀ x ∈ xs, c x = .ok (p x) ∧ (p x = true → f x = .ok (g x))) → compM c f xs = .ok ((xs.filter p).map g)
  | [], _ => by rw [compM, purE]; rfl
  | x :: xs, h => by
    obtain ⟨h1, h2⟩ := h x (by simp)
    have ih := comp_ok p g xs (fun y hy => h y (by simp [hy]))
    rw [compM, h1, nox_ok, ok_bndE]
    cases q : p x with
    | true => rw [if_pos rfl, h2 q, nox_ok, ok_bndE, ih, ok_bndE, purE]; simp [q]
    | false => rw [if_neg (by decide), ih]; simp [q]
theorem lc_ok {α β : Type} {c : α → E Bool} {f : α → E β} (p : α → Bool) (g : α → β) {xs : List α} (hl : xs.length ≤ 10000) (h : ∀ x ∈ xs, c x = .ok (p x) ∧ (p x = true → f x = .ok (g x))) : lcM xs c f = .ok ((xs.filter p).map g) := by
  unfold lcM szL
  rw [if_pos (sl_small hl), lok_bnd, comp_ok p g xs h]
theorem lc_map {α β : Type} {f : α → E β} (g : α → β) {xs : List α} (hl : xs.length ≤ 10000) (h : ∀ x ∈ xs, f x = .ok (g x)) : lcM xs (fun _ => pur true) f = .ok (xs.map g) := by
  rw [lc_ok (fun _ => true) g hl (fun x hx => ⟨purE _, fun _ => h x hx⟩)]
  congr 2
  exact List.filter_eq_self.mpr (fun _ _ => rfl)
theorem comp_W {α β : Type} {f : α → W β} {Q : List β → Prop} {X : Str → D → Prop} (P : β → Prop) : ∀ (xs : List α), (∀ x ∈ xs, ∀ Q' : β → Prop, (∀ y, P y → Q' y) → f x Q' (fun _ _ => False)) → (∀ ys : List β, ys.length = xs.length → (∀ y ∈ ys, P y) → Q ys) → compM (fun _ => pur true) f xs Q X
  | [], _, hq => by rw [compM, purWa]; exact hq [] rfl (by simp)
  | x :: xs, h, hq => by
    have e : ∀ (Q : Bool → Prop) (X : Str → D → Prop), nox (pur true : W Bool) Q X = Q true := fun Q X => by unfold nox; rw [trWa, purWa]
    rw [compM, bndWa, e, if_pos rfl, bndWa]
    unfold nox
    rw [trWa]
    have hb : ∀ Q' : β → Prop, (fun (c : Str) (d : D) => (lft E.bad : W β) Q' X) = fun _ _ => False := fun Q' => by
      funext c d; rw [lftWa]; rfl
    rw [hb]
    refine h x (by simp) _ (fun y hy => ?_)
    rw [bndWa]
    refine comp_W P xs (fun z hz => h z (by simp [hz])) (fun ys hl hys => ?_)
    rw [purWa]
    exact hq (y :: ys) (by simp [hl]) (fun z hz => by
      rcases List.mem_cons.mp hz with rfl | hz
      · exact hy
      · exact hys z hz)
theorem lc_W {α β : Type} {f : α → W β} {Q : List β → Prop} {X : Str → D → Prop} (P : β → Prop) {xs : List α} (hl : xs.length ≤ 10000) (h : ∀ x ∈ xs, ∀ Q' : β → Prop, (∀ y, P y → Q' y) → f x Q' (fun _ _ => False)) (hq : ∀ ys : List β, ys.length = xs.length → (∀ y ∈ ys, P y) → Q ys) : lcM xs (fun _ => pur true) f Q X := by
  unfold lcM szL
  rw [if_pos (sl_small hl), lok_bndW]
  exact comp_W P xs h hq
theorem lftW_ok {α : Type} {e : E α} {a : α} {Q : α → Prop} {X : Str → D → Prop} (h : e = .ok a) (hq : Q a) : (lft e : W α) Q X := by rw [lftWa, h]; exact hq
theorem bndW_ok {α β : Type} {e : E α} {a : α} {k : α → W β} {Q : β → Prop} {X : Str → D → Prop} (h : e = .ok a) (hq : k a Q X) : bnd (lft e : W α) k Q X := by rw [h, lok_bndW]; exact hq
end TL

set_option Elab.async false
set_option linter.all false
set_option maxRecDepth 100000
set_option maxHeartbeats 1000000
/-! XB: what the program's defs give, valid arguments. -/
namespace Lw
open PySem L2 DL TL
open Mo (pur bnd lft)
def isres (m t : Int) : Bool := if m = 0 then true else decide (0 ≤ t) && decide (t ≤ m - 1)
structure WOk (w : OWeb) : Prop where
  s0 : 1 ≤ w.own_size
  s1 : w.own_size ≤ 30
  len : w.own_edges.length ≤ 60
  ed : ∀ e ∈ w.own_edges, 0 ≤ e.1 ∧ e.1 < w.own_size ∧ 0 ≤ e.2 ∧ e.2 < w.own_size
  m0 : 0 ≤ w.own_modulus
  m1 : w.own_modulus ≤ 60
theorem is_integer_eq (t : Int) : p_is_integer t = .ok true := by simp [p_is_integer, bndE, purE, E.bind]
theorem is_within_eq (t a b : Int) : p_is_within t a b = .ok (decide (a ≤ t) && decide (t ≤ b)) := by simp [p_is_within, is_integer_eq, bndE, purE, lftE, E.bind]
theorem reduced_eq (x m : Int) (h : 0 ≤ m) : p_reduced_number x m = .ok (x % m) := by
  unfold p_reduced_number
  by_cases hm : 0 < m
  · simp [bndE, purE, lftE, E.bind, hm, modZ_eq]
  · have : m = 0 := by omega
    subst this
    simp [bndE, purE, lftE, E.bind]
theorem modulus_eq (w : OWeb) : p_Web_modulus w = .ok w.own_modulus := by simp [p_Web_modulus, bndE, purE, E.bind]
theorem size_eq (w : OWeb) : p_Web_size w = .ok w.own_size := by simp [p_Web_size, bndE, purE, E.bind]
theorem edges_eq (w : OWeb) : p_Web_edges w = .ok w.own_edges := by simp [p_Web_edges, bndE, purE, E.bind]
theorem len_eq (w : OWeb) : p_Web___len__ w = .ok (w.own_edges.length : Int) := by simp [p_Web___len__, bndE, purE, E.bind]
theorem residue_eq (w : OWeb) (x : Int) (h : 0 ≤ w.own_modulus) : p_residue w x = .ok (x % w.own_modulus) := by
  simp [p_residue, is_integer_eq, modulus_eq, reduced_eq _ _ h, bndE, purE, lftE, E.bind]
theorem is_residue_eq (w : OWeb) (t : Int) : p_is_residue w t = .ok (isres w.own_modulus t) := by
  unfold p_is_residue isres
  by_cases h : w.own_modulus = 0
  · simp [modulus_eq, is_integer_eq, bndE, purE, lftE, E.bind, eqB, h]
  · simp [modulus_eq, is_within_eq, bndE, purE, lftE, E.bind, eqB, h]
theorem are_residues_eq (w : OWeb) (l : List Int) (n : Int) (h : l.length ≤ 10000) : p_are_residues w l n = .ok (decide ((l.length : Int) = n) && l.all (isres w.own_modulus)) := by
  unfold p_are_residues
  have e := lc_map (f := fun x => lft (p_is_residue w x)) (isres w.own_modulus) h (fun x _ => by rw [lftE, is_residue_eq])
  by_cases hn : (l.length : Int) = n
  · simp [bndE, purE, lftE, E.bind, eqB, hn] at e ⊢
    rw [e]
    simp [List.all_map]
  · simp [bndE, purE, lftE, E.bind, eqB, hn]
theorem are_residues2_eq (w : OWeb) (l : List Int) (n : Int) (h : l.length ≤ 10000) : p_are_residues_2 w l n = .ok (decide ((l.length : Int) = n) && l.all (isres w.own_modulus)) := are_residues_eq w l n h
/-- gains and potentials that are valid -/
structure Gd (w : OWeb) (g : List Int) : Prop where
  len : g.length = w.own_edges.length
  res : ∀ x ∈ g, isres w.own_modulus x = true
structure Pt (w : OWeb) (p : List Int) : Prop where
  len : (p.length : Int) = w.own_size
  res : ∀ x ∈ p, isres w.own_modulus x = true
theorem is_gains_eq {w : OWeb} {g : List Int} (hw : WOk w) (h : Gd w g) : p_is_gains w g = .ok true := by
  have h1 := hw.len
  have h2 := h.len
  simp [p_is_gains, len_eq, lenG_ok (n := w.own_edges.length) (by omega), are_residues_eq w g _ (by omega), bndE, purE, lftE, E.bind, h.len]
  exact h.res
theorem check_gains_eq {w : OWeb} {g : List Int} (hw : WOk w) (h : Gd w g) : p_check_gains w g = .ok () := by
  simp [p_check_gains, is_gains_eq hw h, bndE, purE, lftE, E.bind]
theorem is_potential_eq {w : OWeb} {p : List Int} (hw : WOk w) (h : Pt w p) : p_is_potential w p = .ok true := by
  have h1 := hw.s1
  have h2 := h.len
  simp [p_is_potential, size_eq, are_residues_eq w p _ (by omega), bndE, purE, lftE, E.bind, h.len]
  exact h.res
theorem is_potential2_eq {w : OWeb} {p : List Int} (hw : WOk w) (h : Pt w p) : p_is_potential_2 w p = .ok true := by
  have h1 := hw.s1
  have h2 := h.len
  simp [p_is_potential_2, size_eq, are_residues2_eq w p _ (by omega), bndE, purE, lftE, E.bind, h.len]
  exact h.res
theorem check_potential_eq {w : OWeb} {p : List Int} (hw : WOk w) (h : Pt w p) : p_check_potential w p = .ok () := by
  simp [p_check_potential, is_potential_eq hw h, bndE, purE, lftE, E.bind]
theorem check_potential2_eq {w : OWeb} {p : List Int} (hw : WOk w) (h : Pt w p) : p_check_potential_2 w p = .ok () := by
  simp [p_check_potential_2, is_potential2_eq hw h, bndE, purE, lftE, E.bind]
theorem check_node_eq {w : OWeb} {n : Int} (h0 : 0 ≤ n) (h1 : n < w.own_size) : p_check_node w n = .ok () := by
  simp [p_check_node, size_eq, is_within_eq, bndE, purE, lftE, E.bind, h0]
  omega
/-- the value at a place -/
def pv (p : List Int) (i : Int) : Int := p.getD i.toNat 0
def swL (m : Int) (es : List (Int × Int)) (g p : List Int) : List Int := (g.zip es).map fun x => (x.1 + pv p x.2.1 - pv p x.2.2) % m
theorem forM_app {α β : Type} {st : List β → α → E (List β)} (f : α → β) {xs : List α} (hl : xs.length ≤ 5000) (h : ∀ b x, x ∈ xs → b.length < 6000 → st b x = .ok (b ++ [f x])) : forM st xs [] = .ok (xs.map f) := by
  obtain ⟨b, h1, rfl⟩ := forM_inv (st := st) (fun pre b => b = pre.map f) (xs := xs) (b := []) rfl (fun pre x post b e j => by
    subst j
    have : pre.length < 6000 := by have := congrArg List.length e; simp at this; omega
    exact ⟨_, h _ x (by rw [e]; simp) (by simpa using this), by simp⟩)
  exact h1
theorem ix_pv {w : OWeb} {p : List Int} (h : Pt w p) {i : Int} (h0 : 0 ≤ i) (h1 : i < w.own_size) : ixL p i = .ok (pv p i) := ixL_lt h0 (by rw [h.len]; exact h1)
theorem ok_then {α β : Type} {x : E α} {r : α} {k : α → E β} {e : E β} (h : x = .ok r) (h2 : k r = e) : bnd x k = e := by rw [h, ok_bndE, h2]
theorem switched_eq {w : OWeb} {g p : List Int} (hw : WOk w) (hg : Gd w g) (hp : Pt w p) : p_switched w g p = .ok (swL w.own_modulus w.own_edges g p) := by
  unfold p_switched
  have hl := hw.len
  simp only [check_gains_eq hw hg, check_potential_eq hw hp, edges_eq, pur_bnd, lok_bnd]
  refine ok_then (forM_app (fun x => (x.1 + pv p x.2.1 - pv p x.2.2) % w.own_modulus) (by simp; omega) (fun b x hx hb => ?_)) (purE _)
  have he := hw.ed x.2 (List.of_mem_zip hx).2
  simp [bndE, purE, lftE, E.bind, ix_pv hp he.1 he.2.1, ix_pv hp he.2.2.1 he.2.2.2, residue_eq _ _ hw.m0, appL_ok (xs := b) (by omega : b.length < 10000)]
theorem switched2_eq {w : OWeb} {g p : List Int} (hw : WOk w) (hg : Gd w g) (hp : Pt w p) : p_switched_2 w g p = .ok (swL w.own_modulus w.own_edges g p) := by
  unfold p_switched_2
  have hl := hw.len
  simp only [check_gains_eq hw hg, check_potential2_eq hw hp, edges_eq, pur_bnd, lok_bnd]
  refine ok_then (forM_app (fun x => (x.1 + pv p x.2.1 - pv p x.2.2) % w.own_modulus) (by simp; omega) (fun b x hx hb => ?_)) (purE _)
  have he := hw.ed x.2 (List.of_mem_zip hx).2
  simp [bndE, purE, lftE, E.bind, ix_pv hp he.1 he.2.1, ix_pv hp he.2.2.1 he.2.2.2, residue_eq _ _ hw.m0, appL_ok (xs := b) (by omega : b.length < 10000)]
/-- one switch -/
def onE (n : Int) (i a : Int) : List Int := (List.replicate n.toNat 0).set i.toNat a
theorem switch_eq {w : OWeb} {g : List Int} {i a : Int} (hw : WOk w) (hg : Gd w g) (h0 : 0 ≤ i) (h1 : i < w.own_size) (hp : Pt w (onE w.own_size i (a % w.own_modulus))) : p_switch w g i a = .ok (swL w.own_modulus w.own_edges g (onE w.own_size i (a % w.own_modulus))) := by
  unfold p_switch
  have s0 := hw.s0
  have s1 := hw.s1
  have e1 : setL (List.replicate w.own_size.toNat (0 : Int)) i (a % w.own_modulus) = .ok (onE w.own_size i (a % w.own_modulus)) := setL_lt h0 (by simp; omega)
  simp only [check_gains_eq hw hg, check_node_eq h0 h1, size_eq, repL_ok (x := 0) (k := w.own_size) (by omega) (by omega), residue_eq _ _ hw.m0, e1, switched2_eq hw hg hp, pur_bnd, lok_bnd, bnd_assoc, ok_bndE, purE]
  rfl
end Lw

set_option Elab.async false
set_option linter.all false
set_option maxRecDepth 100000
set_option maxHeartbeats 1000000
/-! XC: congruence, walks, their sums. -/
namespace Lw
open PySem L2 DL TL
open Mo (pur bnd lft)
/-! ### congruence -/
theorem cg_iff {m x y : Int} : x % m = y % m ↔ m ∣ x - y := by
  rw [Int.emod_eq_emod_iff_emod_sub_eq_zero]
  exact ⟨Int.dvd_of_emod_eq_zero, Int.emod_eq_zero_of_dvd⟩
theorem cg_mod (m x : Int) : m ∣ x % m - x := by
  rw [← cg_iff, Int.emod_emod_of_dvd _ (Int.dvd_refl m)]
theorem cg_trans {m x y z : Int} (h : m ∣ x - y) (k : m ∣ y - z) : m ∣ x - z := by
  have := Int.dvd_add h k
  rwa [show x - y + (y - z) = x - z by omega] at this
theorem cg_symm {m x y : Int} (h : m ∣ x - y) : m ∣ y - x := by
  have := Int.dvd_neg.mpr h
  rwa [show -(x - y) = y - x by omega] at this
theorem cg_add {m x y u v : Int} (h : m ∣ x - y) (k : m ∣ u - v) : m ∣ (x + u) - (y + v) := by
  have := Int.dvd_add h k
  rwa [show x - y + (u - v) = (x + u) - (y + v) by omega] at this
theorem cg_refl (m x : Int) : m ∣ x - x := by rw [Int.sub_self]; exact Int.dvd_zero m
theorem isres_mod {m x : Int} (h0 : 0 ≤ m) : isres m (x % m) = true := by
  unfold isres
  by_cases h : m = 0
  · rw [if_pos h]
  · rw [if_neg h]
    have h1 := Int.emod_nonneg x h
    have h2 := Int.emod_lt_of_pos x (by omega : 0 < m)
    simp; omega
theorem mod_of_isres {m x : Int} (h0 : 0 ≤ m) (h : isres m x = true) : x % m = x := by
  unfold isres at h
  by_cases hm : m = 0
  · subst hm; exact Int.emod_zero x
  · rw [if_neg hm] at h
    simp at h
    exact Int.emod_eq_of_lt h.1 (by omega)
/-! ### steps and walks -/
abbrev Edge := Int × Int
def edg (es : List Edge) (k : Int) : Edge := es.getD k.toNat (0, 0)
def ends (es : List Edge) (s : Int × Int) : Edge := if s.2 = 1 then edg es s.1 else ((edg es s.1).2, (edg es s.1).1)
structure StepOk (es : List Edge) (s : Int × Int) : Prop where
  k0 : 0 ≤ s.1
  k1 : s.1 < es.length
  way : s.2 = 1 ∨ s.2 = -1
def Leads (es : List Edge) : Int → List (Int × Int) → Int → Prop
  | a, [], b => a = b
  | a, s :: w, b => StepOk es s ∧ (ends es s).1 = a ∧ Leads es (ends es s).2 w b
theorem Leads.app {es : List Edge} : ∀ {w v : List (Int × Int)} {a b c : Int}, Leads es a w b → Leads es b v c → Leads es a (w ++ v) c
  | [], v, a, b, c, h, k => by unfold Leads at h; subst h; exact k
  | s :: w, v, a, b, c, h, k => ⟨h.1, h.2.1, Leads.app h.2.2 k⟩
theorem Leads.one {es : List Edge} {s : Int × Int} (h : StepOk es s) : Leads es (ends es s).1 [s] (ends es s).2 := ⟨h, rfl, rfl⟩
theorem step_rev {es : List Edge} {s : Int × Int} (h : StepOk es s) : StepOk es (s.1, 0 - s.2) ∧ ends es (s.1, 0 - s.2) = ((ends es s).2, (ends es s).1) := by
  refine ⟨⟨h.k0, h.k1, by rcases h.way with e | e <;> simp [e]⟩, ?_⟩
  unfold ends
  rcases h.way with e | e <;> simp [e]
theorem Leads.rev {es : List Edge} : ∀ {w : List (Int × Int)} {a b : Int}, Leads es a w b → Leads es b (w.reverse.map fun s => (s.1, 0 - s.2)) a
  | [], a, b, h => by unfold Leads at h; subst h; rfl
  | s :: w, a, b, h => by
    rw [List.reverse_cons, List.map_append]
    refine (Leads.rev h.2.2).app ?_
    obtain ⟨h1, h2⟩ := step_rev h.1
    have := Leads.one h1
    rw [h2] at this
    rw [← h.2.1]
    exact this
theorem Leads.all {es : List Edge} : ∀ {w : List (Int × Int)} {a b : Int}, Leads es a w b → ∀ s ∈ w, StepOk es s
  | [], _, _, _, s, hs => by simp at hs
  | t :: w, _, _, h, s, hs => by
    rcases List.mem_cons.mp hs with rfl | hs
    · exact h.1
    · exact h.2.2.all s hs
theorem Leads.chain {es : List Edge} : ∀ {w : List (Int × Int)} {a b : Int}, Leads es a w b → ∀ x ∈ (w.map (ends es)).zip ((w.map (ends es)).drop 1), x.1.2 = x.2.1
  | [], _, _, _, x, hx => by simp at hx
  | [s], _, _, _, x, hx => by simp at hx
  | s :: t :: w, _, _, h, x, hx => by
    simp only [List.map_cons, List.drop_succ_cons, List.drop_zero, List.zip_cons_cons, List.mem_cons] at hx
    rcases hx with rfl | hx
    · exact h.2.2.2.1.symm
    · exact h.2.2.chain x (by simpa using hx)
theorem edge_eq {w : OWeb} {k : Int} (h0 : 0 ≤ k) (h1 : k < w.own_edges.length) : p_Web_edge w k = .ok (edg w.own_edges k) := by
  have e : ixL w.own_edges k = .ok (edg w.own_edges k) := ixL_lt h0 h1
  have e2 : decide (k ≤ (w.own_edges.length : Int) - 1) = true := decide_eq_true (by omega)
  simp [p_Web_edge, is_within_eq, h0, e2, e, bndE, purE, lftE, E.bind]
theorem step_ends_eq {w : OWeb} {s : Int × Int} (h : StepOk w.own_edges s) : p_step_ends w s = .ok (ends w.own_edges s) := by
  unfold p_step_ends ends
  simp only [pur_bnd, edge_eq h.k0 h.k1, lok_bnd, bnd_assoc]
  by_cases e : s.2 = 1 <;> simp [e, eqB, purE]
theorem is_step_eq {w : OWeb} {s : Int × Int} (hw : WOk w) (h : StepOk w.own_edges s) : p_is_step w s = .ok true := by
  have hl := hw.len
  have h0 := h.k0
  have h1 := h.k1
  have e2 : decide (s.1 ≤ (w.own_edges.length : Int) - 1) = true := decide_eq_true (by omega)
  rcases h.way with e | e <;> simp [p_is_step, len_eq, lenG_ok (n := w.own_edges.length) (by omega), is_within_eq, bndE, purE, lftE, E.bind, eqB, h0, e2, e]
theorem cut1 {α : Type} (xs : List α) : cutL xs (some 1) none = xs.drop 1 := by
  unfold cutL HT.sIx
  cases xs with
  | nil => simp
  | cons x xs => simp
theorem is_walk_eq {w : OWeb} {l : List (Int × Int)} {a b : Int} (hw : WOk w) (h : Leads w.own_edges a l b) (hn : l ≠ []) (hl : l.length ≤ 5000) : p_is_walk w l = .ok true := by
  unfold p_is_walk
  have hn' : decide (l = []) = false := decide_eq_false hn
  have c1 := lc_map (f := fun x => lft (p_is_step w x)) (fun _ => true) (xs := l) (by omega) (fun x hx => by rw [lftE, is_step_eq hw (h.all x hx)])
  have c2 := lc_map (f := fun x => lft (p_step_ends w x)) (ends w.own_edges) (xs := l) (by omega) (fun x hx => by rw [lftE, step_ends_eq (h.all x hx)])
  have c3 := lc_map (f := fun (x : Edge × Edge) => (pur (false ^^ eqB x.1.2 x.2.1) : E Bool)) (fun x => (false ^^ eqB x.1.2 x.2.1)) (xs := (l.map (ends w.own_edges)).zip ((l.map (ends w.own_edges)).drop 1)) (by simp; omega) (fun x hx => purE _)
  simp only [pur_bnd, c1, ok_bndE, lok_bnd, bnd_assoc, c2, cut1, c3]
  have a1 : (l.map fun _ => true).all id = true := by simp
  have a2 : (((l.map (ends w.own_edges)).zip ((l.map (ends w.own_edges)).drop 1)).map fun x => (false ^^ eqB x.1.2 x.2.1)).all id = true := by
    rw [List.all_map, List.all_eq_true]
    intro x hx
    have := h.chain x hx
    simp [eqB, this]
  rw [a1, a2]
  simp [eqB, hn', bndE, purE, E.bind]
def wsum (g : List Int) (l : List (Int × Int)) : Int := (l.map fun s => s.2 * pv g s.1).sum
theorem walk_sum_eq {w : OWeb} {g : List Int} {l : List (Int × Int)} {a b : Int} (hw : WOk w) (hg : Gd w g) (h : Leads w.own_edges a l b) (hn : l ≠ []) (hl : l.length ≤ 5000) : p_walk_sum w g l = .ok (wsum g l % w.own_modulus) := by
  unfold p_walk_sum
  simp only [check_gains_eq hw hg, is_walk_eq hw h hn hl, pur_bnd, lok_bnd, ok_bndE, bnd_assoc, residue_eq _ _ hw.m0, Bool.not_true, Bool.false_eq_true, if_false]
  refine ok_then (lc_map (fun s => s.2 * pv g s.1) (xs := l) (by omega) (fun x hx => ?_)) (purE _)
  have hx := h.all x hx
  have e : ixL g x.1 = .ok (pv g x.1) := ixL_lt hx.k0 (by rw [hg.len]; exact hx.k1)
  rw [e, lok_bnd, lftE]
  exact mulZ_small (by rcases hx.way with e | e <;> omega) (by rcases hx.way with e | e <;> omega)
/-- what switching does to the sum of a walk -/
theorem sw_len {m : Int} {es : List Edge} {g p : List Int} (h : g.length = es.length) : (swL m es g p).length = es.length := by unfold swL; simp [h]
theorem sw_pv {m : Int} {es : List Edge} {g p : List Int} {k : Int} (h : g.length = es.length) (h0 : 0 ≤ k) (h1 : k < es.length) : pv (swL m es g p) k = (pv g k + pv p (edg es k).1 - pv p (edg es k).2) % m := by
  obtain ⟨n, rfl⟩ := Int.eq_ofNat_of_zero_le h0
  have hn : n < es.length := by omega
  have hg : n < g.length := by omega
  have hz : (g.zip es)[n]? = some (g[n], es[n]) := by
    rw [List.getElem?_eq_getElem (by simp; omega), List.getElem_zip]
  unfold pv swL edg
  simp only [List.getD_eq_getElem?_getD, Int.toNat_natCast, List.getElem?_map, hz, Option.map_some, Option.getD_some, List.getElem?_eq_getElem hn, List.getElem?_eq_getElem hg]
  rfl
theorem wsum_sw {m : Int} {es : List Edge} {g p : List Int} (hg : g.length = es.length) : ∀ {l : List (Int × Int)} {a b : Int}, Leads es a l b → m ∣ wsum (swL m es g p) l - (wsum g l + pv p a - pv p b)
  | [], a, b, h => by
    unfold Leads at h
    subst h
    rw [show wsum (swL m es g p) [] - (wsum g [] + pv p a - pv p a) = 0 by unfold wsum; simp]
    exact Int.dvd_zero m
  | s :: l, a, b, h => by
    have ih := wsum_sw (m := m) (g := g) (p := p) hg h.2.2
    have e1 : wsum (swL m es g p) (s :: l) = s.2 * pv (swL m es g p) s.1 + wsum (swL m es g p) l := by unfold wsum; simp
    have e2 : wsum g (s :: l) = s.2 * pv g s.1 + wsum g l := by unfold wsum; simp
    rw [e1, e2, sw_pv hg h.1.k0 h.1.k1]
    have c := cg_mod m (pv g s.1 + pv p (edg es s.1).1 - pv p (edg es s.1).2)
    have ha := h.2.1
    have d : m ∣ s.2 * ((pv g s.1 + pv p (edg es s.1).1 - pv p (edg es s.1).2) % m) - s.2 * (pv g s.1 + pv p (edg es s.1).1 - pv p (edg es s.1).2) := by
      rw [← Int.mul_sub]; exact Int.dvd_mul_of_dvd_right c
    have t := cg_add d ih
    have key : s.2 * (pv g s.1 + pv p (edg es s.1).1 - pv p (edg es s.1).2) + (wsum g l + pv p (ends es s).2 - pv p b) = s.2 * pv g s.1 + wsum g l + pv p a - pv p b := ?_
    · rw [key] at t; exact t
    rcases h.1.way with e | e
    · unfold ends at ha ⊢
      rw [if_pos e] at ha ⊢
      rw [← ha, e]
      omega
    · have ne : ¬ s.2 = 1 := by omega
      unfold ends at ha ⊢
      rw [if_neg ne] at ha ⊢
      dsimp only at ha ⊢
      rw [← ha, e]
      omega
theorem wsum_closed {m : Int} {es : List Edge} {g p : List Int} (hg : g.length = es.length) {l : List (Int × Int)} {a : Int} (h : Leads es a l a) : wsum (swL m es g p) l % m = wsum g l % m := by
  rw [cg_iff]
  have := wsum_sw (m := m) (g := g) (p := p) hg h
  rwa [show wsum g l + pv p a - pv p a = wsum g l by omega] at this
end Lw

set_option Elab.async false
set_option linter.all false
set_option maxRecDepth 100000
set_option maxHeartbeats 1000000
/-! XD: potentials of rows of switches; a Web made. -/
namespace Lw
open PySem L2 DL TL
open Mo (pur bnd lft)
/-- all amounts at a node -/
def amt (rows : List (Int × Int)) (i : Int) : Int := ((rows.filter fun r => decide (r.1 = i)).map (·.2)).sum
theorem amt_app (a b : List (Int × Int)) (i : Int) : amt (a ++ b) i = amt a i + amt b i := by unfold amt; simp
theorem amt_one (r : Int × Int) (i : Int) : amt [r] i = if r.1 = i then r.2 else 0 := by
  unfold amt
  by_cases h : r.1 = i <;> simp [h]
theorem amt_cons (r : Int × Int) (a : List (Int × Int)) (i : Int) : amt (r :: a) i = (if r.1 = i then r.2 else 0) + amt a i := by
  rw [← amt_one, ← amt_app]; rfl
theorem amt_perm {a b : List (Int × Int)} (h : a.Perm b) (i : Int) : amt a i = amt b i := by
  induction h with
  | nil => rfl
  | cons x _ ih => rw [amt_cons, amt_cons, ih]
  | swap x y l => rw [amt_cons, amt_cons, amt_cons, amt_cons]; omega
  | trans _ _ h1 h2 => rw [h1, h2]
def RowsOk (n : Int) (rows : List (Int × Int)) : Prop := ∀ r ∈ rows, 0 ≤ r.1 ∧ r.1 < n
theorem isres0 (m : Int) (h : 0 ≤ m) : isres m 0 = true := by
  unfold isres
  by_cases e : m = 0
  · rw [if_pos e]
  · rw [if_neg e]; simp; omega
theorem pv_set {p : List Int} {i j x : Int} (h0 : 0 ≤ i) (h1 : i < p.length) (j0 : 0 ≤ j) : pv (p.set i.toNat x) j = if i = j then x else pv p j := by
  unfold pv
  rw [List.getD_eq_getElem?_getD, List.getD_eq_getElem?_getD]
  by_cases e : i = j
  · subst e
    rw [List.getElem?_set_self (by omega), if_pos rfl]
    rfl
  · rw [List.getElem?_set_ne (by omega), if_neg e]
theorem pv_rep (n : Nat) (i : Int) : pv (List.replicate n 0) i = 0 := by
  unfold pv
  rw [List.getD_eq_getElem?_getD, List.getElem?_replicate]
  split <;> rfl
theorem is_switch_eq {w : OWeb} {r : Int × Int} (h0 : 0 ≤ r.1) (h1 : r.1 < w.own_size) : p_is_switch w r = .ok true := by
  have e2 : decide (r.1 ≤ w.own_size - 1) = true := decide_eq_true (by omega)
  simp [p_is_switch, size_eq, is_within_eq, is_integer_eq, bndE, purE, lftE, E.bind, eqB, h0, e2]
theorem potential_of_eq {w : OWeb} {rows : List (Int × Int)} (hw : WOk w) (h : RowsOk w.own_size rows) : ∃ p, p_potential_of w rows = .ok p ∧ Pt w p ∧ ∀ i, 0 ≤ i → w.own_modulus ∣ pv p i - amt rows i := by
  have s0 := hw.s0
  have s1 := hw.s1
  unfold p_potential_of
  simp only [Bool.not_true, pur_bnd, Bool.false_eq_true, if_false, size_eq, lok_bnd, bnd_assoc, repL_ok (x := 0) (k := w.own_size) (by omega) (by omega)]
  refine ex_then (forM_inv (fun pre b => Pt w b ∧ ∀ i, 0 ≤ i → w.own_modulus ∣ pv b i - amt pre i) ?_ ?_) (fun p hp => ⟨p, purE _, hp⟩)
  · exact ⟨⟨by simp; omega, fun x hx => by rw [(List.mem_replicate.mp hx).2]; exact isres0 _ hw.m0⟩, fun i _ => by rw [pv_rep]; exact cg_refl _ 0⟩
  · intro pre r post b e j
    have hr := h r (by rw [e]; simp)
    obtain ⟨jp, js⟩ := j
    have e1 : ixL b r.1 = .ok (pv b r.1) := ixL_lt hr.1 (by rw [jp.len]; exact hr.2)
    have e2 : ∀ x : Int, setL b r.1 x = .ok (b.set r.1.toNat x) := fun x => setL_lt hr.1 (by rw [jp.len]; exact hr.2)
    refine ⟨b.set r.1.toNat ((pv b r.1 + r.2) % w.own_modulus), ?_, ⟨by simpa using jp.len, fun x hx => ?_⟩, fun i hi => ?_⟩
    · rw [is_switch_eq hr.1 hr.2]
      simp only [lok_bnd, Bool.not_true, pur_bnd, Bool.false_eq_true, if_false, e1, residue_eq _ _ hw.m0, e2, purE]
    · rcases List.mem_or_eq_of_mem_set hx with z | z
      · exact jp.res x z
      · rw [z]; exact isres_mod hw.m0
    · rw [pv_set hr.1 (by rw [jp.len]; exact hr.2) hi, amt_app, amt_one]
      by_cases e1 : r.1 = i
      · rw [if_pos e1, if_pos e1]
        refine cg_trans (cg_mod _ _) (cg_add ?_ (cg_refl _ _))
        rw [e1]
        exact js i hi
      · rw [if_neg e1, if_neg e1, Int.add_zero]
        exact js i hi
/-- gains by their places -/
theorem gains_ext {w : OWeb} {g g' : List Int} (hw : WOk w) (h : Gd w g) (h' : Gd w g') (e : ∀ k : Nat, k < w.own_edges.length → w.own_modulus ∣ pv g k - pv g' k) : g = g' := by
  apply List.ext_getElem
  · rw [h.len, h'.len]
  · intro k h1 h2
    have hk : k < w.own_edges.length := by rw [← h.len]; exact h1
    have c := e k hk
    have p1 : pv g (k : Int) = g[k] := by unfold pv; simp [h1]
    have p2 : pv g' (k : Int) = g'[k] := by unfold pv; simp [h2]
    rw [p1, p2, ← cg_iff, mod_of_isres hw.m0 (h.res _ (List.getElem_mem h1)), mod_of_isres hw.m0 (h'.res _ (List.getElem_mem h2))] at c
    exact c
theorem sw_gd {w : OWeb} {g p : List Int} (hw : WOk w) (h : Gd w g) : Gd w (swL w.own_modulus w.own_edges g p) := ⟨sw_len h.len, fun x hx => by
  unfold swL at hx
  obtain ⟨y, _, rfl⟩ := List.mem_map.mp hx
  exact isres_mod hw.m0⟩
theorem onE_pt {w : OWeb} {i a : Int} (hw : WOk w) : Pt w (onE w.own_size i (a % w.own_modulus)) := ⟨by unfold onE; have := hw.s0; simp; omega, fun x hx => by
  unfold onE at hx
  rcases List.mem_or_eq_of_mem_set hx with z | z
  · rw [(List.mem_replicate.mp z).2]; exact isres0 _ hw.m0
  · rw [z]; exact isres_mod hw.m0⟩
theorem onE_pv {w : OWeb} {i a j : Int} (h0 : 0 ≤ i) (h1 : i < w.own_size) (hj : 0 ≤ j) : w.own_modulus ∣ pv (onE w.own_size i (a % w.own_modulus)) j - amt [(i, a)] j := by
  unfold onE
  rw [pv_set h0 (by simp; omega) hj, amt_one, pv_rep]
  by_cases e : i = j
  · rw [if_pos e, if_pos e]; exact cg_mod _ _
  · rw [if_neg e, if_neg e]; exact cg_refl _ 0
/-- gains to which rows of switches have led -/
structure Led (w : OWeb) (g0 : List Int) (A : Int → Int) (g : List Int) : Prop where
  gd : Gd w g
  eq : ∀ k : Nat, k < w.own_edges.length → w.own_modulus ∣ pv g k - (pv g0 k + A (edg w.own_edges k).1 - A (edg w.own_edges k).2)
theorem edg_mem {es : List Edge} {k : Nat} (h : k < es.length) : edg es k ∈ es := by
  unfold edg
  rw [List.getD_eq_getElem?_getD, Int.toNat_natCast, List.getElem?_eq_getElem h]
  exact List.getElem_mem h
theorem led_sw {w : OWeb} {g0 g p : List Int} {A B : Int → Int} (hw : WOk w) (h : Led w g0 A g) (hp : ∀ i, 0 ≤ i → w.own_modulus ∣ pv p i - B i) : Led w g0 (fun i => A i + B i) (swL w.own_modulus w.own_edges g p) := by
  refine ⟨sw_gd hw h.gd, fun k hk => ?_⟩
  rw [sw_pv h.gd.len (by omega) (by omega)]
  refine cg_trans (cg_mod _ _) ?_
  have he := hw.ed _ (edg_mem hk)
  have c1 := h.eq k hk
  have c2 := hp _ he.1
  have c3 := cg_symm (hp _ he.2.2.1)
  have := Int.dvd_add (Int.dvd_add c1 c2) c3
  have key : ∀ a b c d e f g i : Int, a - (b + c - d) + (e - f) + (g - i) = a + e - i - (b + (c + f) - (d + g)) := by intros; omega
  rw [key] at this
  exact this
theorem led_uniq {w : OWeb} {g0 g g' : List Int} {A B : Int → Int} (hw : WOk w) (h : Led w g0 A g) (h' : Led w g0 B g') (e : ∀ i, A i = B i) : g = g' := by
  refine gains_ext hw h.gd h'.gd (fun k hk => ?_)
  have c1 := h.eq k hk
  have c2 := cg_symm (h'.eq k hk)
  rw [← e, ← e] at c2
  exact cg_trans c1 c2
theorem led_0 {w : OWeb} {g : List Int} (h : Gd w g) : Led w g (fun _ => 0) g := ⟨h, fun k _ => by
  rw [show pv g k - (pv g k + 0 - 0) = 0 by omega]; exact Int.dvd_zero _⟩
end Lw

set_option Elab.async false
set_option linter.all false
set_option maxRecDepth 100000
set_option maxHeartbeats 1000000
/-! XE: a Web made; what is drawn. -/
namespace Lw
open PySem L2 DL TL
open Mo (pur bnd lft)
structure EOk (n : Int) (es : List Edge) : Prop where
  len : es.length ≤ 60
  ed : ∀ e ∈ es, 0 ≤ e.1 ∧ e.1 < n ∧ 0 ≤ e.2 ∧ e.2 < n
theorem is_edge_eq {n : Int} {e : Edge} (h : 0 ≤ e.1 ∧ e.1 < n ∧ 0 ≤ e.2 ∧ e.2 < n) : p_is_edge e n = .ok true := by
  have e1 : decide (e.1 ≤ n - 1) = true := decide_eq_true (by omega)
  have e2 : decide (e.2 ≤ n - 1) = true := decide_eq_true (by omega)
  simp [p_is_edge, is_within_eq, bndE, purE, lftE, E.bind, eqB, h.1, h.2.2.1, e1, e2]
theorem check_edges_eq {n : Int} {es : List Edge} (h : EOk n es) : p_check_edges n es = .ok () := by
  unfold p_check_edges
  have hl := h.len
  simp only [Bool.not_true, pur_bnd, Bool.false_eq_true, if_false]
  refine ok_then (r := ()) ?_ ?_
  · obtain ⟨b, h1, _⟩ := forM_inv (st := fun (b49 : Unit) (x50 : (Int × Int)) => bnd (bnd (lft (p_is_edge x50 n)) fun z54 => pur (!z54)) fun z => if z = true then (lft .bad) else (pur ())) (fun _ _ => True) (xs := es) (b := ()) trivial (fun pre x post b e _ => by
      refine ⟨(), ?_, trivial⟩
      rw [is_edge_eq (h.ed x (by rw [e]; simp)), lok_bnd, Bool.not_true, pur_bnd, if_neg (by decide), purE])
    exact h1
  · have : decide ((60 : Int) < (es.length : Int)) = false := decide_eq_false (by omega)
    rw [this, if_neg (by decide), purE]
theorem forest_eq {n : Int} {es : List Edge} (h0 : 1 ≤ n) (h1 : n ≤ 30) (h : EOk n es) : ∃ fs, p_forest_of n es = .ok fs ∧ fs.length ≤ es.length ∧ ∀ i ∈ fs, 0 ≤ i ∧ i < es.length := by
  unfold p_forest_of
  have hl := h.len
  simp only [pur_bnd, rgL_ok (n := n) (by omega) (by omega), lok_bnd]
  refine ex_then (forM_inv (fun (pre : List (Int × Edge)) (b : List Int × List Int) => (b.1.length : Int) = n ∧ b.2.length ≤ pre.length ∧ ∀ i : Int, i ∈ b.2 → 0 ≤ i ∧ i < es.length) ⟨by rw [rg_len]; omega, by simp, by simp⟩ (fun pre x post b e j => ?_)) (fun p hp => ⟨p.2, purE _, by have := hp.2.1; unfold enI at this; simpa using this, hp.2.2⟩)
  obtain ⟨j1, j2, j3⟩ := j
  have hx : x ∈ enI 0 es := by rw [e]; simp
  have hpl : pre.length < es.length := by have := congrArg List.length e; unfold enI at this; simp at this; omega
  have hxe : x.2 ∈ es ∧ 0 ≤ x.1 ∧ x.1 < es.length := by
    unfold enI at hx
    obtain ⟨y, hy, rfl⟩ := List.mem_map.mp hx
    have hy2 := List.mem_zipIdx hy
    exact ⟨List.fst_mem_of_mem_zipIdx hy, by dsimp only; omega, by dsimp only; omega⟩
  have he := h.ed x.2 hxe.1
  have i1 : ixL b.1 x.2.1 = .ok (pv b.1 x.2.1) := ixL_lt he.1 (by rw [j1]; exact he.2.1)
  have i2 : ixL b.1 x.2.2 = .ok (pv b.1 x.2.2) := ixL_lt he.2.2.1 (by rw [j1]; exact he.2.2.2)
  have bl : b.1.length ≤ 10000 := by omega
  have ap : appL b.2 x.1 = .ok (b.2 ++ [x.1]) := appL_ok (by omega)
  rw [i1, lok_bnd, i2, lok_bnd, lok_bnd]
  by_cases q : pv b.1 x.2.1 = pv b.1 x.2.2
  · have : (true ^^ eqB (pv b.1 x.2.1) (pv b.1 x.2.2)) = false := by simp [eqB, q]
    rw [this, if_neg (by decide)]
    exact ⟨_, purE _, j1, by simp; omega, j3⟩
  · have : (true ^^ eqB (pv b.1 x.2.1) (pv b.1 x.2.2)) = true := by simp [eqB, q]
    rw [this, if_pos rfl]
    refine ⟨(b.1.map fun y => if y = pv b.1 x.2.2 then pv b.1 x.2.1 else y, b.2 ++ [x.1]), ?_, by simpa using j1, by simp; omega, ?_⟩
    · rw [ap, lok_bnd]
      refine ok_then (lc_map (fun y => if y = pv b.1 x.2.2 then pv b.1 x.2.1 else y) bl (fun y hy => ?_)) (purE _)
      rw [lok_bnd, lok_bnd]
      by_cases z : y = pv b.1 x.2.2
      · rw [if_pos z, if_pos (by simp [eqB, z]), lftE]
      · rw [if_neg z, if_neg (by simp [eqB, z]), purE]
    · intro i hi
      rcases List.mem_append.mp hi with z | z
      · exact j3 i z
      · simp at z; subst z; exact hxe.2
theorem links_eq {n : Int} {es : List Edge} {fs : List Int} (h0 : 1 ≤ n) (h1 : n ≤ 30) (h : EOk n es) (hl : fs.length ≤ es.length) (hf : ∀ i ∈ fs, 0 ≤ i ∧ i < es.length) : ∃ L, p_links_of n es fs = .ok L := by
  have hle := h.len
  have e1 : n = cN n.toNat := by unfold cN; omega
  have e2 : es = (es.map fun e => (e.1.toNat, e.2.toNat)).map cE := by
    rw [List.map_map]
    conv => lhs; rw [← List.map_id es]
    apply List.map_congr_left
    intro e he
    have := h.ed e he
    unfold cE
    simp only [Function.comp, id]
    cases e
    simp at this ⊢
    omega
  have e3 : fs = (fs.map Int.toNat).map cN := by
    rw [List.map_map]
    conv => lhs; rw [← List.map_id fs]
    apply List.map_congr_left
    intro i hi
    have := hf i hi
    unfold cN
    simp only [Function.comp, id]
    omega
  have ok : LinkOk (cN n.toNat) ((es.map fun e => (e.1.toNat, e.2.toNat)).map cE) ((fs.map Int.toNat).map cN) (n.toNat, es.map fun e => (e.1.toNat, e.2.toNat), fs.map Int.toNat) := by
    refine ⟨rfl, rfl, rfl, by dsimp only; omega, by simp; omega, ?_, ?_⟩
    · intro i hi
      obtain ⟨j, hj, rfl⟩ := List.mem_map.mp hi
      have := hf j hj
      simp; omega
    · intro e he
      obtain ⟨d, hd, rfl⟩ := List.mem_map.mp he
      have := h.ed d hd
      dsimp only
      omega
  have := links_val ok
  rw [← e1, ← e2, ← e3] at this
  exact ⟨_, this⟩
theorem web_eq {n m : Int} {es : List Edge} (h0 : 1 ≤ n) (h1 : n ≤ 30) (h : EOk n es) (m0 : 0 ≤ m) (m1 : m ≤ 60) (m2 : m ≠ 1) : ∃ w, p_Web___init__ n es m = .ok w ∧ w.own_size = n ∧ w.own_edges = es ∧ w.own_modulus = m := by
  obtain ⟨fs, f1, f2, f3⟩ := forest_eq h0 h1 h
  obtain ⟨L, l1⟩ := links_eq h0 h1 h f2 f3
  refine ⟨⟨n, es, m, fs, L⟩, ?_, rfl, rfl, rfl⟩
  unfold p_Web___init__ p_is_modulus
  simp [is_within_eq, check_edges_eq h, f1, l1, bndE, purE, lftE, E.bind, eqB, h0, h1, m0, m1, m2]
/-! ### what is drawn -/
theorem takeW_ok {s : Int} {Q : Int → Prop} {X : Str → D → Prop} (h0 : 0 < s) (h1 : s ≤ 10 ^ 30) (h : ∀ r, 0 ≤ r → r < s → Q r) : takeW s Q X := ⟨h0, by omega, h⟩
theorem modulus_W {Q : Int → Prop} {X : Str → D → Prop} (h : ∀ m : Int, 0 ≤ m → m ≤ 60 → m ≠ 1 → Q m) : p__law_modulus Q X := by
  unfold p__law_modulus
  simp only [pur_bndW, bnd_assocW]
  rw [bndWa]
  refine takeW_ok (by decide) (by decide) (fun r r0 r1 => ?_)
  obtain ⟨k, rfl⟩ := Int.eq_ofNat_of_zero_le r0
  have hk : k < 8 := by omega
  have key : ∀ k < 8, ∃ m : Int, ([0, 0, 2, 3, 4, 5, 12, 60] : List Int)[k]? = some m ∧ 0 ≤ m ∧ m ≤ 60 ∧ m ≠ 1 := by
    intro k hk
    match k, hk with
    | 0, _ => exact ⟨0, rfl, by decide, by decide, by decide⟩
    | 1, _ => exact ⟨0, rfl, by decide, by decide, by decide⟩
    | 2, _ => exact ⟨2, rfl, by decide, by decide, by decide⟩
    | 3, _ => exact ⟨3, rfl, by decide, by decide, by decide⟩
    | 4, _ => exact ⟨4, rfl, by decide, by decide, by decide⟩
    | 5, _ => exact ⟨5, rfl, by decide, by decide, by decide⟩
    | 6, _ => exact ⟨12, rfl, by decide, by decide, by decide⟩
    | 7, _ => exact ⟨60, rfl, by decide, by decide, by decide⟩
  obtain ⟨m, hm, a, b, c⟩ := key k hk
  refine bndW_ok (ixL_nat hm) ?_
  rw [purWa]
  exact h m a b c
theorem links_W {n most : Int} {Q : List Edge → Prop} {X : Str → D → Prop} (hn : 0 < n) (hn2 : n ≤ 1000) (hm : 0 ≤ most) (hm2 : most ≤ 1000) (h : ∀ es : List Edge, (es.length : Int) ≤ most → (∀ e ∈ es, 0 ≤ e.1 ∧ e.1 < n ∧ 0 ≤ e.2 ∧ e.2 < n) → Q es) : p__law_links n most Q X := by
  unfold p__law_links
  simp only [pur_bndW, bnd_assocW]
  rw [bndWa]
  refine takeW_ok (by omega) (by omega) (fun r r0 r1 => ?_)
  refine bndW_ok (rgW_ok (by omega) (by omega) (by omega) (by omega)) ?_
  rw [bndWa]
  refine forM_W (fun pre b => b.length = pre.length ∧ ∀ e ∈ b, 0 ≤ e.1 ∧ e.1 < n ∧ 0 ≤ e.2 ∧ e.2 < n) ⟨rfl, by simp⟩ (fun pre x post b e j Q' hq => ?_) (fun b j => ?_)
  · rw [bndWa]
    refine takeW_ok (by omega) (by omega) (fun u u0 u1 => ?_)
    rw [bndWa]
    refine takeW_ok (by omega) (by omega) (fun v v0 v1 => ?_)
    have hp : pre.length < (rg 0 r).length := by rw [e]; simp
    rw [rg_len] at hp
    refine bndW_ok (appL_ok (by rw [j.1]; omega)) ?_
    rw [purWa]
    refine hq _ ⟨by simp [j.1], fun d hd => ?_⟩
    rcases List.mem_append.mp hd with z | z
    · exact j.2 d z
    · simp at z; subst z; exact ⟨u0, u1, v0, v1⟩
  · rw [purWa]
    exact h b (by rw [j.1, rg_len]; omega) j.2
theorem number_W {m : Int} {Q : Int → Prop} {X : Str → D → Prop} (m0 : 0 ≤ m) (m1 : m ≤ 60) (h : ∀ x, isres m x = true → Q x) : p__law_number m Q X := by
  unfold p__law_number
  rw [pur_bndW]
  by_cases hm : 0 < m
  · rw [if_pos (decide_eq_true hm)]
    simp only [pur_bndW, bnd_assocW]
    rw [bndWa]
    refine takeW_ok hm (by omega) (fun r r0 r1 => ?_)
    rw [purWa]
    refine h r ?_
    unfold isres
    rw [if_neg (by omega)]
    simp; omega
  · rw [if_neg (by simp; omega)]
    have hz : m = 0 := by omega
    have hq : ∀ x, Q x := fun x => h x (by unfold isres; rw [if_pos hz])
    simp only [pur_bndW, bnd_assocW, lok_bndW]
    rw [bndWa]
    refine takeW_ok (by decide) (by decide) (fun r r0 r1 => ?_)
    rw [bndWa]
    refine takeW_ok (by decide) (by decide) (fun u u0 u1 => ?_)
    rw [bndWa]
    refine takeW_ok (by decide) (by decide) (fun v v0 v1 => ?_)
    refine bndW_ok (ixL_lt v0 (by simpa using v1)) ?_
    rw [purWa]
    exact hq _
theorem numbers_W {m c : Int} {Q : List Int → Prop} {X : Str → D → Prop} (m0 : 0 ≤ m) (m1 : m ≤ 60) (c0 : 0 ≤ c) (c1 : c ≤ 1000) (h : ∀ l : List Int, (l.length : Int) = c → (∀ x ∈ l, isres m x = true) → Q l) : p__law_numbers m c Q X := by
  unfold p__law_numbers
  simp only [pur_bndW, bnd_assocW]
  refine bndW_ok (rgW_ok (by omega) (by omega) (by omega) (by omega)) ?_
  rw [bndWa]
  refine lc_W (fun x => isres m x = true) (by rw [rg_len]; omega) (fun x _ Q' hq => number_W m0 m1 hq) (fun ys hl hys => ?_)
  rw [purWa]
  exact h ys (by rw [hl, rg_len]; omega) hys
end Lw

set_option Elab.async false
set_option linter.all false
set_option maxRecDepth 100000
set_option maxHeartbeats 1000000
/-! XF: rows mixed; round walks drawn. -/
namespace TL
open PySem L2 DL
open Mo (pur bnd lft)
theorem lokW {α : Type} (a : α) : (lft (E.ok a) : W α) = pur a := by rw [lftW, purW]; rfl
theorem noxW {α : Type} (a : α) : nox (pur a : W α) = pur a := by unfold nox; rw [trW, purW]
theorem comp_Wok {α β : Type} {c : α → W Bool} {f : α → W β} (p : α → Bool) (g : α → β) : ∀ xs : List α, (∀ x ∈ xs, c x = pur (p x) ∧ (p x = true → f x = pur (g x))) → compM c f xs = pur ((xs.filter p).map g)
  | [], _ => by rw [compM]; rfl
  | x :: xs, h => by
    obtain ⟨h1, h2⟩ := h x (by simp)
    have ih := comp_Wok p g xs (fun y hy => h y (by simp [hy]))
    rw [compM, h1, noxW, pur_bndW]
    cases q : p x with
    | true => rw [if_pos rfl, h2 q, noxW, pur_bndW, ih, pur_bndW]; simp [q]
    | false => rw [if_neg (by decide), ih]; simp [q]
theorem lc_Wok {α β : Type} {c : α → W Bool} {f : α → W β} (p : α → Bool) (g : α → β) {xs : List α} (hl : xs.length ≤ 10000) (h : ∀ x ∈ xs, c x = pur (p x) ∧ (p x = true → f x = pur (g x))) : lcM xs c f = pur ((xs.filter p).map g) := by
  unfold lcM szL
  rw [if_pos (sl_small hl), lok_bndW, comp_Wok p g xs h]
theorem lc_Wmap {α β : Type} {f : α → W β} (g : α → β) {xs : List α} (hl : xs.length ≤ 10000) (h : ∀ x ∈ xs, f x = pur (g x)) : lcM xs (fun _ => pur true) f = pur (xs.map g) := by
  rw [lc_Wok (fun _ => true) g hl (fun x hx => ⟨rfl, fun _ => h x hx⟩)]
  congr 2
  exact List.filter_eq_self.mpr (fun _ _ => rfl)
theorem dhas_get {α : Type} {d : Dc α} {k : Int} (h : dhas d k = true) : ∃ v, dget d k = .ok v ∧ (k, v) ∈ d.kv := by
  unfold dhas dfind at h
  unfold dget dfind
  cases q : d.kv.find? fun p => decide (p.1 = k) with
  | none => rw [q] at h; cases h
  | some p =>
    have h1 := List.find?_some q
    have h2 := List.mem_of_find?_eq_some q
    have : p.1 = k := of_decide_eq_true h1
    exact ⟨p.2, rfl, by rw [← this]; exact h2⟩
theorem dhas_iff {α : Type} {d : Dc α} {k : Int} : dhas d k = true ↔ k ∈ d.kv.map (·.1) := by
  unfold dhas dfind
  rw [Option.isSome_map, List.find?_isSome]
  simp
theorem dput_new {α : Type} {d : Dc α} {k : Int} {v : α} (h : dhas d k = false) (hl : d.kv.length < 10000) : dput d k v = .ok ⟨d.kv ++ [(k, v)]⟩ := by
  unfold dput dputV
  rw [if_pos (Nat.lt_of_lt_of_le hl (by decide))]
  have : (d.kv.any fun p => decide (p.1 = k)) = false := by
    cases q : d.kv.any fun p => decide (p.1 = k) with
    | false => rfl
    | true =>
      obtain ⟨p, h1, h2⟩ := List.any_eq_true.mp q
      have e := of_decide_eq_true h2
      have : dhas d k = true := dhas_iff.mpr (List.mem_map.mpr ⟨p, h1, e⟩)
      rw [h] at this; cases this
  rw [this, if_neg (by decide)]
end TL
namespace Lw
open PySem L2 DL TL
open Mo (pur bnd lft)
theorem mixed_W {rows : List (Int × Int)} {Q : List (Int × Int) → Prop} {X : Str → D → Prop} (hl : rows.length ≤ 500) (h : ∀ l : List (Int × Int), l.Perm rows → Q l) : p__law_mixed rows Q X := by
  unfold p__law_mixed
  simp only [pur_bndW, bnd_assocW]
  rw [bndWa]
  refine forM_W (fun pre b => b.Perm pre) (List.Perm.nil) (fun pre x post b e j Q' hq => ?_) (fun b j => ?_)
  · have hp : pre.length ≤ rows.length := by rw [e]; simp
    have hb := j.length_eq
    rw [bndWa]
    refine takeW_ok (by omega) (by omega) (fun r r0 r1 => ?_)
    refine bndW_ok (insL_ok (by omega) r0 (by omega)) ?_
    rw [purWa]
    refine hq _ ?_
    have : (b.take r.toNat ++ [x] ++ b.drop r.toNat).Perm (b.take r.toNat ++ b.drop r.toNat ++ [x]) := by
      rw [List.append_assoc, List.append_assoc]
      exact List.Perm.append_left _ List.perm_append_comm
    rw [List.take_append_drop] at this
    exact this.trans (j.append_right [x])
  · rw [purWa]
    exact h b j
/-! ### closed under the links -/
theorem pigeon : ∀ (n : Nat) (l : List Int), l.Nodup → (∀ x ∈ l, 0 ≤ x ∧ x < n) → l.length ≤ n
  | 0, l, _, h => by
    cases l with
    | nil => simp
    | cons x l => have := h x (by simp); omega
  | n + 1, l, hn, h => by
    by_cases hm : (n : Int) ∈ l
    · have p := List.perm_cons_erase hm
      have e := p.length_eq
      have := pigeon n (l.erase n) (hn.erase _) (fun x hx => by
        have h1 := h x (List.mem_of_mem_erase hx)
        have h2 : x ≠ n := fun z => by
          subst z
          exact (List.Nodup.mem_erase_iff hn).mp hx |>.1 rfl
        omega)
      simp at e
      omega
    · have := pigeon n l hn (fun x hx => by
        have h1 := h x hx
        have h2 : x ≠ n := fun z => hm (z ▸ hx)
        omega)
      omega
abbrev PD := Dc (List (Int × Int))
structure DJ (es : List Edge) (n start : Int) (d : PD) : Prop where
  lead : ∀ p ∈ d.kv, Leads es start p.2 p.1
  len : ∀ p ∈ d.kv, p.2.length < d.kv.length
  nd : (d.kv.map (·.1)).Nodup
  rng : ∀ p ∈ d.kv, 0 ≤ p.1 ∧ p.1 < n
theorem DJ.sz {es : List Edge} {n : Nat} {start : Int} {d : PD} (h : DJ es n start d) : d.kv.length ≤ n := by
  have := pigeon n (d.kv.map (·.1)) h.nd (fun x hx => by
    obtain ⟨p, hp, rfl⟩ := List.mem_map.mp hx
    exact h.rng p hp)
  simpa using this
def Closed (es : List Edge) (d : PD) : Prop := ∀ e ∈ es, dhas d e.1 = dhas d e.2
theorem has_app {d : PD} {k j : Int} {v : List (Int × Int)} : dhas (⟨d.kv ++ [(k, v)]⟩ : PD) j = (dhas d j || decide (k = j)) := by
  cases q : dhas d j with
  | true => rw [Bool.true_or]; rw [dhas_iff] at q ⊢; simp at q ⊢; exact .inl q
  | false =>
    rw [Bool.false_or]
    by_cases e : k = j
    · rw [decide_eq_true e]; rw [dhas_iff]; simp [e]
    · rw [decide_eq_false e]
      cases z : dhas (⟨d.kv ++ [(k, v)]⟩ : PD) j with
      | false => rfl
      | true =>
        rw [dhas_iff] at z
        simp at z
        rcases z with z | z
        · have : dhas d j = true := dhas_iff.mpr (by simpa using z)
          rw [q] at this; cases this
        · exact (e z.symm).elim
/-- a node more -/
theorem dj_put {es : List Edge} {n start : Int} {d : PD} {a b : Int} {v s : List (Int × Int)} (h : DJ es n start d) (hv : (a, v) ∈ d.kv) (hs : Leads es a s b) (h1 : s.length = 1) (hb : dhas d b = false) (b0 : 0 ≤ b) (b1 : b < n) : DJ es n start ⟨d.kv ++ [(b, v ++ s)]⟩ := by
  refine ⟨fun p hp => ?_, fun p hp => ?_, ?_, fun p hp => ?_⟩
  · rcases List.mem_append.mp hp with z | z
    · exact h.lead p z
    · simp at z; subst z; exact (h.lead _ hv).app hs
  · rcases List.mem_append.mp hp with z | z
    · have := h.len p z; simp; omega
    · simp at z; subst z; have := h.len _ hv; simp at this ⊢; omega
  · rw [List.map_append, List.nodup_append]
    refine ⟨h.nd, by simp, fun x hx y hy => ?_⟩
    simp at hy
    subst hy
    intro z
    subst z
    have := dhas_iff.mpr hx
    rw [hb] at this; cases this
  · rcases List.mem_append.mp hp with z | z
    · exact h.rng p z
    · simp at z; subst z; exact ⟨b0, b1⟩
theorem enI_edge {es : List Edge} {x : Int × Edge} (h : x ∈ enI 0 es) : x.2 ∈ es ∧ StepOk es (x.1, 1) ∧ StepOk es (x.1, -1) ∧ edg es x.1 = x.2 := by
  unfold enI at h
  obtain ⟨y, hy, rfl⟩ := List.mem_map.mp h
  have h2 := List.mem_zipIdx hy
  have hlt : y.2 < es.length := by omega
  refine ⟨List.fst_mem_of_mem_zipIdx hy, ⟨by dsimp only; omega, by dsimp only; omega, .inl rfl⟩, ⟨by dsimp only; omega, by dsimp only; omega, .inr rfl⟩, ?_⟩
  unfold edg
  rw [List.getD_eq_getElem?_getD, Int.toNat_natCast, List.getElem?_eq_getElem hlt]
  have := h2.2.2
  simp at this ⊢
  exact this.symm
/-- one link looked at one way -/
theorem half {es : List Edge} {n : Nat} {start k way : Int} {d : PD} {a b : Int} (hn : n ≤ 1000) (hd : DJ es n start d) (hs : Leads es a [(k, way)] b) (b0 : 0 ≤ b) (b1 : b < n) :
    ∃ d' : PD, (if (dhas d a && !dhas d b) = true then bnd (lft (dget d a)) (fun xs => bnd (lft (catL xs [(k, way)])) fun v => bnd (lft (dput d b v)) fun l => pur l) else (pur d : W PD)) = pur d' ∧ DJ es n start d' ∧
      ((d' = d ∧ (dhas d a = true → dhas d b = true)) ∨ (d.kv.length < d'.kv.length ∧ dhas d a = true ∧ dhas d b = false)) := by
  have sz := hd.sz
  cases ha : dhas d a with
  | false => exact ⟨d, by rw [if_neg (by simp)], hd, .inl ⟨rfl, fun z => by cases z⟩⟩
  | true =>
    cases hb : dhas d b with
    | true => exact ⟨d, by rw [if_neg (by simp)], hd, .inl ⟨rfl, fun _ => rfl⟩⟩
    | false =>
      obtain ⟨v, hv, hm⟩ := dhas_get ha
      have hl := hd.len _ hm
      refine ⟨⟨d.kv ++ [(b, v ++ [(k, way)])]⟩, ?_, dj_put hd hm hs rfl hb b0 b1, .inr ⟨by simp, rfl, rfl⟩⟩
      rw [if_pos (by decide), hv, lok_bndW, catL_ok (by simp at hl ⊢; omega), lok_bndW, dput_new hb (by omega), lok_bndW]
/-- what a pass has done so far -/
structure PJ (es : List Edge) (n start : Int) (d0 : PD) (pre : List (Int × Edge)) (d : PD) : Prop where
  dj : DJ es n start d
  grow : (d0.kv.length < d.kv.length ∧ ¬ Closed es d0) ∨ (d = d0 ∧ ∀ x ∈ pre, dhas d0 x.2.1 = dhas d0 x.2.2)
theorem pj_step {es : List Edge} {n : Nat} {start : Int} {d0 d d1 d2 : PD} {pre : List (Int × Edge)} {x : Int × Edge} (hx : x.2 ∈ es) (h : PJ es n start d0 pre d) (dj : DJ es n start d2)
    (h1 : (d1 = d ∧ (dhas d x.2.1 = true → dhas d x.2.2 = true)) ∨ (d.kv.length < d1.kv.length ∧ dhas d x.2.1 = true ∧ dhas d x.2.2 = false))
    (h2 : (d2 = d1 ∧ (dhas d1 x.2.2 = true → dhas d1 x.2.1 = true)) ∨ (d1.kv.length < d2.kv.length ∧ dhas d1 x.2.2 = true ∧ dhas d1 x.2.1 = false)) : PJ es n start d0 (pre ++ [x]) d2 := by
  refine ⟨dj, ?_⟩
  have l1 : d.kv.length ≤ d1.kv.length := by rcases h1 with ⟨rfl, _⟩ | ⟨z, _⟩ <;> omega
  have l2 : d1.kv.length ≤ d2.kv.length := by rcases h2 with ⟨rfl, _⟩ | ⟨z, _⟩ <;> omega
  rcases h.grow with ⟨g1, g2⟩ | ⟨rfl, g2⟩
  · exact .inl ⟨by omega, g2⟩
  · rcases h1 with ⟨rfl, a1⟩ | ⟨z, a1, a2⟩
    · rcases h2 with ⟨rfl, a2⟩ | ⟨z, b1, b2⟩
      · refine .inr ⟨rfl, fun y hy => ?_⟩
        rcases List.mem_append.mp hy with q | q
        · exact g2 y q
        · simp at q
          subst q
          cases u : dhas d2 y.2.1 <;> cases v : dhas d2 y.2.2 <;> first | rfl | skip
          · have := a2 v; rw [u] at this; cases this
          · have := a1 u; rw [v] at this; cases this
      · refine .inl ⟨z, fun c => ?_⟩
        have := c x.2 hx
        rw [b1, b2] at this; cases this
    · refine .inl ⟨by omega, fun c => ?_⟩
      have := c x.2 hx
      rw [a1, a2] at this; cases this
theorem round_W {n : Nat} {es : List Edge} {Q : List (Int × Int) → Prop} {X : Str → D → Prop} (hn : 0 < n) (hn2 : n ≤ 30) (he : EOk n es) (h : ∀ l : List (Int × Int), (l = [] ∨ (l ≠ [] ∧ l.length ≤ 100 ∧ ∃ a, Leads es a l a)) → Q l) : p__law_round es n Q X := by
  have hl := he.len
  unfold p__law_round
  simp only [pur_bndW, bnd_assocW, lokW, Bool.false_xor, Bool.true_xor]
  rw [bndWa]
  refine takeW_ok (by omega) (by omega) (fun start s0 s1 => ?_)
  refine bndW_ok (rgW_ok (by omega) (by omega) (by omega) (by omega)) ?_
  rw [bndWa]
  refine forM_W (fun pre d => DJ es n start d ∧ (Closed es d ∨ pre.length + 1 ≤ d.kv.length)) ⟨⟨fun p hp => ?_, fun p hp => ?_, by simp, fun p hp => ?_⟩, .inr (by simp)⟩ (fun pre x post d e j Q' hq => ?_) (fun d j => ?_)
  · simp at hp; subst hp; rfl
  · simp at hp; subst hp; simp
  · simp at hp; subst hp; exact ⟨s0, s1⟩
  · obtain ⟨jd, jc⟩ := j
    rw [bndWa]
    refine forM_W (fun pre b => PJ es n start d pre b) ⟨jd, .inr ⟨rfl, by simp⟩⟩ (fun pre2 y post2 b e2 k Q2 hq2 => ?_) (fun b k => ?_)
    · obtain ⟨y1, y2, y3, y4⟩ := enI_edge (es := es) (x := y) (by rw [e2]; simp)
      have hy := he.ed y.2 y1
      have hl1 : Leads es y.2.1 [(y.1, 1)] y.2.2 := by
        have := Leads.one y2
        unfold ends at this
        rw [if_pos rfl, y4] at this
        exact this
      have hl2 : Leads es y.2.2 [(y.1, -1)] y.2.1 := by
        have := Leads.one y3
        unfold ends at this
        rw [if_neg (show ¬ ((-1 : Int) = 1) by decide), y4] at this
        exact this
      obtain ⟨d1, e1, j1, g1⟩ := half (by omega) k.dj hl1 hy.2.2.1 hy.2.2.2
      obtain ⟨d2, e3, j2, g2⟩ := half (by omega) j1 hl2 hy.1 hy.2.1
      rw [e1, pur_bndW, e3, purWa]
      exact hq2 d2 (pj_step y1 k j2 g1 g2)
    · rw [purWa]
      refine hq b ⟨k.dj, ?_⟩
      rcases k.grow with ⟨g1, g2⟩ | ⟨rfl, g2⟩
      · rcases jc with c | c
        · exact (g2 c).elim
        · exact .inr (by simp; omega)
      · refine .inl (fun e' he' => ?_)
        obtain ⟨i, hi, rfl⟩ := List.mem_iff_getElem.mp he'
        have := g2 ((i : Int), es[i]) (by
          unfold enI
          refine List.mem_map.mpr ⟨(es[i], i), ?_, rfl⟩
          rw [List.mem_iff_getElem?]
          exact ⟨i, by simp [hi]⟩)
        exact this
  · obtain ⟨jd, jc⟩ := j
    have sz := jd.sz
    have cl : Closed es d := by
      rcases jc with c | c
      · exact c
      · rw [rg_len] at c; omega
    refine bndW_ok (rgW_ok (by omega) (by omega) (by omega) (by omega)) ?_
    have hsome := lc_Wok (c := fun x144 => bnd (lft (ixL es x144)) fun a => (pur (dhas d a.fst) : W Bool)) (f := fun x144 : Int => (pur x144 : W Int)) (fun i => dhas d (edg es i).1) id (xs := rg 0 (es.length : Int)) (by rw [rg_len]; omega) (fun i hi => by
      have hi := rg_mem.mp hi
      have e : ixL es i = .ok (edg es i) := ixL_lt hi.1 hi.2
      rw [e, lok_bndW]
      exact ⟨rfl, fun _ => rfl⟩)
    rw [hsome, pur_bndW, List.map_id]
    by_cases em : ((rg 0 (es.length : Int)).filter fun i => dhas d (edg es i).1) = []
    · rw [em, if_pos (by simp [eqB]), purWa]
      exact h [] (.inl rfl)
    · rw [if_neg (by simp only [eqB, decide_eq_true_eq]; exact em)]
      rw [bndWa]
      have hlen : ((rg 0 (es.length : Int)).filter fun i => dhas d (edg es i).1).length ≤ 60 := by
        have := List.length_filter_le (fun i => dhas d (edg es i).1) (rg 0 (es.length : Int))
        rw [rg_len] at this; omega
      have hpos : 0 < ((rg 0 (es.length : Int)).filter fun i => dhas d (edg es i).1).length := List.length_pos_iff.mpr em
      refine takeW_ok (by omega) (by omega) (fun r r0 r1 => ?_)
      obtain ⟨k, rfl⟩ := Int.eq_ofNat_of_zero_le r0
      have hk : k < ((rg 0 (es.length : Int)).filter fun i => dhas d (edg es i).1).length := by omega
      have hm := List.getElem_mem hk
      refine bndW_ok (ixL_nat (List.getElem?_eq_getElem hk)) ?_
      generalize ((rg 0 (es.length : Int)).filter fun i => dhas d (edg es i).1)[k] = i at hm ⊢
      obtain ⟨m1, m2⟩ := List.mem_filter.mp hm
      have hi := rg_mem.mp m1
      refine bndW_ok (ixL_lt hi.1 hi.2) ?_
      show (bnd (lft (dget d (edg es i).1)) _ : W _) Q X
      obtain ⟨v, hv, hvm⟩ := dhas_get m2
      have hie : edg es i ∈ es := by
        obtain ⟨q, rfl⟩ := Int.eq_ofNat_of_zero_le hi.1
        exact edg_mem (by omega)
      have m3 : dhas d (edg es i).2 = true := by rw [← cl _ hie]; exact m2
      obtain ⟨u, hu, hum⟩ := dhas_get m3
      have l1 := jd.len _ hvm
      have l2 := jd.len _ hum
      dsimp only at l1 l2
      refine bndW_ok hv ?_
      refine bndW_ok (catL_ok (by simp; omega)) ?_
      refine bndW_ok hu ?_
      rw [lc_Wmap (fun s : Int × Int => (s.1, 0 - s.2)) (by simp; omega) (fun s _ => rfl), pur_bndW]
      refine bndW_ok (catL_ok (by simp; omega)) ?_
      rw [purWa]
      refine h _ (.inr ⟨by simp, by simp; omega, start, ?_⟩)
      have st : StepOk es (i, 1) := ⟨hi.1, hi.2, .inl rfl⟩
      have one := Leads.one st
      unfold ends at one
      rw [if_pos rfl] at one
      exact ((jd.lead _ hvm).app one).app (jd.lead _ hum).rev
end Lw

set_option Elab.async false
set_option linter.all false
set_option maxRecDepth 100000
set_option maxHeartbeats 2000000
/-! XG: the law k11 is true. -/
namespace Lw
open PySem L2 DL TL
open Mo (pur bnd lft)
theorem cut01 {α : Type} (xs : List α) : cutL xs none (some 1) = xs.take 1 := by
  unfold cutL HT.sIx
  cases xs with
  | nil => simp
  | cons x xs => simp
structure RdOk (w : OWeb) (r : List (Int × Int)) : Prop where
  ne : r ≠ []
  len : r.length ≤ 100
  lead : ∃ a, Leads w.own_edges a r a
theorem led_amt {w : OWeb} {g0 g : List Int} {pre : List (Int × Int)} {x : Int × Int} (hw : WOk w) (h : Led w g0 (amt pre) g) (h0 : 0 ≤ x.1) (h1 : x.1 < w.own_size) : Led w g0 (amt (pre ++ [x])) (swL w.own_modulus w.own_edges g (onE w.own_size x.1 (x.2 % w.own_modulus))) := by
  have := led_sw (B := amt [x]) hw h (p := onE w.own_size x.1 (x.2 % w.own_modulus)) (fun i hi => onE_pv h0 h1 hi)
  have e : (fun i => amt pre i + amt [x] i) = amt (pre ++ [x]) := by funext i; rw [amt_app]
  rw [e] at this
  exact this
theorem order_W {w : OWeb} {held due : List Int} {rows l : List (Int × Int)} {rounds : List (List (Int × Int))} {Q : Fw Unit Bool → Prop} {X : Str → D → Prop} (hw : WOk w) (hh : Gd w held) (hr : ∀ r ∈ rounds, RdOk w r) (hrl : rounds.length ≤ 100) (hl : RowsOk w.own_size l) (hd : Led w held (amt rows) due) (ha : ∀ i, amt l i = amt rows i) (hq : Q (.nx ())) :
    bnd (forF (ρ := Bool) (fun (b370 : List Int) (x371 : Int × Int) => bnd (lft (p_switch w b370 x371.1 x371.2)) fun (here : List Int) => bnd (lcM rounds (fun _ => pur true) (fun x428 => lft (p_walk_sum w here x428))) fun x430 => if (!eqB x430 (rounds.map fun r => wsum held r % w.own_modulus)) = true then pur (Fw.rt false) else pur (Fw.nx here)) l held)
      (outF (fun (b370 : List Int) => if (!eqB b370 due) = true then pur (Fw.rt false) else pur (Fw.nx ())) (fun r => (pur (Fw.rt r) : W (Fw Unit Bool)))) Q X := by
  rw [bndWa]
  refine forF_Wp (fun pre b => Led w held (amt pre) b ∧ ∀ r ∈ rounds, wsum b r % w.own_modulus = wsum held r % w.own_modulus) ⟨?_, fun _ _ => rfl⟩ (fun pre x post b e j Q' hq' => ?_) (fun b j => ?_)
  · have := led_0 hh
    have e : (fun _ : Int => (0 : Int)) = amt [] := by funext i; rfl
    rw [e] at this
    exact this
  · obtain ⟨jl, jr⟩ := j
    have hx := hl x (by rw [e]; simp)
    refine bndW_ok (switch_eq hw jl.gd hx.1 hx.2 (onE_pt hw)) ?_
    have jl2 := led_amt hw jl hx.1 hx.2
    rw [lc_Wmap (fun r => wsum held r % w.own_modulus) (by omega) (fun r hrr => by
      obtain ⟨a, la⟩ := (hr r hrr).lead
      rw [walk_sum_eq hw jl2.gd la (hr r hrr).ne (by have := (hr r hrr).len; omega), wsum_closed jl.gd.len la, jr r hrr, lokW]), pur_bndW, if_neg (by simp [eqB]), purWa]
    refine hq' _ ⟨jl2, fun r hrr => ?_⟩
    obtain ⟨a, la⟩ := (hr r hrr).lead
    rw [wsum_closed jl.gd.len la, jr r hrr]
  · show (if (!eqB b due) = true then (pur (Fw.rt false) : W (Fw Unit Bool)) else pur (Fw.nx ())) Q X
    have e : b = due := led_uniq hw j.1 hd ha
    rw [e, if_neg (by simp [eqB]), purWa]
    exact hq
theorem law_W (s : Scr) : p_law s (fun v => v = true) (fun _ _ => False) := by
  unfold p_law
  simp only [pur_bndW, bnd_assocW, lokW, Bool.false_xor, Bool.true_xor]
  have hb : ∀ z : Int, (if z > 1 then z else 1) = max z 1 := fun z => by split <;> omega
  refine bndW_ok (rgW_ok (by omega) (by omega) (by split <;> split <;> omega) (by split <;> split <;> omega)) ?_
  rw [bndWa]
  refine forF_W (fun _ => True) trivial (fun b x hx _ Q' hq => ?_) (fun b _ => ?_)
  · have hx := rg_mem.mp hx
    have hx2 : x < 100 := by have := hx.2; revert this; split <;> split <;> omega
    have hg : grdC (decide (0 ≤ x) && decide (x < 100)) = .ok () := by
      unfold grdC
      rw [if_pos (by simp; omega)]
    refine bndW_ok hg ?_
    rw [bndWa]
    refine takeW_ok (by decide) (by decide) (fun a a0 a1 => ?_)
    rw [bndWa]
    refine modulus_W (fun m m0 m1 m2 => ?_)
    rw [bndWa]
    refine links_W (by omega) (by omega) (by decide) (by decide) (fun es el ee => ?_)
    obtain ⟨n, hn⟩ : ∃ n : Nat, 1 + a = n := Int.eq_ofNat_of_zero_le (by omega)
    rw [hn] at ee ⊢
    have eok : EOk n es := ⟨by omega, ee⟩
    obtain ⟨w, w1, w2, w3, w4⟩ := web_eq (m := m) (by omega : (1 : Int) ≤ n) (by omega) eok m0 m1 m2
    have hw : WOk w := ⟨by rw [w2]; omega, by rw [w2]; omega, by rw [w3]; exact eok.len, by rw [w2, w3]; exact ee, by rw [w4]; exact m0, by rw [w4]; exact m1⟩
    refine bndW_ok w1 ?_
    rw [bndWa]
    refine numbers_W m0 m1 (by omega) (by omega) (fun held hl hres => ?_)
    have hh : Gd w held := ⟨by rw [w3]; omega, by rw [w4]; exact hres⟩
    rw [bndWa]
    refine takeW_ok (by decide) (by decide) (fun c c0 c1 => ?_)
    refine bndW_ok (rgW_ok (by omega) (by omega) (by omega) (by omega)) ?_
    rw [bndWa]
    refine lc_W (fun r : Int × Int => 0 ≤ r.1 ∧ r.1 < n) (by rw [rg_len]; omega) (fun y _ Q2 hq2 => ?_) (fun rows rl hrows => ?_)
    · rw [bndWa]
      refine takeW_ok (by omega) (by omega) (fun u u0 u1 => ?_)
      rw [bndWa]
      refine number_W (by decide) (by decide) (fun v _ => ?_)
      rw [purWa]
      exact hq2 _ ⟨u0, u1⟩
    rw [rg_len] at rl
    have hro : RowsOk w.own_size rows := by rw [w2]; exact hrows
    refine bndW_ok (rgW_ok (by decide) (by decide) (by decide) (by decide)) ?_
    rw [bndWa]
    refine lc_W (fun l => l = [] ∨ (l ≠ [] ∧ l.length ≤ 100 ∧ ∃ a, Leads es a l a)) (by rw [rg_len]; decide) (fun y _ Q2 hq2 => round_W (by omega) (by omega) eok hq2) (fun rs rsl hrs => ?_)
    rw [rg_len] at rsl
    have hmap : ∀ xs : List (List (Int × Int)), xs.map (fun l => l) = xs := List.map_id
    rw [lc_Wok (fun l => !eqB l []) (fun l => l) (by omega) (fun l hl => ⟨rfl, fun _ => rfl⟩), pur_bndW, hmap]
    have hrd : ∀ r ∈ rs.filter (fun l => !eqB l []), RdOk w r := fun r hr => by
      obtain ⟨h1, h2⟩ := List.mem_filter.mp hr
      rcases hrs r h1 with z | ⟨z1, z2, z3⟩
      · subst z; simp [eqB] at h2
      · exact ⟨z1, z2, by rw [w3]; exact z3⟩
    have hrl : (rs.filter (fun l => !eqB l [])).length ≤ 100 := by
      have := List.length_filter_le (fun l => !eqB l []) rs
      omega
    generalize rs.filter (fun l => !eqB l []) = rounds at hrd hrl ⊢
    rw [lc_Wmap (fun r => wsum held r % w.own_modulus) (by omega) (fun r hrr => by
      obtain ⟨a, la⟩ := (hrd r hrr).lead
      rw [walk_sum_eq hw hh la (hrd r hrr).ne (by have := (hrd r hrr).len; omega), lokW]), pur_bndW]
    obtain ⟨p, p1, p2, p3⟩ := potential_of_eq hw hro
    refine bndW_ok p1 ?_
    refine bndW_ok (switched_eq hw hh p2) ?_
    have hdue : Led w held (amt rows) (swL w.own_modulus w.own_edges held p) := by
      have := led_sw (B := amt rows) hw (led_0 hh) p3
      have e : (fun i => (0 : Int) + amt rows i) = amt rows := by funext i; omega
      rw [e] at this
      exact this
    generalize swL w.own_modulus w.own_edges held p = due at hdue ⊢
    rw [cut01, cut1]
    have rle : rows.length ≤ 15 := by omega
    rw [lc_Wmap (fun y : Int × Int => (y.1, y.2 - 7)) (by simp; omega) (fun y _ => rfl), pur_bndW]
    refine bndW_ok (catL_ok (by simp; omega)) ?_
    rw [lc_Wmap (fun y : Int × Int => (y.1, (7 : Int))) (by simp; omega) (fun y _ => rfl), pur_bndW]
    refine bndW_ok (catL_ok (by simp; omega)) ?_
    rw [bndWa]
    refine mixed_W (by omega) (fun l1 q1 => ?_)
    rw [bndWa]
    refine mixed_W (by simp; omega) (fun l2 q2 => ?_)
    have r1 : RowsOk w.own_size l1 := fun r hr => hro r (q1.subset hr)
    have a1 : ∀ i, amt l1 i = amt rows i := fun i => amt_perm q1 i
    have a2 : ∀ i, amt l2 i = amt rows i := fun i => by
      rw [amt_perm q2 i, amt_app, amt_app]
      cases rows with
      | nil => simp [amt]
      | cons r rows =>
        simp only [List.drop_succ_cons, List.drop_zero, List.take_succ_cons, List.take_zero, List.map_cons, List.map_nil, amt_one, amt_cons]
        have z0 : amt ([] : List (Int × Int)) i = 0 := rfl
        split <;> omega
    have r2 : RowsOk w.own_size l2 := fun r hr => by
      have hr := q2.subset hr
      simp only [List.mem_append, List.mem_map] at hr
      rcases hr with (z | ⟨y, hy, rfl⟩) | ⟨y, hy, rfl⟩
      · exact hro r (List.mem_of_mem_drop z)
      · exact hro y (List.mem_of_mem_take hy)
      · exact hro y (List.mem_of_mem_take hy)
    rw [bndWa]
    refine forF_W (fun _ => True) trivial (fun b l hl _ Q3 hq3 => ?_) (fun b _ => ?_)
    · have hl' : RowsOk w.own_size l ∧ ∀ i, amt l i = amt rows i := by
        simp at hl
        rcases hl with rfl | rfl
        · exact ⟨r1, a1⟩
        · exact ⟨r2, a2⟩
      exact order_W hw hh hrd hrl hl'.1 hdue hl'.2 (hq3 () trivial)
    · show (pur (Fw.nx ()) : W (Fw Unit Bool)) Q' _
      rw [purWa]
      exact hq () trivial
  · show (pur (id true) : W Bool) _ _
    rw [purWa]
    rfl
theorem law_true (ns : List Int) : ∃ M', F_law [scr ns] [] = .ok (.bl true) M' := law_end (t_law ⟨ns⟩) (law_W ⟨ns⟩)
end Lw

set_option Elab.async false
set_option linter.all false
set_option maxRecDepth 100000
set_option maxHeartbeats 4000000
namespace Lw
open PySem L2 DL
def top (i : Nat) : Stmt := PySem.Challenge.pw_turnedties_k11_whole_switches_in_any_ord.main.body.getD i (.Pass ⟨0, 0, 0, 0⟩)
abbrev s_reduced_number : Stmt := top 15
def d_reduced_number : He.DefD := ⟨("reduced_number", none), "reduced_number", "reduced_number", defArgs s_reduced_number, defBody s_reduced_number, defScope s_reduced_number, [], []⟩
abbrev s_forest_of : Stmt := top 16
def d_forest_of : He.DefD := ⟨("forest_of", none), "forest_of", "forest_of", defArgs s_forest_of, defBody s_forest_of, defScope s_forest_of, [], []⟩
abbrev s_links_of : Stmt := top 17
def d_links_of : He.DefD := ⟨("links_of", none), "links_of", "links_of", defArgs s_links_of, defBody s_links_of, defScope s_links_of, [], []⟩
abbrev s_is_integer : Stmt := top 22
def d_is_integer : He.DefD := ⟨("is_integer", none), "is_integer", "is_integer", defArgs s_is_integer, defBody s_is_integer, defScope s_is_integer, [], []⟩
abbrev s_is_within : Stmt := top 23
def d_is_within : He.DefD := ⟨("is_within", none), "is_within", "is_within", defArgs s_is_within, defBody s_is_within, defScope s_is_within, [], []⟩
abbrev s_is_edge : Stmt := top 24
def d_is_edge : He.DefD := ⟨("is_edge", none), "is_edge", "is_edge", defArgs s_is_edge, defBody s_is_edge, defScope s_is_edge, [], []⟩
abbrev s_is_modulus : Stmt := top 25
def d_is_modulus : He.DefD := ⟨("is_modulus", none), "is_modulus", "is_modulus", defArgs s_is_modulus, defBody s_is_modulus, defScope s_is_modulus, [], []⟩
abbrev s_check_edges : Stmt := top 26
def d_check_edges : He.DefD := ⟨("check_edges", none), "check_edges", "check_edges", defArgs s_check_edges, defBody s_check_edges, defScope s_check_edges, [], []⟩
abbrev s_Web___init__ : Stmt := inClass (top 27) 0
def d_Web___init__ : He.DefD := ⟨("Web", some "__init__"), "__init__", "Web.__init__", defArgs s_Web___init__, defBody s_Web___init__, defScope s_Web___init__, [.adr (He.dflAt ("Web", some "__init__") 0)], [("modulus", .int 0)]⟩
abbrev s_Web_size : Stmt := inClass (top 27) 1
def d_Web_size : He.DefD := ⟨("Web", some "size"), "size", "Web.size", defArgs s_Web_size, defBody s_Web_size, defScope s_Web_size, [], []⟩
abbrev s_Web_modulus : Stmt := inClass (top 27) 2
def d_Web_modulus : He.DefD := ⟨("Web", some "modulus"), "modulus", "Web.modulus", defArgs s_Web_modulus, defBody s_Web_modulus, defScope s_Web_modulus, [], []⟩
abbrev s_Web_edges : Stmt := inClass (top 27) 3
def d_Web_edges : He.DefD := ⟨("Web", some "edges"), "edges", "Web.edges", defArgs s_Web_edges, defBody s_Web_edges, defScope s_Web_edges, [], []⟩
abbrev s_Web_edge : Stmt := inClass (top 27) 4
def d_Web_edge : He.DefD := ⟨("Web", some "edge"), "edge", "Web.edge", defArgs s_Web_edge, defBody s_Web_edge, defScope s_Web_edge, [], []⟩
abbrev s_Web___len__ : Stmt := inClass (top 27) 9
def d_Web___len__ : He.DefD := ⟨("Web", some "__len__"), "__len__", "Web.__len__", defArgs s_Web___len__, defBody s_Web___len__, defScope s_Web___len__, [], []⟩
abbrev s_check_node : Stmt := top 28
def d_check_node : He.DefD := ⟨("check_node", none), "check_node", "check_node", defArgs s_check_node, defBody s_check_node, defScope s_check_node, [], []⟩
abbrev s_is_step : Stmt := top 29
def d_is_step : He.DefD := ⟨("is_step", none), "is_step", "is_step", defArgs s_is_step, defBody s_is_step, defScope s_is_step, [], []⟩
abbrev s_step_ends : Stmt := top 30
def d_step_ends : He.DefD := ⟨("step_ends", none), "step_ends", "step_ends", defArgs s_step_ends, defBody s_step_ends, defScope s_step_ends, [], []⟩
abbrev s_is_walk : Stmt := top 31
def d_is_walk : He.DefD := ⟨("is_walk", none), "is_walk", "is_walk", defArgs s_is_walk, defBody s_is_walk, defScope s_is_walk, [], []⟩
abbrev s_residue : Stmt := top 33
def d_residue : He.DefD := ⟨("residue", none), "residue", "residue", defArgs s_residue, defBody s_residue, defScope s_residue, [], []⟩
abbrev s_is_residue : Stmt := top 34
def d_is_residue : He.DefD := ⟨("is_residue", none), "is_residue", "is_residue", defArgs s_is_residue, defBody s_is_residue, defScope s_is_residue, [], []⟩
abbrev s_are_residues : Stmt := top 35
def d_are_residues : He.DefD := ⟨("are_residues", none), "are_residues", "are_residues", defArgs s_are_residues, defBody s_are_residues, defScope s_are_residues, [], []⟩
abbrev s_is_gains : Stmt := top 36
def d_is_gains : He.DefD := ⟨("is_gains", none), "is_gains", "is_gains", defArgs s_is_gains, defBody s_is_gains, defScope s_is_gains, [], []⟩
abbrev s_is_potential : Stmt := top 37
def d_is_potential : He.DefD := ⟨("is_potential", none), "is_potential", "is_potential", defArgs s_is_potential, defBody s_is_potential, defScope s_is_potential, [], []⟩
abbrev s_check_gains : Stmt := top 38
def d_check_gains : He.DefD := ⟨("check_gains", none), "check_gains", "check_gains", defArgs s_check_gains, defBody s_check_gains, defScope s_check_gains, [], []⟩
abbrev s_check_potential : Stmt := top 39
def d_check_potential : He.DefD := ⟨("check_potential", none), "check_potential", "check_potential", defArgs s_check_potential, defBody s_check_potential, defScope s_check_potential, [], []⟩
abbrev s_walk_sum : Stmt := top 40
def d_walk_sum : He.DefD := ⟨("walk_sum", none), "walk_sum", "walk_sum", defArgs s_walk_sum, defBody s_walk_sum, defScope s_walk_sum, [], []⟩
abbrev s_switched : Stmt := top 42
def d_switched : He.DefD := ⟨("switched", none), "switched", "switched", defArgs s_switched, defBody s_switched, defScope s_switched, [], []⟩
abbrev s_switch : Stmt := top 43
def d_switch : He.DefD := ⟨("switch", none), "switch", "switch", defArgs s_switch, defBody s_switch, defScope s_switch, [], []⟩
abbrev s_is_switch : Stmt := top 44
def d_is_switch : He.DefD := ⟨("is_switch", none), "is_switch", "is_switch", defArgs s_is_switch, defBody s_is_switch, defScope s_is_switch, [], []⟩
abbrev s_potential_of : Stmt := top 45
def d_potential_of : He.DefD := ⟨("potential_of", none), "potential_of", "potential_of", defArgs s_potential_of, defBody s_potential_of, defScope s_potential_of, [], []⟩
abbrev s__law_pool : Stmt := top 47
def d__law_pool : He.DefD := ⟨("_law_pool", none), "_law_pool", "_law_pool", defArgs s__law_pool, defBody s__law_pool, defScope s__law_pool, [], []⟩
abbrev s__law_take : Stmt := top 48
def d__law_take : He.DefD := ⟨("_law_take", none), "_law_take", "_law_take", defArgs s__law_take, defBody s__law_take, defScope s__law_take, [], []⟩
abbrev s__law_modulus : Stmt := top 49
def d__law_modulus : He.DefD := ⟨("_law_modulus", none), "_law_modulus", "_law_modulus", defArgs s__law_modulus, defBody s__law_modulus, defScope s__law_modulus, [], []⟩
abbrev s__law_links : Stmt := top 50
def d__law_links : He.DefD := ⟨("_law_links", none), "_law_links", "_law_links", defArgs s__law_links, defBody s__law_links, defScope s__law_links, [], []⟩
abbrev s__law_number : Stmt := top 52
def d__law_number : He.DefD := ⟨("_law_number", none), "_law_number", "_law_number", defArgs s__law_number, defBody s__law_number, defScope s__law_number, [], []⟩
abbrev s__law_numbers : Stmt := top 53
def d__law_numbers : He.DefD := ⟨("_law_numbers", none), "_law_numbers", "_law_numbers", defArgs s__law_numbers, defBody s__law_numbers, defScope s__law_numbers, [], []⟩
abbrev s__law_mixed : Stmt := top 54
def d__law_mixed : He.DefD := ⟨("_law_mixed", none), "_law_mixed", "_law_mixed", defArgs s__law_mixed, defBody s__law_mixed, defScope s__law_mixed, [], []⟩
abbrev s__law_round : Stmt := top 55
def d__law_round : He.DefD := ⟨("_law_round", none), "_law_round", "_law_round", defArgs s__law_round, defBody s__law_round, defScope s__law_round, [], []⟩
abbrev s_law : Stmt := top 56
def d_law : He.DefD := ⟨("law", none), "law", "law", defArgs s_law, defBody s_law, defScope s_law, [], []⟩
def fn : List He.DefD := [d_reduced_number, d_forest_of, d_links_of, d_is_integer, d_is_within, d_is_edge, d_is_modulus, d_check_edges, d_Web___init__, d_Web_size, d_Web_modulus, d_Web_edges, d_Web_edge, d_Web___len__, d_check_node, d_is_step, d_step_ends, d_is_walk, d_residue, d_is_residue, d_are_residues, d_is_gains, d_is_potential, d_check_gains, d_check_potential, d_walk_sum, d_switched, d_switch, d_is_switch, d_potential_of, d__law_pool, d__law_take, d__law_modulus, d__law_links, d__law_number, d__law_numbers, d__law_mixed, d__law_round, d_law]
def fa : List He.Fa := [.free "len", .glo "_law_take", .free "range", .free "isinstance", .free "int", .free "bool", .glo "is_integer", .free "tuple", .glo "is_within", .free "list", .glo "is_edge", .int "MOST_EDGES" 60, .int "MOST_MODULUS" 60, .free "enumerate", .int "MOST_NODES" 30, .glo "check_edges", .glo "is_modulus", .glo "Web", .cls "Web", .noat "Web" "own_size", .noat "Web" "own_edges", .noat "Web" "own_modulus", .glo "forest_of", .noat "Web" "own_forest", .glo "links_of", .noat "Web" "links", .glo "_law_number", .meth "Web" "modulus", .free "all", .glo "is_residue", .glo "are_residues", .meth "Web" "__len__", .glo "is_gains", .meth "Web" "edge", .glo "is_step", .glo "step_ends", .free "zip", .glo "reduced_number", .glo "check_gains", .glo "is_walk", .glo "residue", .free "sum", .meth "Web" "size", .glo "is_potential", .glo "check_potential", .meth "Web" "edges", .glo "is_switch", .glo "check_node", .glo "switched", .free "max", .free "min", .glo "_law_pool", .glo "_law_modulus", .glo "_law_links", .mkr "Web", .glo "_law_numbers", .glo "_law_round", .glo "walk_sum", .glo "potential_of", .glo "_law_mixed", .glo "switch", .glo "law"]
theorem sc__law_pool : FnScope ["_law_script", "_law_k", "_law_cell", "_law_seed"] ["_law_script", "_law_k"] (defScope s__law_pool) := ⟨rfl, rfl, rfl, by decide +kernel, rfl, by decide +kernel, by decide +kernel⟩
theorem ok__law_pool {P : Program} {w : World} {K : PySem.W.Frag} {h : Heap} {mg : Str → Option Value} {base : Heap} (KX : K.In h) (G : h.Ns mainGlobals mg) (c : He.SaysD fa fn K) : ∃ fd, Binds K fd ["_law_script", "_law_k"] [] ∧ FnOk P w K mg base (L2.CX P w) 1 (He.fAd K d__law_pool.at_) fd ["_law_script", "_law_k"] (spD ⟨K, mg⟩ 2 F__law_pool) := by
  obtain ⟨fd, F⟩ := c.def_ 30 (d := d__law_pool) rfl
  have z_len : mg "len" = none := He.free_ok KX G (c.fact 0 rfl)
  refine ⟨fd, FunD.bindsN F (fun _ _ _ _ _ _ us hl => match us, hl with | [_, _], _ => rfl), fn_d (k := 0) F sc__law_pool (fun cdv A outer s H E hr tk => ?_)⟩
  have hx : Passes (L2.CX P w) (cxOf (L2.CX P w) P w K mg base ["_law_script", "_law_k", "_law_cell", "_law_seed"] d__law_pool.qual d__law_pool.scope (He.fAd K d__law_pool.at_) cdv A outer s H E) E := passes_call tk (fun _ _ _ _ z => z)
  have hu64 := hr.units
  have hu := hu_of hr
  exact dss_cons (st 2 sc__law_pool.nd de_int) (dss_cons (ds_if (dt_lt (dv 1) (de_len rfl z_len (da_cons (dv 0) da_nil))) (dss_one (st 2 sc__law_pool.nd (de_ix (dv 0) (dv 1) (fun _ _ => rfl)))) dss_nil) (dss_cons (st 3 sc__law_pool.nd (de_mod (de_mul (DN.frz (dn_add (DN.frz (dn_add (de_mod (dv 2) de_int) (de_mul (de_mul de_int (dv 1)) (dv 1)))) de_int)) de_int) de_int)) (dss_cons (ds_if (dt_lt (dv 2) (de_pow de_int de_int)) (dss_one (st 2 sc__law_pool.nd de_int)) dss_nil) (dss_one (ds_ret (DN.cel (dn_lst (da_cons (dv 2) (da_cons (DN.frz (dn_add (de_mod (de_mul (dv 3) (dv 3)) de_int) de_int)) da_nil)))))))))
theorem sc__law_take : FnScope ["_law_pool_here", "_law_sides", "_law_found"] ["_law_pool_here", "_law_sides"] (defScope s__law_take) := ⟨rfl, rfl, rfl, by decide +kernel, rfl, by decide +kernel, by decide +kernel⟩
theorem ok__law_take {P : Program} {w : World} {K : PySem.W.Frag} {h : Heap} {mg : Str → Option Value} {base : Heap} (KX : K.In h) (G : h.Ns mainGlobals mg) (c : He.SaysD fa fn K) : ∃ fd, Binds K fd ["_law_pool_here", "_law_sides"] [] ∧ FnOk P w K mg base (L2.CX P w) 1 (He.fAd K d__law_take.at_) fd ["_law_pool_here", "_law_sides"] (spD ⟨K, mg⟩ 2 F__law_take) := by
  obtain ⟨fd, F⟩ := c.def_ 31 (d := d__law_take) rfl
  refine ⟨fd, FunD.bindsN F (fun _ _ _ _ _ _ us hl => match us, hl with | [_, _], _ => rfl), fn_d (k := 0) F sc__law_take (fun cdv A outer s H E hr tk => ?_)⟩
  have hx : Passes (L2.CX P w) (cxOf (L2.CX P w) P w K mg base ["_law_pool_here", "_law_sides", "_law_found"] d__law_take.qual d__law_take.scope (He.fAd K d__law_take.at_) cdv A outer s H E) E := passes_call tk (fun _ _ _ _ z => z)
  have hu64 := hr.units
  have hu := hu_of hr
  exact dss_cons (ds_if (dt_gt (de_ix (dv 0) de_int (fun _ _ => rfl)) de_int) (dss_cons (st 2 sc__law_take.nd (de_mod (de_ix (dv 0) de_int (fun _ _ => rfl)) (dv 1))) (dss_cons (ds_asg (de_div (de_ix (dv 0) de_int (fun _ _ => rfl)) (dv 1)) (dg_sub (dv 0) de_int)) (dss_one (ds_ret (dv 2))))) dss_nil) (dss_cons (ds_asg (de_mod (DN.frz (dn_add (de_mul (de_ix (dv 0) de_int (fun _ _ => rfl)) de_int) de_int)) de_int) (dg_sub (dv 0) de_int)) (dss_one (ds_ret (de_mod (de_div (de_mod (de_mul (de_ix (dv 0) de_int (fun _ _ => rfl)) (de_ix (dv 0) de_int (fun _ _ => rfl))) de_int) de_int) (dv 1)))))
theorem sc__law_modulus : FnScope ["_law_pool_here"] ["_law_pool_here"] (defScope s__law_modulus) := ⟨rfl, rfl, rfl, by decide +kernel, rfl, by decide +kernel, by decide +kernel⟩
theorem ok__law_modulus {P : Program} {w : World} {K : PySem.W.Frag} {h : Heap} {mg : Str → Option Value} {base : Heap} (KX : K.In h) (G : h.Ns mainGlobals mg) (c : He.SaysD fa fn K) : ∃ fd, Binds K fd ["_law_pool_here"] [] ∧ FnOk P w K mg base (L2.CX P w) 2 (He.fAd K d__law_modulus.at_) fd ["_law_pool_here"] (spD ⟨K, mg⟩ 1 F__law_modulus) := by
  obtain ⟨fd, F⟩ := c.def_ 32 (d := d__law_modulus) rfl
  obtain ⟨fd__law_take, b__law_take, FO__law_take⟩ := ok__law_take (P := P) (w := w) (base := base) KX G c
  have g_f__law_take : mg "_law_take" = some (.ref (He.ga K "_law_take")) := He.glo_ok KX G (c.fact 1 rfl)
  have kp__law_take : PySem.W.keepIn K (.ref (He.ga K "_law_take")) = true := by
    obtain ⟨_, FF⟩ := c.def_ 31 (d := d__law_take) rfl
    exact FF.kp
  refine ⟨fd, FunD.bindsN F (fun _ _ _ _ _ _ us hl => match us, hl with | [_], _ => rfl), fn_d (k := 1) F sc__law_modulus (fun cdv A outer s H E hr tk => ?_)⟩
  have hx : Passes (L2.CX P w) (cxOf (L2.CX P w) P w K mg base ["_law_pool_here"] d__law_modulus.qual d__law_modulus.scope (He.fAd K d__law_modulus.at_) cdv A outer s H E) E := passes_call tk (fun _ _ _ _ z => z)
  have hu64 := hr.units
  have hu := hu_of hr
  exact dss_one (ds_ret (de_ix (DN.frz (dn_lst (da_cons de_int (da_cons de_int (da_cons de_int (da_cons de_int (da_cons de_int (da_cons de_int (da_cons de_int (da_cons de_int da_nil)))))))))) (DE.fz (de_call FO__law_take (hr.mono (by decide)) rfl g_f__law_take kp__law_take b__law_take tk (da_cons (dv 0) (da_cons de_int da_nil)))) (fun _ _ => rfl)))
theorem sc__law_links : FnScope ["_law_pool_here", "_law_nodes", "_law_most", "_law_found", "_law_turn"] ["_law_pool_here", "_law_nodes", "_law_most"] (defScope s__law_links) := ⟨rfl, rfl, rfl, by decide +kernel, rfl, by decide +kernel, by decide +kernel⟩
theorem ok__law_links {P : Program} {w : World} {K : PySem.W.Frag} {h : Heap} {mg : Str → Option Value} {base : Heap} (KX : K.In h) (G : h.Ns mainGlobals mg) (c : He.SaysD fa fn K) : ∃ fd, Binds K fd ["_law_pool_here", "_law_nodes", "_law_most"] [] ∧ FnOk P w K mg base (L2.CX P w) 2 (He.fAd K d__law_links.at_) fd ["_law_pool_here", "_law_nodes", "_law_most"] (spD ⟨K, mg⟩ 3 F__law_links) := by
  obtain ⟨fd, F⟩ := c.def_ 33 (d := d__law_links) rfl
  obtain ⟨fd__law_take, b__law_take, FO__law_take⟩ := ok__law_take (P := P) (w := w) (base := base) KX G c
  have g_f__law_take : mg "_law_take" = some (.ref (He.ga K "_law_take")) := He.glo_ok KX G (c.fact 1 rfl)
  have kp__law_take : PySem.W.keepIn K (.ref (He.ga K "_law_take")) = true := by
    obtain ⟨_, FF⟩ := c.def_ 31 (d := d__law_take) rfl
    exact FF.kp
  have z_range : mg "range" = none := He.free_ok KX G (c.fact 2 rfl)
  refine ⟨fd, FunD.bindsN F (fun _ _ _ _ _ _ us hl => match us, hl with | [_, _, _], _ => rfl), fn_d (k := 1) F sc__law_links (fun cdv A outer s H E hr tk => ?_)⟩
  have hx : Passes (L2.CX P w) (cxOf (L2.CX P w) P w K mg base ["_law_pool_here", "_law_nodes", "_law_most", "_law_found", "_law_turn"] d__law_links.qual d__law_links.scope (He.fAd K d__law_links.at_) cdv A outer s H E) E := passes_call tk (fun _ _ _ _ z => z)
  have hu64 := hr.units
  have hu := hu_of hr
  exact dss_cons (st 3 sc__law_links.nd (DN.cel (dn_lst da_nil))) (dss_cons (ds_for hp_of rfl (di_range1 rfl z_range (da_cons (DE.fz (de_call FO__law_take (hr.mono (by decide)) rfl g_f__law_take kp__law_take b__law_take tk (da_cons (dv 0) (da_cons (DN.frz (dn_add (dv 2) de_int)) da_nil)))) da_nil)) (gn 4 sc__law_links.nd) (dss_one (ds_expr (de_append (dv 3) (da_cons (DN.frz (dn_tup (da_cons (DE.fz (de_call FO__law_take (hr.mono (by decide)) rfl g_f__law_take kp__law_take b__law_take tk (da_cons (dv 0) (da_cons (dv 1) da_nil)))) (da_cons (DE.fz (de_call FO__law_take (hr.mono (by decide)) rfl g_f__law_take kp__law_take b__law_take tk (da_cons (dv 0) (da_cons (dv 1) da_nil)))) da_nil)))) da_nil))))) (dss_one (ds_ret (dv 3))))
theorem sc_is_integer : FnScope ["thing"] ["thing"] (defScope s_is_integer) := ⟨rfl, rfl, rfl, by decide +kernel, rfl, by decide +kernel, by decide +kernel⟩
theorem ok_is_integer {P : Program} {w : World} {K : PySem.W.Frag} {h : Heap} {mg : Str → Option Value} {base : Heap} (KX : K.In h) (G : h.Ns mainGlobals mg) (c : He.SaysD fa fn K) : ∃ fd, Binds K fd ["thing"] [] ∧ FnOk P w K mg base (L2.CX P w) 1 (He.fAd K d_is_integer.at_) fd ["thing"] (spD ⟨K, mg⟩ 1 F_is_integer) := by
  obtain ⟨fd, F⟩ := c.def_ 3 (d := d_is_integer) rfl
  have z_isinstance : mg "isinstance" = none := He.free_ok KX G (c.fact 3 rfl)
  have z_int : mg "int" = none := He.free_ok KX G (c.fact 4 rfl)
  have z_bool : mg "bool" = none := He.free_ok KX G (c.fact 5 rfl)
  refine ⟨fd, FunD.bindsN F (fun _ _ _ _ _ _ us hl => match us, hl with | [_], _ => rfl), fn_d (k := 0) F sc_is_integer (fun cdv A outer s H E hr tk => ?_)⟩
  have hx : Passes (L2.CX P w) (cxOf (L2.CX P w) P w K mg base ["thing"] d_is_integer.qual d_is_integer.scope (He.fAd K d_is_integer.at_) cdv A outer s H E) E := passes_call tk (fun _ _ _ _ z => z)
  have hu64 := hr.units
  have hu := hu_of hr
  exact dss_one (ds_ret (de_and (de_isi rfl z_isinstance (da_cons (dv 0) (da_cons (de_ty rfl z_int (by decide +kernel)) da_nil))) (de_one (de_not (de_isi rfl z_isinstance (da_cons (dv 0) (da_cons (de_ty rfl z_bool (by decide +kernel)) da_nil)))))))
theorem sc_is_within : FnScope ["thing", "least", "most"] ["thing", "least", "most"] (defScope s_is_within) := ⟨rfl, rfl, rfl, by decide +kernel, rfl, by decide +kernel, by decide +kernel⟩
theorem ok_is_within {P : Program} {w : World} {K : PySem.W.Frag} {h : Heap} {mg : Str → Option Value} {base : Heap} (KX : K.In h) (G : h.Ns mainGlobals mg) (c : He.SaysD fa fn K) : ∃ fd, Binds K fd ["thing", "least", "most"] [] ∧ FnOk P w K mg base (L2.CX P w) 2 (He.fAd K d_is_within.at_) fd ["thing", "least", "most"] (spD ⟨K, mg⟩ 3 F_is_within) := by
  obtain ⟨fd, F⟩ := c.def_ 4 (d := d_is_within) rfl
  obtain ⟨fd_is_integer, b_is_integer, FO_is_integer⟩ := ok_is_integer (P := P) (w := w) (base := base) KX G c
  have g_f_is_integer : mg "is_integer" = some (.ref (He.ga K "is_integer")) := He.glo_ok KX G (c.fact 6 rfl)
  have kp_is_integer : PySem.W.keepIn K (.ref (He.ga K "is_integer")) = true := by
    obtain ⟨_, FF⟩ := c.def_ 3 (d := d_is_integer) rfl
    exact FF.kp
  refine ⟨fd, FunD.bindsN F (fun _ _ _ _ _ _ us hl => match us, hl with | [_, _, _], _ => rfl), fn_d (k := 1) F sc_is_within (fun cdv A outer s H E hr tk => ?_)⟩
  have hx : Passes (L2.CX P w) (cxOf (L2.CX P w) P w K mg base ["thing", "least", "most"] d_is_within.qual d_is_within.scope (He.fAd K d_is_within.at_) cdv A outer s H E) E := passes_call tk (fun _ _ _ _ z => z)
  have hu64 := hr.units
  have hu := hu_of hr
  exact dss_one (ds_ret (de_and (DE.fz (de_call FO_is_integer (hr.mono (by decide)) rfl g_f_is_integer kp_is_integer b_is_integer tk (da_cons (dv 0) da_nil))) (de_one (de_lele (dv 1) (dv 0) (dv 2)))))
theorem sc_is_edge : FnScope ["thing", "size"] ["thing", "size"] (defScope s_is_edge) := ⟨rfl, rfl, rfl, by decide +kernel, rfl, by decide +kernel, by decide +kernel⟩
theorem ok_is_edge {P : Program} {w : World} {K : PySem.W.Frag} {h : Heap} {mg : Str → Option Value} {base : Heap} (KX : K.In h) (G : h.Ns mainGlobals mg) (c : He.SaysD fa fn K) : ∃ fd, Binds K fd ["thing", "size"] [] ∧ FnOk P w K mg base (L2.CX P w) 3 (He.fAd K d_is_edge.at_) fd ["thing", "size"] (spD ⟨K, mg⟩ 2 F_is_edge) := by
  obtain ⟨fd, F⟩ := c.def_ 5 (d := d_is_edge) rfl
  have z_isinstance : mg "isinstance" = none := He.free_ok KX G (c.fact 3 rfl)
  have z_tuple : mg "tuple" = none := He.free_ok KX G (c.fact 7 rfl)
  have z_len : mg "len" = none := He.free_ok KX G (c.fact 0 rfl)
  obtain ⟨fd_is_within, b_is_within, FO_is_within⟩ := ok_is_within (P := P) (w := w) (base := base) KX G c
  have g_f_is_within : mg "is_within" = some (.ref (He.ga K "is_within")) := He.glo_ok KX G (c.fact 8 rfl)
  have kp_is_within : PySem.W.keepIn K (.ref (He.ga K "is_within")) = true := by
    obtain ⟨_, FF⟩ := c.def_ 4 (d := d_is_within) rfl
    exact FF.kp
  refine ⟨fd, FunD.bindsN F (fun _ _ _ _ _ _ us hl => match us, hl with | [_, _], _ => rfl), fn_d (k := 2) F sc_is_edge (fun cdv A outer s H E hr tk => ?_)⟩
  have hx : Passes (L2.CX P w) (cxOf (L2.CX P w) P w K mg base ["thing", "size"] d_is_edge.qual d_is_edge.scope (He.fAd K d_is_edge.at_) cdv A outer s H E) E := passes_call tk (fun _ _ _ _ z => z)
  have hu64 := hr.units
  have hu := hu_of hr
  exact dss_cons (ds_if (dt_w (dw_or (dt_not (dt_truth (de_isi rfl z_isinstance (da_cons (dv 0) (da_cons (de_ty rfl z_tuple (by decide +kernel)) da_nil))))) (dw_or1 (dt_ne hu64 (de_len rfl z_len (da_cons (dv 0) da_nil)) de_int)))) (dss_one (ds_ret de_bl)) dss_nil) (dss_one (ds_ret (de_and (DE.fz (de_call FO_is_within (hr.mono (by decide)) rfl g_f_is_within kp_is_within b_is_within tk (da_cons (de_ix (dv 0) de_int (fun _ _ => rfl)) (da_cons de_int (da_cons (de_sub (dv 1) de_int) da_nil))))) (de_one (DE.fz (de_call FO_is_within (hr.mono (by decide)) rfl g_f_is_within kp_is_within b_is_within tk (da_cons (de_ix (dv 0) de_int (fun _ _ => rfl)) (da_cons de_int (da_cons (de_sub (dv 1) de_int) da_nil)))))))))
theorem sc_check_edges : FnScope ["size", "edges", "edge"] ["size", "edges"] (defScope s_check_edges) := ⟨rfl, rfl, rfl, by decide +kernel, rfl, by decide +kernel, by decide +kernel⟩
theorem ok_check_edges {P : Program} {w : World} {K : PySem.W.Frag} {h : Heap} {mg : Str → Option Value} {base : Heap} (KX : K.In h) (G : h.Ns mainGlobals mg) (c : He.SaysD fa fn K) : ∃ fd, Binds K fd ["size", "edges"] [] ∧ FnOk P w K mg base (L2.CX P w) 4 (He.fAd K d_check_edges.at_) fd ["size", "edges"] (spD ⟨K, mg⟩ 2 F_check_edges) := by
  obtain ⟨fd, F⟩ := c.def_ 7 (d := d_check_edges) rfl
  have z_isinstance : mg "isinstance" = none := He.free_ok KX G (c.fact 3 rfl)
  have z_list : mg "list" = none := He.free_ok KX G (c.fact 9 rfl)
  have z_tuple : mg "tuple" = none := He.free_ok KX G (c.fact 7 rfl)
  obtain ⟨fd_is_edge, b_is_edge, FO_is_edge⟩ := ok_is_edge (P := P) (w := w) (base := base) KX G c
  have g_f_is_edge : mg "is_edge" = some (.ref (He.ga K "is_edge")) := He.glo_ok KX G (c.fact 10 rfl)
  have kp_is_edge : PySem.W.keepIn K (.ref (He.ga K "is_edge")) = true := by
    obtain ⟨_, FF⟩ := c.def_ 5 (d := d_is_edge) rfl
    exact FF.kp
  have z_len : mg "len" = none := He.free_ok KX G (c.fact 0 rfl)
  have i_MOST_EDGES : ∃ t, mg "MOST_EDGES" = some (.int 60 t) := He.int_ok KX G (c.fact 11 rfl)
  refine ⟨fd, FunD.bindsN F (fun _ _ _ _ _ _ us hl => match us, hl with | [_, _], _ => rfl), fn_d (k := 3) F sc_check_edges (fun cdv A outer s H E hr tk => ?_)⟩
  have hx : Passes (L2.CX P w) (cxOf (L2.CX P w) P w K mg base ["size", "edges", "edge"] d_check_edges.qual d_check_edges.scope (He.fAd K d_check_edges.at_) cdv A outer s H E) E := passes_call tk (fun _ _ _ _ z => z)
  have hu64 := hr.units
  have hu := hu_of hr
  exact dss_cons (ds_if (dt_not (dt_truth (de_isiT rfl z_isinstance (da_cons (dv 1) (da_cons (DN.frz (dn_tup (da_cons (de_ty rfl z_list (by decide +kernel)) (da_cons (de_ty rfl z_tuple (by decide +kernel)) da_nil)))) da_nil))))) (dss_one ds_never) dss_nil) (dss_cons (ds_for hp_of rfl (di_sq (dv 1)) (gn 2 sc_check_edges.nd) (dss_one (ds_if (dt_not (dt_truth (DE.fz (de_call FO_is_edge (hr.mono (by decide)) rfl g_f_is_edge kp_is_edge b_is_edge tk (da_cons (dv 2) (da_cons (dv 0) da_nil)))))) (dss_one ds_never) dss_nil))) (dss_one (ds_if (dt_gt (de_len rfl z_len (da_cons (dv 1) da_nil)) (de_globI rfl i_MOST_EDGES)) (dss_one ds_never) dss_nil)))
theorem sc_is_modulus : FnScope ["thing"] ["thing"] (defScope s_is_modulus) := ⟨rfl, rfl, rfl, by decide +kernel, rfl, by decide +kernel, by decide +kernel⟩
theorem ok_is_modulus {P : Program} {w : World} {K : PySem.W.Frag} {h : Heap} {mg : Str → Option Value} {base : Heap} (KX : K.In h) (G : h.Ns mainGlobals mg) (c : He.SaysD fa fn K) : ∃ fd, Binds K fd ["thing"] [] ∧ FnOk P w K mg base (L2.CX P w) 3 (He.fAd K d_is_modulus.at_) fd ["thing"] (spD ⟨K, mg⟩ 1 F_is_modulus) := by
  obtain ⟨fd, F⟩ := c.def_ 6 (d := d_is_modulus) rfl
  obtain ⟨fd_is_within, b_is_within, FO_is_within⟩ := ok_is_within (P := P) (w := w) (base := base) KX G c
  have g_f_is_within : mg "is_within" = some (.ref (He.ga K "is_within")) := He.glo_ok KX G (c.fact 8 rfl)
  have kp_is_within : PySem.W.keepIn K (.ref (He.ga K "is_within")) = true := by
    obtain ⟨_, FF⟩ := c.def_ 4 (d := d_is_within) rfl
    exact FF.kp
  have i_MOST_MODULUS : ∃ t, mg "MOST_MODULUS" = some (.int 60 t) := He.int_ok KX G (c.fact 12 rfl)
  refine ⟨fd, FunD.bindsN F (fun _ _ _ _ _ _ us hl => match us, hl with | [_], _ => rfl), fn_d (k := 2) F sc_is_modulus (fun cdv A outer s H E hr tk => ?_)⟩
  have hx : Passes (L2.CX P w) (cxOf (L2.CX P w) P w K mg base ["thing"] d_is_modulus.qual d_is_modulus.scope (He.fAd K d_is_modulus.at_) cdv A outer s H E) E := passes_call tk (fun _ _ _ _ z => z)
  have hu64 := hr.units
  have hu := hu_of hr
  exact dss_one (ds_ret (de_and (DE.fz (de_call FO_is_within (hr.mono (by decide)) rfl g_f_is_within kp_is_within b_is_within tk (da_cons (dv 0) (da_cons de_int (da_cons (de_globI rfl i_MOST_MODULUS) da_nil))))) (de_one (de_ne hu64 (dv 0) de_int))))
theorem sc_forest_of : FnScope ["size", "pairs", "groups", "found", "index", "tail", "head", "group"] ["size", "pairs"] (defScope s_forest_of) := ⟨rfl, rfl, rfl, by decide +kernel, rfl, by decide +kernel, by decide +kernel⟩
theorem ok_forest_of {P : Program} {w : World} {K : PySem.W.Frag} {h : Heap} {mg : Str → Option Value} {base : Heap} (KX : K.In h) (G : h.Ns mainGlobals mg) (c : He.SaysD fa fn K) : ∃ fd, Binds K fd ["size", "pairs"] [] ∧ FnOk P w K mg base (L2.CX P w) 1 (He.fAd K d_forest_of.at_) fd ["size", "pairs"] (spD ⟨K, mg⟩ 2 F_forest_of) := by
  obtain ⟨fd, F⟩ := c.def_ 1 (d := d_forest_of) rfl
  have z_list : mg "list" = none := He.free_ok KX G (c.fact 9 rfl)
  have z_range : mg "range" = none := He.free_ok KX G (c.fact 2 rfl)
  have z_enumerate : mg "enumerate" = none := He.free_ok KX G (c.fact 13 rfl)
  refine ⟨fd, FunD.bindsN F (fun _ _ _ _ _ _ us hl => match us, hl with | [_, _], _ => rfl), fn_d (k := 0) F sc_forest_of (fun cdv A outer s H E hr tk => ?_)⟩
  have hx : Passes (L2.CX P w) (cxOf (L2.CX P w) P w K mg base ["size", "pairs", "groups", "found", "index", "tail", "head", "group"] d_forest_of.qual d_forest_of.scope (He.fAd K d_forest_of.at_) cdv A outer s H E) E := passes_call tk (fun _ _ _ _ z => z)
  have hu64 := hr.units
  have hu := hu_of hr
  exact dss_cons (st 2 sc_forest_of.nd (DN.frz (dn_listRg rfl rfl z_list (dr_1 rfl z_range (dv 0))))) (dss_cons (st 3 sc_forest_of.nd (DN.cel (dn_lst da_nil))) (dss_cons (ds_for hp_of rfl (di_enum rfl z_enumerate (da_cons (dv 1) da_nil)) (dg_tup rfl (dgs_cons (gn 4 sc_forest_of.nd) (dgs_cons (dg_tup rfl (dgs_cons (gn 5 sc_forest_of.nd) (dgs_cons (gn 6 sc_forest_of.nd) dgs_nil))) dgs_nil))) (dss_one (ds_if (dt_ne hu64 (de_ix (dv 2) (dv 5) (fun _ _ => rfl)) (de_ix (dv 2) (dv 6) (fun _ _ => rfl))) (dss_cons (ds_expr (de_append (dv 3) (da_cons (dv 4) da_nil))) (dss_one (st 2 sc_forest_of.nd (DN.frz (dn_lc (own := [(("group" : Str), 7)]) rfl sc_forest_of.nd (di_sq (dv 2)) (blkOk_by rfl) (fun _ _ _ _ _ => gn 7 sc_forest_of.nd) (fun _ _ _ _ _ => dts_nil) (fun _ _ _ _ _ => de_ifExp (dt_eq hu64 (dv 7) (de_ix (dv 2) (dv 6) (fun _ _ => rfl))) (de_ix (dv 2) (dv 5) (fun _ _ => rfl)) (dv 7)) (rs_mem rfl)))))) dss_nil))) (dss_one (ds_ret (dv 3)))))
theorem sc_links_of : FnScope ["size", "pairs", "forest", "found", "index", "tail", "head", "node"] ["size", "pairs", "forest"] (defScope s_links_of) := ⟨rfl, rfl, rfl, by decide +kernel, rfl, by decide +kernel, by decide +kernel⟩
theorem ok_links_of {P : Program} {w : World} {K : PySem.W.Frag} {h : Heap} {mg : Str → Option Value} {base : Heap} (KX : K.In h) (G : h.Ns mainGlobals mg) (c : He.SaysD fa fn K) : ∃ fd, Binds K fd ["size", "pairs", "forest"] [] ∧ FnOk P w K mg base (L2.CX P w) 1 (He.fAd K d_links_of.at_) fd ["size", "pairs", "forest"] (spD ⟨K, mg⟩ 3 F_links_of) := by
  obtain ⟨fd, F⟩ := c.def_ 2 (d := d_links_of) rfl
  have z_range : mg "range" = none := He.free_ok KX G (c.fact 2 rfl)
  refine ⟨fd, FunD.bindsN F (fun _ _ _ _ _ _ us hl => match us, hl with | [_, _, _], _ => rfl), fn_d (k := 0) F sc_links_of (fun cdv A outer s H E hr tk => ?_)⟩
  have hx : Passes (L2.CX P w) (cxOf (L2.CX P w) P w K mg base ["size", "pairs", "forest", "found", "index", "tail", "head", "node"] d_links_of.qual d_links_of.scope (He.fAd K d_links_of.at_) cdv A outer s H E) E := passes_call tk (fun _ _ _ _ z => z)
  have hu64 := hr.units
  have hu := hu_of hr
  exact dss_cons (ds_setLc (own := [(("node" : Str), 7)]) kN_frz rfl sc_links_of.nd (show _ from rfl) rfl (sw_true rfl rfl rfl (by decide +kernel)) (di_range1 rfl z_range (da_cons (dv 0) da_nil)) (blkOk_by rfl) (fun _ _ _ _ _ => gn 7 sc_links_of.nd) (fun _ _ _ _ _ => dts_nil) (fun _ _ _ _ _ => DN.cel (dn_lst da_nil)) (rs_mem rfl)) (dss_cons (ds_for hp_of rfl (di_sq (dv 2)) (gn 4 sc_links_of.nd) (dss_cons (ds_asg (de_ix (dv 1) (dv 4) (fun _ _ => rfl)) (dg_tup rfl (dgs_cons (gn 5 sc_links_of.nd) (dgs_cons (gn 6 sc_links_of.nd) dgs_nil)))) (dss_cons (ds_expr (de_append (de_ix (dv 3) (dv 5) (fun _ _ => rfl)) (da_cons (DN.frz (dn_tup (da_cons (dv 4) (da_cons de_int (da_cons (dv 6) da_nil))))) da_nil))) (dss_one (ds_expr (de_append (de_ix (dv 3) (dv 6) (fun _ _ => rfl)) (da_cons (DN.frz (dn_tup (da_cons (dv 4) (da_cons (de_neg de_int) (da_cons (dv 5) da_nil))))) da_nil))))))) (dss_one (ds_ret (dv 3))))
theorem sc_Web___init__ : FnScope ["self", "size", "edges", "modulus"] ["self", "size", "edges", "modulus"] (defScope s_Web___init__) := ⟨rfl, rfl, rfl, by decide +kernel, rfl, by decide +kernel, by decide +kernel⟩
theorem ok_Web___init__ {P : Program} {w : World} {K : PySem.W.Frag} {h : Heap} {mg : Str → Option Value} {base : Heap} (KX : K.In h) (G : h.Ns mainGlobals mg) (c : He.SaysD fa fn K) : ∃ fd, FunD K d_Web___init__.name d_Web___init__.qual d_Web___init__.params d_Web___init__.body d_Web___init__.scope (d_Web___init__.dvs K) (d_Web___init__.kws K) (He.fAd K d_Web___init__.at_) fd ∧ FnOk P w K mg base (L2.CX P w) 5 (He.fAd K d_Web___init__.at_) fd ["self", "size", "edges", "modulus"] (spD ⟨K, mg⟩ 4 F_Web___init__) := by
  obtain ⟨fd, F⟩ := c.def_ 8 (d := d_Web___init__) rfl
  obtain ⟨fd_is_within, b_is_within, FO_is_within⟩ := ok_is_within (P := P) (w := w) (base := base) KX G c
  have g_f_is_within : mg "is_within" = some (.ref (He.ga K "is_within")) := He.glo_ok KX G (c.fact 8 rfl)
  have kp_is_within : PySem.W.keepIn K (.ref (He.ga K "is_within")) = true := by
    obtain ⟨_, FF⟩ := c.def_ 4 (d := d_is_within) rfl
    exact FF.kp
  have i_MOST_NODES : ∃ t, mg "MOST_NODES" = some (.int 30 t) := He.int_ok KX G (c.fact 14 rfl)
  obtain ⟨fd_check_edges, b_check_edges, FO_check_edges⟩ := ok_check_edges (P := P) (w := w) (base := base) KX G c
  have g_f_check_edges : mg "check_edges" = some (.ref (He.ga K "check_edges")) := He.glo_ok KX G (c.fact 15 rfl)
  have kp_check_edges : PySem.W.keepIn K (.ref (He.ga K "check_edges")) = true := by
    obtain ⟨_, FF⟩ := c.def_ 7 (d := d_check_edges) rfl
    exact FF.kp
  obtain ⟨fd_is_modulus, b_is_modulus, FO_is_modulus⟩ := ok_is_modulus (P := P) (w := w) (base := base) KX G c
  have g_f_is_modulus : mg "is_modulus" = some (.ref (He.ga K "is_modulus")) := He.glo_ok KX G (c.fact 16 rfl)
  have kp_is_modulus : PySem.W.keepIn K (.ref (He.ga K "is_modulus")) = true := by
    obtain ⟨_, FF⟩ := c.def_ 6 (d := d_is_modulus) rfl
    exact FF.kp
  have gc_Web : mg "Web" = some (.ref (He.ga K "Web")) := He.glo_ok KX G (c.fact 17 rfl)
  have cl_Web : Cls K (He.ga K "Web") := He.cls_ok (c.fact 18 rfl)
  have n_Web_own_size : NoAttr K (He.ga K "Web") "own_size" := He.noat_ok (c.fact 19 rfl)
  have z_list : mg "list" = none := He.free_ok KX G (c.fact 9 rfl)
  have n_Web_own_edges : NoAttr K (He.ga K "Web") "own_edges" := He.noat_ok (c.fact 20 rfl)
  have n_Web_own_modulus : NoAttr K (He.ga K "Web") "own_modulus" := He.noat_ok (c.fact 21 rfl)
  obtain ⟨fd_forest_of, b_forest_of, FO_forest_of⟩ := ok_forest_of (P := P) (w := w) (base := base) KX G c
  have g_f_forest_of : mg "forest_of" = some (.ref (He.ga K "forest_of")) := He.glo_ok KX G (c.fact 22 rfl)
  have kp_forest_of : PySem.W.keepIn K (.ref (He.ga K "forest_of")) = true := by
    obtain ⟨_, FF⟩ := c.def_ 1 (d := d_forest_of) rfl
    exact FF.kp
  have n_Web_own_forest : NoAttr K (He.ga K "Web") "own_forest" := He.noat_ok (c.fact 23 rfl)
  obtain ⟨fd_links_of, b_links_of, FO_links_of⟩ := ok_links_of (P := P) (w := w) (base := base) KX G c
  have g_f_links_of : mg "links_of" = some (.ref (He.ga K "links_of")) := He.glo_ok KX G (c.fact 24 rfl)
  have kp_links_of : PySem.W.keepIn K (.ref (He.ga K "links_of")) = true := by
    obtain ⟨_, FF⟩ := c.def_ 2 (d := d_links_of) rfl
    exact FF.kp
  have n_Web_links : NoAttr K (He.ga K "Web") "links" := He.noat_ok (c.fact 25 rfl)
  refine ⟨fd, F, fn_d (k := 4) F sc_Web___init__ (fun cdv A outer s H E hr tk => ?_)⟩
  have hx : Passes (L2.CX P w) (cxOf (L2.CX P w) P w K mg base ["self", "size", "edges", "modulus"] d_Web___init__.qual d_Web___init__.scope (He.fAd K d_Web___init__.at_) cdv A outer s H E) E := passes_call tk (fun _ _ _ _ z => z)
  have hu64 := hr.units
  have hu := hu_of hr
  have c_Web : ∀ {Y : Cx}, Y.mg = mg → Y.K = K → ClsD Y "Web" (He.ga K "Web") := fun h1 h2 => ⟨by rw [h1]; exact gc_Web, by rw [h2]; exact cl_Web⟩
  exact dss_cons (ds_if (dt_not (dt_truth (DE.fz (de_call FO_is_within (hr.mono (by decide)) rfl g_f_is_within kp_is_within b_is_within tk (da_cons (dv 1) (da_cons de_int (da_cons (de_globI rfl i_MOST_NODES) da_nil))))))) (dss_one ds_never) dss_nil) (dss_cons (ds_expr (DE.fz (de_call FO_check_edges (hr.mono (by decide)) rfl g_f_check_edges kp_check_edges b_check_edges tk (da_cons (dv 1) (da_cons (dv 2) da_nil))))) (dss_cons (ds_if (dt_not (dt_truth (DE.fz (de_call FO_is_modulus (hr.mono (by decide)) rfl g_f_is_modulus kp_is_modulus b_is_modulus tk (da_cons (dv 3) da_nil))))) (dss_one ds_never) dss_nil) (dss_cons (ds_fld (c_Web rfl rfl) n_Web_own_size (dv 0) (dv 1)) (dss_cons (ds_fld (c_Web rfl rfl) n_Web_own_edges (dv 0) (DN.frz (dn_list rfl z_list (da_cons (dv 2) da_nil)))) (dss_cons (ds_fld (c_Web rfl rfl) n_Web_own_modulus (dv 0) (dv 3)) (dss_cons (ds_fld (c_Web rfl rfl) n_Web_own_forest (dv 0) (DE.fz (de_call FO_forest_of (hr.mono (by decide)) rfl g_f_forest_of kp_forest_of b_forest_of tk (da_cons (dv 1) (da_cons (dv 2) da_nil))))) (dss_one (ds_fld (c_Web rfl rfl) n_Web_links (dv 0) (DE.fz (de_call FO_links_of (hr.mono (by decide)) rfl g_f_links_of kp_links_of b_links_of tk (da_cons (dv 1) (da_cons (dv 2) (da_cons (de_fld (c_Web rfl rfl) n_Web_own_forest (dv 0)) da_nil)))))))))))))
theorem sc__law_number : FnScope ["_law_pool_here", "_law_dial"] ["_law_pool_here", "_law_dial"] (defScope s__law_number) := ⟨rfl, rfl, rfl, by decide +kernel, rfl, by decide +kernel, by decide +kernel⟩
theorem ok__law_number {P : Program} {w : World} {K : PySem.W.Frag} {h : Heap} {mg : Str → Option Value} {base : Heap} (KX : K.In h) (G : h.Ns mainGlobals mg) (c : He.SaysD fa fn K) : ∃ fd, Binds K fd ["_law_pool_here", "_law_dial"] [] ∧ FnOk P w K mg base (L2.CX P w) 2 (He.fAd K d__law_number.at_) fd ["_law_pool_here", "_law_dial"] (spD ⟨K, mg⟩ 2 F__law_number) := by
  obtain ⟨fd, F⟩ := c.def_ 34 (d := d__law_number) rfl
  obtain ⟨fd__law_take, b__law_take, FO__law_take⟩ := ok__law_take (P := P) (w := w) (base := base) KX G c
  have g_f__law_take : mg "_law_take" = some (.ref (He.ga K "_law_take")) := He.glo_ok KX G (c.fact 1 rfl)
  have kp__law_take : PySem.W.keepIn K (.ref (He.ga K "_law_take")) = true := by
    obtain ⟨_, FF⟩ := c.def_ 31 (d := d__law_take) rfl
    exact FF.kp
  refine ⟨fd, FunD.bindsN F (fun _ _ _ _ _ _ us hl => match us, hl with | [_, _], _ => rfl), fn_d (k := 1) F sc__law_number (fun cdv A outer s H E hr tk => ?_)⟩
  have hx : Passes (L2.CX P w) (cxOf (L2.CX P w) P w K mg base ["_law_pool_here", "_law_dial"] d__law_number.qual d__law_number.scope (He.fAd K d__law_number.at_) cdv A outer s H E) E := passes_call tk (fun _ _ _ _ z => z)
  have hu64 := hr.units
  have hu := hu_of hr
  exact dss_cons (ds_if (dt_gt (dv 1) de_int) (dss_one (ds_ret (DE.fz (de_call FO__law_take (hr.mono (by decide)) rfl g_f__law_take kp__law_take b__law_take tk (da_cons (dv 0) (da_cons (dv 1) da_nil)))))) dss_nil) (dss_one (ds_ret (de_ix (DN.frz (dn_lst (da_cons (de_sub (DE.fz (de_call FO__law_take (hr.mono (by decide)) rfl g_f__law_take kp__law_take b__law_take tk (da_cons (dv 0) (da_cons de_int da_nil)))) de_int) (da_cons de_int (da_cons (de_sub (DE.fz (de_call FO__law_take (hr.mono (by decide)) rfl g_f__law_take kp__law_take b__law_take tk (da_cons (dv 0) (da_cons (de_pow de_int de_int) da_nil)))) (de_mul de_int (de_pow de_int de_int))) da_nil))))) (DE.fz (de_call FO__law_take (hr.mono (by decide)) rfl g_f__law_take kp__law_take b__law_take tk (da_cons (dv 0) (da_cons de_int da_nil)))) (fun _ _ => rfl))))
theorem sc__law_numbers : FnScope ["_law_pool_here", "_law_dial", "_law_count", "_law_turn"] ["_law_pool_here", "_law_dial", "_law_count"] (defScope s__law_numbers) := ⟨rfl, rfl, rfl, by decide +kernel, rfl, by decide +kernel, by decide +kernel⟩
theorem ok__law_numbers {P : Program} {w : World} {K : PySem.W.Frag} {h : Heap} {mg : Str → Option Value} {base : Heap} (KX : K.In h) (G : h.Ns mainGlobals mg) (c : He.SaysD fa fn K) : ∃ fd, Binds K fd ["_law_pool_here", "_law_dial", "_law_count"] [] ∧ FnOk P w K mg base (L2.CX P w) 3 (He.fAd K d__law_numbers.at_) fd ["_law_pool_here", "_law_dial", "_law_count"] (spD ⟨K, mg⟩ 3 F__law_numbers) := by
  obtain ⟨fd, F⟩ := c.def_ 35 (d := d__law_numbers) rfl
  have z_range : mg "range" = none := He.free_ok KX G (c.fact 2 rfl)
  obtain ⟨fd__law_number, b__law_number, FO__law_number⟩ := ok__law_number (P := P) (w := w) (base := base) KX G c
  have g_f__law_number : mg "_law_number" = some (.ref (He.ga K "_law_number")) := He.glo_ok KX G (c.fact 26 rfl)
  have kp__law_number : PySem.W.keepIn K (.ref (He.ga K "_law_number")) = true := by
    obtain ⟨_, FF⟩ := c.def_ 34 (d := d__law_number) rfl
    exact FF.kp
  refine ⟨fd, FunD.bindsN F (fun _ _ _ _ _ _ us hl => match us, hl with | [_, _, _], _ => rfl), fn_d (k := 2) F sc__law_numbers (fun cdv A outer s H E hr tk => ?_)⟩
  have hx : Passes (L2.CX P w) (cxOf (L2.CX P w) P w K mg base ["_law_pool_here", "_law_dial", "_law_count", "_law_turn"] d__law_numbers.qual d__law_numbers.scope (He.fAd K d__law_numbers.at_) cdv A outer s H E) E := passes_call tk (fun _ _ _ _ z => z)
  have hu64 := hr.units
  have hu := hu_of hr
  exact dss_one (ds_ret (DN.frz (dn_lc (own := [(("_law_turn" : Str), 3)]) rfl sc__law_numbers.nd (di_range1 rfl z_range (da_cons (dv 2) da_nil)) (blkOk_by rfl) (fun _ _ _ _ _ => gn 3 sc__law_numbers.nd) (fun _ _ _ _ _ => dts_nil) (fun _ _ _ _ _ => DE.fz (de_call FO__law_number (hr.mono (by decide)) rfl g_f__law_number kp__law_number b__law_number takes0 (da_cons (dv 0) (da_cons (dv 1) da_nil)))) (rs_mem rfl))))
theorem sc__law_round : FnScope ["_law_pool_here", "_law_links_here", "_law_nodes", "_law_start", "_law_paths", "_law_turn", "_law_number_here", "_law_tail", "_law_head", "_law_some", "_law_edge", "_law_way"] ["_law_pool_here", "_law_links_here", "_law_nodes"] (defScope s__law_round) := ⟨rfl, rfl, rfl, by decide +kernel, rfl, by decide +kernel, by decide +kernel⟩
theorem ok__law_round {P : Program} {w : World} {K : PySem.W.Frag} {h : Heap} {mg : Str → Option Value} {base : Heap} (KX : K.In h) (G : h.Ns mainGlobals mg) (c : He.SaysD fa fn K) : ∃ fd, Binds K fd ["_law_pool_here", "_law_links_here", "_law_nodes"] [] ∧ FnOk P w K mg base (L2.CX P w) 2 (He.fAd K d__law_round.at_) fd ["_law_pool_here", "_law_links_here", "_law_nodes"] (spD ⟨K, mg⟩ 3 F__law_round) := by
  obtain ⟨fd, F⟩ := c.def_ 37 (d := d__law_round) rfl
  obtain ⟨fd__law_take, b__law_take, FO__law_take⟩ := ok__law_take (P := P) (w := w) (base := base) KX G c
  have g_f__law_take : mg "_law_take" = some (.ref (He.ga K "_law_take")) := He.glo_ok KX G (c.fact 1 rfl)
  have kp__law_take : PySem.W.keepIn K (.ref (He.ga K "_law_take")) = true := by
    obtain ⟨_, FF⟩ := c.def_ 31 (d := d__law_take) rfl
    exact FF.kp
  have z_range : mg "range" = none := He.free_ok KX G (c.fact 2 rfl)
  have z_enumerate : mg "enumerate" = none := He.free_ok KX G (c.fact 13 rfl)
  have z_len : mg "len" = none := He.free_ok KX G (c.fact 0 rfl)
  refine ⟨fd, FunD.bindsN F (fun _ _ _ _ _ _ us hl => match us, hl with | [_, _, _], _ => rfl), fn_d (k := 1) F sc__law_round (fun cdv A outer s H E hr tk => ?_)⟩
  have hx : Passes (L2.CX P w) (cxOf (L2.CX P w) P w K mg base ["_law_pool_here", "_law_links_here", "_law_nodes", "_law_start", "_law_paths", "_law_turn", "_law_number_here", "_law_tail", "_law_head", "_law_some", "_law_edge", "_law_way"] d__law_round.qual d__law_round.scope (He.fAd K d__law_round.at_) cdv A outer s H E) E := passes_call tk (fun _ _ _ _ z => z)
  have hu64 := hr.units
  have hu := hu_of hr
  exact dss_cons (st 3 sc__law_round.nd (DE.fz (de_call FO__law_take (hr.mono (by decide)) rfl g_f__law_take kp__law_take b__law_take tk (da_cons (dv 0) (da_cons (dv 2) da_nil))))) (dss_cons (st 4 sc__law_round.nd (DN.cel (dn_disp (dps_cons (dv 3) (DN.frz (dn_lst da_nil)) dps_nil)))) (dss_cons (ds_for hp_of rfl (di_range1 rfl z_range (da_cons (dv 2) da_nil)) (gn 5 sc__law_round.nd) (dss_one (ds_for hp_of rfl (di_enum rfl z_enumerate (da_cons (dv 1) da_nil)) (dg_tup rfl (dgs_cons (gn 6 sc__law_round.nd) (dgs_cons (dg_tup rfl (dgs_cons (gn 7 sc__law_round.nd) (dgs_cons (gn 8 sc__law_round.nd) dgs_nil))) dgs_nil))) (dss_cons (ds_if (dt_w (dw_and (dt_din hu (dv 7) (dv 4)) (dw_and1 (dt_dnotin hu (dv 8) (dv 4))))) (dss_one (ds_dput hu (dv 4) (dv 8) (DN.frz (dn_add (de_dget hu (dv 4) (dv 7) (fun _ _ => rfl)) (DN.frz (dn_lst (da_cons (DN.frz (dn_tup (da_cons (dv 6) (da_cons de_int da_nil)))) da_nil))))))) dss_nil) (dss_one (ds_if (dt_w (dw_and (dt_din hu (dv 8) (dv 4)) (dw_and1 (dt_dnotin hu (dv 7) (dv 4))))) (dss_one (ds_dput hu (dv 4) (dv 7) (DN.frz (dn_add (de_dget hu (dv 4) (dv 8) (fun _ _ => rfl)) (DN.frz (dn_lst (da_cons (DN.frz (dn_tup (da_cons (dv 6) (da_cons (de_neg de_int) da_nil)))) da_nil))))))) dss_nil)))))) (dss_cons (ds_setLc (own := [(("_law_number_here" : Str), 6)]) kN_frz rfl sc__law_round.nd (show _ from rfl) rfl (sw_true rfl rfl rfl (by decide +kernel)) (di_range1 rfl z_range (da_cons (de_len rfl z_len (da_cons (dv 1) da_nil)) da_nil)) (blkOk_by rfl) (fun _ _ _ _ _ => gn 6 sc__law_round.nd) (fun _ _ _ _ _ => dts_one (dt_din hu (de_ix (de_ix (dv 1) (dv 6) (fun _ _ => rfl)) de_int (fun _ _ => rfl)) (dv 4))) (fun _ _ _ _ _ => dv 6) (rs_mem rfl)) (dss_cons (ds_if (dt_eq hu64 (dv 9) (DN.frz (dn_lst da_nil))) (dss_one (ds_ret (DN.frz (dn_lst da_nil)))) dss_nil) (dss_cons (st 6 sc__law_round.nd (de_ix (dv 9) (DE.fz (de_call FO__law_take (hr.mono (by decide)) rfl g_f__law_take kp__law_take b__law_take tk (da_cons (dv 0) (da_cons (de_len rfl z_len (da_cons (dv 9) da_nil)) da_nil)))) (fun _ _ => rfl))) (dss_cons (ds_asg (de_ix (dv 1) (dv 6) (fun _ _ => rfl)) (dg_tup rfl (dgs_cons (gn 7 sc__law_round.nd) (dgs_cons (gn 8 sc__law_round.nd) dgs_nil)))) (dss_one (ds_ret (DN.frz (dn_add (DN.frz (dn_add (de_dget hu (dv 4) (dv 7) (fun _ _ => rfl)) (DN.frz (dn_lst (da_cons (DN.frz (dn_tup (da_cons (dv 6) (da_cons de_int da_nil)))) da_nil))))) (DN.frz (dn_lc (own := [(("_law_edge" : Str), 10), (("_law_way" : Str), 11)]) rfl sc__law_round.nd (di_sq (DN.frz (dn_rev (de_dget hu (dv 4) (dv 8) (fun _ _ => rfl))))) (blkOk_by rfl) (fun _ _ _ _ _ => dg_tup rfl (dgs_cons (gn 10 sc__law_round.nd) (dgs_cons (gn 11 sc__law_round.nd) dgs_nil))) (fun _ _ _ _ _ => dts_nil) (fun _ _ _ _ _ => DN.frz (dn_tup (da_cons (dv 10) (da_cons (de_sub de_int (dv 11)) da_nil)))) (rs_mem rfl)))))))))))))
theorem sc_Web_modulus : FnScope ["self"] ["self"] (defScope s_Web_modulus) := ⟨rfl, rfl, rfl, by decide +kernel, rfl, by decide +kernel, by decide +kernel⟩
theorem ok_Web_modulus {P : Program} {w : World} {K : PySem.W.Frag} {h : Heap} {mg : Str → Option Value} {base : Heap} (KX : K.In h) (G : h.Ns mainGlobals mg) (c : He.SaysD fa fn K) : ∃ fd, Binds K fd ["self"] [] ∧ FnOk P w K mg base (L2.CX P w) 1 (He.fAd K d_Web_modulus.at_) fd ["self"] (spD ⟨K, mg⟩ 1 F_Web_modulus) := by
  obtain ⟨fd, F⟩ := c.def_ 10 (d := d_Web_modulus) rfl
  have gc_Web : mg "Web" = some (.ref (He.ga K "Web")) := He.glo_ok KX G (c.fact 17 rfl)
  have cl_Web : Cls K (He.ga K "Web") := He.cls_ok (c.fact 18 rfl)
  have n_Web_own_modulus : NoAttr K (He.ga K "Web") "own_modulus" := He.noat_ok (c.fact 21 rfl)
  refine ⟨fd, FunD.bindsN F (fun _ _ _ _ _ _ us hl => match us, hl with | [_], _ => rfl), fn_d (k := 0) F sc_Web_modulus (fun cdv A outer s H E hr tk => ?_)⟩
  have hx : Passes (L2.CX P w) (cxOf (L2.CX P w) P w K mg base ["self"] d_Web_modulus.qual d_Web_modulus.scope (He.fAd K d_Web_modulus.at_) cdv A outer s H E) E := passes_call tk (fun _ _ _ _ z => z)
  have hu64 := hr.units
  have hu := hu_of hr
  have c_Web : ∀ {Y : Cx}, Y.mg = mg → Y.K = K → ClsD Y "Web" (He.ga K "Web") := fun h1 h2 => ⟨by rw [h1]; exact gc_Web, by rw [h2]; exact cl_Web⟩
  exact dss_one (ds_ret (de_fld (c_Web rfl rfl) n_Web_own_modulus (dv 0)))
theorem sc_is_residue : FnScope ["web", "thing"] ["web", "thing"] (defScope s_is_residue) := ⟨rfl, rfl, rfl, by decide +kernel, rfl, by decide +kernel, by decide +kernel⟩
theorem ok_is_residue {P : Program} {w : World} {K : PySem.W.Frag} {h : Heap} {mg : Str → Option Value} {base : Heap} (KX : K.In h) (G : h.Ns mainGlobals mg) (c : He.SaysD fa fn K) : ∃ fd, Binds K fd ["web", "thing"] [] ∧ FnOk P w K mg base (L2.CX P w) 3 (He.fAd K d_is_residue.at_) fd ["web", "thing"] (spD ⟨K, mg⟩ 2 F_is_residue) := by
  obtain ⟨fd, F⟩ := c.def_ 19 (d := d_is_residue) rfl
  obtain ⟨fd_Web_modulus, b_Web_modulus, FO_Web_modulus⟩ := ok_Web_modulus (P := P) (w := w) (base := base) KX G c
  have gc_Web : mg "Web" = some (.ref (He.ga K "Web")) := He.glo_ok KX G (c.fact 17 rfl)
  have cl_Web : Cls K (He.ga K "Web") := He.cls_ok (c.fact 18 rfl)
  have m_Web_modulus : Meth K (He.ga K "Web") "modulus" (He.ma K (He.ga K "Web") "modulus") := He.meth_ok (c.fact 27 rfl)
  obtain ⟨fd_is_integer, b_is_integer, FO_is_integer⟩ := ok_is_integer (P := P) (w := w) (base := base) KX G c
  have g_f_is_integer : mg "is_integer" = some (.ref (He.ga K "is_integer")) := He.glo_ok KX G (c.fact 6 rfl)
  have kp_is_integer : PySem.W.keepIn K (.ref (He.ga K "is_integer")) = true := by
    obtain ⟨_, FF⟩ := c.def_ 3 (d := d_is_integer) rfl
    exact FF.kp
  obtain ⟨fd_is_within, b_is_within, FO_is_within⟩ := ok_is_within (P := P) (w := w) (base := base) KX G c
  have g_f_is_within : mg "is_within" = some (.ref (He.ga K "is_within")) := He.glo_ok KX G (c.fact 8 rfl)
  have kp_is_within : PySem.W.keepIn K (.ref (He.ga K "is_within")) = true := by
    obtain ⟨_, FF⟩ := c.def_ 4 (d := d_is_within) rfl
    exact FF.kp
  refine ⟨fd, FunD.bindsN F (fun _ _ _ _ _ _ us hl => match us, hl with | [_, _], _ => rfl), fn_d (k := 2) F sc_is_residue (fun cdv A outer s H E hr tk => ?_)⟩
  have hx : Passes (L2.CX P w) (cxOf (L2.CX P w) P w K mg base ["web", "thing"] d_is_residue.qual d_is_residue.scope (He.fAd K d_is_residue.at_) cdv A outer s H E) E := passes_call tk (fun _ _ _ _ z => z)
  have hu64 := hr.units
  have hu := hu_of hr
  have c_Web : ∀ {Y : Cx}, Y.mg = mg → Y.K = K → ClsD Y "Web" (He.ga K "Web") := fun h1 h2 => ⟨by rw [h1]; exact gc_Web, by rw [h2]; exact cl_Web⟩
  exact dss_cons (ds_if (dt_eq hu64 (DE.fz (de_meth0 (pl := _) (c_Web rfl rfl) m_Web_modulus FO_Web_modulus (hr.mono (by decide)) b_Web_modulus .nil (fun _ _ => .nil) hx (dv 0))) de_int) (dss_one (ds_ret (DE.fz (de_call FO_is_integer (hr.mono (by decide)) rfl g_f_is_integer kp_is_integer b_is_integer tk (da_cons (dv 1) da_nil))))) dss_nil) (dss_one (ds_ret (DE.fz (de_call FO_is_within (hr.mono (by decide)) rfl g_f_is_within kp_is_within b_is_within tk (da_cons (dv 1) (da_cons de_int (da_cons (de_sub (DE.fz (de_meth0 (pl := _) (c_Web rfl rfl) m_Web_modulus FO_Web_modulus (hr.mono (by decide)) b_Web_modulus .nil (fun _ _ => .nil) hx (dv 0))) de_int) da_nil)))))))
theorem sc_are_residues : FnScope ["web", "thing", "count", "one"] ["web", "thing", "count"] (defScope s_are_residues) := ⟨rfl, rfl, rfl, by decide +kernel, rfl, by decide +kernel, by decide +kernel⟩
theorem ok_are_residues {P : Program} {w : World} {K : PySem.W.Frag} {h : Heap} {mg : Str → Option Value} {base : Heap} (KX : K.In h) (G : h.Ns mainGlobals mg) (c : He.SaysD fa fn K) : ∃ fd, Binds K fd ["web", "thing", "count"] [] ∧ FnOk P w K mg base (L2.CX P w) 4 (He.fAd K d_are_residues.at_) fd ["web", "thing", "count"] (spD ⟨K, mg⟩ 3 F_are_residues) := by
  obtain ⟨fd, F⟩ := c.def_ 20 (d := d_are_residues) rfl
  have z_isinstance : mg "isinstance" = none := He.free_ok KX G (c.fact 3 rfl)
  have z_list : mg "list" = none := He.free_ok KX G (c.fact 9 rfl)
  have z_len : mg "len" = none := He.free_ok KX G (c.fact 0 rfl)
  have z_all : mg "all" = none := He.free_ok KX G (c.fact 28 rfl)
  obtain ⟨fd_is_residue, b_is_residue, FO_is_residue⟩ := ok_is_residue (P := P) (w := w) (base := base) KX G c
  have g_f_is_residue : mg "is_residue" = some (.ref (He.ga K "is_residue")) := He.glo_ok KX G (c.fact 29 rfl)
  have kp_is_residue : PySem.W.keepIn K (.ref (He.ga K "is_residue")) = true := by
    obtain ⟨_, FF⟩ := c.def_ 19 (d := d_is_residue) rfl
    exact FF.kp
  refine ⟨fd, FunD.bindsN F (fun _ _ _ _ _ _ us hl => match us, hl with | [_, _, _], _ => rfl), fn_d (k := 3) F sc_are_residues (fun cdv A outer s H E hr tk => ?_)⟩
  have hx : Passes (L2.CX P w) (cxOf (L2.CX P w) P w K mg base ["web", "thing", "count", "one"] d_are_residues.qual d_are_residues.scope (He.fAd K d_are_residues.at_) cdv A outer s H E) E := passes_call tk (fun _ _ _ _ z => z)
  have hu64 := hr.units
  have hu := hu_of hr
  exact dss_one (ds_ret (de_and (de_isi rfl z_isinstance (da_cons (dv 1) (da_cons (de_ty rfl z_list (by decide +kernel)) da_nil))) (de_and (de_eq hu64 (de_len rfl z_len (da_cons (dv 1) da_nil)) (dv 2)) (de_one (de_all rfl rfl z_all (da_cons (DN.frz (dn_lc (own := [(("one" : Str), 3)]) rfl sc_are_residues.nd (di_sq (dv 1)) (blkOk_by rfl) (fun _ _ _ _ _ => gn 3 sc_are_residues.nd) (fun _ _ _ _ _ => dts_nil) (fun _ _ _ _ _ => DE.fz (de_call FO_is_residue (hr.mono (by decide)) rfl g_f_is_residue kp_is_residue b_is_residue takes0 (da_cons (dv 0) (da_cons (dv 3) da_nil)))) (rs_mem rfl))) da_nil))))))
theorem sc_Web___len__ : FnScope ["self"] ["self"] (defScope s_Web___len__) := ⟨rfl, rfl, rfl, by decide +kernel, rfl, by decide +kernel, by decide +kernel⟩
theorem ok_Web___len__ {P : Program} {w : World} {K : PySem.W.Frag} {h : Heap} {mg : Str → Option Value} {base : Heap} (KX : K.In h) (G : h.Ns mainGlobals mg) (c : He.SaysD fa fn K) : ∃ fd, Binds K fd ["self"] [] ∧ FnOk P w K mg base (L2.CX P w) 1 (He.fAd K d_Web___len__.at_) fd ["self"] (spD ⟨K, mg⟩ 1 F_Web___len__) := by
  obtain ⟨fd, F⟩ := c.def_ 13 (d := d_Web___len__) rfl
  have z_len : mg "len" = none := He.free_ok KX G (c.fact 0 rfl)
  have gc_Web : mg "Web" = some (.ref (He.ga K "Web")) := He.glo_ok KX G (c.fact 17 rfl)
  have cl_Web : Cls K (He.ga K "Web") := He.cls_ok (c.fact 18 rfl)
  have n_Web_own_edges : NoAttr K (He.ga K "Web") "own_edges" := He.noat_ok (c.fact 20 rfl)
  refine ⟨fd, FunD.bindsN F (fun _ _ _ _ _ _ us hl => match us, hl with | [_], _ => rfl), fn_d (k := 0) F sc_Web___len__ (fun cdv A outer s H E hr tk => ?_)⟩
  have hx : Passes (L2.CX P w) (cxOf (L2.CX P w) P w K mg base ["self"] d_Web___len__.qual d_Web___len__.scope (He.fAd K d_Web___len__.at_) cdv A outer s H E) E := passes_call tk (fun _ _ _ _ z => z)
  have hu64 := hr.units
  have hu := hu_of hr
  have c_Web : ∀ {Y : Cx}, Y.mg = mg → Y.K = K → ClsD Y "Web" (He.ga K "Web") := fun h1 h2 => ⟨by rw [h1]; exact gc_Web, by rw [h2]; exact cl_Web⟩
  exact dss_one (ds_ret (de_len rfl z_len (da_cons (de_fld (c_Web rfl rfl) n_Web_own_edges (dv 0)) da_nil)))
theorem sc_is_gains : FnScope ["web", "thing"] ["web", "thing"] (defScope s_is_gains) := ⟨rfl, rfl, rfl, by decide +kernel, rfl, by decide +kernel, by decide +kernel⟩
theorem ok_is_gains {P : Program} {w : World} {K : PySem.W.Frag} {h : Heap} {mg : Str → Option Value} {base : Heap} (KX : K.In h) (G : h.Ns mainGlobals mg) (c : He.SaysD fa fn K) : ∃ fd, Binds K fd ["web", "thing"] [] ∧ FnOk P w K mg base (L2.CX P w) 5 (He.fAd K d_is_gains.at_) fd ["web", "thing"] (spD ⟨K, mg⟩ 2 F_is_gains) := by
  obtain ⟨fd, F⟩ := c.def_ 21 (d := d_is_gains) rfl
  obtain ⟨fd_are_residues, b_are_residues, FO_are_residues⟩ := ok_are_residues (P := P) (w := w) (base := base) KX G c
  have g_f_are_residues : mg "are_residues" = some (.ref (He.ga K "are_residues")) := He.glo_ok KX G (c.fact 30 rfl)
  have kp_are_residues : PySem.W.keepIn K (.ref (He.ga K "are_residues")) = true := by
    obtain ⟨_, FF⟩ := c.def_ 20 (d := d_are_residues) rfl
    exact FF.kp
  have z_len : mg "len" = none := He.free_ok KX G (c.fact 0 rfl)
  obtain ⟨fd_Web___len__, b_Web___len__, FO_Web___len__⟩ := ok_Web___len__ (P := P) (w := w) (base := base) KX G c
  have gc_Web : mg "Web" = some (.ref (He.ga K "Web")) := He.glo_ok KX G (c.fact 17 rfl)
  have cl_Web : Cls K (He.ga K "Web") := He.cls_ok (c.fact 18 rfl)
  have m_Web___len__ : Meth K (He.ga K "Web") "__len__" (He.ma K (He.ga K "Web") "__len__") := He.meth_ok (c.fact 31 rfl)
  refine ⟨fd, FunD.bindsN F (fun _ _ _ _ _ _ us hl => match us, hl with | [_, _], _ => rfl), fn_d (k := 4) F sc_is_gains (fun cdv A outer s H E hr tk => ?_)⟩
  have hx : Passes (L2.CX P w) (cxOf (L2.CX P w) P w K mg base ["web", "thing"] d_is_gains.qual d_is_gains.scope (He.fAd K d_is_gains.at_) cdv A outer s H E) E := passes_call tk (fun _ _ _ _ z => z)
  have hu64 := hr.units
  have hu := hu_of hr
  have c_Web : ∀ {Y : Cx}, Y.mg = mg → Y.K = K → ClsD Y "Web" (He.ga K "Web") := fun h1 h2 => ⟨by rw [h1]; exact gc_Web, by rw [h2]; exact cl_Web⟩
  exact dss_one (ds_ret (DE.fz (de_call FO_are_residues (hr.mono (by decide)) rfl g_f_are_residues kp_are_residues b_are_residues tk (da_cons (dv 0) (da_cons (dv 1) (da_cons (de_lenO (c_Web rfl rfl) m_Web___len__ FO_Web___len__ (hr.mono (by decide)) b_Web___len__ hx rfl z_len (da_cons (dv 0) da_nil)) da_nil))))))
theorem sc_check_gains : FnScope ["web", "gains"] ["web", "gains"] (defScope s_check_gains) := ⟨rfl, rfl, rfl, by decide +kernel, rfl, by decide +kernel, by decide +kernel⟩
theorem ok_check_gains {P : Program} {w : World} {K : PySem.W.Frag} {h : Heap} {mg : Str → Option Value} {base : Heap} (KX : K.In h) (G : h.Ns mainGlobals mg) (c : He.SaysD fa fn K) : ∃ fd, Binds K fd ["web", "gains"] [] ∧ FnOk P w K mg base (L2.CX P w) 6 (He.fAd K d_check_gains.at_) fd ["web", "gains"] (spD ⟨K, mg⟩ 2 F_check_gains) := by
  obtain ⟨fd, F⟩ := c.def_ 23 (d := d_check_gains) rfl
  obtain ⟨fd_is_gains, b_is_gains, FO_is_gains⟩ := ok_is_gains (P := P) (w := w) (base := base) KX G c
  have g_f_is_gains : mg "is_gains" = some (.ref (He.ga K "is_gains")) := He.glo_ok KX G (c.fact 32 rfl)
  have kp_is_gains : PySem.W.keepIn K (.ref (He.ga K "is_gains")) = true := by
    obtain ⟨_, FF⟩ := c.def_ 21 (d := d_is_gains) rfl
    exact FF.kp
  refine ⟨fd, FunD.bindsN F (fun _ _ _ _ _ _ us hl => match us, hl with | [_, _], _ => rfl), fn_d (k := 5) F sc_check_gains (fun cdv A outer s H E hr tk => ?_)⟩
  have hx : Passes (L2.CX P w) (cxOf (L2.CX P w) P w K mg base ["web", "gains"] d_check_gains.qual d_check_gains.scope (He.fAd K d_check_gains.at_) cdv A outer s H E) E := passes_call tk (fun _ _ _ _ z => z)
  have hu64 := hr.units
  have hu := hu_of hr
  exact dss_one (ds_if (dt_not (dt_truth (DE.fz (de_call FO_is_gains (hr.mono (by decide)) rfl g_f_is_gains kp_is_gains b_is_gains tk (da_cons (dv 0) (da_cons (dv 1) da_nil)))))) (dss_one ds_never) dss_nil)
theorem sc_is_step : FnScope ["web", "thing"] ["web", "thing"] (defScope s_is_step) := ⟨rfl, rfl, rfl, by decide +kernel, rfl, by decide +kernel, by decide +kernel⟩
theorem ok_is_step {P : Program} {w : World} {K : PySem.W.Frag} {h : Heap} {mg : Str → Option Value} {base : Heap} (KX : K.In h) (G : h.Ns mainGlobals mg) (c : He.SaysD fa fn K) : ∃ fd, Binds K fd ["web", "thing"] [] ∧ FnOk P w K mg base (L2.CX P w) 3 (He.fAd K d_is_step.at_) fd ["web", "thing"] (spD ⟨K, mg⟩ 2 F_is_step) := by
  obtain ⟨fd, F⟩ := c.def_ 15 (d := d_is_step) rfl
  have z_isinstance : mg "isinstance" = none := He.free_ok KX G (c.fact 3 rfl)
  have z_tuple : mg "tuple" = none := He.free_ok KX G (c.fact 7 rfl)
  have z_len : mg "len" = none := He.free_ok KX G (c.fact 0 rfl)
  obtain ⟨fd_is_within, b_is_within, FO_is_within⟩ := ok_is_within (P := P) (w := w) (base := base) KX G c
  have g_f_is_within : mg "is_within" = some (.ref (He.ga K "is_within")) := He.glo_ok KX G (c.fact 8 rfl)
  have kp_is_within : PySem.W.keepIn K (.ref (He.ga K "is_within")) = true := by
    obtain ⟨_, FF⟩ := c.def_ 4 (d := d_is_within) rfl
    exact FF.kp
  obtain ⟨fd_Web___len__, b_Web___len__, FO_Web___len__⟩ := ok_Web___len__ (P := P) (w := w) (base := base) KX G c
  have gc_Web : mg "Web" = some (.ref (He.ga K "Web")) := He.glo_ok KX G (c.fact 17 rfl)
  have cl_Web : Cls K (He.ga K "Web") := He.cls_ok (c.fact 18 rfl)
  have m_Web___len__ : Meth K (He.ga K "Web") "__len__" (He.ma K (He.ga K "Web") "__len__") := He.meth_ok (c.fact 31 rfl)
  refine ⟨fd, FunD.bindsN F (fun _ _ _ _ _ _ us hl => match us, hl with | [_, _], _ => rfl), fn_d (k := 2) F sc_is_step (fun cdv A outer s H E hr tk => ?_)⟩
  have hx : Passes (L2.CX P w) (cxOf (L2.CX P w) P w K mg base ["web", "thing"] d_is_step.qual d_is_step.scope (He.fAd K d_is_step.at_) cdv A outer s H E) E := passes_call tk (fun _ _ _ _ z => z)
  have hu64 := hr.units
  have hu := hu_of hr
  have c_Web : ∀ {Y : Cx}, Y.mg = mg → Y.K = K → ClsD Y "Web" (He.ga K "Web") := fun h1 h2 => ⟨by rw [h1]; exact gc_Web, by rw [h2]; exact cl_Web⟩
  exact dss_cons (ds_if (dt_w (dw_or (dt_not (dt_truth (de_isi rfl z_isinstance (da_cons (dv 1) (da_cons (de_ty rfl z_tuple (by decide +kernel)) da_nil))))) (dw_or1 (dt_ne hu64 (de_len rfl z_len (da_cons (dv 1) da_nil)) de_int)))) (dss_one (ds_ret de_bl)) dss_nil) (dss_one (ds_ret (de_and (DE.fz (de_call FO_is_within (hr.mono (by decide)) rfl g_f_is_within kp_is_within b_is_within tk (da_cons (de_ix (dv 1) de_int (fun _ _ => rfl)) (da_cons de_int (da_cons (de_sub (de_lenO (c_Web rfl rfl) m_Web___len__ FO_Web___len__ (hr.mono (by decide)) b_Web___len__ hx rfl z_len (da_cons (dv 0) da_nil)) de_int) da_nil))))) (de_and (DE.fz (de_call FO_is_within (hr.mono (by decide)) rfl g_f_is_within kp_is_within b_is_within tk (da_cons (de_ix (dv 1) de_int (fun _ _ => rfl)) (da_cons (de_neg de_int) (da_cons de_int da_nil))))) (de_one (de_ne hu64 (de_ix (dv 1) de_int (fun _ _ => rfl)) de_int))))))
theorem sc_Web_edge : FnScope ["self", "number"] ["self", "number"] (defScope s_Web_edge) := ⟨rfl, rfl, rfl, by decide +kernel, rfl, by decide +kernel, by decide +kernel⟩
theorem ok_Web_edge {P : Program} {w : World} {K : PySem.W.Frag} {h : Heap} {mg : Str → Option Value} {base : Heap} (KX : K.In h) (G : h.Ns mainGlobals mg) (c : He.SaysD fa fn K) : ∃ fd, Binds K fd ["self", "number"] [] ∧ FnOk P w K mg base (L2.CX P w) 3 (He.fAd K d_Web_edge.at_) fd ["self", "number"] (spD ⟨K, mg⟩ 2 F_Web_edge) := by
  obtain ⟨fd, F⟩ := c.def_ 12 (d := d_Web_edge) rfl
  obtain ⟨fd_is_within, b_is_within, FO_is_within⟩ := ok_is_within (P := P) (w := w) (base := base) KX G c
  have g_f_is_within : mg "is_within" = some (.ref (He.ga K "is_within")) := He.glo_ok KX G (c.fact 8 rfl)
  have kp_is_within : PySem.W.keepIn K (.ref (He.ga K "is_within")) = true := by
    obtain ⟨_, FF⟩ := c.def_ 4 (d := d_is_within) rfl
    exact FF.kp
  have z_len : mg "len" = none := He.free_ok KX G (c.fact 0 rfl)
  have gc_Web : mg "Web" = some (.ref (He.ga K "Web")) := He.glo_ok KX G (c.fact 17 rfl)
  have cl_Web : Cls K (He.ga K "Web") := He.cls_ok (c.fact 18 rfl)
  have n_Web_own_edges : NoAttr K (He.ga K "Web") "own_edges" := He.noat_ok (c.fact 20 rfl)
  refine ⟨fd, FunD.bindsN F (fun _ _ _ _ _ _ us hl => match us, hl with | [_, _], _ => rfl), fn_d (k := 2) F sc_Web_edge (fun cdv A outer s H E hr tk => ?_)⟩
  have hx : Passes (L2.CX P w) (cxOf (L2.CX P w) P w K mg base ["self", "number"] d_Web_edge.qual d_Web_edge.scope (He.fAd K d_Web_edge.at_) cdv A outer s H E) E := passes_call tk (fun _ _ _ _ z => z)
  have hu64 := hr.units
  have hu := hu_of hr
  have c_Web : ∀ {Y : Cx}, Y.mg = mg → Y.K = K → ClsD Y "Web" (He.ga K "Web") := fun h1 h2 => ⟨by rw [h1]; exact gc_Web, by rw [h2]; exact cl_Web⟩
  exact dss_cons (ds_if (dt_not (dt_truth (DE.fz (de_call FO_is_within (hr.mono (by decide)) rfl g_f_is_within kp_is_within b_is_within tk (da_cons (dv 1) (da_cons de_int (da_cons (de_sub (de_len rfl z_len (da_cons (de_fld (c_Web rfl rfl) n_Web_own_edges (dv 0)) da_nil)) de_int) da_nil))))))) (dss_one ds_never) dss_nil) (dss_one (ds_ret (de_ix (de_fld (c_Web rfl rfl) n_Web_own_edges (dv 0)) (dv 1) (fun _ _ => rfl))))
theorem sc_step_ends : FnScope ["web", "step", "number", "way", "tail", "head"] ["web", "step"] (defScope s_step_ends) := ⟨rfl, rfl, rfl, by decide +kernel, rfl, by decide +kernel, by decide +kernel⟩
theorem ok_step_ends {P : Program} {w : World} {K : PySem.W.Frag} {h : Heap} {mg : Str → Option Value} {base : Heap} (KX : K.In h) (G : h.Ns mainGlobals mg) (c : He.SaysD fa fn K) : ∃ fd, Binds K fd ["web", "step"] [] ∧ FnOk P w K mg base (L2.CX P w) 4 (He.fAd K d_step_ends.at_) fd ["web", "step"] (spD ⟨K, mg⟩ 2 F_step_ends) := by
  obtain ⟨fd, F⟩ := c.def_ 16 (d := d_step_ends) rfl
  obtain ⟨fd_Web_edge, b_Web_edge, FO_Web_edge⟩ := ok_Web_edge (P := P) (w := w) (base := base) KX G c
  have gc_Web : mg "Web" = some (.ref (He.ga K "Web")) := He.glo_ok KX G (c.fact 17 rfl)
  have cl_Web : Cls K (He.ga K "Web") := He.cls_ok (c.fact 18 rfl)
  have m_Web_edge : Meth K (He.ga K "Web") "edge" (He.ma K (He.ga K "Web") "edge") := He.meth_ok (c.fact 33 rfl)
  refine ⟨fd, FunD.bindsN F (fun _ _ _ _ _ _ us hl => match us, hl with | [_, _], _ => rfl), fn_d (k := 3) F sc_step_ends (fun cdv A outer s H E hr tk => ?_)⟩
  have hx : Passes (L2.CX P w) (cxOf (L2.CX P w) P w K mg base ["web", "step", "number", "way", "tail", "head"] d_step_ends.qual d_step_ends.scope (He.fAd K d_step_ends.at_) cdv A outer s H E) E := passes_call tk (fun _ _ _ _ z => z)
  have hu64 := hr.units
  have hu := hu_of hr
  have c_Web : ∀ {Y : Cx}, Y.mg = mg → Y.K = K → ClsD Y "Web" (He.ga K "Web") := fun h1 h2 => ⟨by rw [h1]; exact gc_Web, by rw [h2]; exact cl_Web⟩
  exact dss_cons (ds_asg (dv 1) (dg_tup rfl (dgs_cons (gn 2 sc_step_ends.nd) (dgs_cons (gn 3 sc_step_ends.nd) dgs_nil)))) (dss_cons (ds_asg (DE.fz (de_meth (pl := _) (c_Web rfl rfl) m_Web_edge FO_Web_edge (hr.mono (by decide)) b_Web_edge .nil (fun _ _ => .nil) hx (dv 0) (da_cons (dv 2) da_nil))) (dg_tup rfl (dgs_cons (gn 4 sc_step_ends.nd) (dgs_cons (gn 5 sc_step_ends.nd) dgs_nil)))) (dss_one (ds_ret (de_ifExp (dt_eq hu64 (dv 3) de_int) (DN.frz (dn_tup (da_cons (dv 4) (da_cons (dv 5) da_nil)))) (DN.frz (dn_tup (da_cons (dv 5) (da_cons (dv 4) da_nil))))))))
theorem sc_is_walk : FnScope ["web", "thing", "ends", "step", "one", "other"] ["web", "thing"] (defScope s_is_walk) := ⟨rfl, rfl, rfl, by decide +kernel, rfl, by decide +kernel, by decide +kernel⟩
theorem ok_is_walk {P : Program} {w : World} {K : PySem.W.Frag} {h : Heap} {mg : Str → Option Value} {base : Heap} (KX : K.In h) (G : h.Ns mainGlobals mg) (c : He.SaysD fa fn K) : ∃ fd, Binds K fd ["web", "thing"] [] ∧ FnOk P w K mg base (L2.CX P w) 5 (He.fAd K d_is_walk.at_) fd ["web", "thing"] (spD ⟨K, mg⟩ 2 F_is_walk) := by
  obtain ⟨fd, F⟩ := c.def_ 17 (d := d_is_walk) rfl
  have z_isinstance : mg "isinstance" = none := He.free_ok KX G (c.fact 3 rfl)
  have z_list : mg "list" = none := He.free_ok KX G (c.fact 9 rfl)
  have z_all : mg "all" = none := He.free_ok KX G (c.fact 28 rfl)
  obtain ⟨fd_is_step, b_is_step, FO_is_step⟩ := ok_is_step (P := P) (w := w) (base := base) KX G c
  have g_f_is_step : mg "is_step" = some (.ref (He.ga K "is_step")) := He.glo_ok KX G (c.fact 34 rfl)
  have kp_is_step : PySem.W.keepIn K (.ref (He.ga K "is_step")) = true := by
    obtain ⟨_, FF⟩ := c.def_ 15 (d := d_is_step) rfl
    exact FF.kp
  obtain ⟨fd_step_ends, b_step_ends, FO_step_ends⟩ := ok_step_ends (P := P) (w := w) (base := base) KX G c
  have g_f_step_ends : mg "step_ends" = some (.ref (He.ga K "step_ends")) := He.glo_ok KX G (c.fact 35 rfl)
  have kp_step_ends : PySem.W.keepIn K (.ref (He.ga K "step_ends")) = true := by
    obtain ⟨_, FF⟩ := c.def_ 16 (d := d_step_ends) rfl
    exact FF.kp
  have z_zip : mg "zip" = none := He.free_ok KX G (c.fact 36 rfl)
  refine ⟨fd, FunD.bindsN F (fun _ _ _ _ _ _ us hl => match us, hl with | [_, _], _ => rfl), fn_d (k := 4) F sc_is_walk (fun cdv A outer s H E hr tk => ?_)⟩
  have hx : Passes (L2.CX P w) (cxOf (L2.CX P w) P w K mg base ["web", "thing", "ends", "step", "one", "other"] d_is_walk.qual d_is_walk.scope (He.fAd K d_is_walk.at_) cdv A outer s H E) E := passes_call tk (fun _ _ _ _ z => z)
  have hu64 := hr.units
  have hu := hu_of hr
  exact dss_cons (ds_if (dt_w (dw_or (dt_not (dt_truth (de_isi rfl z_isinstance (da_cons (dv 1) (da_cons (de_ty rfl z_list (by decide +kernel)) da_nil))))) (dw_or1 (dt_eq hu64 (dv 1) (DN.frz (dn_lst da_nil)))))) (dss_one (ds_ret de_bl)) dss_nil) (dss_cons (ds_if (dt_not (dt_truth (de_all rfl rfl z_all (da_cons (DN.frz (dn_lc (own := [(("step" : Str), 3)]) rfl sc_is_walk.nd (di_sq (dv 1)) (blkOk_by rfl) (fun _ _ _ _ _ => gn 3 sc_is_walk.nd) (fun _ _ _ _ _ => dts_nil) (fun _ _ _ _ _ => DE.fz (de_call FO_is_step (hr.mono (by decide)) rfl g_f_is_step kp_is_step b_is_step takes0 (da_cons (dv 0) (da_cons (dv 3) da_nil)))) (rs_mem rfl))) da_nil)))) (dss_one (ds_ret de_bl)) dss_nil) (dss_cons (ds_setLc (own := [(("step" : Str), 3)]) kN_frz rfl sc_is_walk.nd (show _ from rfl) rfl (sw_true rfl rfl rfl (by decide +kernel)) (di_sq (dv 1)) (blkOk_by rfl) (fun _ _ _ _ _ => gn 3 sc_is_walk.nd) (fun _ _ _ _ _ => dts_nil) (fun _ _ _ _ _ => DE.fz (de_call FO_step_ends (hr.mono (by decide)) rfl g_f_step_ends kp_step_ends b_step_ends takes0 (da_cons (dv 0) (da_cons (dv 3) da_nil)))) (rs_mem rfl)) (dss_one (ds_ret (de_all rfl rfl z_all (da_cons (DN.frz (dn_lc (own := [(("one" : Str), 4), (("other" : Str), 5)]) rfl sc_is_walk.nd (di_zip rfl z_zip (da_cons (dv 2) (da_cons (DN.frz (dn_slice (dv 2) (do_some de_int) do_none)) da_nil))) (blkOk_by rfl) (fun _ _ _ _ _ => dg_tup rfl (dgs_cons (gn 4 sc_is_walk.nd) (dgs_cons (gn 5 sc_is_walk.nd) dgs_nil))) (fun _ _ _ _ _ => dts_nil) (fun _ _ _ _ _ => de_eq hu64 (de_ix (dv 4) de_int (fun _ _ => rfl)) (de_ix (dv 5) de_int (fun _ _ => rfl))) (rs_mem rfl))) da_nil))))))
theorem sc_reduced_number : FnScope ["number", "modulus"] ["number", "modulus"] (defScope s_reduced_number) := ⟨rfl, rfl, rfl, by decide +kernel, rfl, by decide +kernel, by decide +kernel⟩
theorem ok_reduced_number {P : Program} {w : World} {K : PySem.W.Frag} {h : Heap} {mg : Str → Option Value} {base : Heap} (KX : K.In h) (G : h.Ns mainGlobals mg) (c : He.SaysD fa fn K) : ∃ fd, Binds K fd ["number", "modulus"] [] ∧ FnOk P w K mg base (L2.CX P w) 1 (He.fAd K d_reduced_number.at_) fd ["number", "modulus"] (spD ⟨K, mg⟩ 2 F_reduced_number) := by
  obtain ⟨fd, F⟩ := c.def_ 0 (d := d_reduced_number) rfl
  refine ⟨fd, FunD.bindsN F (fun _ _ _ _ _ _ us hl => match us, hl with | [_, _], _ => rfl), fn_d (k := 0) F sc_reduced_number (fun cdv A outer s H E hr tk => ?_)⟩
  have hx : Passes (L2.CX P w) (cxOf (L2.CX P w) P w K mg base ["number", "modulus"] d_reduced_number.qual d_reduced_number.scope (He.fAd K d_reduced_number.at_) cdv A outer s H E) E := passes_call tk (fun _ _ _ _ z => z)
  have hu64 := hr.units
  have hu := hu_of hr
  exact dss_one (ds_ret (de_ifExp (dt_gt (dv 1) de_int) (de_mod (dv 0) (dv 1)) (dv 0)))
theorem sc_residue : FnScope ["web", "number"] ["web", "number"] (defScope s_residue) := ⟨rfl, rfl, rfl, by decide +kernel, rfl, by decide +kernel, by decide +kernel⟩
theorem ok_residue {P : Program} {w : World} {K : PySem.W.Frag} {h : Heap} {mg : Str → Option Value} {base : Heap} (KX : K.In h) (G : h.Ns mainGlobals mg) (c : He.SaysD fa fn K) : ∃ fd, Binds K fd ["web", "number"] [] ∧ FnOk P w K mg base (L2.CX P w) 2 (He.fAd K d_residue.at_) fd ["web", "number"] (spD ⟨K, mg⟩ 2 F_residue) := by
  obtain ⟨fd, F⟩ := c.def_ 18 (d := d_residue) rfl
  obtain ⟨fd_is_integer, b_is_integer, FO_is_integer⟩ := ok_is_integer (P := P) (w := w) (base := base) KX G c
  have g_f_is_integer : mg "is_integer" = some (.ref (He.ga K "is_integer")) := He.glo_ok KX G (c.fact 6 rfl)
  have kp_is_integer : PySem.W.keepIn K (.ref (He.ga K "is_integer")) = true := by
    obtain ⟨_, FF⟩ := c.def_ 3 (d := d_is_integer) rfl
    exact FF.kp
  obtain ⟨fd_reduced_number, b_reduced_number, FO_reduced_number⟩ := ok_reduced_number (P := P) (w := w) (base := base) KX G c
  have g_f_reduced_number : mg "reduced_number" = some (.ref (He.ga K "reduced_number")) := He.glo_ok KX G (c.fact 37 rfl)
  have kp_reduced_number : PySem.W.keepIn K (.ref (He.ga K "reduced_number")) = true := by
    obtain ⟨_, FF⟩ := c.def_ 0 (d := d_reduced_number) rfl
    exact FF.kp
  obtain ⟨fd_Web_modulus, b_Web_modulus, FO_Web_modulus⟩ := ok_Web_modulus (P := P) (w := w) (base := base) KX G c
  have gc_Web : mg "Web" = some (.ref (He.ga K "Web")) := He.glo_ok KX G (c.fact 17 rfl)
  have cl_Web : Cls K (He.ga K "Web") := He.cls_ok (c.fact 18 rfl)
  have m_Web_modulus : Meth K (He.ga K "Web") "modulus" (He.ma K (He.ga K "Web") "modulus") := He.meth_ok (c.fact 27 rfl)
  refine ⟨fd, FunD.bindsN F (fun _ _ _ _ _ _ us hl => match us, hl with | [_, _], _ => rfl), fn_d (k := 1) F sc_residue (fun cdv A outer s H E hr tk => ?_)⟩
  have hx : Passes (L2.CX P w) (cxOf (L2.CX P w) P w K mg base ["web", "number"] d_residue.qual d_residue.scope (He.fAd K d_residue.at_) cdv A outer s H E) E := passes_call tk (fun _ _ _ _ z => z)
  have hu64 := hr.units
  have hu := hu_of hr
  have c_Web : ∀ {Y : Cx}, Y.mg = mg → Y.K = K → ClsD Y "Web" (He.ga K "Web") := fun h1 h2 => ⟨by rw [h1]; exact gc_Web, by rw [h2]; exact cl_Web⟩
  exact dss_cons (ds_if (dt_not (dt_truth (DE.fz (de_call FO_is_integer (hr.mono (by decide)) rfl g_f_is_integer kp_is_integer b_is_integer tk (da_cons (dv 1) da_nil))))) (dss_one ds_never) dss_nil) (dss_one (ds_ret (DE.fz (de_call FO_reduced_number (hr.mono (by decide)) rfl g_f_reduced_number kp_reduced_number b_reduced_number tk (da_cons (dv 1) (da_cons (DE.fz (de_meth0 (pl := _) (c_Web rfl rfl) m_Web_modulus FO_Web_modulus (hr.mono (by decide)) b_Web_modulus .nil (fun _ _ => .nil) hx (dv 0))) da_nil))))))
theorem sc_walk_sum : FnScope ["web", "gains", "walk", "number", "way"] ["web", "gains", "walk"] (defScope s_walk_sum) := ⟨rfl, rfl, rfl, by decide +kernel, rfl, by decide +kernel, by decide +kernel⟩
theorem ok_walk_sum {P : Program} {w : World} {K : PySem.W.Frag} {h : Heap} {mg : Str → Option Value} {base : Heap} (KX : K.In h) (G : h.Ns mainGlobals mg) (c : He.SaysD fa fn K) : ∃ fd, Binds K fd ["web", "gains", "walk"] [] ∧ FnOk P w K mg base (L2.CX P w) 7 (He.fAd K d_walk_sum.at_) fd ["web", "gains", "walk"] (spD ⟨K, mg⟩ 3 F_walk_sum) := by
  obtain ⟨fd, F⟩ := c.def_ 25 (d := d_walk_sum) rfl
  obtain ⟨fd_check_gains, b_check_gains, FO_check_gains⟩ := ok_check_gains (P := P) (w := w) (base := base) KX G c
  have g_f_check_gains : mg "check_gains" = some (.ref (He.ga K "check_gains")) := He.glo_ok KX G (c.fact 38 rfl)
  have kp_check_gains : PySem.W.keepIn K (.ref (He.ga K "check_gains")) = true := by
    obtain ⟨_, FF⟩ := c.def_ 23 (d := d_check_gains) rfl
    exact FF.kp
  obtain ⟨fd_is_walk, b_is_walk, FO_is_walk⟩ := ok_is_walk (P := P) (w := w) (base := base) KX G c
  have g_f_is_walk : mg "is_walk" = some (.ref (He.ga K "is_walk")) := He.glo_ok KX G (c.fact 39 rfl)
  have kp_is_walk : PySem.W.keepIn K (.ref (He.ga K "is_walk")) = true := by
    obtain ⟨_, FF⟩ := c.def_ 17 (d := d_is_walk) rfl
    exact FF.kp
  obtain ⟨fd_residue, b_residue, FO_residue⟩ := ok_residue (P := P) (w := w) (base := base) KX G c
  have g_f_residue : mg "residue" = some (.ref (He.ga K "residue")) := He.glo_ok KX G (c.fact 40 rfl)
  have kp_residue : PySem.W.keepIn K (.ref (He.ga K "residue")) = true := by
    obtain ⟨_, FF⟩ := c.def_ 18 (d := d_residue) rfl
    exact FF.kp
  have z_sum : mg "sum" = none := He.free_ok KX G (c.fact 41 rfl)
  refine ⟨fd, FunD.bindsN F (fun _ _ _ _ _ _ us hl => match us, hl with | [_, _, _], _ => rfl), fn_d (k := 6) F sc_walk_sum (fun cdv A outer s H E hr tk => ?_)⟩
  have hx : Passes (L2.CX P w) (cxOf (L2.CX P w) P w K mg base ["web", "gains", "walk", "number", "way"] d_walk_sum.qual d_walk_sum.scope (He.fAd K d_walk_sum.at_) cdv A outer s H E) E := passes_call tk (fun _ _ _ _ z => z)
  have hu64 := hr.units
  have hu := hu_of hr
  exact dss_cons (ds_expr (DE.fz (de_call FO_check_gains (hr.mono (by decide)) rfl g_f_check_gains kp_check_gains b_check_gains tk (da_cons (dv 0) (da_cons (dv 1) da_nil))))) (dss_cons (ds_if (dt_not (dt_truth (DE.fz (de_call FO_is_walk (hr.mono (by decide)) rfl g_f_is_walk kp_is_walk b_is_walk tk (da_cons (dv 0) (da_cons (dv 2) da_nil)))))) (dss_one ds_never) dss_nil) (dss_one (ds_ret (DE.fz (de_call FO_residue (hr.mono (by decide)) rfl g_f_residue kp_residue b_residue tk (da_cons (dv 0) (da_cons (de_sum rfl rfl z_sum (da_cons (DN.frz (dn_lc (own := [(("number" : Str), 3), (("way" : Str), 4)]) rfl sc_walk_sum.nd (di_sq (dv 2)) (blkOk_by rfl) (fun _ _ _ _ _ => dg_tup rfl (dgs_cons (gn 3 sc_walk_sum.nd) (dgs_cons (gn 4 sc_walk_sum.nd) dgs_nil))) (fun _ _ _ _ _ => dts_nil) (fun _ _ _ _ _ => de_mul (dv 4) (de_ix (dv 1) (dv 3) (fun _ _ => rfl))) (rs_mem rfl))) da_nil)) da_nil)))))))
theorem sc_Web_size : FnScope ["self"] ["self"] (defScope s_Web_size) := ⟨rfl, rfl, rfl, by decide +kernel, rfl, by decide +kernel, by decide +kernel⟩
theorem ok_Web_size {P : Program} {w : World} {K : PySem.W.Frag} {h : Heap} {mg : Str → Option Value} {base : Heap} (KX : K.In h) (G : h.Ns mainGlobals mg) (c : He.SaysD fa fn K) : ∃ fd, Binds K fd ["self"] [] ∧ FnOk P w K mg base (L2.CX P w) 1 (He.fAd K d_Web_size.at_) fd ["self"] (spD ⟨K, mg⟩ 1 F_Web_size) := by
  obtain ⟨fd, F⟩ := c.def_ 9 (d := d_Web_size) rfl
  have gc_Web : mg "Web" = some (.ref (He.ga K "Web")) := He.glo_ok KX G (c.fact 17 rfl)
  have cl_Web : Cls K (He.ga K "Web") := He.cls_ok (c.fact 18 rfl)
  have n_Web_own_size : NoAttr K (He.ga K "Web") "own_size" := He.noat_ok (c.fact 19 rfl)
  refine ⟨fd, FunD.bindsN F (fun _ _ _ _ _ _ us hl => match us, hl with | [_], _ => rfl), fn_d (k := 0) F sc_Web_size (fun cdv A outer s H E hr tk => ?_)⟩
  have hx : Passes (L2.CX P w) (cxOf (L2.CX P w) P w K mg base ["self"] d_Web_size.qual d_Web_size.scope (He.fAd K d_Web_size.at_) cdv A outer s H E) E := passes_call tk (fun _ _ _ _ z => z)
  have hu64 := hr.units
  have hu := hu_of hr
  have c_Web : ∀ {Y : Cx}, Y.mg = mg → Y.K = K → ClsD Y "Web" (He.ga K "Web") := fun h1 h2 => ⟨by rw [h1]; exact gc_Web, by rw [h2]; exact cl_Web⟩
  exact dss_one (ds_ret (de_fld (c_Web rfl rfl) n_Web_own_size (dv 0)))
theorem sc_is_potential : FnScope ["web", "thing"] ["web", "thing"] (defScope s_is_potential) := ⟨rfl, rfl, rfl, by decide +kernel, rfl, by decide +kernel, by decide +kernel⟩
theorem ok_is_potential {P : Program} {w : World} {K : PySem.W.Frag} {h : Heap} {mg : Str → Option Value} {base : Heap} (KX : K.In h) (G : h.Ns mainGlobals mg) (c : He.SaysD fa fn K) : ∃ fd, Binds K fd ["web", "thing"] [] ∧ FnOk P w K mg base (L2.CX P w) 5 (He.fAd K d_is_potential.at_) fd ["web", "thing"] (spD ⟨K, mg⟩ 2 F_is_potential) := by
  obtain ⟨fd, F⟩ := c.def_ 22 (d := d_is_potential) rfl
  obtain ⟨fd_are_residues, b_are_residues, FO_are_residues⟩ := ok_are_residues (P := P) (w := w) (base := base) KX G c
  have g_f_are_residues : mg "are_residues" = some (.ref (He.ga K "are_residues")) := He.glo_ok KX G (c.fact 30 rfl)
  have kp_are_residues : PySem.W.keepIn K (.ref (He.ga K "are_residues")) = true := by
    obtain ⟨_, FF⟩ := c.def_ 20 (d := d_are_residues) rfl
    exact FF.kp
  obtain ⟨fd_Web_size, b_Web_size, FO_Web_size⟩ := ok_Web_size (P := P) (w := w) (base := base) KX G c
  have gc_Web : mg "Web" = some (.ref (He.ga K "Web")) := He.glo_ok KX G (c.fact 17 rfl)
  have cl_Web : Cls K (He.ga K "Web") := He.cls_ok (c.fact 18 rfl)
  have m_Web_size : Meth K (He.ga K "Web") "size" (He.ma K (He.ga K "Web") "size") := He.meth_ok (c.fact 42 rfl)
  refine ⟨fd, FunD.bindsN F (fun _ _ _ _ _ _ us hl => match us, hl with | [_, _], _ => rfl), fn_d (k := 4) F sc_is_potential (fun cdv A outer s H E hr tk => ?_)⟩
  have hx : Passes (L2.CX P w) (cxOf (L2.CX P w) P w K mg base ["web", "thing"] d_is_potential.qual d_is_potential.scope (He.fAd K d_is_potential.at_) cdv A outer s H E) E := passes_call tk (fun _ _ _ _ z => z)
  have hu64 := hr.units
  have hu := hu_of hr
  have c_Web : ∀ {Y : Cx}, Y.mg = mg → Y.K = K → ClsD Y "Web" (He.ga K "Web") := fun h1 h2 => ⟨by rw [h1]; exact gc_Web, by rw [h2]; exact cl_Web⟩
  exact dss_one (ds_ret (DE.fz (de_call FO_are_residues (hr.mono (by decide)) rfl g_f_are_residues kp_are_residues b_are_residues tk (da_cons (dv 0) (da_cons (dv 1) (da_cons (DE.fz (de_meth0 (pl := _) (c_Web rfl rfl) m_Web_size FO_Web_size (hr.mono (by decide)) b_Web_size .nil (fun _ _ => .nil) hx (dv 0))) da_nil))))))
theorem sc_check_potential : FnScope ["web", "potential"] ["web", "potential"] (defScope s_check_potential) := ⟨rfl, rfl, rfl, by decide +kernel, rfl, by decide +kernel, by decide +kernel⟩
theorem ok_check_potential {P : Program} {w : World} {K : PySem.W.Frag} {h : Heap} {mg : Str → Option Value} {base : Heap} (KX : K.In h) (G : h.Ns mainGlobals mg) (c : He.SaysD fa fn K) : ∃ fd, Binds K fd ["web", "potential"] [] ∧ FnOk P w K mg base (L2.CX P w) 6 (He.fAd K d_check_potential.at_) fd ["web", "potential"] (spD ⟨K, mg⟩ 2 F_check_potential) := by
  obtain ⟨fd, F⟩ := c.def_ 24 (d := d_check_potential) rfl
  obtain ⟨fd_is_potential, b_is_potential, FO_is_potential⟩ := ok_is_potential (P := P) (w := w) (base := base) KX G c
  have g_f_is_potential : mg "is_potential" = some (.ref (He.ga K "is_potential")) := He.glo_ok KX G (c.fact 43 rfl)
  have kp_is_potential : PySem.W.keepIn K (.ref (He.ga K "is_potential")) = true := by
    obtain ⟨_, FF⟩ := c.def_ 22 (d := d_is_potential) rfl
    exact FF.kp
  refine ⟨fd, FunD.bindsN F (fun _ _ _ _ _ _ us hl => match us, hl with | [_, _], _ => rfl), fn_d (k := 5) F sc_check_potential (fun cdv A outer s H E hr tk => ?_)⟩
  have hx : Passes (L2.CX P w) (cxOf (L2.CX P w) P w K mg base ["web", "potential"] d_check_potential.qual d_check_potential.scope (He.fAd K d_check_potential.at_) cdv A outer s H E) E := passes_call tk (fun _ _ _ _ z => z)
  have hu64 := hr.units
  have hu := hu_of hr
  exact dss_one (ds_if (dt_not (dt_truth (DE.fz (de_call FO_is_potential (hr.mono (by decide)) rfl g_f_is_potential kp_is_potential b_is_potential tk (da_cons (dv 0) (da_cons (dv 1) da_nil)))))) (dss_one ds_never) dss_nil)
theorem sc_Web_edges : FnScope ["self"] ["self"] (defScope s_Web_edges) := ⟨rfl, rfl, rfl, by decide +kernel, rfl, by decide +kernel, by decide +kernel⟩
theorem ok_Web_edges {P : Program} {w : World} {K : PySem.W.Frag} {h : Heap} {mg : Str → Option Value} {base : Heap} (KX : K.In h) (G : h.Ns mainGlobals mg) (c : He.SaysD fa fn K) : ∃ fd, Binds K fd ["self"] [] ∧ FnOk P w K mg base (L2.CX P w) 1 (He.fAd K d_Web_edges.at_) fd ["self"] (spD ⟨K, mg⟩ 1 F_Web_edges) := by
  obtain ⟨fd, F⟩ := c.def_ 11 (d := d_Web_edges) rfl
  have z_list : mg "list" = none := He.free_ok KX G (c.fact 9 rfl)
  have gc_Web : mg "Web" = some (.ref (He.ga K "Web")) := He.glo_ok KX G (c.fact 17 rfl)
  have cl_Web : Cls K (He.ga K "Web") := He.cls_ok (c.fact 18 rfl)
  have n_Web_own_edges : NoAttr K (He.ga K "Web") "own_edges" := He.noat_ok (c.fact 20 rfl)
  refine ⟨fd, FunD.bindsN F (fun _ _ _ _ _ _ us hl => match us, hl with | [_], _ => rfl), fn_d (k := 0) F sc_Web_edges (fun cdv A outer s H E hr tk => ?_)⟩
  have hx : Passes (L2.CX P w) (cxOf (L2.CX P w) P w K mg base ["self"] d_Web_edges.qual d_Web_edges.scope (He.fAd K d_Web_edges.at_) cdv A outer s H E) E := passes_call tk (fun _ _ _ _ z => z)
  have hu64 := hr.units
  have hu := hu_of hr
  have c_Web : ∀ {Y : Cx}, Y.mg = mg → Y.K = K → ClsD Y "Web" (He.ga K "Web") := fun h1 h2 => ⟨by rw [h1]; exact gc_Web, by rw [h2]; exact cl_Web⟩
  exact dss_one (ds_ret (DN.frz (dn_list rfl z_list (da_cons (de_fld (c_Web rfl rfl) n_Web_own_edges (dv 0)) da_nil))))
theorem sc_switched : FnScope ["web", "gains", "potential", "found", "gain", "tail", "head"] ["web", "gains", "potential"] (defScope s_switched) := ⟨rfl, rfl, rfl, by decide +kernel, rfl, by decide +kernel, by decide +kernel⟩
theorem ok_switched {P : Program} {w : World} {K : PySem.W.Frag} {h : Heap} {mg : Str → Option Value} {base : Heap} (KX : K.In h) (G : h.Ns mainGlobals mg) (c : He.SaysD fa fn K) : ∃ fd, Binds K fd ["web", "gains", "potential"] [] ∧ FnOk P w K mg base (L2.CX P w) 7 (He.fAd K d_switched.at_) fd ["web", "gains", "potential"] (spD ⟨K, mg⟩ 3 F_switched) := by
  obtain ⟨fd, F⟩ := c.def_ 26 (d := d_switched) rfl
  obtain ⟨fd_check_gains, b_check_gains, FO_check_gains⟩ := ok_check_gains (P := P) (w := w) (base := base) KX G c
  have g_f_check_gains : mg "check_gains" = some (.ref (He.ga K "check_gains")) := He.glo_ok KX G (c.fact 38 rfl)
  have kp_check_gains : PySem.W.keepIn K (.ref (He.ga K "check_gains")) = true := by
    obtain ⟨_, FF⟩ := c.def_ 23 (d := d_check_gains) rfl
    exact FF.kp
  obtain ⟨fd_check_potential, b_check_potential, FO_check_potential⟩ := ok_check_potential (P := P) (w := w) (base := base) KX G c
  have g_f_check_potential : mg "check_potential" = some (.ref (He.ga K "check_potential")) := He.glo_ok KX G (c.fact 44 rfl)
  have kp_check_potential : PySem.W.keepIn K (.ref (He.ga K "check_potential")) = true := by
    obtain ⟨_, FF⟩ := c.def_ 24 (d := d_check_potential) rfl
    exact FF.kp
  obtain ⟨fd_Web_edges, b_Web_edges, FO_Web_edges⟩ := ok_Web_edges (P := P) (w := w) (base := base) KX G c
  have gc_Web : mg "Web" = some (.ref (He.ga K "Web")) := He.glo_ok KX G (c.fact 17 rfl)
  have cl_Web : Cls K (He.ga K "Web") := He.cls_ok (c.fact 18 rfl)
  have m_Web_edges : Meth K (He.ga K "Web") "edges" (He.ma K (He.ga K "Web") "edges") := He.meth_ok (c.fact 45 rfl)
  have z_zip : mg "zip" = none := He.free_ok KX G (c.fact 36 rfl)
  obtain ⟨fd_residue, b_residue, FO_residue⟩ := ok_residue (P := P) (w := w) (base := base) KX G c
  have g_f_residue : mg "residue" = some (.ref (He.ga K "residue")) := He.glo_ok KX G (c.fact 40 rfl)
  have kp_residue : PySem.W.keepIn K (.ref (He.ga K "residue")) = true := by
    obtain ⟨_, FF⟩ := c.def_ 18 (d := d_residue) rfl
    exact FF.kp
  refine ⟨fd, FunD.bindsN F (fun _ _ _ _ _ _ us hl => match us, hl with | [_, _, _], _ => rfl), fn_d (k := 6) F sc_switched (fun cdv A outer s H E hr tk => ?_)⟩
  have hx : Passes (L2.CX P w) (cxOf (L2.CX P w) P w K mg base ["web", "gains", "potential", "found", "gain", "tail", "head"] d_switched.qual d_switched.scope (He.fAd K d_switched.at_) cdv A outer s H E) E := passes_call tk (fun _ _ _ _ z => z)
  have hu64 := hr.units
  have hu := hu_of hr
  have c_Web : ∀ {Y : Cx}, Y.mg = mg → Y.K = K → ClsD Y "Web" (He.ga K "Web") := fun h1 h2 => ⟨by rw [h1]; exact gc_Web, by rw [h2]; exact cl_Web⟩
  exact dss_cons (ds_expr (DE.fz (de_call FO_check_gains (hr.mono (by decide)) rfl g_f_check_gains kp_check_gains b_check_gains tk (da_cons (dv 0) (da_cons (dv 1) da_nil))))) (dss_cons (ds_expr (DE.fz (de_call FO_check_potential (hr.mono (by decide)) rfl g_f_check_potential kp_check_potential b_check_potential tk (da_cons (dv 0) (da_cons (dv 2) da_nil))))) (dss_cons (st 3 sc_switched.nd (DN.cel (dn_lst da_nil))) (dss_cons (ds_for hp_of rfl (di_zip rfl z_zip (da_cons (dv 1) (da_cons (DE.fz (de_meth0 (pl := _) (c_Web rfl rfl) m_Web_edges FO_Web_edges (hr.mono (by decide)) b_Web_edges .nil (fun _ _ => .nil) hx (dv 0))) da_nil))) (dg_tup rfl (dgs_cons (gn 4 sc_switched.nd) (dgs_cons (dg_tup rfl (dgs_cons (gn 5 sc_switched.nd) (dgs_cons (gn 6 sc_switched.nd) dgs_nil))) dgs_nil))) (dss_one (ds_expr (de_append (dv 3) (da_cons (DE.fz (de_call FO_residue (hr.mono (by decide)) rfl g_f_residue kp_residue b_residue tk (da_cons (dv 0) (da_cons (de_sub (DN.frz (dn_add (dv 4) (de_ix (dv 2) (dv 5) (fun _ _ => rfl)))) (de_ix (dv 2) (dv 6) (fun _ _ => rfl))) da_nil)))) da_nil))))) (dss_one (ds_ret (dv 3))))))
theorem sc_is_switch : FnScope ["web", "thing"] ["web", "thing"] (defScope s_is_switch) := ⟨rfl, rfl, rfl, by decide +kernel, rfl, by decide +kernel, by decide +kernel⟩
theorem ok_is_switch {P : Program} {w : World} {K : PySem.W.Frag} {h : Heap} {mg : Str → Option Value} {base : Heap} (KX : K.In h) (G : h.Ns mainGlobals mg) (c : He.SaysD fa fn K) : ∃ fd, Binds K fd ["web", "thing"] [] ∧ FnOk P w K mg base (L2.CX P w) 3 (He.fAd K d_is_switch.at_) fd ["web", "thing"] (spD ⟨K, mg⟩ 2 F_is_switch) := by
  obtain ⟨fd, F⟩ := c.def_ 28 (d := d_is_switch) rfl
  have z_isinstance : mg "isinstance" = none := He.free_ok KX G (c.fact 3 rfl)
  have z_tuple : mg "tuple" = none := He.free_ok KX G (c.fact 7 rfl)
  have z_len : mg "len" = none := He.free_ok KX G (c.fact 0 rfl)
  obtain ⟨fd_is_within, b_is_within, FO_is_within⟩ := ok_is_within (P := P) (w := w) (base := base) KX G c
  have g_f_is_within : mg "is_within" = some (.ref (He.ga K "is_within")) := He.glo_ok KX G (c.fact 8 rfl)
  have kp_is_within : PySem.W.keepIn K (.ref (He.ga K "is_within")) = true := by
    obtain ⟨_, FF⟩ := c.def_ 4 (d := d_is_within) rfl
    exact FF.kp
  obtain ⟨fd_Web_size, b_Web_size, FO_Web_size⟩ := ok_Web_size (P := P) (w := w) (base := base) KX G c
  have gc_Web : mg "Web" = some (.ref (He.ga K "Web")) := He.glo_ok KX G (c.fact 17 rfl)
  have cl_Web : Cls K (He.ga K "Web") := He.cls_ok (c.fact 18 rfl)
  have m_Web_size : Meth K (He.ga K "Web") "size" (He.ma K (He.ga K "Web") "size") := He.meth_ok (c.fact 42 rfl)
  obtain ⟨fd_is_integer, b_is_integer, FO_is_integer⟩ := ok_is_integer (P := P) (w := w) (base := base) KX G c
  have g_f_is_integer : mg "is_integer" = some (.ref (He.ga K "is_integer")) := He.glo_ok KX G (c.fact 6 rfl)
  have kp_is_integer : PySem.W.keepIn K (.ref (He.ga K "is_integer")) = true := by
    obtain ⟨_, FF⟩ := c.def_ 3 (d := d_is_integer) rfl
    exact FF.kp
  refine ⟨fd, FunD.bindsN F (fun _ _ _ _ _ _ us hl => match us, hl with | [_, _], _ => rfl), fn_d (k := 2) F sc_is_switch (fun cdv A outer s H E hr tk => ?_)⟩
  have hx : Passes (L2.CX P w) (cxOf (L2.CX P w) P w K mg base ["web", "thing"] d_is_switch.qual d_is_switch.scope (He.fAd K d_is_switch.at_) cdv A outer s H E) E := passes_call tk (fun _ _ _ _ z => z)
  have hu64 := hr.units
  have hu := hu_of hr
  have c_Web : ∀ {Y : Cx}, Y.mg = mg → Y.K = K → ClsD Y "Web" (He.ga K "Web") := fun h1 h2 => ⟨by rw [h1]; exact gc_Web, by rw [h2]; exact cl_Web⟩
  exact dss_cons (ds_if (dt_w (dw_or (dt_not (dt_truth (de_isi rfl z_isinstance (da_cons (dv 1) (da_cons (de_ty rfl z_tuple (by decide +kernel)) da_nil))))) (dw_or1 (dt_ne hu64 (de_len rfl z_len (da_cons (dv 1) da_nil)) de_int)))) (dss_one (ds_ret de_bl)) dss_nil) (dss_one (ds_ret (de_and (DE.fz (de_call FO_is_within (hr.mono (by decide)) rfl g_f_is_within kp_is_within b_is_within tk (da_cons (de_ix (dv 1) de_int (fun _ _ => rfl)) (da_cons de_int (da_cons (de_sub (DE.fz (de_meth0 (pl := _) (c_Web rfl rfl) m_Web_size FO_Web_size (hr.mono (by decide)) b_Web_size .nil (fun _ _ => .nil) hx (dv 0))) de_int) da_nil))))) (de_one (DE.fz (de_call FO_is_integer (hr.mono (by decide)) rfl g_f_is_integer kp_is_integer b_is_integer tk (da_cons (de_ix (dv 1) de_int (fun _ _ => rfl)) da_nil)))))))
theorem sc_potential_of : FnScope ["web", "switches", "found", "entry", "node", "amount"] ["web", "switches"] (defScope s_potential_of) := ⟨rfl, rfl, rfl, by decide +kernel, rfl, by decide +kernel, by decide +kernel⟩
theorem ok_potential_of {P : Program} {w : World} {K : PySem.W.Frag} {h : Heap} {mg : Str → Option Value} {base : Heap} (KX : K.In h) (G : h.Ns mainGlobals mg) (c : He.SaysD fa fn K) : ∃ fd, Binds K fd ["web", "switches"] [] ∧ FnOk P w K mg base (L2.CX P w) 4 (He.fAd K d_potential_of.at_) fd ["web", "switches"] (spD ⟨K, mg⟩ 2 F_potential_of) := by
  obtain ⟨fd, F⟩ := c.def_ 29 (d := d_potential_of) rfl
  have z_isinstance : mg "isinstance" = none := He.free_ok KX G (c.fact 3 rfl)
  have z_list : mg "list" = none := He.free_ok KX G (c.fact 9 rfl)
  obtain ⟨fd_Web_size, b_Web_size, FO_Web_size⟩ := ok_Web_size (P := P) (w := w) (base := base) KX G c
  have gc_Web : mg "Web" = some (.ref (He.ga K "Web")) := He.glo_ok KX G (c.fact 17 rfl)
  have cl_Web : Cls K (He.ga K "Web") := He.cls_ok (c.fact 18 rfl)
  have m_Web_size : Meth K (He.ga K "Web") "size" (He.ma K (He.ga K "Web") "size") := He.meth_ok (c.fact 42 rfl)
  obtain ⟨fd_is_switch, b_is_switch, FO_is_switch⟩ := ok_is_switch (P := P) (w := w) (base := base) KX G c
  have g_f_is_switch : mg "is_switch" = some (.ref (He.ga K "is_switch")) := He.glo_ok KX G (c.fact 46 rfl)
  have kp_is_switch : PySem.W.keepIn K (.ref (He.ga K "is_switch")) = true := by
    obtain ⟨_, FF⟩ := c.def_ 28 (d := d_is_switch) rfl
    exact FF.kp
  obtain ⟨fd_residue, b_residue, FO_residue⟩ := ok_residue (P := P) (w := w) (base := base) KX G c
  have g_f_residue : mg "residue" = some (.ref (He.ga K "residue")) := He.glo_ok KX G (c.fact 40 rfl)
  have kp_residue : PySem.W.keepIn K (.ref (He.ga K "residue")) = true := by
    obtain ⟨_, FF⟩ := c.def_ 18 (d := d_residue) rfl
    exact FF.kp
  refine ⟨fd, FunD.bindsN F (fun _ _ _ _ _ _ us hl => match us, hl with | [_, _], _ => rfl), fn_d (k := 3) F sc_potential_of (fun cdv A outer s H E hr tk => ?_)⟩
  have hx : Passes (L2.CX P w) (cxOf (L2.CX P w) P w K mg base ["web", "switches", "found", "entry", "node", "amount"] d_potential_of.qual d_potential_of.scope (He.fAd K d_potential_of.at_) cdv A outer s H E) E := passes_call tk (fun _ _ _ _ z => z)
  have hu64 := hr.units
  have hu := hu_of hr
  have c_Web : ∀ {Y : Cx}, Y.mg = mg → Y.K = K → ClsD Y "Web" (He.ga K "Web") := fun h1 h2 => ⟨by rw [h1]; exact gc_Web, by rw [h2]; exact cl_Web⟩
  exact dss_cons (ds_if (dt_not (dt_truth (de_isi rfl z_isinstance (da_cons (dv 1) (da_cons (de_ty rfl z_list (by decide +kernel)) da_nil))))) (dss_one ds_never) dss_nil) (dss_cons (st 2 sc_potential_of.nd (DN.cel (dn_rep (DN.frz (dn_lst (da_cons de_int da_nil))) (DE.fz (de_meth0 (pl := _) (c_Web rfl rfl) m_Web_size FO_Web_size (hr.mono (by decide)) b_Web_size .nil (fun _ _ => .nil) hx (dv 0)))))) (dss_cons (ds_for hp_of rfl (di_sq (dv 1)) (gn 3 sc_potential_of.nd) (dss_cons (ds_if (dt_not (dt_truth (DE.fz (de_call FO_is_switch (hr.mono (by decide)) rfl g_f_is_switch kp_is_switch b_is_switch tk (da_cons (dv 0) (da_cons (dv 3) da_nil)))))) (dss_one ds_never) dss_nil) (dss_cons (ds_asg (dv 3) (dg_tup rfl (dgs_cons (gn 4 sc_potential_of.nd) (dgs_cons (gn 5 sc_potential_of.nd) dgs_nil)))) (dss_one (ds_asg (DE.fz (de_call FO_residue (hr.mono (by decide)) rfl g_f_residue kp_residue b_residue tk (da_cons (dv 0) (da_cons (DN.frz (dn_add (de_ix (dv 2) (dv 4) (fun _ _ => rfl)) (dv 5))) da_nil)))) (dg_sub (dv 2) (dv 4))))))) (dss_one (ds_ret (dv 2)))))
theorem sc__law_mixed : FnScope ["_law_pool_here", "_law_rows", "_law_found", "_law_row"] ["_law_pool_here", "_law_rows"] (defScope s__law_mixed) := ⟨rfl, rfl, rfl, by decide +kernel, rfl, by decide +kernel, by decide +kernel⟩
theorem ok__law_mixed {P : Program} {w : World} {K : PySem.W.Frag} {h : Heap} {mg : Str → Option Value} {base : Heap} (KX : K.In h) (G : h.Ns mainGlobals mg) (c : He.SaysD fa fn K) : ∃ fd, Binds K fd ["_law_pool_here", "_law_rows"] [] ∧ FnOk P w K mg base (L2.CX P w) 2 (He.fAd K d__law_mixed.at_) fd ["_law_pool_here", "_law_rows"] (spD ⟨K, mg⟩ 2 F__law_mixed) := by
  obtain ⟨fd, F⟩ := c.def_ 36 (d := d__law_mixed) rfl
  obtain ⟨fd__law_take, b__law_take, FO__law_take⟩ := ok__law_take (P := P) (w := w) (base := base) KX G c
  have g_f__law_take : mg "_law_take" = some (.ref (He.ga K "_law_take")) := He.glo_ok KX G (c.fact 1 rfl)
  have kp__law_take : PySem.W.keepIn K (.ref (He.ga K "_law_take")) = true := by
    obtain ⟨_, FF⟩ := c.def_ 31 (d := d__law_take) rfl
    exact FF.kp
  have z_len : mg "len" = none := He.free_ok KX G (c.fact 0 rfl)
  refine ⟨fd, FunD.bindsN F (fun _ _ _ _ _ _ us hl => match us, hl with | [_, _], _ => rfl), fn_d (k := 1) F sc__law_mixed (fun cdv A outer s H E hr tk => ?_)⟩
  have hx : Passes (L2.CX P w) (cxOf (L2.CX P w) P w K mg base ["_law_pool_here", "_law_rows", "_law_found", "_law_row"] d__law_mixed.qual d__law_mixed.scope (He.fAd K d__law_mixed.at_) cdv A outer s H E) E := passes_call tk (fun _ _ _ _ z => z)
  have hu64 := hr.units
  have hu := hu_of hr
  exact dss_cons (st 2 sc__law_mixed.nd (DN.cel (dn_lst da_nil))) (dss_cons (ds_for hp_of rfl (di_sq (dv 1)) (gn 3 sc__law_mixed.nd) (dss_one (ds_expr (de_insert (dv 2) (da_cons (DE.fz (de_call FO__law_take (hr.mono (by decide)) rfl g_f__law_take kp__law_take b__law_take tk (da_cons (dv 0) (da_cons (DN.frz (dn_add (de_len rfl z_len (da_cons (dv 2) da_nil)) de_int)) da_nil)))) (da_cons (dv 3) da_nil)))))) (dss_one (ds_ret (dv 2))))
theorem sc_check_node : FnScope ["web", "node"] ["web", "node"] (defScope s_check_node) := ⟨rfl, rfl, rfl, by decide +kernel, rfl, by decide +kernel, by decide +kernel⟩
theorem ok_check_node {P : Program} {w : World} {K : PySem.W.Frag} {h : Heap} {mg : Str → Option Value} {base : Heap} (KX : K.In h) (G : h.Ns mainGlobals mg) (c : He.SaysD fa fn K) : ∃ fd, Binds K fd ["web", "node"] [] ∧ FnOk P w K mg base (L2.CX P w) 3 (He.fAd K d_check_node.at_) fd ["web", "node"] (spD ⟨K, mg⟩ 2 F_check_node) := by
  obtain ⟨fd, F⟩ := c.def_ 14 (d := d_check_node) rfl
  obtain ⟨fd_is_within, b_is_within, FO_is_within⟩ := ok_is_within (P := P) (w := w) (base := base) KX G c
  have g_f_is_within : mg "is_within" = some (.ref (He.ga K "is_within")) := He.glo_ok KX G (c.fact 8 rfl)
  have kp_is_within : PySem.W.keepIn K (.ref (He.ga K "is_within")) = true := by
    obtain ⟨_, FF⟩ := c.def_ 4 (d := d_is_within) rfl
    exact FF.kp
  obtain ⟨fd_Web_size, b_Web_size, FO_Web_size⟩ := ok_Web_size (P := P) (w := w) (base := base) KX G c
  have gc_Web : mg "Web" = some (.ref (He.ga K "Web")) := He.glo_ok KX G (c.fact 17 rfl)
  have cl_Web : Cls K (He.ga K "Web") := He.cls_ok (c.fact 18 rfl)
  have m_Web_size : Meth K (He.ga K "Web") "size" (He.ma K (He.ga K "Web") "size") := He.meth_ok (c.fact 42 rfl)
  refine ⟨fd, FunD.bindsN F (fun _ _ _ _ _ _ us hl => match us, hl with | [_, _], _ => rfl), fn_d (k := 2) F sc_check_node (fun cdv A outer s H E hr tk => ?_)⟩
  have hx : Passes (L2.CX P w) (cxOf (L2.CX P w) P w K mg base ["web", "node"] d_check_node.qual d_check_node.scope (He.fAd K d_check_node.at_) cdv A outer s H E) E := passes_call tk (fun _ _ _ _ z => z)
  have hu64 := hr.units
  have hu := hu_of hr
  have c_Web : ∀ {Y : Cx}, Y.mg = mg → Y.K = K → ClsD Y "Web" (He.ga K "Web") := fun h1 h2 => ⟨by rw [h1]; exact gc_Web, by rw [h2]; exact cl_Web⟩
  exact dss_one (ds_if (dt_not (dt_truth (DE.fz (de_call FO_is_within (hr.mono (by decide)) rfl g_f_is_within kp_is_within b_is_within tk (da_cons (dv 1) (da_cons de_int (da_cons (de_sub (DE.fz (de_meth0 (pl := _) (c_Web rfl rfl) m_Web_size FO_Web_size (hr.mono (by decide)) b_Web_size .nil (fun _ _ => .nil) hx (dv 0))) de_int) da_nil))))))) (dss_one ds_never) dss_nil)
theorem sc_switch : FnScope ["web", "gains", "node", "amount", "potential"] ["web", "gains", "node", "amount"] (defScope s_switch) := ⟨rfl, rfl, rfl, by decide +kernel, rfl, by decide +kernel, by decide +kernel⟩
theorem ok_switch {P : Program} {w : World} {K : PySem.W.Frag} {h : Heap} {mg : Str → Option Value} {base : Heap} (KX : K.In h) (G : h.Ns mainGlobals mg) (c : He.SaysD fa fn K) : ∃ fd, Binds K fd ["web", "gains", "node", "amount"] [] ∧ FnOk P w K mg base (L2.CX P w) 8 (He.fAd K d_switch.at_) fd ["web", "gains", "node", "amount"] (spD ⟨K, mg⟩ 4 F_switch) := by
  obtain ⟨fd, F⟩ := c.def_ 27 (d := d_switch) rfl
  obtain ⟨fd_check_gains, b_check_gains, FO_check_gains⟩ := ok_check_gains (P := P) (w := w) (base := base) KX G c
  have g_f_check_gains : mg "check_gains" = some (.ref (He.ga K "check_gains")) := He.glo_ok KX G (c.fact 38 rfl)
  have kp_check_gains : PySem.W.keepIn K (.ref (He.ga K "check_gains")) = true := by
    obtain ⟨_, FF⟩ := c.def_ 23 (d := d_check_gains) rfl
    exact FF.kp
  obtain ⟨fd_check_node, b_check_node, FO_check_node⟩ := ok_check_node (P := P) (w := w) (base := base) KX G c
  have g_f_check_node : mg "check_node" = some (.ref (He.ga K "check_node")) := He.glo_ok KX G (c.fact 47 rfl)
  have kp_check_node : PySem.W.keepIn K (.ref (He.ga K "check_node")) = true := by
    obtain ⟨_, FF⟩ := c.def_ 14 (d := d_check_node) rfl
    exact FF.kp
  obtain ⟨fd_Web_size, b_Web_size, FO_Web_size⟩ := ok_Web_size (P := P) (w := w) (base := base) KX G c
  have gc_Web : mg "Web" = some (.ref (He.ga K "Web")) := He.glo_ok KX G (c.fact 17 rfl)
  have cl_Web : Cls K (He.ga K "Web") := He.cls_ok (c.fact 18 rfl)
  have m_Web_size : Meth K (He.ga K "Web") "size" (He.ma K (He.ga K "Web") "size") := He.meth_ok (c.fact 42 rfl)
  obtain ⟨fd_residue, b_residue, FO_residue⟩ := ok_residue (P := P) (w := w) (base := base) KX G c
  have g_f_residue : mg "residue" = some (.ref (He.ga K "residue")) := He.glo_ok KX G (c.fact 40 rfl)
  have kp_residue : PySem.W.keepIn K (.ref (He.ga K "residue")) = true := by
    obtain ⟨_, FF⟩ := c.def_ 18 (d := d_residue) rfl
    exact FF.kp
  obtain ⟨fd_switched, b_switched, FO_switched⟩ := ok_switched (P := P) (w := w) (base := base) KX G c
  have g_f_switched : mg "switched" = some (.ref (He.ga K "switched")) := He.glo_ok KX G (c.fact 48 rfl)
  have kp_switched : PySem.W.keepIn K (.ref (He.ga K "switched")) = true := by
    obtain ⟨_, FF⟩ := c.def_ 26 (d := d_switched) rfl
    exact FF.kp
  refine ⟨fd, FunD.bindsN F (fun _ _ _ _ _ _ us hl => match us, hl with | [_, _, _, _], _ => rfl), fn_d (k := 7) F sc_switch (fun cdv A outer s H E hr tk => ?_)⟩
  have hx : Passes (L2.CX P w) (cxOf (L2.CX P w) P w K mg base ["web", "gains", "node", "amount", "potential"] d_switch.qual d_switch.scope (He.fAd K d_switch.at_) cdv A outer s H E) E := passes_call tk (fun _ _ _ _ z => z)
  have hu64 := hr.units
  have hu := hu_of hr
  have c_Web : ∀ {Y : Cx}, Y.mg = mg → Y.K = K → ClsD Y "Web" (He.ga K "Web") := fun h1 h2 => ⟨by rw [h1]; exact gc_Web, by rw [h2]; exact cl_Web⟩
  exact dss_cons (ds_expr (DE.fz (de_call FO_check_gains (hr.mono (by decide)) rfl g_f_check_gains kp_check_gains b_check_gains tk (da_cons (dv 0) (da_cons (dv 1) da_nil))))) (dss_cons (ds_expr (DE.fz (de_call FO_check_node (hr.mono (by decide)) rfl g_f_check_node kp_check_node b_check_node tk (da_cons (dv 0) (da_cons (dv 2) da_nil))))) (dss_cons (st 4 sc_switch.nd (DN.cel (dn_rep (DN.frz (dn_lst (da_cons de_int da_nil))) (DE.fz (de_meth0 (pl := _) (c_Web rfl rfl) m_Web_size FO_Web_size (hr.mono (by decide)) b_Web_size .nil (fun _ _ => .nil) hx (dv 0)))))) (dss_cons (ds_asg (DE.fz (de_call FO_residue (hr.mono (by decide)) rfl g_f_residue kp_residue b_residue tk (da_cons (dv 0) (da_cons (dv 3) da_nil)))) (dg_sub (dv 4) (dv 2))) (dss_one (ds_ret (DE.fz (de_call FO_switched (hr.mono (by decide)) rfl g_f_switched kp_switched b_switched tk (da_cons (dv 0) (da_cons (dv 1) (da_cons (dv 4) da_nil))))))))))
theorem sc_law : FnScope ["_law_script", "_law_k", "_law_pool_here", "_law_nodes", "_law_dial", "_law_links_here", "_law_web", "_law_held", "_law_rows", "_law_rounds", "_law_totals", "_law_due", "_law_split", "_law_order", "_law_here", "_law_spot", "_law_much", "_law_turn", "_law_row"] ["_law_script"] (defScope s_law) := ⟨rfl, rfl, rfl, by decide +kernel, rfl, by decide +kernel, by decide +kernel⟩
theorem ok_law {P : Program} {w : World} {K : PySem.W.Frag} {h : Heap} {mg : Str → Option Value} (KX : K.In h) (G : h.Ns mainGlobals mg) (c : He.SaysD fa fn K) : ∃ fd, (∀ (s : Shared) (v : Value), BindsTo s fd ⟨[v], []⟩ [("_law_script", v)]) ∧ ∀ base : Heap, FnOk P w K mg base CX0 9 (He.fAd K d_law.at_) fd ["_law_script"] (spL ⟨K, mg⟩ 1 F_law) := by
  obtain ⟨fd, F⟩ := c.def_ 38 (d := d_law) rfl
  refine ⟨fd, fun s v => FunD.bindsA (ps := ["_law_script"]) F (fun _ _ _ _ _ _ us hl => match us, hl with | [_], _ => rfl) s [v] rfl, fun base => ?_⟩
  have z_max : mg "max" = none := He.free_ok KX G (c.fact 49 rfl)
  have z_min : mg "min" = none := He.free_ok KX G (c.fact 50 rfl)
  have z_len : mg "len" = none := He.free_ok KX G (c.fact 0 rfl)
  have z_range : mg "range" = none := He.free_ok KX G (c.fact 2 rfl)
  obtain ⟨fd__law_pool, b__law_pool, FO__law_pool⟩ := ok__law_pool (P := P) (w := w) (base := base) KX G c
  have g_f__law_pool : mg "_law_pool" = some (.ref (He.ga K "_law_pool")) := He.glo_ok KX G (c.fact 51 rfl)
  have kp__law_pool : PySem.W.keepIn K (.ref (He.ga K "_law_pool")) = true := by
    obtain ⟨_, FF⟩ := c.def_ 30 (d := d__law_pool) rfl
    exact FF.kp
  obtain ⟨fd__law_take, b__law_take, FO__law_take⟩ := ok__law_take (P := P) (w := w) (base := base) KX G c
  have g_f__law_take : mg "_law_take" = some (.ref (He.ga K "_law_take")) := He.glo_ok KX G (c.fact 1 rfl)
  have kp__law_take : PySem.W.keepIn K (.ref (He.ga K "_law_take")) = true := by
    obtain ⟨_, FF⟩ := c.def_ 31 (d := d__law_take) rfl
    exact FF.kp
  obtain ⟨fd__law_modulus, b__law_modulus, FO__law_modulus⟩ := ok__law_modulus (P := P) (w := w) (base := base) KX G c
  have g_f__law_modulus : mg "_law_modulus" = some (.ref (He.ga K "_law_modulus")) := He.glo_ok KX G (c.fact 52 rfl)
  have kp__law_modulus : PySem.W.keepIn K (.ref (He.ga K "_law_modulus")) = true := by
    obtain ⟨_, FF⟩ := c.def_ 32 (d := d__law_modulus) rfl
    exact FF.kp
  obtain ⟨fd__law_links, b__law_links, FO__law_links⟩ := ok__law_links (P := P) (w := w) (base := base) KX G c
  have g_f__law_links : mg "_law_links" = some (.ref (He.ga K "_law_links")) := He.glo_ok KX G (c.fact 53 rfl)
  have kp__law_links : PySem.W.keepIn K (.ref (He.ga K "_law_links")) = true := by
    obtain ⟨_, FF⟩ := c.def_ 33 (d := d__law_links) rfl
    exact FF.kp
  obtain ⟨fd_Web___init__, b_Web___init__, FO_Web___init__⟩ := ok_Web___init__ (P := P) (w := w) (base := base) KX G c
  have gc_Web : mg "Web" = some (.ref (He.ga K "Web")) := He.glo_ok KX G (c.fact 17 rfl)
  have cl_Web : Cls K (He.ga K "Web") := He.cls_ok (c.fact 18 rfl)
  have k_Web : Mk K (He.ga K "Web") (He.ma K (He.ga K "Web") "__init__") := He.mkr_ok (c.fact 54 rfl)
  obtain ⟨fd__law_numbers, b__law_numbers, FO__law_numbers⟩ := ok__law_numbers (P := P) (w := w) (base := base) KX G c
  have g_f__law_numbers : mg "_law_numbers" = some (.ref (He.ga K "_law_numbers")) := He.glo_ok KX G (c.fact 55 rfl)
  have kp__law_numbers : PySem.W.keepIn K (.ref (He.ga K "_law_numbers")) = true := by
    obtain ⟨_, FF⟩ := c.def_ 35 (d := d__law_numbers) rfl
    exact FF.kp
  obtain ⟨fd__law_number, b__law_number, FO__law_number⟩ := ok__law_number (P := P) (w := w) (base := base) KX G c
  have g_f__law_number : mg "_law_number" = some (.ref (He.ga K "_law_number")) := He.glo_ok KX G (c.fact 26 rfl)
  have kp__law_number : PySem.W.keepIn K (.ref (He.ga K "_law_number")) = true := by
    obtain ⟨_, FF⟩ := c.def_ 34 (d := d__law_number) rfl
    exact FF.kp
  obtain ⟨fd__law_round, b__law_round, FO__law_round⟩ := ok__law_round (P := P) (w := w) (base := base) KX G c
  have g_f__law_round : mg "_law_round" = some (.ref (He.ga K "_law_round")) := He.glo_ok KX G (c.fact 56 rfl)
  have kp__law_round : PySem.W.keepIn K (.ref (He.ga K "_law_round")) = true := by
    obtain ⟨_, FF⟩ := c.def_ 37 (d := d__law_round) rfl
    exact FF.kp
  obtain ⟨fd_walk_sum, b_walk_sum, FO_walk_sum⟩ := ok_walk_sum (P := P) (w := w) (base := base) KX G c
  have g_f_walk_sum : mg "walk_sum" = some (.ref (He.ga K "walk_sum")) := He.glo_ok KX G (c.fact 57 rfl)
  have kp_walk_sum : PySem.W.keepIn K (.ref (He.ga K "walk_sum")) = true := by
    obtain ⟨_, FF⟩ := c.def_ 25 (d := d_walk_sum) rfl
    exact FF.kp
  obtain ⟨fd_switched, b_switched, FO_switched⟩ := ok_switched (P := P) (w := w) (base := base) KX G c
  have g_f_switched : mg "switched" = some (.ref (He.ga K "switched")) := He.glo_ok KX G (c.fact 48 rfl)
  have kp_switched : PySem.W.keepIn K (.ref (He.ga K "switched")) = true := by
    obtain ⟨_, FF⟩ := c.def_ 26 (d := d_switched) rfl
    exact FF.kp
  obtain ⟨fd_potential_of, b_potential_of, FO_potential_of⟩ := ok_potential_of (P := P) (w := w) (base := base) KX G c
  have g_f_potential_of : mg "potential_of" = some (.ref (He.ga K "potential_of")) := He.glo_ok KX G (c.fact 58 rfl)
  have kp_potential_of : PySem.W.keepIn K (.ref (He.ga K "potential_of")) = true := by
    obtain ⟨_, FF⟩ := c.def_ 29 (d := d_potential_of) rfl
    exact FF.kp
  obtain ⟨fd__law_mixed, b__law_mixed, FO__law_mixed⟩ := ok__law_mixed (P := P) (w := w) (base := base) KX G c
  have g_f__law_mixed : mg "_law_mixed" = some (.ref (He.ga K "_law_mixed")) := He.glo_ok KX G (c.fact 59 rfl)
  have kp__law_mixed : PySem.W.keepIn K (.ref (He.ga K "_law_mixed")) = true := by
    obtain ⟨_, FF⟩ := c.def_ 36 (d := d__law_mixed) rfl
    exact FF.kp
  have z_list : mg "list" = none := He.free_ok KX G (c.fact 9 rfl)
  obtain ⟨fd_switch, b_switch, FO_switch⟩ := ok_switch (P := P) (w := w) (base := base) KX G c
  have g_f_switch : mg "switch" = some (.ref (He.ga K "switch")) := He.glo_ok KX G (c.fact 60 rfl)
  have kp_switch : PySem.W.keepIn K (.ref (He.ga K "switch")) = true := by
    obtain ⟨_, FF⟩ := c.def_ 27 (d := d_switch) rfl
    exact FF.kp
  obtain ⟨its_kb_Web___init___2_modulus, kb_Web___init___2_modulus⟩ := FunD.kbindsD (ps := ["self", "size", "edges", "modulus"]) b_Web___init__ 3 ["modulus"] (fun us _ ws => us ++ ws) (by intro z; cases z) (fun r1 _ r3 => r1.append r3) (fun T kV doc pm an cdv ct us its ws l1 l2 l3 => match us, its, ws, l1, l2, l3 with | [_, _, _], [_], [_], _, _, _ => ⟨_, rfl, rfl⟩)
  refine fn_l (k := 8) F sc_law (fun cdv A outer s H E hr => ?_)
  have tk : Takes (cxOf CX0 P w K mg base ["_law_script", "_law_k", "_law_pool_here", "_law_nodes", "_law_dial", "_law_links_here", "_law_web", "_law_held", "_law_rows", "_law_rounds", "_law_totals", "_law_due", "_law_split", "_law_order", "_law_here", "_law_spot", "_law_much", "_law_turn", "_law_row"] d_law.qual d_law.scope (He.fAd K d_law.at_) cdv A outer s H E) (WF E0) := takes0
  have hx : Passes (L2.CX P w) (cxOf CX0 P w K mg base ["_law_script", "_law_k", "_law_pool_here", "_law_nodes", "_law_dial", "_law_links_here", "_law_web", "_law_held", "_law_rows", "_law_rounds", "_law_totals", "_law_due", "_law_split", "_law_order", "_law_here", "_law_spot", "_law_much", "_law_turn", "_law_row"] d_law.qual d_law.scope (He.fAd K d_law.at_) cdv A outer s H E) E0 := passL
  have hu64 := hr.units
  have hu := hu_of hr
  have c_Web : ∀ {Y : Cx}, Y.mg = mg → Y.K = K → ClsD Y "Web" (He.ga K "Web") := fun h1 h2 => ⟨by rw [h1]; exact gc_Web, by rw [h2]; exact cl_Web⟩
  exact dss_cons (ds_for hp_of rfl (di_range1 rfl z_range (da_cons (de_max2 rfl rfl z_max (da_cons de_int (da_cons (de_min2 rfl rfl z_min (da_cons (de_len rfl z_len (da_cons (dv 0) da_nil)) (da_cons de_int da_nil))) da_nil))) da_nil)) (gn 1 sc_law.nd) (dss_cons (st 2 sc_law.nd (de_call FO__law_pool (hr.mono (by decide)) rfl g_f__law_pool kp__law_pool b__law_pool tk (da_cons (dv 0) (da_cons (dv 1) da_nil)))) (dss_cons (ds_asg (DN.frz (dn_tup (da_cons (DN.frz (dn_add de_int (DE.fz (de_call FO__law_take (hr.mono (by decide)) rfl g_f__law_take kp__law_take b__law_take tk (da_cons (dv 2) (da_cons de_int da_nil)))))) (da_cons (DE.fz (de_call FO__law_modulus (hr.mono (by decide)) rfl g_f__law_modulus kp__law_modulus b__law_modulus tk (da_cons (dv 2) da_nil))) da_nil)))) (dg_tup rfl (dgs_cons (gn 3 sc_law.nd) (dgs_cons (gn 4 sc_law.nd) dgs_nil)))) (dss_cons (st 5 sc_law.nd (DE.fz (de_call FO__law_links (hr.mono (by decide)) rfl g_f__law_links kp__law_links b__law_links tk (da_cons (dv 2) (da_cons (dv 3) (da_cons de_int da_nil)))))) (dss_cons (st 6 sc_law.nd (DE.fz (de_makeN (c_Web rfl rfl) k_Web FO_Web___init__ (hr.mono (by decide)) rfl kb_Web___init___2_modulus (fun d l z h1 h2 => by simp [h1, h2]) (fun B as v d vs zs l z r r1 r2 => .cons r (r1.app r2)) hx (da_cons (dv 3) (da_cons (dv 5) da_nil)) (dk_cons (dv 4) dk_nil)))) (dss_cons (st 7 sc_law.nd (DE.fz (de_call FO__law_numbers (hr.mono (by decide)) rfl g_f__law_numbers kp__law_numbers b__law_numbers tk (da_cons (dv 2) (da_cons (dv 4) (da_cons (de_len rfl z_len (da_cons (dv 5) da_nil)) da_nil)))))) (dss_cons (ds_setLc (own := [(("_law_turn" : Str), 17)]) kN_frz rfl sc_law.nd (show _ from rfl) rfl (sw_true rfl rfl rfl (by decide +kernel)) (di_range1 rfl z_range (da_cons (DE.fz (de_call FO__law_take (hr.mono (by decide)) rfl g_f__law_take kp__law_take b__law_take tk (da_cons (dv 2) (da_cons de_int da_nil)))) da_nil)) (blkOk_by rfl) (fun _ _ _ _ _ => gn 17 sc_law.nd) (fun _ _ _ _ _ => dts_nil) (fun _ _ _ _ _ => DN.frz (dn_tup (da_cons (DE.fz (de_call FO__law_take (hr.mono (by decide)) rfl g_f__law_take kp__law_take b__law_take takes0 (da_cons (dv 2) (da_cons (dv 3) da_nil)))) (da_cons (DE.fz (de_call FO__law_number (hr.mono (by decide)) rfl g_f__law_number kp__law_number b__law_number takes0 (da_cons (dv 2) (da_cons de_int da_nil)))) da_nil)))) (rs_mem rfl)) (dss_cons (ds_setLc (own := [(("_law_row" : Str), 18)]) kN_frz rfl sc_law.nd (show _ from rfl) rfl (sw_true rfl rfl rfl (by decide +kernel)) (di_sq (DN.frz (dn_lc (own := [(("_law_turn" : Str), 17)]) rfl sc_law.nd (di_range1 rfl z_range (da_cons de_int da_nil)) (blkOk_by rfl) (fun _ _ _ _ _ => gn 17 sc_law.nd) (fun _ _ _ _ _ => dts_nil) (fun _ _ _ _ _ => DE.fz (de_call FO__law_round (hr.mono (by decide)) rfl g_f__law_round kp__law_round b__law_round takes0 (da_cons (dv 2) (da_cons (dv 5) (da_cons (dv 3) da_nil))))) (rs_mem rfl)))) (blkOk_by rfl) (fun _ _ _ _ _ => gn 18 sc_law.nd) (fun _ _ _ _ _ => dts_one (dt_ne hu64 (dv 18) (DN.frz (dn_lst da_nil)))) (fun _ _ _ _ _ => dv 18) (rs_mem rfl)) (dss_cons (ds_setLc (own := [(("_law_row" : Str), 18)]) kN_frz rfl sc_law.nd (show _ from rfl) rfl (sw_true rfl rfl rfl (by decide +kernel)) (di_sq (dv 9)) (blkOk_by rfl) (fun _ _ _ _ _ => gn 18 sc_law.nd) (fun _ _ _ _ _ => dts_nil) (fun _ _ _ _ _ => DE.fz (de_call FO_walk_sum (hr.mono (by decide)) rfl g_f_walk_sum kp_walk_sum b_walk_sum takes0 (da_cons (dv 6) (da_cons (dv 7) (da_cons (dv 18) da_nil))))) (rs_mem rfl)) (dss_cons (st 11 sc_law.nd (DE.fz (de_call FO_switched (hr.mono (by decide)) rfl g_f_switched kp_switched b_switched tk (da_cons (dv 6) (da_cons (dv 7) (da_cons (DE.fz (de_call FO_potential_of (hr.mono (by decide)) rfl g_f_potential_of kp_potential_of b_potential_of tk (da_cons (dv 6) (da_cons (dv 8) da_nil)))) da_nil)))))) (dss_cons (st 12 sc_law.nd (DN.frz (dn_add (DN.frz (dn_add (DN.frz (dn_slice (dv 8) (do_some de_int) do_none)) (DN.frz (dn_lc (own := [(("_law_spot" : Str), 15), (("_law_much" : Str), 16)]) rfl sc_law.nd (di_sq (DN.frz (dn_slice (dv 8) do_none (do_some de_int)))) (blkOk_by rfl) (fun _ _ _ _ _ => dg_tup rfl (dgs_cons (gn 15 sc_law.nd) (dgs_cons (gn 16 sc_law.nd) dgs_nil))) (fun _ _ _ _ _ => dts_nil) (fun _ _ _ _ _ => DN.frz (dn_tup (da_cons (dv 15) (da_cons (de_sub (dv 16) de_int) da_nil)))) (rs_mem rfl))))) (DN.frz (dn_lc (own := [(("_law_spot" : Str), 15), (("_law_much" : Str), 16)]) rfl sc_law.nd (di_sq (DN.frz (dn_slice (dv 8) do_none (do_some de_int)))) (blkOk_by rfl) (fun _ _ _ _ _ => dg_tup rfl (dgs_cons (gn 15 sc_law.nd) (dgs_cons (gn 16 sc_law.nd) dgs_nil))) (fun _ _ _ _ _ => dts_nil) (fun _ _ _ _ _ => DN.frz (dn_tup (da_cons (dv 15) (da_cons de_int da_nil)))) (rs_mem rfl)))))) (dss_one (ds_for hp_of rfl (di_sq (DN.frz (dn_lst (da_cons (DE.fz (de_call FO__law_mixed (hr.mono (by decide)) rfl g_f__law_mixed kp__law_mixed b__law_mixed tk (da_cons (dv 2) (da_cons (dv 8) da_nil)))) (da_cons (DE.fz (de_call FO__law_mixed (hr.mono (by decide)) rfl g_f__law_mixed kp__law_mixed b__law_mixed tk (da_cons (dv 2) (da_cons (dv 12) da_nil)))) da_nil))))) (gn 13 sc_law.nd) (dss_cons (st 14 sc_law.nd (DN.frz (dn_list rfl z_list (da_cons (dv 7) da_nil)))) (dss_cons (ds_for hp_of rfl (di_sq (dv 13)) (dg_tup rfl (dgs_cons (gn 15 sc_law.nd) (dgs_cons (gn 16 sc_law.nd) dgs_nil))) (dss_cons (st 14 sc_law.nd (DE.fz (de_call FO_switch (hr.mono (by decide)) rfl g_f_switch kp_switch b_switch tk (da_cons (dv 6) (da_cons (dv 14) (da_cons (dv 15) (da_cons (dv 16) da_nil))))))) (dss_one (ds_if (dt_ne hu64 (DN.frz (dn_lc (own := [(("_law_row" : Str), 18)]) rfl sc_law.nd (di_sq (dv 9)) (blkOk_by rfl) (fun _ _ _ _ _ => gn 18 sc_law.nd) (fun _ _ _ _ _ => dts_nil) (fun _ _ _ _ _ => DE.fz (de_call FO_walk_sum (hr.mono (by decide)) rfl g_f_walk_sum kp_walk_sum b_walk_sum takes0 (da_cons (dv 6) (da_cons (dv 14) (da_cons (dv 18) da_nil))))) (rs_mem rfl))) (dv 10)) (dss_one (ds_ret de_bl)) dss_nil)))) (dss_one (ds_if (dt_ne hu64 (dv 14) (dv 11)) (dss_one (ds_ret de_bl)) dss_nil))))))))))))))))) (dss_one (ds_ret de_bl))
end Lw

set_option Elab.async false
set_option linter.all false
set_option maxRecDepth 100000
set_option maxHeartbeats 0
namespace Lw
open PySem PySem.Spec PyProof.Rows L2
def loose0 : List Str := ["_wall", "__name__", "WebError", "InvalidModulus", "InvalidSize", "InvalidEdge", "InvalidNode", "InvalidWalk", "InvalidAmount", "InvalidGains", "InvalidPotential", "InvalidSwitch", "NoEdge", "TooMany", "reduced_number", "forest_of", "links_of", "MOST_NODES", "MOST_EDGES", "MOST_MODULUS", "is_integer", "is_within", "is_edge", "is_modulus", "check_edges", "Web", "check_node", "is_step", "step_ends", "is_walk"]
def loose1 : List Str := ["residue", "is_residue", "are_residues", "is_gains", "is_potential", "check_gains", "check_potential", "walk_sum", "switched", "switch", "is_switch", "potential_of", "_law_pool", "_law_take", "_law_modulus", "_law_links", "_law_low", "_law_number", "_law_numbers", "_law_mixed", "_law_round"]
def loose : List Str := loose0 ++ loose1
abbrev rowR : PySem.W.OpenRow := PySem.W.OpenLaw.row PySem.Challenge.rw_turnedties_k11_whole_switches_in_any_ord
abbrev hkD : PySem.W.Hook := He.hookD 4 fa fn
def obD (s : PySem.W.SharedT) : He.AlD := He.obsDG 4 fa fn (HandSHeadRun.getT s)
theorem obD_eq (s : PySem.W.SharedT) : obD s = hkD.obs s.abs := He.obsDG_eq (HandSHeadRun.getT_eq s)
theorem runD (w : World) : HandSHeadRun.RunEq rowR (PySem.W.view rowR.prog [56]) hkD obD 100000 loose w := by
  intro os
  kernel_rfl
end Lw
open PySem PySem.W PySem.Calls PyProof.Rows
theorem PySem.Challenge.cw_turnedties_k11_whole_switches_in_any_ord_holds : PySem.Challenge.rw_turnedties_k11_whole_switches_in_any_ord.Holds := by
  w_on; o_law
  refine HandSHeadRun.head_any (r := OpenLaw.row PySem.Challenge.rw_turnedties_k11_whole_switches_in_any_ord) (q := view (OpenLaw.row PySem.Challenge.rw_turnedties_k11_whole_switches_in_any_ord).prog [56]) (H := Lw.hkD) (ob := Lw.obD) (M := 100000) (loose := Lw.loose) (d := HandSHeadRun.topDef (OpenLaw.row PySem.Challenge.rw_turnedties_k11_whole_switches_in_any_ord).prog 56) (kwd := []) Lw.obD_eq
    (by kernel_rfl) (fun s => by kernel_rfl) Lw.runD (by kernel_rfl) (by kernel_rfl) (by kernel_rfl) (by rfl) (by first | assumption | decide +kernel) (by decide +kernel) ⟨rfl, rfl, rfl, rfl, rfl, by decide +kernel⟩ ?hw ?hc
  case hw => w_witness2
  case hc =>
    refine L2.walk_ofE (l := PySem.Challenge.rw_turnedties_k11_whole_switches_in_any_ord) (n := 63) (k := 9) (x := "_law_script") (CX := L2.CX0) rfl (by decide) (by kernel_rfl) ⟨rfl, by decide, by decide⟩ ?F (fun _ _ _ _ z => z)
    intro w mg fa0 h Y G hmg0
    obtain ⟨K, KX, c⟩ := Y
    have hmg : mg ("law" : PySem.Str) = some (.ref fa0) := by
      have e : (HandSHeadRun.topDef (OpenLaw.row PySem.Challenge.rw_turnedties_k11_whole_switches_in_any_ord).prog 56).name = ("law" : PySem.Str) := by kernel_rfl
      rw [← e]
      exact hmg0
    have e := hmg.symm.trans (He.glo_ok KX G (c.fact 61 (f := .glo "law") rfl))
    cases e
    obtain ⟨fd, hb, hF⟩ := Lw.ok_law (P := (PySem.Challenge.rw_turnedties_k11_whole_switches_in_any_ord).prog) (w := w) KX G c
    exact ⟨K, fd, _, KX, hb, fun H a ns hl _ hS => let ⟨M1, hM⟩ := Lw.law_true ns; DL.spL_script hS hM, fun base _ _ => hF base⟩
