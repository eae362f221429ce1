import PyProof.Rows.All
import Wide.All
import OpenK.AllK
import Wide.FinOn
import HandS.ForMost
import HandS.Exc
import HandS.ExcOwn
import HandS.WordsExc
import HandS.TryMany
import HandS.Wide
import HandS.WideBits
import HandS.Gcd
import HandS.IsInst
import HandS.Style
import HandS.CallSlots
import HandS.Conv
import HandS.TupAny
import HandS.TupMul
import HandS.Zip
import PyProof.P3Eq
import HandS.ExcInit
import HandS.ExcField
import HandS.ExcIs
import HandS.Defaults
import KE.KIsAll
import HandS.RaiseMore
import HandS.Deep
import HandS.Text
import PyProof.StrOps2
import PySem.Challenge.RW_wishways_k11_any_value_as_ratio_or_row
set_option Elab.async false
set_option linter.all false
set_option maxRecDepth 100000
/-! Mini1: own values, own store, what they stand for in the heap; the judgements. -/
namespace Mn
open PySem PySem.Spec PyProof.Rows L2

inductive Val where
  | non | bl (b : Bool) | int (i : Int) | str (x : Str) | tup (xs : List Val) | lst (xs : List Val) | scr (ns : List Int) | loc (n : Nat) | emp
/-- what stands at a place of the store: what may change -/
inductive SO where
  | lst (xs : List Val) | gone
abbrev Sto := List SO
abbrev Loc := List (Option Val)
structure Exn where
  cls : Str
  fs : List (Str × Val)
inductive R (α : Type) where
  | ok (a : α) (s : Sto) | ex (e : Exn) (s : Sto) | bad
abbrev M (α : Type) := Loc → Sto → R α
def R.bd {α β : Type} (r : R α) (f : α → Sto → R β) : R β := match r with
  | .ok a s => f a s
  | .ex e s => .ex e s
  | .bad => .bad
/-- what a block comes to -/
inductive RB where
  | nx (l : Loc) (s : Sto) | rt (v : Val) (s : Sto) | bk (l : Loc) (s : Sto) | ct (l : Loc) (s : Sto) | ex (e : Exn) (l : Loc) (s : Sto) | bad
abbrev B := Loc → Sto → RB
abbrev Fn := List Val → Sto → R Val
abbrev Tg := Val → M Loc

/-! ### what they stand for -/
/-- the places of the store (none: it stands still from now on); rs: what is kept for a list that a comprehension makes just now -/
structure Pl where
  pl : List (Option Addr)
  rs : List Addr
def Pl.has (p : Pl) (a : Addr) : Prop := some a ∈ p.pl ∨ a ∈ p.rs
abbrev KTup (K : PySem.W.Frag) (a : Addr) (xs : List V) : Prop := ∃ (o : Obj) (its : Array Value) (n : Nat), K.lookup a = some o ∧ o.cls = .type "tuple" ∧ o.data = .seq its n ∧ its.size ≤ sizeLine ∧ Vals xs its.toList
abbrev KLst (K : PySem.W.Frag) (a : Addr) (xs : List V) : Prop := ∃ (o : Obj) (its : Array Value) (n : Nat), K.lookup a = some o ∧ o.cls = .type "list" ∧ o.dict = none ∧ o.data = .seq its n ∧ its.size ≤ sizeLine ∧ Vals xs its.toList
mutual
inductive RepV (K : PySem.W.Frag) (p : Pl) (H : Hp) : Val → V → Prop
  | non : RepV K p H .non .non
  | bl (b : Bool) : RepV K p H (.bl b) (.bl b)
  | int (i : Int) : RepV K p H (.int i) (.int i)
  | str (x : Str) : RepV K p H (.str x) (.str x)
  | tup {a : Addr} {ys : List V} {xs : List Val} : Rd H a (.tup ys) → ¬ p.has a → RepVs K p H xs ys → RepV K p H (.tup xs) (.ref a)
  | ktup {a : Addr} {ys : List V} {xs : List Val} : KTup K a ys → RepVs K p H xs ys → RepV K p H (.tup xs) (.ref a)
  | lst {a : Addr} {ys : List V} {xs : List Val} : H a = some (.lst ys) → ¬ p.has a → RepVs K p H xs ys → RepV K p H (.lst xs) (.ref a)
  | scr {a : Addr} {ns : List Int} : Rd H a (.lst (ns.map V.int)) → ¬ p.has a → RepV K p H (.scr ns) (.ref a)
  | kscr {a : Addr} {ns : List Int} : KLst K a (ns.map V.int) → RepV K p H (.scr ns) (.ref a)
  | loc {n : Nat} {a : Addr} : p.pl[n]? = some (some a) → RepV K p H (.loc n) (.ref a)
  | dead {n : Nat} {a : Addr} : p.pl[n]? = some Option.none → RepV K p H (.loc n) (.ref a)
  | emp {a : Addr} : H a = some (.dK []) → ¬ p.has a → RepV K p H .emp (.ref a)
inductive RepVs (K : PySem.W.Frag) (p : Pl) (H : Hp) : List Val → List V → Prop
  | nil : RepVs K p H [] []
  | cons {v : Val} {x : V} {vs : List Val} {xs : List V} : RepV K p H v x → RepVs K p H vs xs → RepVs K p H (v :: vs) (x :: xs)
end
/-- from (p, H) on: new places; all that is neither a place nor kept apart stays -/
structure ExtW (p : Pl) (H : Hp) (p' : Pl) (H' : Hp) : Prop where
  len : p.pl.length ≤ p'.pl.length
  pre : ∀ (n : Nat) (a : Addr), p'.pl[n]? = some (some a) → p.pl[n]? = some (some a) ∨ (p.pl.length ≤ n ∧ (H a = none ∨ a ∈ p.rs))
  rsv : ∀ a ∈ p'.rs, a ∈ p.rs ∨ H a = none
  keep : ∀ b o, H b = some o → ¬ p.has b → H' b = some o
  dom : ∀ b, H' b = none → H b = none
/-- .. all that is no place stays -/
structure Ext (p : Pl) (H : Hp) (p' : Pl) (H' : Hp) : Prop where
  len : p.pl.length ≤ p'.pl.length
  pre : ∀ (n : Nat) (a : Addr), p'.pl[n]? = some (some a) → p.pl[n]? = some (some a) ∨ (p.pl.length ≤ n ∧ H a = none)
  rsv : p'.rs = p.rs
  keep : ∀ b o, H b = some o → some b ∉ p.pl → H' b = some o
  dom : ∀ b, H' b = none → H b = none
theorem Ext.w {p p' : Pl} {H H' : Hp} (E : Ext p H p' H') : ExtW p H p' H' := ⟨E.len, fun n a h => (E.pre n a h).imp id fun z => ⟨z.1, .inl z.2⟩, fun a h => .inl (by rw [← E.rsv]; exact h), fun b o h n => E.keep b o h fun z => n (.inl z), E.dom⟩
def RepO (K : PySem.W.Frag) (p : Pl) (H : Hp) : SO → Option HO → Prop
  | .lst xs, u => ∃ ys, u = some (.lst ys) ∧ RepVs K p H xs ys
  | .gone, _ => False
structure RepSt (K : PySem.W.Frag) (p : Pl) (st : Sto) (H : Hp) : Prop where
  len : p.pl.length = st.length
  nd : ∀ (n m : Nat) (a : Addr), p.pl[n]? = some (some a) → p.pl[m]? = some (some a) → n = m
  rv : ∀ a ∈ p.rs, ∃ o, H a = some o
  ap : ∀ a ∈ p.rs, some a ∉ p.pl
  at_ : ∀ (n : Nat) (a : Addr) (o : SO), p.pl[n]? = some (some a) → st[n]? = some o → RepO K p H o (H a)
  dd : ∀ (n : Nat), p.pl[n]? = some none → st[n]? = some .gone
/-- cl: where the own classes of errors stand; G: what else is known (of a caught error's fields) -/
structure Tab where
  cl : Str → Option Addr
  G : L2.St → Pl → Hp → Prop
  mono : ∀ {σ : L2.St} {p p' : Pl} {H H' : Hp}, ExtW p H p' H' → G σ p H → G σ p' H'
def tab0 (cl : Str → Option Addr) : Tab := ⟨cl, fun _ _ _ => True, fun _ _ => trivial⟩
/-- nothing more is known -/
class Triv (T : Tab) : Prop where
  all : ∀ (σ : L2.St) (p : Pl) (H : Hp), T.G σ p H
instance triv0 {cl : Str → Option Addr} : Triv (tab0 cl) := ⟨fun _ _ _ => trivial⟩
abbrev Tab.base (T : Tab) : Tab := tab0 T.cl
structure RepL (T : Tab) (K : PySem.W.Frag) (p : Pl) (H : Hp) (l : Loc) (σ : L2.St) : Prop where
  len : l.length = σ.length
  at_ : ∀ (i : Nat) (v : Val), l[i]? = some (some v) → ∃ x, σ[i]? = some (some x) ∧ RepV K p H v x
  g : T.G σ p H

section
variable {T : Tab} {K : PySem.W.Frag} {p p' p'' : Pl} {H H' H'' : Hp} {st : Sto} {l : Loc} {σ : L2.St}
theorem Ext.refl : Ext p H p H := ⟨Nat.le_refl _, fun _ _ h => .inl h, rfl, fun _ _ h _ => h, fun _ h => h⟩
theorem ExtW.notin (E : ExtW p H p' H') {a : Addr} {o : HO} (h : H a = some o) (n : ¬ p.has a) : ¬ p'.has a := by
  rintro (hm | hm)
  · obtain ⟨k, hk⟩ := List.getElem?_of_mem hm
    rcases E.pre k a hk with z | ⟨_, z | z⟩
    · exact n (.inl (List.mem_of_getElem? z))
    · rw [z] at h; cases h
    · exact n (.inr z)
  · rcases E.rsv a hm with z | z
    · exact n (.inr z)
    · rw [z] at h; cases h
theorem Ext.noPl (E : Ext p H p' H') {a : Addr} {o : HO} (h : H a = some o) (n : some a ∉ p.pl) : some a ∉ p'.pl := by
  intro hm
  obtain ⟨k, hk⟩ := List.getElem?_of_mem hm
  rcases E.pre k a hk with z | ⟨_, z⟩
  · exact n (List.mem_of_getElem? z)
  · rw [z] at h; cases h
theorem ExtW.trans (E : ExtW p H p' H') (F : ExtW p' H' p'' H'') : ExtW p H p'' H'' := by
  refine ⟨Nat.le_trans E.len F.len, fun n a h => ?_, fun a ha => ?_, fun b o h n => F.keep b o (E.keep b o h n) (E.notin h n), fun b h => E.dom b (F.dom b h)⟩
  · rcases F.pre n a h with z | ⟨z1, z⟩
    · exact E.pre n a z
    · refine .inr ⟨Nat.le_trans E.len z1, ?_⟩
      rcases z with z | z
      · exact .inl (E.dom a z)
      · exact (E.rsv a z).symm
  · rcases F.rsv a ha with z | z
    · exact E.rsv a z
    · exact .inr (E.dom a z)
theorem Ext.trans (E : Ext p H p' H') (F : Ext p' H' p'' H'') : Ext p H p'' H'' :=
  ⟨Nat.le_trans E.len F.len, fun n a h => by
    rcases F.pre n a h with z | ⟨z1, z⟩
    · exact E.pre n a z
    · exact .inr ⟨Nat.le_trans E.len z1, E.dom a z⟩, F.rsv.trans E.rsv, fun b o h n => F.keep b o (E.keep b o h n) (E.noPl h n), fun b h => E.dom b (F.dom b h)⟩
theorem ExtW.at_ (E : ExtW p H p' H') {n : Nat} {a : Addr} (h : p.pl[n]? = some (some a)) : p'.pl[n]? = some (some a) ∨ p'.pl[n]? = some none := by
  have hl := (List.getElem?_eq_some_iff.mp h).1
  have hl2 : n < p'.pl.length := Nat.lt_of_lt_of_le hl E.len
  have e := List.getElem?_eq_getElem hl2
  cases q : p'.pl[n] with
  | none => rw [q] at e; exact .inr e
  | some b =>
    rw [q] at e
    rcases E.pre n b e with z | ⟨z, _⟩
    · rw [h] at z; cases z; exact .inl e
    · omega
theorem ExtW.dd (E : ExtW p H p' H') {n : Nat} (h : p.pl[n]? = some none) : p'.pl[n]? = some none := by
  have hl := (List.getElem?_eq_some_iff.mp h).1
  have hl2 : n < p'.pl.length := Nat.lt_of_lt_of_le hl E.len
  have e := List.getElem?_eq_getElem hl2
  cases q : p'.pl[n] with
  | none => rw [q] at e; exact e
  | some b =>
    rw [q] at e
    rcases E.pre n b e with z | ⟨z, _⟩
    · rw [h] at z; cases z
    · omega
theorem ExtW.rd (E : ExtW p H p' H') {a : Addr} {u : HO} (h : Rd H a u) (n : ¬ p.has a) : Rd H' a u ∧ ¬ p'.has a := by
  rcases h with h | ⟨o, h⟩
  · exact ⟨.inl (E.keep _ _ h n), E.notin h n⟩
  · exact ⟨.inr ⟨o, E.keep _ _ h n⟩, E.notin h n⟩
mutual
theorem RepV.monoW (E : ExtW p H p' H') : ∀ (v : Val) (x : V), RepV K p H v x → RepV K p' H' v x
  | .non, _, h => by cases h; exact .non
  | .bl b, _, h => by cases h; exact .bl b
  | .int i, _, h => by cases h; exact .int i
  | .str x, _, h => by cases h; exact .str x
  | .tup xs, _, h => by
    cases h with
    | tup h1 h2 h3 => exact .tup (E.rd h1 h2).1 (E.rd h1 h2).2 (RepVs.monoW E xs _ h3)
    | ktup h1 h3 => exact .ktup h1 (RepVs.monoW E xs _ h3)
  | .lst xs, _, h => by
    cases h with
    | lst h1 h2 h3 => exact .lst (E.keep _ _ h1 h2) (E.notin h1 h2) (RepVs.monoW E xs _ h3)
  | .scr ns, _, h => by
    cases h with
    | scr h1 h2 => exact .scr (E.rd h1 h2).1 (E.rd h1 h2).2
    | kscr h1 => exact .kscr h1
  | .loc n, _, h => by
    cases h with
    | loc h => exact (E.at_ h).elim .loc .dead
    | dead h => exact .dead (E.dd h)
  | .emp, _, h => by
    cases h with
    | emp h1 h2 => exact .emp (E.keep _ _ h1 h2) (E.notin h1 h2)
theorem RepVs.monoW (E : ExtW p H p' H') : ∀ (vs : List Val) (xs : List V), RepVs K p H vs xs → RepVs K p' H' vs xs
  | [], _, h => by cases h; exact .nil
  | v :: vs, _, h => by
    cases h with
    | cons h1 h2 => exact .cons (RepV.monoW E v _ h1) (RepVs.monoW E vs _ h2)
end
theorem RepV.mono (E : Ext p H p' H') {v : Val} {x : V} (h : RepV K p H v x) : RepV K p' H' v x := RepV.monoW E.w v x h
theorem RepVs.mono (E : Ext p H p' H') {v : List Val} {x : List V} (h : RepVs K p H v x) : RepVs K p' H' v x := RepVs.monoW E.w v x h
theorem RepVs.len : ∀ {vs : List Val} {xs : List V}, RepVs K p H vs xs → vs.length = xs.length
  | [], _, h => by cases h; rfl
  | v :: vs, _, h => by cases h with | cons _ h => rw [List.length_cons, List.length_cons, h.len]
theorem RepVs.at_ : ∀ {vs : List Val} {xs : List V} {i : Nat} {v : Val}, RepVs K p H vs xs → vs[i]? = some v → ∃ x, xs[i]? = some x ∧ RepV K p H v x
  | [], _, _, _, _, e => by simp at e
  | w :: vs, _, 0, v, h, e => by
    cases h with
    | cons h1 h2 => simp at e; subst e; exact ⟨_, rfl, h1⟩
  | w :: vs, _, i + 1, v, h, e => by
    cases h with
    | cons h1 h2 => obtain ⟨x, a, b⟩ := h2.at_ (i := i) (by simpa using e); exact ⟨x, by simpa using a, b⟩
theorem RepVs.back : ∀ {vs : List Val} {xs : List V} {i : Nat} {x : V}, RepVs K p H vs xs → xs[i]? = some x → ∃ v, vs[i]? = some v ∧ RepV K p H v x
  | [], _, _, _, h, e => by cases h; simp at e
  | w :: vs, _, 0, v, h, e => by
    cases h with
    | cons h1 h2 => simp at e; subst e; exact ⟨_, rfl, h1⟩
  | w :: vs, _, i + 1, v, h, e => by
    cases h with
    | cons h1 h2 => obtain ⟨x, a, b⟩ := h2.back (i := i) (by simpa using e); exact ⟨x, by simpa using a, b⟩
theorem RepVs.app : ∀ {vs ws : List Val} {xs ys : List V}, RepVs K p H vs xs → RepVs K p H ws ys → RepVs K p H (vs ++ ws) (xs ++ ys)
  | [], _, _, _, h, g => by cases h; exact g
  | v :: vs, _, _, _, h, g => by cases h with | cons h1 h2 => exact .cons h1 (h2.app g)
theorem RepVs.take : ∀ {vs : List Val} {xs : List V} (n : Nat), RepVs K p H vs xs → RepVs K p H (vs.take n) (xs.take n)
  | _, _, 0, _ => by rw [List.take_zero, List.take_zero]; exact .nil
  | [], _, n + 1, h => by cases h; exact .nil
  | v :: vs, _, n + 1, h => by cases h with | cons h1 h2 => exact .cons h1 (h2.take n)
theorem RepVs.drop : ∀ {vs : List Val} {xs : List V} (n : Nat), RepVs K p H vs xs → RepVs K p H (vs.drop n) (xs.drop n)
  | _, _, 0, h => h
  | [], _, n + 1, h => by cases h; exact .nil
  | v :: vs, _, n + 1, h => by cases h with | cons h1 h2 => exact h2.drop n
theorem RepVs.set {v : Val} {x : V} (r : RepV K p H v x) : ∀ {vs : List Val} {xs : List V} (n : Nat), RepVs K p H vs xs → RepVs K p H (vs.set n v) (xs.set n x)
  | [], _, _, h => by cases h; exact .nil
  | w :: vs, _, 0, h => by cases h with | cons h1 h2 => exact .cons r h2
  | w :: vs, _, n + 1, h => by cases h with | cons h1 h2 => exact .cons h1 (h2.set r n)
theorem RepVs.ints : ∀ {ns : List Int} {xs : List V}, RepVs K p H (ns.map Val.int) xs → xs = ns.map V.int
  | [], _, h => by cases h; rfl
  | n :: ns, _, h => by
    cases h with
    | cons h1 h2 => cases h1; rw [h2.ints]; rfl
theorem RepVs.ofInts : ∀ (ns : List Int), RepVs K p H (ns.map Val.int) (ns.map V.int)
  | [] => .nil
  | n :: ns => .cons (.int n) (ofInts ns)
theorem RepVs.bools : ∀ {ns : List Bool} {xs : List V}, RepVs K p H (ns.map Val.bl) xs → xs = ns.map V.bl
  | [], _, h => by cases h; rfl
  | n :: ns, _, h => by
    cases h with
    | cons h1 h2 => cases h1; rw [h2.bools]; rfl
theorem RepL.monoW (E : ExtW p H p' H') (L : RepL T K p H l σ) : RepL T K p' H' l σ := ⟨L.len, fun i v h => let ⟨x, a, b⟩ := L.at_ i v h; ⟨x, a, RepV.monoW E _ _ b⟩, T.mono E L.g⟩
theorem RepL.mono (E : Ext p H p' H') (L : RepL T K p H l σ) : RepL T K p' H' l σ := ⟨L.len, fun i v h => let ⟨x, a, b⟩ := L.at_ i v h; ⟨x, a, b.mono E⟩, T.mono E.w L.g⟩
theorem RepL.set [Triv T] {i : Nat} {v : Val} {x : V} (L : RepL T K p H l σ) (r : RepV K p H v x) : RepL T K p H (l.set i (some v)) (σ.set i (some x)) := by
  refine ⟨by rw [List.length_set, List.length_set]; exact L.len, fun j w h => ?_, Triv.all _ _ _⟩
  by_cases hj : i = j
  · subst hj
    have hl : i < l.length := by
      have := (List.getElem?_eq_some_iff.mp h).1
      simpa using this
    rw [List.getElem?_set_self hl] at h
    cases h
    exact ⟨x, List.getElem?_set_self (by rw [← L.len]; exact hl), r⟩
  · rw [List.getElem?_set_ne hj] at h ⊢
    exact L.at_ j w h
theorem RepSt.some_ (S : RepSt K p st H) {a : Addr} (h : some a ∈ p.pl) : ∃ u, H a = some u := by
  obtain ⟨n, hn⟩ := List.getElem?_of_mem h
  have hl : n < st.length := by rw [← S.len]; exact (List.getElem?_eq_some_iff.mp hn).1
  have r := S.at_ n a st[n] hn (List.getElem?_eq_getElem hl)
  cases q : st[n] with
  | lst xs => rw [q] at r; obtain ⟨ys, e, _⟩ := r; exact ⟨_, e⟩
  | gone => rw [q] at r; exact r.elim
theorem RepSt.fresh (S : RepSt K p st H) {a : Addr} (h : H a = none) : some a ∉ p.pl := fun hm => by
  obtain ⟨u, e⟩ := S.some_ hm
  rw [h] at e; cases e
theorem RepSt.nohas (S : RepSt K p st H) {a : Addr} (h : H a = none) : ¬ p.has a := by
  rintro (z | z)
  · exact S.fresh h z
  · obtain ⟨o, e⟩ := S.rv a z
    rw [h] at e; cases e
theorem some_upd {a b : Addr} {o : HO} (h : ∃ u, H b = some u) : ∃ u, upd H a o b = some u := by
  by_cases e : b = a
  · exact ⟨o, by rw [e, upd_same]⟩
  · rw [upd_ne e]; exact h
theorem RepO.monoW (E : ExtW p H p' H') {o : SO} {u : Option HO} (r : RepO K p H o u) : RepO K p' H' o u := by
  cases o with
  | lst xs => obtain ⟨ys, e, r⟩ := r; exact ⟨ys, e, RepVs.monoW E _ _ r⟩
  | gone => exact r.elim
theorem RepO.mono (E : Ext p H p' H') {o : SO} {u : Option HO} (r : RepO K p H o u) : RepO K p' H' o u := r.monoW E.w
theorem Ext.alloc {a : Addr} {o : HO} (h : H a = none) : Ext p H p (upd H a o) :=
  ⟨Nat.le_refl _, fun _ _ h => .inl h, rfl, fun b u e _ => by rw [upd_ne (ne_of_none e h)]; exact e, fun b e => by
    by_cases hb : b = a
    · rw [hb]; exact h
    · rw [upd_ne hb] at e; exact e⟩
/-- a new place -/
abbrev Pl.add (p : Pl) (a : Addr) : Pl := ⟨p.pl ++ [some a], p.rs⟩
theorem app_at {α : Type} {xs : List α} {y z : α} {n : Nat} (h : (xs ++ [y])[n]? = some z) : xs[n]? = some z ∨ (n = xs.length ∧ y = z) := by
  by_cases hn : n < xs.length
  · rw [List.getElem?_append_left hn] at h; exact .inl h
  · have e : n = xs.length := by
      have := (List.getElem?_eq_some_iff.mp h).1
      rw [List.length_append] at this
      simp at this
      omega
    subst e
    rw [List.getElem?_append_right (Nat.le_refl _)] at h
    simp at h
    exact .inr ⟨rfl, h⟩
theorem Ext.push {a : Addr} {o : HO} (h : H a = none) : Ext p H (p.add a) (upd H a o) :=
  ⟨by show _ ≤ (p.pl ++ [some a]).length; rw [List.length_append]; omega, fun n b e => by
    rcases app_at (show (p.pl ++ [some a])[n]? = _ from e) with z | ⟨z, y⟩
    · exact .inl z
    · cases y; exact .inr ⟨by omega, h⟩, rfl, (Ext.alloc (p := p) (o := o) h).keep, (Ext.alloc (p := p) (o := o) h).dom⟩
theorem Ext.write {a : Addr} {o : HO} (h : some a ∈ p.pl) : Ext p H p (upd H a o) :=
  ⟨Nat.le_refl _, fun _ _ h => .inl h, rfl, fun b u e n => by rw [upd_ne (show b ≠ a from fun z => n (by rw [z]; exact h))]; exact e, fun b e => by
    by_cases hb : b = a
    · rw [hb, upd_same] at e; cases e
    · rw [upd_ne hb] at e; exact e⟩
/-- what is kept apart is written -/
theorem ExtW.rsvd {a : Addr} {o : HO} (h : a ∈ p.rs) : ExtW p H p (upd H a o) :=
  ⟨Nat.le_refl _, fun _ _ h => .inl h, fun _ h => .inl h, fun b u e n => by rw [upd_ne (show b ≠ a from fun z => n (by rw [z]; exact .inr h))]; exact e, fun b e => by
    by_cases hb : b = a
    · rw [hb, upd_same] at e; cases e
    · rw [upd_ne hb] at e; exact e⟩
theorem RepSt.alloc (S : RepSt K p st H) {a : Addr} {o : HO} (h : H a = none) : RepSt K p st (upd H a o) :=
  ⟨S.len, S.nd, fun b hb => some_upd (S.rv b hb), S.ap, fun n b u h1 h2 => by
    have hb : b ≠ a := fun z => S.fresh h (z ▸ List.mem_of_getElem? h1)
    rw [upd_ne hb]; exact (S.at_ n b u h1 h2).mono (.alloc h), S.dd⟩
theorem RepSt.push (S : RepSt K p st H) {a : Addr} {u : HO} {o : SO} (h : H a = none) (r : RepO K p H o (some u)) : RepSt K (p.add a) (st ++ [o]) (upd H a u) := by
  refine ⟨by show (p.pl ++ [some a]).length = _; rw [List.length_append, List.length_append, S.len]; rfl, fun n m b h1 h2 => ?_, fun b hb => some_upd (S.rv b hb), fun b hb => ?_, fun n b v h1 h2 => ?_, fun n h1 => ?_⟩
  · rcases app_at (show (p.pl ++ [some a])[n]? = _ from h1) with z | ⟨z, y⟩
    · rcases app_at (show (p.pl ++ [some a])[m]? = _ from h2) with z2 | ⟨z2, y2⟩
      · exact S.nd n m b z z2
      · cases y2; exact absurd (List.mem_of_getElem? z) (S.fresh h)
    · cases y
      rcases app_at (show (p.pl ++ [some a])[m]? = _ from h2) with z2 | ⟨z2, y2⟩
      · exact absurd (List.mem_of_getElem? z2) (S.fresh h)
      · exact z.trans z2.symm
  · show some b ∉ p.pl ++ [some a]
    rw [List.mem_append, List.mem_singleton]
    rintro (z | z)
    · exact S.ap b hb z
    · obtain ⟨o, e⟩ := S.rv b hb
      cases z
      rw [h] at e; cases e
  · rcases app_at (show (p.pl ++ [some a])[n]? = _ from h1) with z | ⟨z, y⟩
    · have hn := (List.getElem?_eq_some_iff.mp z).1
      rw [List.getElem?_append_left (by rw [← S.len]; exact hn)] at h2
      have hb : b ≠ a := fun y => S.fresh h (y ▸ List.mem_of_getElem? z)
      rw [upd_ne hb]
      exact (S.at_ n b v z h2).mono (.push h)
    · cases y
      subst z
      rw [S.len, List.getElem?_append_right (Nat.le_refl _)] at h2
      simp at h2
      subst h2
      rw [upd_same]
      exact r.mono (.push h)
  · rcases app_at (show (p.pl ++ [some a])[n]? = _ from h1) with z | ⟨z, y⟩
    · have hn := (List.getElem?_eq_some_iff.mp z).1
      rw [List.getElem?_append_left (by rw [← S.len]; exact hn)]
      exact S.dd n z
    · cases y
/-- what is not of the store changes, kept apart -/
theorem RepSt.rsvd (S : RepSt K p st H) {a : Addr} {o : HO} (h : a ∈ p.rs) : RepSt K p st (upd H a o) :=
  ⟨S.len, S.nd, fun b hb => some_upd (S.rv b hb), S.ap, fun n b u h1 h2 => by
    have hb : b ≠ a := fun z => S.ap a h (z ▸ List.mem_of_getElem? h1)
    rw [upd_ne hb]; exact (S.at_ n b u h1 h2).monoW (.rsvd h), S.dd⟩
theorem RepSt.write (S : RepSt K p st H) {n : Nat} {a : Addr} {u : HO} {o : SO} (hn : p.pl[n]? = some (some a)) (r : RepO K p H o (some u)) : RepSt K p (st.set n o) (upd H a u) := by
  have hm := List.mem_of_getElem? hn
  refine ⟨by rw [List.length_set]; exact S.len, S.nd, fun b hb => some_upd (S.rv b hb), S.ap, fun m b v h1 h2 => ?_, fun m h1 => ?_⟩
  · by_cases e : n = m
    · subst e
      rw [hn] at h1; cases h1
      have hl : n < st.length := by
        have := (List.getElem?_eq_some_iff.mp h2).1
        simpa using this
      rw [List.getElem?_set_self hl] at h2
      cases h2
      rw [upd_same]
      exact r.mono (.write hm)
    · have hb : b ≠ a := fun z => by
        subst z
        exact e (S.nd _ _ _ hn h1)
      rw [upd_ne hb]
      rw [List.getElem?_set_ne e] at h2
      exact (S.at_ m b v h1 h2).mono (.write hm)
  · by_cases e : n = m
    · subst e
      rw [hn] at h1; cases h1
    · rw [List.getElem?_set_ne e]; exact S.dd m h1
theorem ExtW.less {r : List Addr} (h : ∀ a ∈ r, a ∈ p.rs) : ExtW p H ⟨p.pl, r⟩ H := ⟨Nat.le_refl _, fun _ _ h => .inl h, fun a ha => .inl (h a ha), fun _ _ h _ => h, fun _ h => h⟩
theorem RepSt.less {r : List Addr} (S : RepSt K p st H) (h : ∀ a ∈ r, a ∈ p.rs) : RepSt K ⟨p.pl, r⟩ st H :=
  ⟨S.len, S.nd, fun a ha => S.rv a (h a ha), fun a ha => S.ap a (h a ha), fun n a o h1 h2 => (S.at_ n a o h1 h2).monoW (.less h), S.dd⟩
/-- what was kept apart becomes a place -/
theorem ExtW.place {q : List (Option Addr)} {r : List Addr} {a : Addr} : ExtW ⟨q, a :: r⟩ H ⟨q ++ [some a], r⟩ H :=
  ⟨by show q.length ≤ (q ++ [some a]).length; rw [List.length_append]; omega, fun n b e => by
    rcases app_at (show (q ++ [some a])[n]? = _ from e) with z | ⟨z, y⟩
    · exact .inl z
    · cases y; exact .inr ⟨by show q.length ≤ n; omega, .inr List.mem_cons_self⟩, fun b hb => .inl (List.mem_cons_of_mem _ hb), fun _ _ h _ => h, fun _ h => h⟩
theorem RepSt.place {q : List (Option Addr)} {r : List Addr} {a : Addr} {xs : List Val} {ys : List V} (S : RepSt K ⟨q, a :: r⟩ st H) (hr : a ∉ r) (h : H a = some (.lst ys)) (rv : RepVs K ⟨q, a :: r⟩ H xs ys) : RepSt K ⟨q ++ [some a], r⟩ (st ++ [.lst xs]) H := by
  have hq : some a ∉ q := S.ap a List.mem_cons_self
  have hlen : q.length = st.length := S.len
  refine ⟨by show (q ++ [some a]).length = _; rw [List.length_append, List.length_append, hlen]; rfl, fun n m b h1 h2 => ?_, fun b hb => S.rv b (List.mem_cons_of_mem _ hb), fun b hb => ?_, fun n b o h1 h2 => ?_, fun n h1 => ?_⟩
  · rcases app_at (show (q ++ [some a])[n]? = _ from h1) with z | ⟨z, y⟩
    · rcases app_at (show (q ++ [some a])[m]? = _ from h2) with z2 | ⟨z2, y2⟩
      · exact S.nd n m b z z2
      · cases y2; exact absurd (List.mem_of_getElem? z) hq
    · cases y
      rcases app_at (show (q ++ [some a])[m]? = _ from h2) with z2 | ⟨z2, y2⟩
      · exact absurd (List.mem_of_getElem? z2) hq
      · exact z.trans z2.symm
  · show some b ∉ q ++ [some a]
    rw [List.mem_append, List.mem_singleton]
    rintro (z | z)
    · exact S.ap b (List.mem_cons_of_mem _ hb) z
    · cases z; exact hr hb
  · rcases app_at (show (q ++ [some a])[n]? = _ from h1) with z | ⟨z, y⟩
    · have hn := (List.getElem?_eq_some_iff.mp z).1
      rw [List.getElem?_append_left (by rw [← hlen]; exact hn)] at h2
      exact (S.at_ n b o z h2).monoW .place
    · cases y
      subst z
      rw [hlen, List.getElem?_append_right (Nat.le_refl _)] at h2
      simp at h2
      subst h2
      exact ⟨ys, h, RepVs.monoW .place _ _ rv⟩
  · rcases app_at (show (q ++ [some a])[n]? = _ from h1) with z | ⟨z, y⟩
    · have hn := (List.getElem?_eq_some_iff.mp z).1
      rw [List.getElem?_append_left (by rw [← hlen]; exact hn)]
      exact S.dd n z
    · cases y
theorem RepSt.lst (S : RepSt K p st H) {n : Nat} {a : Addr} {xs : List Val} (hn : p.pl[n]? = some (some a)) (h : st[n]? = some (.lst xs)) : ∃ ys, H a = some (.lst ys) ∧ RepVs K p H xs ys := S.at_ n a _ hn h
/-- a place stands still from now on -/
abbrev Pl.frz (p : Pl) (n : Nat) : Pl := ⟨p.pl.set n none, p.rs⟩
theorem set_none_at {xs : List (Option Addr)} {n m : Nat} {a : Addr} (h : (xs.set n none)[m]? = some (some a)) : n ≠ m ∧ xs[m]? = some (some a) := by
  by_cases e : n = m
  · subst e
    have hl : n < xs.length := by
      have := (List.getElem?_eq_some_iff.mp h).1
      simpa using this
    rw [List.getElem?_set_self hl] at h
    cases h
  · rw [List.getElem?_set_ne e] at h
    exact ⟨e, h⟩
theorem Ext.frz {n : Nat} : Ext p H (p.frz n) H :=
  ⟨by show _ ≤ (p.pl.set n none).length; rw [List.length_set]; exact Nat.le_refl _, fun m a h => .inl (set_none_at h).2, rfl, fun _ _ h _ => h, fun _ h => h⟩
theorem RepSt.frz {n : Nat} (S : RepSt K p st H) : RepSt K (p.frz n) (st.set n .gone) H := by
  refine ⟨by show (p.pl.set n none).length = _; rw [List.length_set, List.length_set]; exact S.len, fun i j a h1 h2 => S.nd i j a (set_none_at h1).2 (set_none_at h2).2, S.rv, fun a ha hm => ?_, fun m a o h1 h2 => ?_, fun m h1 => ?_⟩
  · obtain ⟨k, hk⟩ := List.getElem?_of_mem hm
    exact S.ap a ha (List.mem_of_getElem? (set_none_at hk).2)
  · obtain ⟨e, h1⟩ := set_none_at h1
    rw [List.getElem?_set_ne e] at h2
    exact (S.at_ m a o h1 h2).mono .frz
  · have h1 : (p.pl.set n none)[m]? = some none := h1
    by_cases e : n = m
    · subst e
      have hl : n < p.pl.length := by
        have := (List.getElem?_eq_some_iff.mp h1).1
        simpa using this
      exact List.getElem?_set_self (by rw [← S.len]; exact hl)
    · rw [List.getElem?_set_ne e] at h1 ⊢
      exact S.dd m h1
theorem RepV.frz {n : Nat} {a : Addr} {xs : List Val} (S : RepSt K p st H) (hn : p.pl[n]? = some (some a)) (h : st[n]? = some (.lst xs)) : RepV K (p.frz n) H (.lst xs) (.ref a) := by
  obtain ⟨ys, e, r⟩ := S.lst hn h
  refine .lst e ?_ (RepVs.monoW Ext.frz.w _ _ r)
  rintro (z | z)
  · obtain ⟨k, hk⟩ := List.getElem?_of_mem z
    obtain ⟨e1, e2⟩ := set_none_at hk
    exact e1 (S.nd _ _ _ hn e2)
  · exact S.ap a z (List.mem_of_getElem? hn)
end

/-! ### exceptions -/
def RepX (T : Tab) (K : PySem.W.Frag) (p : Pl) (H : Hp) (e : Exn) (c : Value) (d : Option Addr) : Prop :=
  ∃ C, T.cl e.cls = some C ∧ c = .ref C ∧ ((e.fs = [] ∧ d = none) ∨ ∃ dd ys, d = some dd ∧ ¬ p.has dd ∧ H dd = some (.xd ((e.fs.map (·.1)).zip ys)) ∧ RepVs K p H (e.fs.map (·.2)) ys)

/-! ### the judgements -/
abbrev Rel (α β : Type) := Pl → Hp → α → β → Prop
def post {α β : Type} (T : Tab) (K : PySem.W.Frag) (W : WX) (rep : Rel α β) (p : Pl) (H : Hp) (σ : L2.St) (r : R α) (Q : β → Hp → Prop) : Prop := match r with
  | .ok v s => ∀ p' H' x, Ext p H p' H' → RepSt K p' s H' → rep p' H' v x → Q x H'
  | .ex e s => ∀ p' H' c d, Ext p H p' H' → RepSt K p' s H' → RepX T K p' H' e c d → W c d σ H'
  | .bad => False
def tG {α β : Type} (T : Tab) (K : PySem.W.Frag) (W : WX) (rep : Rel α β) (m : M α) : L2.St → Hp → (β → Hp → Prop) → Prop := fun σ H Q =>
  ∃ p l s, RepSt K p s H ∧ RepL T K p H l σ ∧ post T K W rep p H σ (m l s) Q
section
variable {α β γ δ : Type} {T : Tab} {K : PySem.W.Frag} {W : WX} {rep : Rel α β} {rep' : Rel γ δ} {p p' : Pl} {H H' : Hp} {σ : L2.St} {Q : β → Hp → Prop} {Q' : δ → Hp → Prop} {r : R α} {f : α → Sto → R γ}
theorem post.ext (E : Ext p H p' H') (h : post T K W rep p H σ r Q) : post T K W rep p' H' σ r Q := by
  cases r with
  | ok v s => exact fun p2 H2 x E2 => h p2 H2 x (E.trans E2)
  | ex e s => exact fun p2 H2 c d E2 => h p2 H2 c d (E.trans E2)
  | bad => exact h
theorem post.bd (h : post T K W rep' p H σ (r.bd f) Q') : post T K W rep p H σ r fun x H1 => ∃ p1 v s1, r = .ok v s1 ∧ Ext p H p1 H1 ∧ RepSt K p1 s1 H1 ∧ rep p1 H1 v x ∧ post T K W rep' p1 H1 σ (f v s1) Q' := by
  cases r with
  | ok v s => exact fun p' H' x E S q => ⟨p', v, s, rfl, E, S, q, h.ext E⟩
  | ex e s => exact h
  | bad => exact h
end
end Mn
set_option maxHeartbeats 4000000
/-! Mini2: expressions. -/
namespace Mn
open PySem PySem.Spec PyProof.Rows L2

theorem PEw {X : Cx} {e : Expr} {t t' : TE} (h : PE X e t) (w : ∀ σ H Q, t' σ H Q → t σ H Q) : PE X e t' := ⟨fun pins s σ H Q I q => h.run pins s σ H Q I (w _ _ _ q)⟩
theorem PTw {X : Cx} {e : Expr} {t t' : TT} (h : PT X e t) (w : ∀ σ H Q, t' σ H Q → t σ H Q) : PT X e t' := ⟨fun pins s σ H Q I q => h.run pins s σ H Q I (w _ _ _ q)⟩
theorem PWw {X : Cx} {e : Expr} {t t' : TT} (h : PW X e t) (w : ∀ σ H Q, t' σ H Q → t σ H Q) : PW X e t' := ⟨fun wh pins s σ H Q I q => h.run wh pins s σ H Q I (w _ _ _ q)⟩
theorem PAw {X : Cx} {es : List Expr} {t t' : TA} (h : PA X es t) (w : ∀ σ H Q, t' σ H Q → t σ H Q) : PA X es t' := ⟨fun pos pins s σ H Q I q => h.run pos pins s σ H Q I (w _ _ _ q)⟩

abbrev rB : Rel Bool Bool := fun _ _ a b => b = a
def CE (T : Tab) (W : WX) (X : Cx) (e : Expr) (m : M Val) : Prop := PE X e (tG T X.K W (RepV X.K) m)
def CA (T : Tab) (W : WX) (X : Cx) (es : List Expr) (m : M (List Val)) : Prop := PA X es (tG T X.K W (RepVs X.K) m)
def CT (T : Tab) (W : WX) (X : Cx) (e : Expr) (m : M Bool) : Prop := PT X e (tG T X.K W rB m)
def CW (T : Tab) (W : WX) (X : Cx) (e : Expr) (m : M Bool) : Prop := PW X e (tG T X.K W rB m)

theorem post.imp {α β : Type} {T : Tab} {K : PySem.W.Frag} {W : WX} {rep : Rel α β} {p : Pl} {H : Hp} {σ : L2.St} {r : R α} {Q Q' : β → Hp → Prop} (h : post T K W rep p H σ r Q) (k : ∀ x H1, Q x H1 → Q' x H1) : post T K W rep p H σ r Q' := by
  cases r with
  | ok v s => exact fun p' H' x E S q => k _ _ (h p' H' x E S q)
  | ex e s => exact h
  | bad => exact h
section
variable {T : Tab} {K : PySem.W.Frag} {W : WX} {p : Pl} {H : Hp} {σ : L2.St} {s : Sto} {Q : VK}
theorem post.pure {α β : Type} {rep : Rel α β} {Q : β → Hp → Prop} {v : α} {x : β} (h : post T K W rep p H σ (.ok v s) Q) (S : RepSt K p s H) (r : rep p H v x) : Q x H := h p H x .refl S r
theorem post.tup {vs : List Val} {xs : List V} (h : post T K W (RepV K) p H σ (.ok (.tup vs) s) Q) (S : RepSt K p s H) (r : RepVs K p H vs xs) (a : Addr) (ha : H a = none) : Q (.ref a) (upd H a (.tup xs)) :=
  h p _ _ (.alloc ha) (S.alloc ha) (.tup (.inl upd_same) (S.nohas ha) (r.mono (.alloc ha)))
theorem post.lst {vs : List Val} {xs : List V} (h : post T K W (RepV K) p H σ (.ok (.lst vs) s) Q) (S : RepSt K p s H) (r : RepVs K p H vs xs) (a : Addr) (ha : H a = none) : Q (.ref a) (upd H a (.lst xs)) :=
  h p _ _ (.alloc ha) (S.alloc ha) (.lst upd_same (S.nohas ha) (r.mono (.alloc ha)))
theorem post.loc {vs : List Val} {xs : List V} (h : post T K W (RepV K) p H σ (.ok (.loc s.length) (s ++ [.lst vs])) Q) (S : RepSt K p s H) (r : RepVs K p H vs xs) (a : Addr) (ha : H a = none) : Q (.ref a) (upd H a (.lst xs)) :=
  h _ _ _ (.push ha) (S.push ha ⟨xs, rfl, r⟩) (.loc (by show (p.pl ++ [some a])[s.length]? = some (some a); rw [← S.len, List.getElem?_append_right (Nat.le_refl _)]; simp))
end

/-! ### sequences in the store -/
def deref (s : Sto) : Val → Option (List Val)
  | .lst xs => some xs
  | .scr ns => some (ns.map .int)
  | .loc n => match s[n]? with
    | some (.lst xs) => some xs
    | _ => none
  | _ => none
def items (s : Sto) : Val → Option (List Val)
  | .tup xs => some xs
  | v => deref s v
section
variable {K : PySem.W.Frag} {p : Pl} {H : Hp} {s : Sto}
theorem RepV.asTup {xs : List Val} {x : V} (r : RepV K p H (.tup xs) x) : ∃ a ys, x = .ref a ∧ SqT K H a ys ∧ RepVs K p H xs ys := by
  cases r with
  | tup h1 h2 h3 => exact ⟨_, _, rfl, .inl h1, h3⟩
  | ktup h1 h3 => exact ⟨_, _, rfl, .inr h1, h3⟩
theorem RepV.asLst {v : Val} {x : V} {xs : List Val} (S : RepSt K p s H) (r : RepV K p H v x) (h : deref s v = some xs) : ∃ a ys, x = .ref a ∧ SqL K H a ys ∧ RepVs K p H xs ys := by
  cases r with
  | lst h1 h2 h3 => cases h; exact ⟨_, _, rfl, SqL.of h1, h3⟩
  | scr h1 h2 => cases h; exact ⟨_, _, rfl, .inl h1, .ofInts _⟩
  | kscr h1 => cases h; exact ⟨_, _, rfl, .inr h1, .ofInts _⟩
  | @loc n a hn =>
    have h' : (match s[n]? with | some (.lst xs) => some xs | _ => none) = some xs := h
    split at h'
    · rename_i ws e
      cases h'
      obtain ⟨ys, e1, r⟩ := S.lst hn e
      exact ⟨_, _, rfl, SqL.of e1, r⟩
    · cases h'
  | @dead n a hn =>
    have h' : (match s[n]? with | some (.lst xs) => some xs | _ => none) = some xs := h
    rw [S.dd n hn] at h'
    cases h'
  | _ => cases h
/-- tracked lists alone (no list from outside) -/
def derefH (s : Sto) : Val → Option (List Val)
  | .scr _ => none
  | v => deref s v
theorem RepV.asLstH {v : Val} {x : V} {xs : List Val} (S : RepSt K p s H) (r : RepV K p H v x) (h : derefH s v = some xs) : ∃ a ys, x = .ref a ∧ H a = some (.lst ys) ∧ RepVs K p H xs ys := by
  cases r with
  | lst h1 h2 h3 => cases h; exact ⟨_, _, rfl, h1, h3⟩
  | scr h1 h2 => cases h
  | kscr h1 => cases h
  | @loc n a hn =>
    have h' : (match s[n]? with | some (.lst xs) => some xs | _ => none) = some xs := h
    split at h'
    · rename_i ws e
      cases h'
      obtain ⟨ys, e1, r⟩ := S.lst hn e
      exact ⟨_, _, rfl, e1, r⟩
    · cases h'
  | @dead n a hn =>
    have h' : (match s[n]? with | some (.lst xs) => some xs | _ => none) = some xs := h
    rw [S.dd n hn] at h'
    cases h'
  | _ => cases h
theorem RepVs.atI {vs : List Val} {xs : List V} {i : Int} {v : Val} (r : RepVs K p H vs xs) (h : atI vs i = some v) : ∃ x, L2.atI xs i = some x ∧ RepV K p H v x := by
  unfold L2.atI at h ⊢
  rw [← r.len]
  cases e : ixN vs.length i with
  | none => rw [e] at h; cases h
  | some j =>
    rw [e] at h
    exact r.at_ (i := j) h
end

/-! ### data: for ==, repr -/
mutual
def dataW (f : Nat → Option PyData) : Val → Option PyData
  | .non => some .none
  | .bl b => some (.bool b)
  | .int i => some (.int i)
  | .str x => some (.str x)
  | .tup xs => match datasW f xs with
    | some ds => some (.tuple ds)
    | none => none
  | .lst xs => match datasW f xs with
    | some ds => some (.list ds)
    | none => none
  | .scr ns => some (.list (ns.map .int))
  | .loc n => f n
  | .emp => none
def datasW (f : Nat → Option PyData) : List Val → Option (List PyData)
  | [] => some []
  | v :: vs => match dataW f v, datasW f vs with
    | some d, some ds => some (d :: ds)
    | _, _ => none
end
def derefD (s : Sto) : Nat → Nat → Option PyData
  | 0, _ => none
  | k + 1, n => match s[n]? with
    | some (.lst xs) => match datasW (derefD s k) xs with
      | some ds => some (.list ds)
      | none => none
    | _ => none
def data (s : Sto) (v : Val) : Option PyData := dataW (derefD s 4) v
section
variable {K : PySem.W.Frag} {p : Pl} {H : Hp} {s : Sto} {f : Nat → Option PyData}
theorem dp_ints : ∀ (ns : List Int), DpAll K H (ns.map V.int) (ns.map PyData.int)
  | [] => .nil
  | n :: ns => .cons (.int n) (dp_ints ns)
mutual
theorem dpW (hf : ∀ (n : Nat) (d : PyData) (a : Addr), f n = some d → RepV K p H (.loc n) (.ref a) → Dp K H (.ref a) d) : ∀ (v : Val) (x : V) (d : PyData), RepV K p H v x → dataW f v = some d → Dp K H x d
  | .non, _, _, r, h => by cases r; simp only [dataW] at h; cases h; exact .non
  | .bl b, _, _, r, h => by cases r; simp only [dataW] at h; cases h; exact .bl b
  | .int i, _, _, r, h => by cases r; simp only [dataW] at h; cases h; exact .int i
  | .str z, _, _, r, h => by cases r; simp only [dataW] at h; cases h; exact .str z
  | .tup xs, _, d, r, h => by
    obtain ⟨a, ys, rfl, sq, rs⟩ := r.asTup
    simp only [dataW] at h
    split at h
    · rename_i ds e
      cases h
      exact .tup sq (dpsW hf xs ys ds rs e)
    · cases h
  | .lst xs, _, d, r, h => by
    simp only [dataW] at h
    cases r with
    | lst h1 h2 rs =>
      split at h
      · rename_i ds e
        cases h
        exact .lst (SqL.of h1) (dpsW hf xs _ ds rs e)
      · cases h
  | .scr ns, _, d, r, h => by
    simp only [dataW] at h
    cases h
    cases r with
    | scr h1 h2 => exact .lst (.inl h1) (dp_ints ns)
    | kscr h1 => exact .lst (.inr h1) (dp_ints ns)
  | .loc n, _, d, r, h => by
    simp only [dataW] at h
    cases r with
    | loc hn => exact hf n d _ h (.loc hn)
    | dead hn => exact hf n d _ h (.dead hn)
  | .emp, _, _, _, h => by simp only [dataW] at h; cases h
theorem dpsW (hf : ∀ (n : Nat) (d : PyData) (a : Addr), f n = some d → RepV K p H (.loc n) (.ref a) → Dp K H (.ref a) d) : ∀ (vs : List Val) (xs : List V) (ds : List PyData), RepVs K p H vs xs → datasW f vs = some ds → DpAll K H xs ds
  | [], _, _, r, h => by cases r; simp only [datasW] at h; cases h; exact .nil
  | v :: vs, _, ds, r, h => by
    cases r with
    | cons r1 r2 =>
      simp only [datasW] at h
      split at h
      · rename_i d ds' e1 e2
        cases h
        exact .cons (dpW hf v _ d r1 e1) (dpsW hf vs _ ds' r2 e2)
      · cases h
end
theorem dpD (S : RepSt K p s H) : ∀ (k n : Nat) (d : PyData) (a : Addr), derefD s k n = some d → RepV K p H (.loc n) (.ref a) → Dp K H (.ref a) d
  | 0, _, _, _, h, _ => by simp only [derefD] at h; cases h
  | k + 1, n, d, a, h, rn => by
    simp only [derefD] at h
    split at h
    · rename_i xs e
      split at h
      · rename_i ds e2
        cases h
        cases rn with
        | loc hn =>
          obtain ⟨ys, e1, r⟩ := S.lst hn e
          exact .lst (SqL.of e1) (dpsW (dpD S k) xs ys ds r e2)
        | dead hn => rw [S.dd n hn] at e; cases e
      · cases h
    · cases h
theorem RepV.dp (S : RepSt K p s H) {v : Val} {x : V} {d : PyData} (r : RepV K p H v x) (h : data s v = some d) : Dp K H x d := dpW (dpD S 4) v x d r h
end

/-! ### names, constants -/
def lk (i : Nat) : M Val := fun l s => match l[i]? with
  | some (some v) => .ok v s
  | _ => .bad
def cst (v : Val) : M Val := fun _ s => .ok v s
section
variable {T : Tab} {W : WX} {X : Cx}
theorem c_var (i : Nat) {x : Str} {pos : Pos} (hN : X.N[i]? = some x := by rfl) (hv : Vis X.env.scope x := by first | exact Or.inl rfl | exact Or.inr (Or.inl rfl) | exact Or.inr (Or.inr rfl)) (hd : (x == ("__debug__" : Str)) = false := by decide)
    (hcd : (x == ("__classdict__" : Str)) = false := by decide) : CE T W X (.Name x pos) (lk i) := by
  refine PEw (pe_var hN hv hd hcd) fun σ H Q h => ?_
  obtain ⟨p, l, s, S, L, q⟩ := h
  unfold lk at q
  split at q
  · rename_i v e
    obtain ⟨y, e1, r⟩ := L.at_ i v e
    exact ⟨y, e1, q.pure S r⟩
  · exact q.elim
theorem c_cst {e : Expr} {v : Val} {x : V} (h : PE X e (tC x)) (r : ∀ (p : Pl) (H : Hp), RepV X.K p H v x) : CE T W X e (cst v) :=
  PEw h fun σ H Q ⟨p, l, s, S, L, q⟩ => q.pure S (r p H)
theorem c_int {i j pos} : CE T W X (.Constant (.int i) j pos) (cst (.int i)) := c_cst pe_int fun _ _ => .int i
theorem c_bl {b j pos} : CE T W X (.Constant (.bool b) j pos) (cst (.bl b)) := c_cst pe_bl fun _ _ => .bl b
theorem c_non {j pos} : CE T W X (.Constant .none j pos) (cst .non) := c_cst pe_non fun _ _ => .non
theorem c_str {x j pos} : CE T W X (.Constant (.str x) j pos) (cst (.str x)) := c_cst pe_str fun _ _ => .str x
end

/-! ### two-place operations -/
def bin (ma mb : M Val) (g : Val → Val → Sto → R Val) : M Val := fun l s => (ma l s).bd fun v s1 => (mb l s1).bd fun w s2 => g v w s2
def una (ma : M Val) (g : Val → Sto → R Val) : M Val := fun l s => (ma l s).bd g
/-- the reading r is met where g gives a value -/
def Snd2 (T : Tab) (X : Cx) (W : WX) (r : R2) (g : Val → Val → Sto → R Val) : Prop := ∀ (p : Pl) (s : Sto) (H : Hp) (σ : L2.St) (v w : Val) (x y : V) (Q : VK),
  RepSt X.K p s H → RepV X.K p H v x → RepV X.K p H w y → post T X.K W (RepV X.K) p H σ (g v w s) Q → r x y H Q
def Snd1 (T : Tab) (X : Cx) (W : WX) (r : V → Hp → VK → Prop) (g : Val → Sto → R Val) : Prop := ∀ (p : Pl) (s : Sto) (H : Hp) (σ : L2.St) (v : Val) (x : V) (Q : VK),
  RepSt X.K p s H → RepV X.K p H v x → post T X.K W (RepV X.K) p H σ (g v s) Q → r x H Q
section
variable {T : Tab} {W : WX} {X : Cx} {a b c : Expr} {ma mb mc : M Val} {pos : Pos}
theorem t2 {r : R2} {g : Val → Val → Sto → R Val} (sd : Snd2 T X W r g) {σ : L2.St} {H : Hp} {Q : VK} (h : tG T X.K W (RepV X.K) (bin ma mb g) σ H Q) :
    tOp r (tG T X.K W (RepV X.K) ma) (tG T X.K W (RepV X.K) mb) σ H Q := by
  obtain ⟨p, l, s, S, L, q⟩ := h
  refine ⟨p, l, s, S, L, ?_⟩
  have q1 := post.bd (rep := RepV X.K) q
  refine q1.imp fun x H1 ⟨p1, v, s1, e1, E1, S1, r1, q1⟩ => ?_
  refine ⟨p1, l, s1, S1, L.mono E1, ?_⟩
  refine (post.bd (rep := RepV X.K) q1).imp fun y H2 ⟨p2, w, s2, e2, E2, S2, r2, q2⟩ => ?_
  exact sd p2 s2 H2 σ v w x y Q S2 (r1.mono E2) r2 q2
end
section
variable {T : Tab} {W : WX} {X : Cx} {a b c : Expr} {ma mb mc : M Val} {pos : Pos}
theorem t1 {r : V → Hp → VK → Prop} {g : Val → Sto → R Val} (sd : Snd1 T X W r g) {σ : L2.St} {H : Hp} {Q : VK} (h : tG T X.K W (RepV X.K) (una ma g) σ H Q) : tUn r (tG T X.K W (RepV X.K) ma) σ H Q := by
  obtain ⟨p, l, s, S, L, q⟩ := h
  refine ⟨p, l, s, S, L, ?_⟩
  exact (post.bd (rep := RepV X.K) q).imp fun x H1 ⟨p1, v, s1, e1, E1, S1, r1, q1⟩ => sd p1 s1 H1 σ v x Q S1 r1 q1
theorem c_op {op : Operator} {r : R2} {g : Val → Val → Sto → R Val} (ho : OpR X (binaryOp op) r) (sd : Snd2 T X W r g) (ha : CE T W X a ma) (hb : CE T W X b mb) : CE T W X (.BinOp a op b pos) (bin ma mb g) :=
  PEw (pe_op ho ha hb) fun _ _ _ h => t2 sd h
theorem c_un {op : UnaryOp} {r : V → Hp → VK → Prop} {g : Val → Sto → R Val} (ho : UnR X (unaryOp op) r) (sd : Snd1 T X W r g) (ha : CE T W X a ma) : CE T W X (.UnaryOp op a pos) (una ma g) :=
  PEw (pe_un ho ha) fun _ _ _ h => t1 sd h
theorem c_cmp {op : CmpOp} {r : R2} {g : Val → Val → Sto → R Val} (ho : OpR X (compareOp op) r) (sd : Snd2 T X W r g) (ha : CE T W X a ma) (hb : CE T W X b mb) (hm : behindInMarks op b = false) : CE T W X (.Compare a [op] [b] pos) (bin ma mb g) :=
  PEw (pe_cmpR ho ha hb hm) fun _ _ _ h => t2 sd h
/-- a value that must be a bool -/
def asB (m : M Val) : M Bool := fun l s => (m l s).bd fun v s1 => match v with
  | .bl b => .ok b s1
  | _ => .bad
theorem tB_of {σ : L2.St} {H : Hp} {Q : Bool → Hp → Prop} {m : M Val} (h : tG T X.K W rB (asB m) σ H Q) : tG T X.K W (RepV X.K) m σ H fun x H1 => ∃ c, x = .bl c ∧ Q c H1 := by
  obtain ⟨p, l, s, S, L, q⟩ := h
  refine ⟨p, l, s, S, L, ?_⟩
  refine (post.bd (rep := RepV X.K) q).imp fun x H1 ⟨p1, v, s1, e1, E1, S1, r1, q1⟩ => ?_
  cases v with
  | bl b => cases r1; exact ⟨b, rfl, q1.pure S1 rfl⟩
  | _ => exact q1.elim
theorem ct_cmp {op : CmpOp} {r : R2} {g : Val → Val → Sto → R Val} (ho : OpR X (compareOp op) r) (sd : Snd2 T X W r g) (ha : CE T W X a ma) (hb : CE T W X b mb) (hm : behindInMarks op b = false) : CT T W X (.Compare a [op] [b] pos) (asB (bin ma mb g)) := by
  refine PTw (pt_cmpR ho ha hb hm) fun σ H Q h => ?_
  exact t2 sd (tB_of h)
/-- an expression whose value is a bool, as a test -/
theorem ct_val (ha : CE T W X a ma) (he : ∀ whole, isTrue a X.env whole = (do let v ← whole; standAt a.pos; holding [v] (truthy v)) := by intro _; rfl) : CT T W X a (asB ma) :=
  PTw (pt_val ha he) fun σ H Q h => tB_of h
/-- any value's truth -/
def truV (v : Val) (s : Sto) : R Bool := match v with
  | .non => .ok false s
  | .bl b => .ok b s
  | .int i => .ok (i != 0) s
  | .str y => if y.length ≤ 16777216 then .ok ((y.length : Int) != 0) s else .bad
  | .tup xs => .ok (!xs.isEmpty) s
  | v => match deref s v with
    | some xs => .ok (!xs.isEmpty) s
    | none => .bad
def tru (m : M Val) : M Bool := fun l s => (m l s).bd truV
theorem RepVs.emp {K : PySem.W.Frag} {p : Pl} {H : Hp} {xs : List Val} {ys : List V} (r : RepVs K p H xs ys) : ys.isEmpty = xs.isEmpty := by
  cases r <;> rfl
theorem tru_of {p : Pl} {s : Sto} {H : Hp} {σ : L2.St} {v : Val} {x : V} {Q : Bool → Hp → Prop} (S : RepSt X.K p s H) (r : RepV X.K p H v x) (q : post T X.K W rB p H σ (truV v s) Q) : ∃ k, TruV X.K x H k ∧ Q k H := by
  have sq : ∀ {xs : List Val}, deref s v = some xs → post T X.K W rB p H σ (.ok (!xs.isEmpty) s) Q → ∃ k, TruV X.K x H k ∧ Q k H := fun {xs} e q => by
    obtain ⟨a, ys, rfl, sq, rs⟩ := r.asLst S e
    exact ⟨_, .inl ⟨ys, sq, rfl⟩, by rw [rs.emp]; exact q.pure S rfl⟩
  cases v with
  | non => cases r; exact ⟨_, rfl, q.pure S rfl⟩
  | bl b => cases r; exact ⟨_, rfl, q.pure S rfl⟩
  | int i => cases r; exact ⟨_, rfl, q.pure S rfl⟩
  | str y =>
    cases r
    have q' : post T X.K W rB p H σ (if y.length ≤ 16777216 then .ok ((y.length : Int) != 0) s else .bad) Q := q
    split at q'
    · rename_i hz
      exact ⟨_, ⟨by rw [sizeLine_eq]; exact hz, rfl⟩, q'.pure S rfl⟩
    · exact q'.elim
  | tup xs =>
    obtain ⟨a, ys, rfl, sq, rs⟩ := r.asTup
    exact ⟨_, .inr (.inl ⟨ys, sq, rfl⟩), by rw [rs.emp]; exact post.pure (v := !xs.isEmpty) q S rfl⟩
  | lst xs => exact sq rfl q
  | scr ns => exact sq rfl q
  | emp => exact False.elim q
  | loc n =>
    have q' : post T X.K W rB p H σ (match deref s (.loc n) with | some xs => .ok (!xs.isEmpty) s | none => .bad) Q := q
    split at q'
    · rename_i xs e
      exact sq e q'
    · exact q'.elim
theorem ct_tru (ha : CE T W X a ma) (he : ∀ whole, isTrue a X.env whole = (do let v ← whole; standAt a.pos; holding [v] (truthy v)) := by intro _; rfl) : CT T W X a (tru ma) := by
  refine PTw (pt_truth ha he) fun σ H Q h => ?_
  obtain ⟨p, l, s, S, L, q⟩ := h
  refine ⟨p, l, s, S, L, ?_⟩
  exact (post.bd (rep := RepV X.K) q).imp fun x H1 ⟨p1, v, s1, e1, E1, S1, r1, q1⟩ => tru_of S1 r1 q1

/-! ### a < b < c -/
def chn (ma mb mc : M Val) (g g' : Val → Val → Sto → R Val) : M Val := fun l s => (ma l s).bd fun v s1 => (mb l s1).bd fun w s2 => (g v w s2).bd fun k s3 => match k with
  | .bl true => (mc l s3).bd fun z s4 => g' w z s4
  | .bl false => .ok (.bl false) s3
  | _ => .bad
theorem t3 {r r' : R2} {g g' : Val → Val → Sto → R Val} (sd : Snd2 T X W r g) (sd' : Snd2 T X W r' g') {σ : L2.St} {H : Hp} {Q : VK} (h : tG T X.K W (RepV X.K) (chn ma mb mc g g') σ H Q) :
    tChain r r' (tG T X.K W (RepV X.K) ma) (tG T X.K W (RepV X.K) mb) (tG T X.K W (RepV X.K) mc) σ H Q := by
  obtain ⟨p, l, s, S, L, q⟩ := h
  refine ⟨p, l, s, S, L, ?_⟩
  refine (post.bd (rep := RepV X.K) q).imp fun x H1 ⟨p1, v, s1, e1, E1, S1, r1, q1⟩ => ?_
  refine ⟨p1, l, s1, S1, L.mono E1, ?_⟩
  refine (post.bd (rep := RepV X.K) q1).imp fun y H2 ⟨p2, w, s2, e2, E2, S2, r2, q2⟩ => ?_
  refine sd p2 s2 H2 σ v w x y _ S2 (r1.mono E2) r2 ((post.bd (rep := RepV X.K) q2).imp fun z H3 ⟨p3, k, s3, e3, E3, S3, r3, q3⟩ => ?_)
  cases k with
  | bl b =>
    cases r3
    refine ⟨b, rfl, ?_⟩
    cases b with
    | true =>
      rw [if_pos rfl]
      refine ⟨p3, l, s3, S3, (L.mono E1).mono (E2.trans E3), ?_⟩
      refine (post.bd (rep := RepV X.K) q3).imp fun u H4 ⟨p4, z, s4, e4, E4, S4, r4, q4⟩ => ?_
      exact sd' p4 s4 H4 σ w z y u Q S4 (r2.mono (E3.trans E4)) r4 q4
    | false =>
      rw [if_neg Bool.false_ne_true]
      exact post.pure q3 S3 (.bl false)
  | _ => exact q3.elim
theorem c_chn {op op' : CmpOp} {r r' : R2} {g g' : Val → Val → Sto → R Val} (ho : OpR X (compareOp op) r) (ho' : OpR X (compareOp op') r') (sd : Snd2 T X W r g) (sd' : Snd2 T X W r' g') (ha : CE T W X a ma) (hb : CE T W X b mb) (hc : CE T W X c mc)
    (hm : lastMarks [op, op'] [b, c] = false := by with_unfolding_all rfl) : CE T W X (.Compare a [op, op'] [b, c] pos) (chn ma mb mc g g') := PEw (pe_chain ho ho' ha hb hc hm) fun _ _ _ h => t3 sd sd' h
theorem ct_chn {op op' : CmpOp} {r r' : R2} {g g' : Val → Val → Sto → R Val} (ho : OpR X (compareOp op) r) (ho' : OpR X (compareOp op') r') (sd : Snd2 T X W r g) (sd' : Snd2 T X W r' g') (ha : CE T W X a ma) (hb : CE T W X b mb) (hc : CE T W X c mc)
    (hm : lastMarks [op, op'] [b, c] = false := by with_unfolding_all rfl) : CT T W X (.Compare a [op, op'] [b, c] pos) (asB (chn ma mb mc g g')) := PTw (pt_chain ho ho' ha hb hc hm) fun _ _ _ h => t3 sd sd' (tB_of h)

/-! ### and, or, not -/
def andM (m n : M Bool) : M Bool := fun l s => (m l s).bd fun b s1 => if b = true then n l s1 else .ok false s1
def orM (m n : M Bool) : M Bool := fun l s => (m l s).bd fun b s1 => if b = true then .ok true s1 else n l s1
def notM (m : M Bool) : M Bool := fun l s => (m l s).bd fun b s1 => .ok (!b) s1
variable {tm tn : M Bool} {rest : List Expr}
theorem cw_and1 (ha : CT T W X a tm) : CW T W X (.BoolOp .And [a] pos) tm := pw_and1 ha
theorem cw_or1 (ha : CT T W X a tm) : CW T W X (.BoolOp .Or [a] pos) tm := pw_or1 ha
theorem cw_and (ha : CT T W X a tm) (hb : CW T W X (.BoolOp .And (b :: rest) pos) tn) : CW T W X (.BoolOp .And (a :: b :: rest) pos) (andM tm tn) := by
  refine PWw (pw_and ha hb) fun σ H Q h => ?_
  obtain ⟨p, l, s, S, L, q⟩ := h
  refine ⟨p, l, s, S, L, ?_⟩
  refine (post.bd (rep := rB) q).imp fun x H1 ⟨p1, v, s1, e1, E1, S1, r1, q1⟩ => ?_
  cases r1
  cases x with
  | true => rw [if_pos rfl] at q1 ⊢; exact ⟨p1, l, s1, S1, L.mono E1, q1⟩
  | false => rw [if_neg Bool.false_ne_true] at q1 ⊢; exact q1.pure S1 rfl
theorem cw_or (ha : CT T W X a tm) (hb : CW T W X (.BoolOp .Or (b :: rest) pos) tn) : CW T W X (.BoolOp .Or (a :: b :: rest) pos) (orM tm tn) := by
  refine PWw (pw_or ha hb) fun σ H Q h => ?_
  obtain ⟨p, l, s, S, L, q⟩ := h
  refine ⟨p, l, s, S, L, ?_⟩
  refine (post.bd (rep := rB) q).imp fun x H1 ⟨p1, v, s1, e1, E1, S1, r1, q1⟩ => ?_
  cases r1
  cases x with
  | false => rw [if_neg Bool.false_ne_true] at q1 ⊢; exact ⟨p1, l, s1, S1, L.mono E1, q1⟩
  | true => rw [if_pos rfl] at q1 ⊢; exact q1.pure S1 rfl
theorem ct_w (h : CW T W X a tm) : CT T W X a tm := PW.pt h
theorem ct_not (ha : CT T W X a tm) : CT T W X (.UnaryOp .Not a pos) (notM tm) := by
  refine PTw (pt_not ha) fun σ H Q h => ?_
  obtain ⟨p, l, s, S, L, q⟩ := h
  refine ⟨p, l, s, S, L, ?_⟩
  refine (post.bd (rep := rB) q).imp fun x H1 ⟨p1, v, s1, e1, E1, S1, r1, q1⟩ => ?_
  cases r1
  exact q1.pure S1 rfl
/-- as values: all bools -/
def andV (m n : M Val) : M Val := fun l s => (m l s).bd fun v s1 => match v with
  | .bl true => n l s1
  | .bl false => .ok (.bl false) s1
  | _ => .bad
def orV (m n : M Val) : M Val := fun l s => (m l s).bd fun v s1 => match v with
  | .bl true => .ok (.bl true) s1
  | .bl false => n l s1
  | _ => .bad
def notV (m : M Val) : M Val := una m fun v s => match v with
  | .bl b => .ok (.bl (!b)) s
  | _ => .bad
theorem c_one {op} (h : CE T W X a ma) : CE T W X (.BoolOp op [a] pos) ma := pe_one h
theorem c_and (ha : CE T W X a ma) (hb : CE T W X (.BoolOp .And (b :: rest) pos) mb) : CE T W X (.BoolOp .And (a :: b :: rest) pos) (andV ma mb) := by
  refine PEw (pe_and ha hb) fun σ H Q h => ?_
  obtain ⟨p, l, s, S, L, q⟩ := h
  refine ⟨p, l, s, S, L, ?_⟩
  refine (post.bd (rep := RepV X.K) q).imp fun x H1 ⟨p1, v, s1, e1, E1, S1, r1, q1⟩ => ?_
  cases v with
  | bl k =>
    cases r1
    refine ⟨k, rfl, ?_⟩
    cases k with
    | true => rw [if_pos rfl]; exact ⟨p1, l, s1, S1, L.mono E1, q1⟩
    | false => rw [if_neg Bool.false_ne_true]; exact post.pure q1 S1 (.bl false)
  | _ => exact q1.elim
theorem c_or (ha : CE T W X a ma) (hb : CE T W X (.BoolOp .Or (b :: rest) pos) mb) : CE T W X (.BoolOp .Or (a :: b :: rest) pos) (orV ma mb) := by
  refine PEw (pe_or ha hb) fun σ H Q h => ?_
  obtain ⟨p, l, s, S, L, q⟩ := h
  refine ⟨p, l, s, S, L, ?_⟩
  refine (post.bd (rep := RepV X.K) q).imp fun x H1 ⟨p1, v, s1, e1, E1, S1, r1, q1⟩ => ?_
  cases v with
  | bl k =>
    cases r1
    refine ⟨k, rfl, ?_⟩
    cases k with
    | false => rw [if_neg Bool.false_ne_true]; exact ⟨p1, l, s1, S1, L.mono E1, q1⟩
    | true => rw [if_pos rfl]; exact post.pure q1 S1 (.bl true)
  | _ => exact q1.elim
theorem c_not (ha : CE T W X a ma) : CE T W X (.UnaryOp .Not a pos) (notV ma) := by
  refine PEw (pe_not ha) fun σ H Q h => ?_
  obtain ⟨p, l, s, S, L, q⟩ := h
  refine ⟨p, l, s, S, L, ?_⟩
  refine (post.bd (rep := RepV X.K) q).imp fun x H1 ⟨p1, v, s1, e1, E1, S1, r1, q1⟩ => ?_
  cases v with
  | bl k => cases r1; exact ⟨k, rfl, post.pure q1 S1 (.bl _)⟩
  | _ => exact q1.elim
def ifV (t : M Bool) (m n : M Val) : M Val := fun l s => (t l s).bd fun b s1 => if b = true then m l s1 else n l s1
theorem c_if (hc : CT T W X c tm) (ha : CE T W X a ma) (hb : CE T W X b mb) : CE T W X (.IfExp c a b pos) (ifV tm ma mb) := by
  refine PEw (pe_ifExp hc ha hb) fun σ H Q h => ?_
  obtain ⟨p, l, s, S, L, q⟩ := h
  refine ⟨p, l, s, S, L, ?_⟩
  refine (post.bd (rep := rB) q).imp fun x H1 ⟨p1, v, s1, e1, E1, S1, r1, q1⟩ => ?_
  cases r1
  cases x with
  | true => rw [if_pos rfl] at q1 ⊢; exact ⟨p1, l, s1, S1, L.mono E1, q1⟩
  | false => rw [if_neg Bool.false_ne_true] at q1 ⊢; exact ⟨p1, l, s1, S1, L.mono E1, q1⟩
end

/-! ### lists of expressions, displays -/
def nilM : M (List Val) := fun _ s => .ok [] s
def consM (m : M Val) (n : M (List Val)) : M (List Val) := fun l s => (m l s).bd fun v s1 => (n l s1).bd fun vs s2 => .ok (v :: vs) s2
def tupM (n : M (List Val)) : M Val := fun l s => (n l s).bd fun vs s1 => if vs.length ≤ 16777216 then .ok (.tup vs) s1 else .bad
def lstM (n : M (List Val)) : M Val := fun l s => (n l s).bd fun vs s1 => if vs.length ≤ 16777216 then .ok (.lst vs) s1 else .bad
/-- a list that will change -/
def locM (n : M (List Val)) : M Val := fun l s => (n l s).bd fun vs s1 => if vs.length ≤ 16777216 then .ok (.loc s1.length) (s1 ++ [.lst vs]) else .bad
section
variable {T : Tab} {W : WX} {X : Cx} {e : Expr} {es : List Expr} {m : M Val} {n : M (List Val)} {pos : Pos}
theorem ca_nil : CA T W X [] nilM := PAw pa_nil fun σ H Q ⟨p, l, s, S, L, q⟩ => q.pure S .nil
theorem ca_cons (ha : CE T W X e m) (hr : CA T W X es n) (hs : starEach (e :: es) X.env = (false, eval e X.env) :: starEach es X.env := by rfl) : CA T W X (e :: es) (consM m n) := by
  refine PAw (pa_cons ha hr hs) fun σ H Q h => ?_
  obtain ⟨p, l, s, S, L, q⟩ := h
  refine ⟨p, l, s, S, L, ?_⟩
  refine (post.bd (rep := RepV X.K) q).imp fun x H1 ⟨p1, v, s1, e1, E1, S1, r1, q1⟩ => ?_
  refine ⟨p1, l, s1, S1, L.mono E1, ?_⟩
  refine (post.bd (rep := RepVs X.K) q1).imp fun xs H2 ⟨p2, vs, s2, e2, E2, S2, r2, q2⟩ => ?_
  exact q2.pure S2 (.cons (r1.mono E2) r2)
theorem c_tup {x1} (h : CA T W X es n) : CE T W X (.Tuple es x1 pos) (tupM n) := by
  refine PEw (pe_tup h) fun σ H Q h => ?_
  obtain ⟨p, l, s, S, L, q⟩ := h
  refine ⟨p, l, s, S, L, ?_⟩
  refine (post.bd (rep := RepVs X.K) q).imp fun xs H1 ⟨p1, vs, s1, e1, E1, S1, r1, q1⟩ => ?_
  split at q1
  · rename_i hz
    exact ⟨by rw [← r1.len, sizeLine_eq]; exact hz, fun a ha => q1.tup S1 r1 a ha⟩
  · exact q1.elim
theorem c_lst (h : CA T W X es n) : CE T W X (.List es pos) (lstM n) := by
  refine PEw (pe_lst h) fun σ H Q h => ?_
  obtain ⟨p, l, s, S, L, q⟩ := h
  refine ⟨p, l, s, S, L, ?_⟩
  refine (post.bd (rep := RepVs X.K) q).imp fun xs H1 ⟨p1, vs, s1, e1, E1, S1, r1, q1⟩ => ?_
  split at q1
  · rename_i hz
    exact ⟨by rw [← r1.len, sizeLine_eq]; exact hz, fun a ha => q1.lst S1 r1 a ha⟩
  · exact q1.elim
theorem c_loc (h : CA T W X es n) : CE T W X (.List es pos) (locM n) := by
  refine PEw (pe_lst h) fun σ H Q h => ?_
  obtain ⟨p, l, s, S, L, q⟩ := h
  refine ⟨p, l, s, S, L, ?_⟩
  refine (post.bd (rep := RepVs X.K) q).imp fun xs H1 ⟨p1, vs, s1, e1, E1, S1, r1, q1⟩ => ?_
  split at q1
  · rename_i hz
    exact ⟨by rw [← r1.len, sizeLine_eq]; exact hz, fun a ha => q1.loc S1 r1 a ha⟩
  · exact q1.elim
end
end Mn
set_option maxHeartbeats 4000000
/-! Mini3: operators, items, slices, built-in calls. -/
namespace Mn
open PySem PySem.Spec PyProof.Rows L2

/-- room for calls, and no guard is held -/
structure XOk (k : Nat) (X : Cx) : Prop where
  room : Room k X.A
  grd : X.A.guards = some []
theorem XOk.hu {k : Nat} {X : Cx} (h : XOk k X) : X.A.units + 64 < cLine := by have := h.room.un; omega

theorem opOr {X : Cx} {f : Value → Value → Sem Value} {r r' : R2} (h : OpR X f r) (h' : OpR X f r') : OpR X f (fun x y H Q => r x y H Q ∨ r' x y H Q) := by
  intro pins s σ H x y v u Q I rx ry q
  rcases q with q | q
  · exact h pins s σ H x y v u Q I rx ry q
  · exact h' pins s σ H x y v u Q I rx ry q
theorem line_ok {n : Nat} (h : n ≤ 16777216) : n ≤ sizeLine := by rw [sizeLine_eq]; exact h
section
variable {T : Tab} {W : WX} {X : Cx}

/-! ### + -/
def addV (v w : Val) (s : Sto) : R Val := match v with
  | .int i => match w with
    | .int j => .ok (.int (i + j)) s
    | _ => .bad
  | .str x => match w with
    | .str y => if x.length + y.length ≤ 16777216 then .ok (.str (x ++ y)) s else .bad
    | _ => .bad
  | .tup xs => match w with
    | .tup ys => if xs.length + ys.length ≤ 16777216 then .ok (.tup (xs ++ ys)) s else .bad
    | _ => .bad
  | v => match derefH s v, derefH s w with
    | some xs, some ys => if xs.length + ys.length ≤ 16777216 then .ok (.lst (xs ++ ys)) s else .bad
    | _, _ => .bad
def rAdd (K : PySem.W.Frag) : R2 := fun x y H Q => (∃ i j, x = .int i ∧ y = .int j ∧ Q (.int (i + j)) H) ∨ (∃ i j, x = .str i ∧ y = .str j ∧ i.length + j.length ≤ sizeLine ∧ Q (.str (i ++ j)) H) ∨ rCatA K x y H Q ∨ rCat x y H Q
theorem o_add : OpR X (binaryOp .Add) (rAdd X.K) := opOr op_add (opOr op_add_str (opOr op_catA op_cat))
theorem RepVs.nil_iff {K : PySem.W.Frag} {p : Pl} {H : Hp} {xs : List Val} {ys : List V} (r : RepVs K p H xs ys) : ys = [] ↔ xs = [] := by
  cases r <;> simp
theorem s_add : Snd2 T X W (rAdd X.K) addV := by
  intro p s H σ v w x y Q S r1 r2 q
  have hl : ∀ {xs ys : List Val}, derefH s v = some xs → derefH s w = some ys → xs.length + ys.length ≤ 16777216 → post T X.K W (RepV X.K) p H σ (.ok (.lst (xs ++ ys)) s) Q → rAdd X.K x y H Q := fun {xs ys} e1 e2 hz q => by
    obtain ⟨a, us, rfl, h1, rs⟩ := r1.asLstH S e1
    obtain ⟨b, ws, rfl, h2, rt⟩ := r2.asLstH S e2
    exact .inr (.inr (.inr ⟨a, b, us, ws, rfl, rfl, h1, h2, by rw [← rs.len, ← rt.len]; exact line_ok hz, fun c hc => q.lst S (rs.app rt) c hc⟩))
  have gen : post T X.K W (RepV X.K) p H σ (match derefH s v, derefH s w with | some xs, some ys => if xs.length + ys.length ≤ 16777216 then .ok (.lst (xs ++ ys)) s else .bad | _, _ => .bad) Q → rAdd X.K x y H Q := fun q => by
    split at q
    · rename_i xs ys e1 e2
      split at q
      · rename_i hz; exact hl e1 e2 hz q
      · exact q.elim
    · exact q.elim
  cases v with
  | int i =>
    cases w with
    | int j => cases r1; cases r2; exact .inl ⟨i, j, rfl, rfl, q.pure S (.int _)⟩
    | _ => exact q.elim
  | str z =>
    cases w with
    | str u =>
      cases r1; cases r2
      have q' : post T X.K W (RepV X.K) p H σ (if z.length + u.length ≤ 16777216 then .ok (.str (z ++ u)) s else .bad) Q := q
      split at q'
      · rename_i hz; exact .inr (.inl ⟨z, u, rfl, rfl, line_ok hz, q'.pure S (.str _)⟩)
      · exact q'.elim
    | _ => exact q.elim
  | tup xs =>
    cases w with
    | tup ys =>
      have q' : post T X.K W (RepV X.K) p H σ (if xs.length + ys.length ≤ 16777216 then .ok (.tup (xs ++ ys)) s else .bad) Q := q
      split at q'
      · rename_i hz
        obtain ⟨a, us, rfl, h1, rs⟩ := id r1.asTup
        obtain ⟨b, ws, rfl, h2, rt⟩ := id r2.asTup
        refine .inr (.inr (.inl ⟨a, b, us, ws, rfl, rfl, h1, h2, by rw [← rs.len, ← rt.len]; exact line_ok hz, fun e => ?_, fun _ e => ?_, fun _ _ c hc => q'.tup S (rs.app rt) c hc⟩))
        · have e' := rs.nil_iff.mp e
          subst e'
          exact post.pure q' S r2
        · have e' := rt.nil_iff.mp e
          subst e'
          rw [List.append_nil] at q'
          exact post.pure q' S r1
      · exact q'.elim
    | _ => exact q.elim
  | lst xs => exact gen q
  | loc n => exact gen q
  | scr ns => exact gen q
  | emp => exact gen q
  | non => exact gen q
  | bl b => exact gen q

/-! ### -, *, //, %, ** of ints; k times a list, a tuple -/
def subV (v w : Val) (s : Sto) : R Val := match v with
  | .int i => match w with
    | .int j => .ok (.int (i - j)) s
    | _ => .bad
  | _ => .bad
theorem s_sub : Snd2 T X W (rI0 fun i j => .int (i - j)) subV := by
  intro p s H σ v w x y Q S r1 r2 q
  cases v with
  | int i =>
    cases w with
    | int j => cases r1; cases r2; exact ⟨i, j, rfl, rfl, q.pure S (.int _)⟩
    | _ => exact q.elim
  | _ => exact q.elim
def mulV (v w : Val) (s : Sto) : R Val := match w with
  | .int j => match v with
    | .int i => if i.natAbs.log2 + j.natAbs.log2 < 1000000 then .ok (.int (i * j)) s else .bad
    | .tup xs => if 2 ≤ j ∧ j.natAbs ≤ 1000 ∧ xs.length ≤ 1000 ∧ xs.isEmpty = false then .ok (.tup (List.replicate j.toNat xs).flatten) s else .bad
    | v => match derefH s v with
      | some xs => if 0 ≤ j ∧ j.natAbs < 1000000 ∧ xs.length * j.toNat ≤ 16777216 then .ok (.lst (List.replicate j.toNat xs).flatten) s else .bad
      | none => .bad
  | _ => .bad
def rMul (K : PySem.W.Frag) : R2 := fun x y H Q => rI CMulW (fun i j => .int (i * j)) x y H Q ∨ rRepT K x y H Q ∨ rRep x y H Q
theorem o_mul : OpR X (binaryOp .Mult) (rMul X.K) := opOr op_mulW (opOr op_repT op_rep)
theorem RepVs.rep {K : PySem.W.Frag} {p : Pl} {H : Hp} {xs : List Val} {ys : List V} (r : RepVs K p H xs ys) : ∀ n : Nat, RepVs K p H (List.replicate n xs).flatten (List.replicate n ys).flatten
  | 0 => .nil
  | n + 1 => by rw [List.replicate_succ, List.replicate_succ, List.flatten_cons, List.flatten_cons]; exact r.app (rep r n)
theorem s_mul : Snd2 T X W (rMul X.K) mulV := by
  intro p s H σ v w x y Q S r1 r2 q
  cases w with
  | int j =>
    cases r2
    have gen : post T X.K W (RepV X.K) p H σ (match derefH s v with | some xs => if 0 ≤ j ∧ j.natAbs < 1000000 ∧ xs.length * j.toNat ≤ 16777216 then .ok (.lst (List.replicate j.toNat xs).flatten) s else .bad | none => .bad) Q → rMul X.K x (.int j) H Q := fun q => by
      split at q
      · rename_i xs e1
        split at q
        · rename_i hz
          obtain ⟨a, us, rfl, h1, rs⟩ := r1.asLstH S e1
          exact .inr (.inr ⟨a, j, us, rfl, rfl, h1, by omega, by omega, by rw [← rs.len]; exact line_ok hz.2.2, fun c hc => q.lst S (rs.rep _) c hc⟩)
        · exact q.elim
      · exact q.elim
    cases v with
    | int i =>
      cases r1
      have q' : post T X.K W (RepV X.K) p H σ (if i.natAbs.log2 + j.natAbs.log2 < 1000000 then .ok (.int (i * j)) s else .bad) Q := q
      split at q'
      · rename_i hz; exact .inl ⟨i, j, rfl, rfl, hz, q'.pure S (.int _)⟩
      · exact q'.elim
    | tup xs =>
      have q' : post T X.K W (RepV X.K) p H σ (if 2 ≤ j ∧ j.natAbs ≤ 1000 ∧ xs.length ≤ 1000 ∧ xs.isEmpty = false then .ok (.tup (List.replicate j.toNat xs).flatten) s else .bad) Q := q
      split at q'
      · rename_i hz
        obtain ⟨a, us, rfl, h1, rs⟩ := r1.asTup
        refine .inr (.inl ⟨a, j, us, rfl, rfl, h1, fun e => ?_, hz.1, by omega, by rw [← rs.len]; exact hz.2.2.1, fun c hc => q'.tup S (rs.rep _) c hc⟩)
        have e' := rs.nil_iff.mp e
        subst e'
        exact absurd hz.2.2.2 (by decide)
      · exact q'.elim
    | lst xs => exact gen q
    | loc n => exact gen q
    | scr ns => exact gen q
    | emp => exact gen q
    | non => exact gen q
    | bl b => exact gen q
    | str z => exact gen q
  | _ => exact q.elim
/-- // by any number but 0 -/
def CDivZ (_ j : Int) : Prop := j ≠ 0 ∧ j.natAbs.log2 < 9000
theorem o_fdiv : OpR X (binaryOp .FloorDiv) (rI CDivZ fun i j => .int (i.fdiv j)) := opI fun i j _ _ _ _ _ hc q => floordiv_int hc.1 q (.inl (PyProof.noPylong_of_log2 hc.2))
def fdivV (v w : Val) (s : Sto) : R Val := match v with
  | .int i => match w with
    | .int j => if j ≠ 0 ∧ j.natAbs.log2 < 9000 then .ok (.int (i.fdiv j)) s else .bad
    | _ => .bad
  | _ => .bad
theorem s_fdiv : Snd2 T X W (rI CDivZ fun i j => .int (i.fdiv j)) fdivV := by
  intro p s H σ v w x y Q S r1 r2 q
  cases v with
  | int i =>
    cases w with
    | int j =>
      cases r1; cases r2
      have q' : post T X.K W (RepV X.K) p H σ (if j ≠ 0 ∧ j.natAbs.log2 < 9000 then .ok (.int (i.fdiv j)) s else .bad) Q := q
      split at q'
      · rename_i hz; exact ⟨i, j, rfl, rfl, hz, q'.pure S (.int _)⟩
      · exact q'.elim
    | _ => exact q.elim
  | _ => exact q.elim
def modV (v w : Val) (s : Sto) : R Val := match v with
  | .int i => match w with
    | .int j => if j ≠ 0 then .ok (.int (i.fmod j)) s else .bad
    | _ => .bad
  | _ => .bad
theorem s_mod : Snd2 T X W (rI (fun _ j => j ≠ 0) fun i j => .int (i.fmod j)) modV := by
  intro p s H σ v w x y Q S r1 r2 q
  cases v with
  | int i =>
    cases w with
    | int j =>
      cases r1; cases r2
      have q' : post T X.K W (RepV X.K) p H σ (if j ≠ 0 then .ok (.int (i.fmod j)) s else .bad) Q := q
      split at q'
      · rename_i hz; exact ⟨i, j, rfl, rfl, hz, q'.pure S (.int _)⟩
      · exact q'.elim
    | _ => exact q.elim
  | _ => exact q.elim
def powV (v w : Val) (s : Sto) : R Val := match v with
  | .int i => match w with
    | .int j => if 0 ≤ j ∧ j.natAbs ≤ 1000000 ∧ i.natAbs < 18446744073709551616 then .ok (.int (i ^ j.toNat)) s else .bad
    | _ => .bad
  | _ => .bad
theorem s_pow : Snd2 T X W (rI CPow fun i j => .int (i ^ j.toNat)) powV := by
  intro p s H σ v w x y Q S r1 r2 q
  cases v with
  | int i =>
    cases w with
    | int j =>
      cases r1; cases r2
      have q' : post T X.K W (RepV X.K) p H σ (if 0 ≤ j ∧ j.natAbs ≤ 1000000 ∧ i.natAbs < 18446744073709551616 then .ok (.int (i ^ j.toNat)) s else .bad) Q := q
      split at q'
      · rename_i hz; exact ⟨i, j, rfl, rfl, ⟨hz.1, by omega, hz.2.2⟩, q'.pure S (.int _)⟩
      · exact q'.elim
    | _ => exact q.elim
  | _ => exact q.elim
def negV (v : Val) (s : Sto) : R Val := match v with
  | .int i => .ok (.int (-i)) s
  | _ => .bad
theorem s_neg : Snd1 T X W (rU fun i => .int (-i)) negV := by
  intro p s H σ v x Q S r1 q
  cases v with
  | int i => cases r1; exact ⟨i, rfl, q.pure S (.int _)⟩
  | _ => exact q.elim

/-! ### comparisons of ints -/
def cmpV (f : Int → Int → Bool) (v w : Val) (s : Sto) : R Val := match v with
  | .int i => match w with
    | .int j => .ok (.bl (f i j)) s
    | _ => .bad
  | _ => .bad
theorem s_cmp {f : Int → Int → Bool} : Snd2 T X W (rI0 fun i j => .bl (f i j)) (cmpV f) := by
  intro p s H σ v w x y Q S r1 r2 q
  cases v with
  | int i =>
    cases w with
    | int j => cases r1; cases r2; exact ⟨i, j, rfl, rfl, q.pure S (.bl _)⟩
    | _ => exact q.elim
  | _ => exact q.elim
abbrev ltV := cmpV fun i j => decide (i < j)
abbrev leV := cmpV fun i j => decide (i ≤ j)
abbrev gtV := cmpV fun i j => decide (j < i)
abbrev geV := cmpV fun i j => decide (j ≤ i)

/-! ### ==, != of data -/
def eqV (v w : Val) (s : Sto) : R Val := match data s v, data s w with
  | some d, some e => if (SeqAt.shaped d && SeqAt.shaped e) = true then .ok (.bl (PyData.eqv d e)) s else .bad
  | _, _ => .bad
def neV (v w : Val) (s : Sto) : R Val := match data s v, data s w with
  | some d, some e => if (SeqAt.shaped d && SeqAt.shaped e) = true then .ok (.bl (!PyData.eqv d e)) s else .bad
  | _, _ => .bad
theorem s_eq : Snd2 T X W (rEqD X.K) eqV := by
  intro p s H σ v w x y Q S r1 r2 q
  unfold eqV at q
  split at q
  · rename_i d e e1 e2
    split at q
    · rename_i hz
      rw [Bool.and_eq_true] at hz
      exact ⟨d, e, r1.dp S e1, r2.dp S e2, hz.1, hz.2, q.pure S (.bl _)⟩
    · exact q.elim
  · exact q.elim
theorem s_ne : Snd2 T X W (rNeD X.K) neV := by
  intro p s H σ v w x y Q S r1 r2 q
  unfold neV at q
  split at q
  · rename_i d e e1 e2
    split at q
    · rename_i hz
      rw [Bool.and_eq_true] at hz
      exact ⟨d, e, r1.dp S e1, r2.dp S e2, hz.1, hz.2, q.pure S (.bl _)⟩
    · exact q.elim
  · exact q.elim
/-! ### is None, is True -/
def isNon : Val → Bool
  | .non => true
  | _ => false
theorem RepV.isNon {K : PySem.W.Frag} {p : Pl} {H : Hp} {v : Val} {x : V} (r : RepV K p H v x) : decide (x = .non) = Mn.isNon v := by
  cases r <;> simp [Mn.isNon]
def isNV (v w : Val) (s : Sto) : R Val := match w with
  | .non => .ok (.bl (isNon v)) s
  | _ => .bad
def notNV (v w : Val) (s : Sto) : R Val := match w with
  | .non => .ok (.bl (!isNon v)) s
  | _ => .bad
theorem s_isN : Snd2 T X W (fun x y H Q => y = .non ∧ Q (.bl (decide (x = .non))) H) isNV := by
  intro p s H σ v w x y Q S r1 r2 q
  cases w with
  | non => cases r2; exact ⟨rfl, by rw [r1.isNon]; exact q.pure S (.bl _)⟩
  | _ => exact q.elim
theorem s_notN : Snd2 T X W (fun x y H Q => y = .non ∧ Q (.bl (!decide (x = .non))) H) notNV := by
  intro p s H σ v w x y Q S r1 r2 q
  cases w with
  | non => cases r2; exact ⟨rfl, by rw [r1.isNon]; exact q.pure S (.bl _)⟩
  | _ => exact q.elim
def isBV (v w : Val) (s : Sto) : R Val := match v with
  | .bl a => match w with
    | .bl b => .ok (.bl (decide (a = b))) s
    | _ => .bad
  | _ => .bad
def notBV (v w : Val) (s : Sto) : R Val := match v with
  | .bl a => match w with
    | .bl b => .ok (.bl (!decide (a = b))) s
    | _ => .bad
  | _ => .bad
theorem s_isB : Snd2 T X W rIsB isBV := by
  intro p s H σ v w x y Q S r1 r2 q
  cases v with
  | bl a =>
    cases w with
    | bl b => cases r1; cases r2; exact ⟨a, b, rfl, rfl, q.pure S (.bl _)⟩
    | _ => exact q.elim
  | _ => exact q.elim
theorem s_notB : Snd2 T X W rNotB notBV := by
  intro p s H σ v w x y Q S r1 r2 q
  cases v with
  | bl a =>
    cases w with
    | bl b => cases r1; cases r2; exact ⟨a, b, rfl, rfl, q.pure S (.bl _)⟩
    | _ => exact q.elim
  | _ => exact q.elim

/-! ### items, slices -/
def getO {α β : Type} (o : Option α) (f : α → R β) : R β := match o with
  | some a => f a
  | none => .bad
theorem post.getO {α β γ : Type} {T : Tab} {K : PySem.W.Frag} {W : WX} {rep : Rel β γ} {p : Pl} {H : Hp} {σ : L2.St} {o : Option α} {f : α → R β} {Q : γ → Hp → Prop} (h : post T K W rep p H σ (Mn.getO o f) Q) : ∃ a, o = some a ∧ post T K W rep p H σ (f a) Q := by
  cases o with
  | some a => exact ⟨a, rfl, h⟩
  | none => exact h.elim
def ixV (v w : Val) (s : Sto) : R Val := match w with
  | .int i => match v with
    | .tup xs => getO (atI xs i) fun y => .ok y s
    | .str z => if z.length ≤ 16777216 then getO (atI z.cps.toList i) fun c => .ok (.str ⟨#[c]⟩) s else .bad
    | v => getO (deref s v) fun xs => getO (atI xs i) fun y => .ok y s
  | _ => .bad
theorem s_ix : Snd2 T X W (rIx X.K) ixV := by
  intro p s H σ v w x y Q S r1 r2 q
  cases w with
  | int i =>
    cases r2
    have gen : post T X.K W (RepV X.K) p H σ (getO (deref s v) fun xs => getO (atI xs i) fun y => .ok y s) Q → rIx X.K x (.int i) H Q := fun q => by
      obtain ⟨xs, e1, q⟩ := q.getO
      obtain ⟨z, e2, q⟩ := q.getO
      obtain ⟨a, us, rfl, h1, rs⟩ := r1.asLst S e1
      obtain ⟨u, e3, ru⟩ := rs.atI e2
      exact .inl ⟨a, us, i, u, rfl, rfl, h1, e3, q.pure S ru⟩
    cases v with
    | tup xs =>
      obtain ⟨z, e2, q'⟩ := post.getO (f := fun y => R.ok y s) (show post T X.K W (RepV X.K) p H σ (getO (atI xs i) fun y => .ok y s) Q from q)
      obtain ⟨a, us, rfl, h1, rs⟩ := r1.asTup
      obtain ⟨u, e3, ru⟩ := rs.atI e2
      exact .inr (.inl ⟨a, us, i, u, rfl, rfl, h1, e3, q'.pure S ru⟩)
    | str z =>
      cases r1
      have q' : post T X.K W (RepV X.K) p H σ (if z.length ≤ 16777216 then getO (atI z.cps.toList i) fun c => .ok (.str ⟨#[c]⟩) s else .bad) Q := q
      split at q'
      · rename_i hz
        obtain ⟨c, e2, q'⟩ := q'.getO
        exact .inr (.inr ⟨z, i, c, rfl, rfl, line_ok hz, e2, q'.pure S (.str _)⟩)
      · exact q'.elim
    | lst xs => exact gen q
    | loc n => exact gen q
    | scr ns => exact gen q
    | emp => exact gen q
    | non => exact gen q
    | bl b => exact gen q
    | int i => exact gen q
  | _ => exact q.elim
theorem c_ix {a b : Expr} {ma mb : M Val} {pos : Pos} (ha : CE T W X a ma) (hb : CE T W X b mb) (hs : PlainIx b := by exact fun _ _ => rfl) : CE T W X (.Subscript a b pos) (bin ma mb ixV) :=
  PEw (pe_ix ix_seq ha hb hs) fun _ _ _ h => t2 s_ix h
def cutL {α : Type} (xs : List α) (lo hi : Option Int) : List α := (xs.drop (HT.sIx xs.length 0 lo)).take (HT.sIx xs.length xs.length hi - HT.sIx xs.length 0 lo)
theorem cut_all {α : Type} (xs : List α) (lo hi : Option Int) (h : HT.sIx xs.length 0 lo = 0 ∧ HT.sIx xs.length xs.length hi = xs.length) : cutL xs lo hi = xs := by
  unfold cutL
  rw [h.1, h.2, Nat.sub_zero, List.drop_zero, List.take_length]
theorem RepVs.cut {K : PySem.W.Frag} {p : Pl} {H : Hp} {xs : List Val} {ys : List V} (r : RepVs K p H xs ys) (lo hi : Option Int) : RepVs K p H (cutL xs lo hi) (cutV ys lo hi) := by
  unfold cutL cutV
  rw [r.len]
  exact (r.drop _).take _
def slV (v : Val) (lo hi : Option Int) (s : Sto) : R Val := match v with
  | .tup xs => .ok (.tup (cutL xs lo hi)) s
  | .str z => if z.length ≤ 16777216 then .ok (.str (cutS z lo hi)) s else .bad
  | v => match deref s v with
    | some xs => .ok (.lst (cutL xs lo hi)) s
    | none => .bad
def rSl (K : PySem.W.Frag) : V → Option Int → Option Int → Hp → VK → Prop := fun x lo hi H Q => rSlL K x lo hi H Q ∨ rSlA K x lo hi H Q ∨ rSlS x lo hi H Q
theorem o_sl : SlR X (rSl X.K) := sl_list.or (sl_tupA.or sl_str)
abbrev rEq {α : Type} : Rel α α := fun _ _ a b => b = a
def CO (T : Tab) (W : WX) (X : Cx) (e : Option Expr) (m : M (Option Int)) : Prop := PO X e (tG T X.K W rEq m)
theorem POw {e : Option Expr} {t t' : TO} (h : PO X e t) (w : ∀ σ H Q, t' σ H Q → t σ H Q) : PO X e t' := ⟨fun pins s σ H Q I q => h.run pins s σ H Q I (w _ _ _ q)⟩
def noP : M (Option Int) := fun _ s => .ok none s
def someP (m : M Val) : M (Option Int) := fun l s => (m l s).bd fun v s1 => match v with
  | .int i => .ok (some i) s1
  | _ => .bad
theorem co_none : CO T W X none noP := POw po_none fun σ H Q ⟨p, l, s, S, L, q⟩ => q.pure S rfl
theorem co_some {e : Expr} {m : M Val} (h : CE T W X e m) : CO T W X (some e) (someP m) := by
  refine POw (po_some h) fun σ H Q h => ?_
  obtain ⟨p, l, s, S, L, q⟩ := h
  refine ⟨p, l, s, S, L, ?_⟩
  refine (post.bd (rep := RepV X.K) q).imp fun x H1 ⟨p1, v, s1, e1, E1, S1, r1, q1⟩ => ?_
  cases v with
  | int i => cases r1; exact ⟨i, rfl, q1.pure S1 rfl⟩
  | _ => exact q1.elim
def slM (ma : M Val) (ml mh : M (Option Int)) : M Val := fun l s => (ma l s).bd fun v s1 => (ml l s1).bd fun lo s2 => (mh l s2).bd fun hi s3 => slV v lo hi s3
theorem c_sl {a : Expr} {el eh : Option Expr} {ma : M Val} {ml mh : M (Option Int)} {p2 pos : Pos} (ha : CE T W X a ma) (hl : CO T W X el ml) (hh : CO T W X eh mh) : CE T W X (.Subscript a (.Slice el eh none p2) pos) (slM ma ml mh) := by
  refine PEw (pe_slice o_sl ha hl hh) fun σ H Q h => ?_
  obtain ⟨p, l, s, S, L, q⟩ := h
  refine ⟨p, l, s, S, L, ?_⟩
  refine (post.bd (rep := RepV X.K) q).imp fun x H1 ⟨p1, v, s1, e1, E1, S1, r1, q1⟩ => ?_
  refine ⟨p1, l, s1, S1, L.mono E1, ?_⟩
  refine (post.bd (rep := rEq) q1).imp fun o2 H2 ⟨p2, vlo, s2, e2, E2, S2, r2, q2⟩ => ?_
  cases r2
  refine ⟨p2, l, s2, S2, (L.mono E1).mono E2, ?_⟩
  refine (post.bd (rep := rEq) q2).imp fun o3 H3 ⟨p3, vhi, s3, e3, E3, S3, r3, q3⟩ => ?_
  cases r3
  have r := r1.mono (E2.trans E3)
  have gen : post T X.K W (RepV X.K) p3 H3 σ (match deref s3 v with | some xs => .ok (.lst (cutL xs o2 o3)) s3 | none => .bad) Q → rSl X.K x o2 o3 H3 Q := fun q => by
    split at q
    · rename_i xs e1
      obtain ⟨a, us, rfl, h1, rs⟩ := r.asLst S3 e1
      exact .inl ⟨a, us, rfl, h1, fun c hc => q.lst S3 (rs.cut o2 o3) c hc⟩
    · exact q.elim
  cases v with
  | tup xs =>
    have q' : post T X.K W (RepV X.K) p3 H3 σ (.ok (.tup (cutL xs o2 o3)) s3) Q := q3
    obtain ⟨a, us, rfl, h1, rs⟩ := id r.asTup
    refine .inr (.inl ⟨a, us, rfl, h1, fun hw => ?_, fun _ c hc => q'.tup S3 (rs.cut o2 o3) c hc⟩)
    rw [← rs.len] at hw
    rw [cut_all xs o2 o3 hw] at q'
    exact q'.pure S3 r
  | str z =>
    cases r
    have q' : post T X.K W (RepV X.K) p3 H3 σ (if z.length ≤ 16777216 then .ok (.str (cutS z o2 o3)) s3 else .bad) Q := q3
    split at q'
    · rename_i hz; exact .inr (.inr ⟨z, rfl, line_ok hz, q'.pure S3 (.str _)⟩)
    · exact q'.elim
  | lst xs => exact gen q3
  | loc n => exact gen q3
  | scr ns => exact gen q3
  | emp => exact gen q3
  | non => exact gen q3
  | bl b => exact gen q3
  | int i => exact gen q3

/-! ### built-in calls -/
def SndL (T : Tab) (X : Cx) (W : WX) (r : List V → Hp → VK → Prop) (g : List Val → Sto → R Val) : Prop := ∀ (p : Pl) (s : Sto) (H : Hp) (σ : L2.St) (vs : List Val) (xs : List V) (Q : VK),
  RepSt X.K p s H → RepVs X.K p H vs xs → post T X.K W (RepV X.K) p H σ (g vs s) Q → r xs H Q
def callG (n : M (List Val)) (g : List Val → Sto → R Val) : M Val := fun l s => (n l s).bd g
theorem tL {r : List V → Hp → VK → Prop} {g : List Val → Sto → R Val} {n : M (List Val)} (sd : SndL T X W r g) {σ : L2.St} {H : Hp} {Q : VK} (h : tG T X.K W (RepV X.K) (callG n g) σ H Q) : tCB r (tG T X.K W (RepVs X.K) n) σ H Q := by
  obtain ⟨p, l, s, S, L, q⟩ := h
  refine ⟨p, l, s, S, L, ?_⟩
  exact (post.bd (rep := RepVs X.K) q).imp fun x H1 ⟨p1, v, s1, e1, E1, S1, r1, q1⟩ => sd p1 s1 H1 σ v x Q S1 r1 q1
variable {x : Str} {pf pos : Pos} {e : Expr} {es : List Expr} {n : M (List Val)} {bid tyn : String} {r : List V → Hp → VK → Prop} {g : List Val → Sto → R Val}
theorem c_callB (hc : CallR X (.builtin bid) r) (sd : SndL T X W r g) (hg : Gl X x) (hm : X.mg x = none) (hv : bootBuiltins x = some (.builtin bid)) (ha : CA T W X (e :: es) n) (hn : x ≠ "__name__" := by decide) (hdb : (x == ("__debug__" : Str)) = false := by decide)
    (he : starEach (e :: es) X.env = (false, eval e X.env) :: starEach es X.env := by rfl) (hpl : (backTo pos (starEach es X.env)).any (·.1) = false := by rfl) : CE T W X (.Call (.Name x pf) (e :: es) [] pos) (callG n g) :=
  PEw (pe_callB hc hg hm hv ha hn hdb he hpl) fun _ _ _ h => tL sd h
theorem c_callTy (hc : CallR X (.type tyn) r) (sd : SndL T X W r g) (hg : Gl X x) (hm : X.mg x = none) (hv : bootBuiltins x = some (.type tyn)) (ha : CA T W X (e :: es) n) (hn : x ≠ "__name__" := by decide) (hdb : (x == ("__debug__" : Str)) = false := by decide)
    (he : starEach (e :: es) X.env = (false, eval e X.env) :: starEach es X.env := by rfl) (hpl : (backTo pos (starEach es X.env)).any (·.1) = false := by rfl) : CE T W X (.Call (.Name x pf) (e :: es) [] pos) (callG n g) :=
  PEw (pe_callTy hc hg hm hv ha hn hdb he hpl) fun _ _ _ h => tL sd h
theorem c_callF (hc : CallR X (.builtin bid) r) (sd : SndL T X W r g) (hg : Gl X x) (hm : X.mg x = some (.builtin bid)) (ha : CA T W X (e :: es) n) (hdb : (x == ("__debug__" : Str)) = false := by decide)
    (he : starEach (e :: es) X.env = (false, eval e X.env) :: starEach es X.env := by rfl) (hpl : (backTo pos (starEach es X.env)).any (·.1) = false := by rfl) : CE T W X (.Call (.Name x pf) (e :: es) [] pos) (callG n g) :=
  PEw (pe_callBfun hc hg hm ha hdb he hpl) fun _ _ _ h => tL sd h
/-- by the arguments' count -/
def g1 (f : Val → Sto → R Val) (vs : List Val) (s : Sto) : R Val := match vs with
  | [v] => f v s
  | _ => .bad
def g2 (f : Val → Val → Sto → R Val) (vs : List Val) (s : Sto) : R Val := match vs with
  | [v, w] => f v w s
  | _ => .bad
theorem snd1 {f : Val → Sto → R Val} {r : List V → Hp → VK → Prop} (h : ∀ (p : Pl) (s : Sto) (H : Hp) (σ : L2.St) (v : Val) (x : V) (Q : VK), RepSt X.K p s H → RepV X.K p H v x → post T X.K W (RepV X.K) p H σ (f v s) Q → r [x] H Q) : SndL T X W r (g1 f) := by
  intro p s H σ vs xs Q S rs q
  cases rs with
  | nil => exact q.elim
  | cons r1 rs =>
    cases rs with
    | nil => exact h p s H σ _ _ Q S r1 q
    | cons _ _ => exact q.elim
theorem snd2 {f : Val → Val → Sto → R Val} {r : List V → Hp → VK → Prop} (h : ∀ (p : Pl) (s : Sto) (H : Hp) (σ : L2.St) (v w : Val) (x y : V) (Q : VK), RepSt X.K p s H → RepV X.K p H v x → RepV X.K p H w y → post T X.K W (RepV X.K) p H σ (f v w s) Q → r [x, y] H Q) : SndL T X W r (g2 f) := by
  intro p s H σ vs xs Q S rs q
  cases rs with
  | nil => exact q.elim
  | cons r1 rs =>
    cases rs with
    | nil => exact q.elim
    | cons r2 rs =>
      cases rs with
      | nil => exact h p s H σ _ _ _ _ Q S r1 r2 q
      | cons _ _ => exact q.elim
def absV (v : Val) (s : Sto) : R Val := match v with
  | .int i => .ok (.int (if i < 0 then -i else i)) s
  | _ => .bad
theorem s_abs : SndL T X W (fun xs H Q => ∃ i, xs = [V.int i] ∧ Q (.int (if i < 0 then -i else i)) H) (g1 absV) := snd1 fun p s H σ v x Q S r1 q => by
  cases v with
  | int i => cases r1; exact ⟨i, rfl, q.pure S (.int _)⟩
  | _ => exact q.elim
def maxV (v w : Val) (s : Sto) : R Val := match v with
  | .int i => match w with
    | .int j => .ok (.int (if j > i then j else i)) s
    | _ => .bad
  | _ => .bad
def minV (v w : Val) (s : Sto) : R Val := match v with
  | .int i => match w with
    | .int j => .ok (.int (if j < i then j else i)) s
    | _ => .bad
  | _ => .bad
theorem s_max2 : SndL T X W (fun xs H Q => ∃ i j, xs = [V.int i, V.int j] ∧ Q (.int (if j > i then j else i)) H) (g2 maxV) := snd2 fun p s H σ v w x y Q S r1 r2 q => by
  cases v with
  | int i =>
    cases w with
    | int j => cases r1; cases r2; exact ⟨i, j, rfl, q.pure S (.int _)⟩
    | _ => exact q.elim
  | _ => exact q.elim
theorem s_min2 : SndL T X W (fun xs H Q => ∃ i j, xs = [V.int i, V.int j] ∧ Q (.int (if j < i then j else i)) H) (g2 minV) := snd2 fun p s H σ v w x y Q S r1 r2 q => by
  cases v with
  | int i =>
    cases w with
    | int j => cases r1; cases r2; exact ⟨i, j, rfl, q.pure S (.int _)⟩
    | _ => exact q.elim
  | _ => exact q.elim
def intV (v : Val) (s : Sto) : R Val := match v with
  | .int i => .ok (.int i) s
  | .bl b => .ok (.int (if b then 1 else 0)) s
  | .str z => getO (PySem.intText? z) fun n => if z.length ≤ 640 then .ok (.int n) s else .bad
  | _ => .bad
theorem o_int : CallR X (.type "int") (fun xs H Q => ((∃ i, xs = [V.int i] ∧ Q (.int i) H) ∨ ∃ k : Bool, xs = [V.bl k] ∧ Q (.int (if k then 1 else 0)) H) ∨ ∃ a n, xs = [V.str a] ∧ PySem.intText? a = some n ∧ a.length ≤ 640 ∧ Q (.int n) H) := call_int1.or call_int_str
theorem s_int : SndL T X W (fun xs H Q => ((∃ i, xs = [V.int i] ∧ Q (.int i) H) ∨ ∃ k : Bool, xs = [V.bl k] ∧ Q (.int (if k then 1 else 0)) H) ∨ ∃ a n, xs = [V.str a] ∧ PySem.intText? a = some n ∧ a.length ≤ 640 ∧ Q (.int n) H) (g1 intV) := snd1 fun p s H σ v x Q S r1 q => by
  cases v with
  | int i => cases r1; exact .inl (.inl ⟨i, rfl, q.pure S (.int _)⟩)
  | bl b => cases r1; exact .inl (.inr ⟨b, rfl, q.pure S (.int _)⟩)
  | str z =>
    cases r1
    obtain ⟨n, e, q'⟩ := post.getO (show post T X.K W (RepV X.K) p H σ (getO (PySem.intText? z) fun n => if z.length ≤ 640 then .ok (.int n) s else .bad) Q from q)
    split at q'
    · rename_i hz; exact .inr ⟨z, n, rfl, e, hz, q'.pure S (.int _)⟩
    · exact q'.elim
  | _ => exact q.elim
def lenV (v : Val) (s : Sto) : R Val := match v with
  | .tup xs => .ok (.int xs.length) s
  | .str z => if z.length ≤ 16777216 then .ok (.int z.length) s else .bad
  | v => match deref s v with
    | some xs => .ok (.int xs.length) s
    | none => .bad
theorem s_len : SndL T X W (fun xs H Q => ∃ x n, xs = [x] ∧ LenV X.K x H n ∧ Q (.int n) H) (g1 lenV) := snd1 fun p s H σ v x Q S r1 q => by
  have gen : post T X.K W (RepV X.K) p H σ (match deref s v with | some xs => .ok (.int xs.length) s | none => .bad) Q → ∃ y n, [x] = [y] ∧ LenV X.K y H n ∧ Q (.int n) H := fun q => by
    split at q
    · rename_i xs e
      obtain ⟨a, us, rfl, h1, rs⟩ := r1.asLst S e
      exact ⟨_, xs.length, rfl, .inl ⟨us, h1, rs.len⟩, q.pure S (.int _)⟩
    · exact q.elim
  cases v with
  | tup xs =>
    obtain ⟨a, us, rfl, h1, rs⟩ := r1.asTup
    exact ⟨_, xs.length, rfl, .inr ⟨us, h1, rs.len⟩, post.pure (v := Val.int xs.length) q S (.int _)⟩
  | str z =>
    cases r1
    have q' : post T X.K W (RepV X.K) p H σ (if z.length ≤ 16777216 then .ok (.int z.length) s else .bad) Q := q
    split at q'
    · rename_i hz; exact ⟨_, z.length, rfl, ⟨line_ok hz, rfl⟩, q'.pure S (.int _)⟩
    · exact q'.elim
  | lst xs => exact gen q
  | loc n => exact gen q
  | scr ns => exact gen q
  | emp => exact gen q
  | non => exact gen q
  | bl b => exact gen q
  | int i => exact gen q
def dmV (v w : Val) (s : Sto) : R Val := match v with
  | .int i => match w with
    | .int j => if 0 < j ∧ j.natAbs < 1073741824 then .ok (.tup [.int (i / j), .int (i % j)]) s else .bad
    | _ => .bad
  | _ => .bad
theorem s_dm : SndL T X W (fun xs H Q => ∃ i j, xs = [V.int i, V.int j] ∧ CDiv i j ∧ ∀ p, H p = none → Q (.ref p) (upd H p (.tup [.int (i / j), .int (i % j)]))) (g2 dmV) := snd2 fun p s H σ v w x y Q S r1 r2 q => by
  cases v with
  | int i =>
    cases w with
    | int j =>
      cases r1; cases r2
      have q' : post T X.K W (RepV X.K) p H σ (if 0 < j ∧ j.natAbs < 1073741824 then .ok (.tup [.int (i / j), .int (i % j)]) s else .bad) Q := q
      split at q'
      · rename_i hz; exact ⟨i, j, rfl, ⟨hz.1, by omega⟩, fun c hc => q'.tup S (.cons (.int _) (.cons (.int _) .nil)) c hc⟩
      · exact q'.elim
    | _ => exact q.elim
  | _ => exact q.elim
def gcdV (v w : Val) (s : Sto) : R Val := match v with
  | .int i => match w with
    | .int j => .ok (.int ((Nat.gcd i.natAbs j.natAbs : Nat) : Int)) s
    | _ => .bad
  | _ => .bad
theorem s_gcd : SndL T X W rGcd (g2 gcdV) := snd2 fun p s H σ v w x y Q S r1 r2 q => by
  cases v with
  | int i =>
    cases w with
    | int j => cases r1; cases r2; exact ⟨i, j, rfl, q.pure S (.int _)⟩
    | _ => exact q.elim
  | _ => exact q.elim
def boolsOf : List Val → Option (List Bool)
  | [] => some []
  | .bl b :: vs => match boolsOf vs with
    | some bs => some (b :: bs)
    | none => none
  | _ :: _ => none
theorem boolsOf_eq : ∀ {vs : List Val} {bs : List Bool}, boolsOf vs = some bs → vs = bs.map .bl
  | [], _, h => by simp only [boolsOf] at h; cases h; rfl
  | v :: vs, bs, h => by
    cases v with
    | bl b =>
      simp only [boolsOf] at h
      split at h
      · rename_i cs e; cases h; rw [boolsOf_eq e]; rfl
      · cases h
    | _ => simp only [boolsOf] at h; cases h
def intsOf : List Val → Option (List Int)
  | [] => some []
  | .int b :: vs => match intsOf vs with
    | some bs => some (b :: bs)
    | none => none
  | _ :: _ => none
theorem intsOf_eq : ∀ {vs : List Val} {bs : List Int}, intsOf vs = some bs → vs = bs.map .int
  | [], _, h => by simp only [intsOf] at h; cases h; rfl
  | v :: vs, bs, h => by
    cases v with
    | int b =>
      simp only [intsOf] at h
      split at h
      · rename_i cs e; cases h; rw [intsOf_eq e]; rfl
      · cases h
    | _ => simp only [intsOf] at h; cases h
def allV (v : Val) (s : Sto) : R Val := match deref s v with
  | some xs => match boolsOf xs with
    | some bs => .ok (.bl (bs.all id)) s
    | none => .bad
  | none => .bad
def anyV (v : Val) (s : Sto) : R Val := match deref s v with
  | some xs => match boolsOf xs with
    | some bs => .ok (.bl (bs.any id)) s
    | none => .bad
  | none => .bad
def sumV (v : Val) (s : Sto) : R Val := match deref s v with
  | some xs => match intsOf xs with
    | some bs => .ok (.int bs.sum) s
    | none => .bad
  | none => .bad
theorem s_all : SndL T X W (rAll X.K) (g1 allV) := snd1 fun p s H σ v x Q S r1 q => by
  unfold allV at q
  split at q
  · rename_i xs e
    split at q
    · rename_i bs e2
      obtain ⟨a, us, rfl, h1, rs⟩ := r1.asLst S e
      rw [boolsOf_eq e2] at rs
      rw [rs.bools] at h1
      exact ⟨a, bs, rfl, h1, q.pure S (.bl _)⟩
    · exact q.elim
  · exact q.elim
theorem s_any : SndL T X W (rAny X.K) (g1 anyV) := snd1 fun p s H σ v x Q S r1 q => by
  unfold anyV at q
  split at q
  · rename_i xs e
    split at q
    · rename_i bs e2
      obtain ⟨a, us, rfl, h1, rs⟩ := r1.asLst S e
      rw [boolsOf_eq e2] at rs
      rw [rs.bools] at h1
      exact ⟨a, bs, rfl, h1, q.pure S (.bl _)⟩
    · exact q.elim
  · exact q.elim
theorem s_sum : SndL T X W (rSum X.K) (g1 sumV) := snd1 fun p s H σ v x Q S r1 q => by
  unfold sumV at q
  split at q
  · rename_i xs e
    split at q
    · rename_i bs e2
      obtain ⟨a, us, rfl, h1, rs⟩ := r1.asLst S e
      rw [intsOf_eq e2] at rs
      rw [rs.ints] at h1
      exact ⟨a, bs, rfl, h1, q.pure S (.int _)⟩
    · exact q.elim
  · exact q.elim
/-- tuple(list), tuple(tuple) -/
def tupleV (v : Val) (s : Sto) : R Val := match v with
  | .tup xs => .ok (.tup xs) s
  | v => match deref s v with
    | some xs => .ok (.tup xs) s
    | none => .bad
theorem s_tuple : SndL T X W (fun xs H Q => ∃ p ys, xs = [V.ref p] ∧ ((SqL X.K H p ys ∧ ∀ l, H l = none → Q (.ref l) (upd H l (.tup ys))) ∨ (SqT X.K H p ys ∧ Q (.ref p) H))) (g1 tupleV) := snd1 fun p s H σ v x Q S r1 q => by
  have gen : post T X.K W (RepV X.K) p H σ (match deref s v with | some xs => .ok (.tup xs) s | none => .bad) Q → ∃ p ys, [x] = [V.ref p] ∧ ((SqL X.K H p ys ∧ ∀ l, H l = none → Q (.ref l) (upd H l (.tup ys))) ∨ (SqT X.K H p ys ∧ Q (.ref p) H)) := fun q => by
    split at q
    · rename_i xs e
      obtain ⟨a, us, rfl, h1, rs⟩ := r1.asLst S e
      exact ⟨a, us, rfl, .inl ⟨h1, fun c hc => q.tup S rs c hc⟩⟩
    · exact q.elim
  cases v with
  | tup xs =>
    obtain ⟨a, us, rfl, h1, rs⟩ := id r1.asTup
    exact ⟨a, us, rfl, .inr ⟨h1, post.pure (v := Val.tup xs) q S r1⟩⟩
  | lst xs => exact gen q
  | loc n => exact gen q
  | scr ns => exact gen q
  | emp => exact gen q
  | non => exact gen q
  | bl b => exact gen q
  | int i => exact gen q
  | str i => exact gen q
/-- list(list), list(tuple): a list that won't change; one that will -/
def listV (v : Val) (s : Sto) : R Val := match items s v with
  | some xs => .ok (.lst xs) s
  | none => .bad
def listC (v : Val) (s : Sto) : R Val := match items s v with
  | some xs => .ok (.loc s.length) (s ++ [.lst xs])
  | none => .bad
theorem RepV.asItems {K : PySem.W.Frag} {p : Pl} {H : Hp} {s : Sto} {v : Val} {x : V} {xs : List Val} (S : RepSt K p s H) (r : RepV K p H v x) (h : items s v = some xs) : ∃ a ys, x = .ref a ∧ (SqL K H a ys ∨ SqT K H a ys) ∧ RepVs K p H xs ys := by
  cases v with
  | tup zs =>
    cases h
    obtain ⟨a, us, e, h1, rs⟩ := r.asTup
    exact ⟨a, us, e, .inr h1, rs⟩
  | lst zs => obtain ⟨a, us, e, h1, rs⟩ := r.asLst S h; exact ⟨a, us, e, .inl h1, rs⟩
  | loc n => obtain ⟨a, us, e, h1, rs⟩ := r.asLst S h; exact ⟨a, us, e, .inl h1, rs⟩
  | scr ns => obtain ⟨a, us, e, h1, rs⟩ := r.asLst S h; exact ⟨a, us, e, .inl h1, rs⟩
  | non => cases h
  | bl b => cases h
  | int i => cases h
  | str i => cases h
  | emp => cases h
theorem s_list : SndL T X W (fun xs H Q => ∃ p ys, xs = [V.ref p] ∧ (SqL X.K H p ys ∨ SqT X.K H p ys) ∧ ∀ l, H l = none → Q (.ref l) (upd H l (.lst ys))) (g1 listV) := snd1 fun p s H σ v x Q S r1 q => by
  unfold listV at q
  split at q
  · rename_i xs e
    obtain ⟨a, us, rfl, h1, rs⟩ := r1.asItems S e
    exact ⟨a, us, rfl, h1, fun c hc => q.lst S rs c hc⟩
  · exact q.elim
theorem s_listC : SndL T X W (fun xs H Q => ∃ p ys, xs = [V.ref p] ∧ (SqL X.K H p ys ∨ SqT X.K H p ys) ∧ ∀ l, H l = none → Q (.ref l) (upd H l (.lst ys))) (g1 listC) := snd1 fun p s H σ v x Q S r1 q => by
  unfold listC at q
  split at q
  · rename_i xs e
    obtain ⟨a, us, rfl, h1, rs⟩ := r1.asItems S e
    exact ⟨a, us, rfl, h1, fun c hc => q.loc S rs c hc⟩
  · exact q.elim

/-! ### isinstance -/
inductive Ty where
  | int | bool | str | tup | lst | dict
def Ty.nm : Ty → String
  | .int => "int" | .bool => "bool" | .str => "str" | .tup => "tuple" | .lst => "list" | .dict => "dict"
def isa (t : Ty) (v : Val) : Bool := match v with
  | .int _ => match t with
    | .int => true
    | _ => false
  | .bl _ => match t with
    | .int => true
    | .bool => true
    | _ => false
  | .str _ => match t with
    | .str => true
    | _ => false
  | .tup _ => match t with
    | .tup => true
    | _ => false
  | .lst _ => match t with
    | .lst => true
    | _ => false
  | .scr _ => match t with
    | .lst => true
    | _ => false
  | .loc _ => match t with
    | .lst => true
    | _ => false
  | .emp => match t with
    | .dict => true
    | _ => false
  | .non => false
theorem kq_non : ∀ t : Ty, kitB "NoneType" t.nm = some (isa t (.non)) := by intro t; cases t <;> decide +kernel
theorem kq_bool : ∀ t : Ty, kitB "bool" t.nm = some (isa t (.bl true)) := by intro t; cases t <;> decide +kernel
theorem kq_int : ∀ t : Ty, kitB "int" t.nm = some (isa t (.int 0)) := by intro t; cases t <;> decide +kernel
theorem kq_str : ∀ t : Ty, kitB "str" t.nm = some (isa t (.str ⟨#[]⟩)) := by intro t; cases t <;> decide +kernel
theorem kq_tup : ∀ t : Ty, kitB "tuple" t.nm = some (isa t (.tup [])) := by intro t; cases t <;> decide +kernel
theorem kq_lst : ∀ t : Ty, kitB "list" t.nm = some (isa t (.lst [])) := by intro t; cases t <;> decide +kernel
theorem kq_emp : ∀ t : Ty, kitB "dict" t.nm = some (isa t .emp) := by intro t; cases t <;> decide +kernel
theorem kq_scr : ∀ t : Ty, kitB "list" t.nm = some (isa t (.scr [])) := by intro t; cases t <;> decide +kernel
theorem kq_loc : ∀ t : Ty, kitB "list" t.nm = some (isa t (.loc 0)) := by intro t; cases t <;> decide +kernel
/-- no place that stands still -/
def live (s : Sto) : Val → Bool
  | .loc n => match s[n]? with
    | some (.lst _) => true
    | _ => false
  | _ => true
theorem RepV.tyx {K : PySem.W.Frag} {p : Pl} {H : Hp} {s : Sto} {v : Val} {x : V} (S : RepSt K p s H) (r : RepV K p H v x) (lv : live s v = true) : ∃ b, TyX K H x (.type b) ∧ ∀ t : Ty, kitB b t.nm = some (isa t v) := by
  cases r with
  | non => exact ⟨_, .base .non, kq_non⟩
  | bl b => exact ⟨_, .base (.bl b), fun t => kq_bool t⟩
  | int i => exact ⟨_, .base (.int i), fun t => kq_int t⟩
  | str z => exact ⟨_, .base (.str z), fun t => kq_str t⟩
  | tup h1 h2 h3 =>
    rcases h1 with h1 | ⟨o, h1⟩
    · exact ⟨_, .base (.tup h1), fun t => kq_tup t⟩
    · exact ⟨_, .fTuple h1, fun t => kq_tup t⟩
  | ktup h1 h3 =>
    obtain ⟨o, its, n, e, c, _⟩ := h1
    exact ⟨_, .kTuple e c, fun t => kq_tup t⟩
  | lst h1 h2 h3 => exact ⟨_, .base (.lst h1), fun t => kq_lst t⟩
  | emp h1 h2 => exact ⟨_, .base (.dK h1), fun t => kq_emp t⟩
  | scr h1 h2 =>
    rcases h1 with h1 | ⟨o, h1⟩
    · exact ⟨_, .base (.lst h1), fun t => kq_scr t⟩
    · exact ⟨_, .base (.frz h1), fun t => kq_scr t⟩
  | kscr h1 =>
    obtain ⟨o, its, n, e, c, _⟩ := h1
    exact ⟨_, .kList e c, fun t => kq_scr t⟩
  | loc hn =>
    have hl := (List.getElem?_eq_some_iff.mp hn).1
    rw [S.len] at hl
    have q := S.at_ _ _ _ hn (List.getElem?_eq_getElem hl)
    rename_i n _
    cases hs : s[n] with
    | lst xs =>
      rw [hs] at q
      obtain ⟨ys, e, _⟩ := q
      exact ⟨_, .base (.lst e), fun t => kq_loc t⟩
    | gone => rw [hs] at q; exact q.elim
  | @dead n a hn =>
    have lv' : (match s[n]? with | some (.lst _) => true | _ => false) = true := lv
    rw [S.dd n hn] at lv'
    cases lv'
def isiV (t : Ty) (v : Val) (s : Sto) : R Val := if live s v = true then .ok (.bl (isa t v)) s else .bad
theorem c_isi {ev : Expr} {m : M Val} {pt : Pos} (t : Ty) {tn : Str} (hg : Gl X "isinstance") (hm : X.mg "isinstance" = none) (hgt : Gl X tn) (hmt : X.mg tn = none) (hvt : bootBuiltins tn = some (.type t.nm)) (ha : CE T W X ev m)
    (hn : tn ≠ "__name__" := by decide) (hdb : (tn == ("__debug__" : Str)) = false := by decide)
    (h1 : starEach [ev, .Name tn pt] X.env = (false, eval ev X.env) :: starEach [.Name tn pt] X.env := by rfl) (h2 : starEach [.Name tn pt] X.env = (false, eval (.Name tn pt) X.env) :: starEach [] X.env := by rfl)
    (hpl : (backTo pos (starEach [.Name tn pt] X.env)).any (·.1) = false := by rfl) :
    CE T W X (.Call (.Name "isinstance" pf) [ev, .Name tn pt] [] pos) (una m (isiV t)) := by
  refine PEw (pe_callB call_isi hg hm (by decide +kernel) (pa_cons ha (pa_cons (pe_bltn (v := .ty t.nm) hgt hmt hvt rfl hn hdb) pa_nil h2) h1) (by decide) (by decide) h1 hpl) fun σ H Q h => ?_
  obtain ⟨p, l, s, S, L, q⟩ := h
  refine ⟨p, l, s, S, L, ?_⟩
  refine (post.bd (rep := RepV X.K) q).imp fun x H1 ⟨p1, v, s1, e1, E1, S1, r1, q1⟩ => ?_
  unfold isiV at q1
  split at q1
  rotate_left
  · exact q1.elim
  rename_i lv
  obtain ⟨b, ty, hk⟩ := r1.tyx S1 lv
  exact ⟨x, .ty t.nm, .type b, .type t.nm, isa t v, rfl, .ty _, ty, kit_ty (hk t), post.pure q1 S1 (.bl _)⟩
end
end Mn
set_option maxHeartbeats 4000000
/-! Mini4: statements, loops, comprehensions, defs and their calls. -/
namespace Mn
open PySem PySem.Spec PyProof.Rows L2

def postS (T : Tab) (K : PySem.W.Frag) (W : WX) (p : Pl) (H : Hp) (r : RB) (D : Ends) : Prop := match r with
  | .nx l s => ∀ p' σ' H', Ext p H p' H' → RepSt K p' s H' → RepL T K p' H' l σ' → D.nx σ' H'
  | .bk l s => ∀ p' σ' H', Ext p H p' H' → RepSt K p' s H' → RepL T K p' H' l σ' → D.bk σ' H'
  | .ct l s => ∀ p' σ' H', Ext p H p' H' → RepSt K p' s H' → RepL T K p' H' l σ' → D.ct σ' H'
  | .rt v s => ∀ p' H' x, Ext p H p' H' → RepSt K p' s H' → RepV K p' H' v x → D.rt x H'
  | .ex e l s => ∀ p' σ' H' c d, Ext p H p' H' → RepSt K p' s H' → RepL T K p' H' l σ' → RepX T K p' H' e c d → W c d σ' H'
  | .bad => False
def tS (T : Tab) (K : PySem.W.Frag) (W : WX) (b : B) : TS := fun D σ H => ∃ p l s, RepSt K p s H ∧ RepL T K p H l σ ∧ postS T K W p H (b l s) D
def CS (T : Tab) (W : WX) (X : Cx) (st : Stmt) (b : B) : Prop := PS X st (tS T X.K W b)
def CB (T : Tab) (W : WX) (X : Cx) (sts : List Stmt) (b : B) : Prop := PSs X sts (tS T X.K W b)
theorem PSw {X : Cx} {e : Stmt} {t t' : TS} (h : PS X e t) (w : ∀ D σ H, t' D σ H → t D σ H) : PS X e t' := ⟨fun pins s σ H D I q => h.run pins s σ H D I (w _ _ _ q)⟩
theorem PSsw {X : Cx} {e : List Stmt} {t t' : TS} (h : PSs X e t) (w : ∀ D σ H, t' D σ H → t D σ H) : PSs X e t' := ⟨fun pins s σ H D I q => h.run pins s σ H D I (w _ _ _ q)⟩
def R.rb {α : Type} (r : R α) (l : Loc) (f : α → Sto → RB) : RB := match r with
  | .ok a s => f a s
  | .ex e s => .ex e l s
  | .bad => .bad
section
variable {α β : Type} {T : Tab} {K : PySem.W.Frag} {W : WX} {rep : Rel α β} {p p' : Pl} {H H' : Hp} {σ : L2.St} {D : Ends} {r : R α} {xb : RB} {f : α → Sto → RB} {l : Loc}
theorem postS.ext (E : Ext p H p' H') (h : postS T K W p H xb D) : postS T K W p' H' xb D := by
  cases xb with
  | nx l s => exact fun p2 σ2 H2 E2 => h p2 σ2 H2 (E.trans E2)
  | bk l s => exact fun p2 σ2 H2 E2 => h p2 σ2 H2 (E.trans E2)
  | ct l s => exact fun p2 σ2 H2 E2 => h p2 σ2 H2 (E.trans E2)
  | rt l s => exact fun p2 H2 x E2 => h p2 H2 x (E.trans E2)
  | ex e l s => exact fun p2 σ2 H2 c d E2 => h p2 σ2 H2 c d (E.trans E2)
  | bad => exact h
theorem postS.lift (h : postS T K W p H (r.rb l f) D) (L : RepL T K p H l σ) : post T K W rep p H σ r fun x H1 => ∃ p1 v s1, r = .ok v s1 ∧ Ext p H p1 H1 ∧ RepSt K p1 s1 H1 ∧ rep p1 H1 v x ∧ postS T K W p1 H1 (f v s1) D := by
  cases r with
  | ok v s => exact fun p' H' x E S q => ⟨p', v, s, rfl, E, S, q, postS.ext E h⟩
  | ex e s => exact fun p' H' c d E S q => h p' σ H' c d E S (L.mono E) q
  | bad => exact h
end

/-! ### small statements, blocks -/
def passB : B := fun l s => .nx l s
def breakB : B := fun l s => .bk l s
def contB : B := fun l s => .ct l s
def sq (a b : B) : B := fun l s => match a l s with
  | .nx l1 s1 => b l1 s1
  | r => r
def dropB (m : M Val) : B := fun l s => (m l s).rb l fun _ s1 => .nx l s1
def retB (m : M Val) : B := fun l s => (m l s).rb l fun v s1 => .rt v s1
def retN : B := fun _ s => .rt .non s
def ifB (c : M Bool) (a b : B) : B := fun l s => (c l s).rb l fun k s1 => if k = true then a l s1 else b l s1
def badB : B := fun _ _ => .bad
section
variable {T : Tab} {W : WX} {X : Cx} {st : Stmt} {rest : List Stmt} {a b : B} {pos : Pos} {e : Expr} {m : M Val} {c : M Bool}
theorem cb_nil : CB T W X [] passB := PSsw pss_nil fun D σ H ⟨p, l, s, S, L, q⟩ => q p σ H .refl S L
theorem cb_cons (h1 : CS T W X st a) (h2 : CB T W X rest b) : CB T W X (st :: rest) (sq a b) := by
  refine PSsw (pss_cons h1 h2) fun D σ H h => ?_
  obtain ⟨p, l, s, S, L, q⟩ := h
  refine ⟨p, l, s, S, L, ?_⟩
  unfold sq at q
  cases e : a l s with
  | nx l1 s1 =>
    rw [e] at q
    exact fun p' σ' H' E S' L' => ⟨p', l1, s1, S', L', postS.ext E q⟩
  | bk l1 s1 => rw [e] at q; exact q
  | ct l1 s1 => rw [e] at q; exact q
  | rt v s1 => rw [e] at q; exact q
  | ex e l1 s1 => rw [e] at q; exact q
  | bad => rw [e] at q; exact q
theorem cb_one (h1 : CS T W X st a) : CB T W X [st] a := pss_one h1
theorem cs_pass : CS T W X (.Pass pos) passB := PSw ps_pass fun D σ H ⟨p, l, s, S, L, q⟩ => q p σ H .refl S L
theorem cs_break : CS T W X (.Break pos) breakB := PSw ps_break fun D σ H ⟨p, l, s, S, L, q⟩ => q p σ H .refl S L
theorem cs_cont : CS T W X (.Continue pos) contB := PSw ps_continue fun D σ H ⟨p, l, s, S, L, q⟩ => q p σ H .refl S L
theorem cs_never : CS T W X st badB := PSw ps_never fun D σ H ⟨p, l, s, S, L, q⟩ => q.elim
theorem cs_expr (he : CE T W X e m) (hs : swapsWith e none pos.line X.env = pure false := by rfl) : CS T W X (.Expr e pos) (dropB m) := by
  refine PSw (ps_expr he hs) fun D σ H h => ?_
  obtain ⟨p, l, s, S, L, q⟩ := h
  refine ⟨p, l, s, S, L, ?_⟩
  exact (postS.lift (rep := RepV X.K) q L).imp fun x H1 ⟨p1, v, s1, e1, E1, S1, r1, q1⟩ => q1 p1 σ H1 .refl S1 (L.mono E1)
theorem cs_ret (he : CE T W X e m) : CS T W X (.Return (some e) pos) (retB m) := by
  refine PSw (ps_ret he) fun D σ H h => ?_
  obtain ⟨p, l, s, S, L, q⟩ := h
  refine ⟨p, l, s, S, L, ?_⟩
  exact (postS.lift (rep := RepV X.K) q L).imp fun x H1 ⟨p1, v, s1, e1, E1, S1, r1, q1⟩ => q1 p1 H1 x .refl S1 r1
theorem cs_retN : CS T W X (.Return none pos) retN := PSw ps_retN fun D σ H ⟨p, l, s, S, L, q⟩ => q p H .non .refl S .non
theorem cs_if {as bs : List Stmt} (hc : CT T W X e c) (ha : CB T W X as a) (hb : CB T W X bs b) : CS T W X (.If e as bs pos) (ifB c a b) := by
  refine PSw (ps_if hc ha hb) fun D σ H h => ?_
  obtain ⟨p, l, s, S, L, q⟩ := h
  refine ⟨p, l, s, S, L, ?_⟩
  refine (postS.lift (rep := rB) q L).imp fun x H1 ⟨p1, v, s1, e1, E1, S1, r1, q1⟩ => ?_
  cases r1
  cases x with
  | true => rw [if_pos rfl] at q1 ⊢; exact ⟨p1, l, s1, S1, L.mono E1, q1⟩
  | false => rw [if_neg Bool.false_ne_true] at q1 ⊢; exact ⟨p1, l, s1, S1, L.mono E1, q1⟩
end

/-! ### targets -/
/-- the slots but those at ss are as they were -/
def SameB (ss : List Nat) (σ σ' : L2.St) : Prop := σ'.length = σ.length ∧ ∀ i : Nat, i ∉ ss → σ'[i]? = σ[i]?
def postT (T : Tab) (K : PySem.W.Frag) (W : WX) (ss : List Nat) (p : Pl) (H : Hp) (σ : L2.St) (r : R Loc) (Q : L2.St → Hp → Prop) : Prop := match r with
  | .ok l s => ∀ p' σ' H', Ext p H p' H' → RepSt K p' s H' → RepL T K p' H' l σ' → SameB ss σ σ' → Q σ' H'
  | .ex e s => ∀ p' H' c d, Ext p H p' H' → RepSt K p' s H' → RepX T K p' H' e c d → W c d σ H'
  | .bad => False
def tTg (T : Tab) (K : PySem.W.Frag) (W : WX) (ss : List Nat) (t : Tg) : TG := fun x σ H Q => ∃ p v l s, RepSt K p s H ∧ RepL T K p H l σ ∧ RepV K p H v x ∧ postT T K W ss p H σ (t v l s) Q
def tTgs (T : Tab) (K : PySem.W.Frag) (W : WX) (ss : List Nat) (t : List Val → M Loc) : TGs := fun xs σ H Q => ∃ p vs l s, RepSt K p s H ∧ RepL T K p H l σ ∧ RepVs K p H vs xs ∧ postT T K W ss p H σ (t vs l s) Q
def CG (T : Tab) (W : WX) (X : Cx) (tg : Expr) (ss : List Nat) (t : Tg) : Prop := PG X tg (tTg T X.K W ss t)
def CGs (T : Tab) (W : WX) (X : Cx) (tg : List Expr) (ss : List Nat) (t : List Val → M Loc) : Prop := PGs X tg (tTgs T X.K W ss t)
theorem PGw {X : Cx} {e : Expr} {t t' : TG} (h : PG X e t) (w : ∀ x σ H Q, t' x σ H Q → t x σ H Q) : PG X e t' := ⟨fun pins s σ H v u Q I r q => h.run pins s σ H v u Q I r (w _ _ _ _ q)⟩
theorem PGsw {X : Cx} {e : List Expr} {t t' : TGs} (h : PGs X e t) (w : ∀ x σ H Q, t' x σ H Q → t x σ H Q) : PGs X e t' := ⟨fun pins s σ H v u Q I r q => h.run pins s σ H v u Q I r (w _ _ _ _ q)⟩
theorem SameB.refl {ss : List Nat} {σ : L2.St} : SameB ss σ σ := ⟨rfl, fun _ _ => rfl⟩
theorem SameB.trans {s1 s2 : List Nat} {σ σ1 σ2 : L2.St} (a : SameB s1 σ σ1) (b : SameB s2 σ1 σ2) : SameB (s1 ++ s2) σ σ2 :=
  ⟨b.1.trans a.1, fun i h => (b.2 i fun z => h (List.mem_append_right _ z)).trans (a.2 i fun z => h (List.mem_append_left _ z))⟩
theorem SameB.set {σ : L2.St} {i : Nat} {x : Option V} : SameB [i] σ (σ.set i x) := ⟨by rw [List.length_set], fun j h => List.getElem?_set_ne (fun z => h (by simp [z]))⟩
section
variable {T : Tab} {W : WX} {X : Cx} {pos : Pos}
def nameT (i : Nat) : Tg := fun v l s => .ok (l.set i (some v)) s
theorem cg_name [Triv T] (i : Nat) {x : Str} (hN : X.N.Nodup) (hi : X.N[i]? = some x := by rfl) (hx : L2.Loc X.env.scope x := by first | exact Or.inl rfl | exact Or.inr rfl) (hf : X.fn x = true ∨ X.env.scope.names.lookup x = some .local := by first | exact .inl rfl | exact .inr rfl | assumption) : CG T W X (.Name x pos) [i] (nameT i) :=
  PGw (pg_name hN hi hx hf) fun x σ H Q ⟨p, v, l, s, S, L, r, q⟩ => q p _ H .refl S (L.set r) .set
def nilT : List Val → M Loc := fun vs l s => match vs with
  | [] => .ok l s
  | _ => .bad
def noex {α : Type} (r : R α) : R α := match r with
  | .ex _ _ => .bad
  | r => r
def consT (t : Tg) (u : List Val → M Loc) : List Val → M Loc := fun vs l s => match vs with
  | v :: r => (t v l s).bd fun l1 s1 => noex (u r l1 s1)
  | [] => .bad
theorem cgs_nil : CGs T W X [] [] nilT := PGsw pgs_nil fun xs σ H Q ⟨p, vs, l, s, S, L, r, q⟩ => by
  cases r with
  | nil => exact ⟨rfl, q p σ H .refl S L .refl⟩
  | cons _ _ => exact q.elim
theorem postT.bd {ss s2 : List Nat} {p : Pl} {H : Hp} {K : PySem.W.Frag} {σ : L2.St} {r : R Loc} {f : Loc → Sto → R Loc} {Q : L2.St → Hp → Prop} (h : postT T K W (ss ++ s2) p H σ (r.bd fun l s => noex (f l s)) Q) :
    postT T K W ss p H σ r fun σ1 H1 => ∃ p1 l1 s1, r = .ok l1 s1 ∧ Ext p H p1 H1 ∧ RepSt K p1 s1 H1 ∧ RepL T K p1 H1 l1 σ1 ∧ postT T K W s2 p1 H1 σ1 (f l1 s1) Q := by
  cases r with
  | ok l s =>
    intro p' σ' H' E S L sb
    refine ⟨p', l, s, rfl, E, S, L, ?_⟩
    have h' : postT T K W (ss ++ s2) p H σ (noex (f l s)) Q := h
    cases e : f l s with
    | ok l2 s2' => rw [e] at h'; exact fun p2 σ2 H2 E2 S2 L2 sb2 => h' p2 σ2 H2 (E.trans E2) S2 L2 (sb.trans sb2)
    | ex _ _ => rw [e] at h'; exact h'.elim
    | bad => rw [e] at h'; exact h'.elim
  | ex e s => exact h
  | bad => exact h
theorem postT.imp {ss : List Nat} {p : Pl} {H : Hp} {K : PySem.W.Frag} {σ : L2.St} {r : R Loc} {Q Q' : L2.St → Hp → Prop} (h : postT T K W ss p H σ r Q) (k : ∀ σ H, Q σ H → Q' σ H) : postT T K W ss p H σ r Q' := by
  cases r with
  | ok l s => exact fun p' σ' H' E S L sb => k _ _ (h p' σ' H' E S L sb)
  | ex e s => exact h
  | bad => exact h
theorem cgs_cons {e : Expr} {es : List Expr} {ss s2 : List Nat} {t : Tg} {u : List Val → M Loc} (h1 : CG T W X e ss t) (h2 : CGs T W X es s2 u)
    (hs : (assignEach (e :: es) X.env).map (·.2) = assign e X.env :: (assignEach es X.env).map (·.2) := by rfl) : CGs T W X (e :: es) (ss ++ s2) (consT t u) := by
  refine PGsw (pgs_cons h1 h2 hs) fun xs σ H Q h => ?_
  obtain ⟨p, vs, l, s, S, L, r, q⟩ := h
  cases r with
  | nil => exact q.elim
  | @cons v x vs xs r1 r2 =>
    refine ⟨x, xs, rfl, p, v, l, s, S, L, r1, ?_⟩
    exact (postT.bd q).imp fun σ1 H1 ⟨p1, l1, s1, e1, E1, S1, L1, q1⟩ => ⟨p1, vs, l1, s1, S1, L1, r2.mono E1, q1⟩
def tupT (n : Nat) (u : List Val → M Loc) : Tg := fun v l s => match v with
  | .tup vs => if vs.length = n then u vs l s else .bad
  | _ => .bad
theorem cg_tup {es : List Expr} {k : Nat} {ss : List Nat} {u : List Val → M Loc} (n : Nat) (hc : X.calm = true) (h : CGs T W X es ss u)
    (hn : (assignEach es X.env).length = n := by rfl) (hst : (assignEach es X.env).findIdx? (·.1) = none := by rfl) : CG T W X (.Tuple es k pos) ss (tupT n u) := by
  refine PGw (pg_tup hc h hn hst) fun x σ H Q h => ?_
  obtain ⟨p, v, l, s, S, L, r, q⟩ := h
  cases v with
  | tup vs =>
    obtain ⟨a, ys, rfl, sq, rs⟩ := r.asTup
    have q' : postT T X.K W ss p H σ (if vs.length = n then u vs l s else .bad) Q := q
    split at q'
    · rename_i e
      exact ⟨a, ys, rfl, sq, by rw [← rs.len]; exact e, p, vs, l, s, S, L, rs, q'⟩
    · exact q'.elim
  | _ => exact q.elim
/-- o[i] = v, o a list of the store -/
def putV (o i v : Val) (s : Sto) : R Unit := match o with
  | .loc n => match i with
    | .int k => match s[n]? with
      | some (.lst xs) => match ixN xs.length k with
        | some j => .ok () (s.set n (.lst (xs.set j v)))
        | none => .bad
      | _ => .bad
    | _ => .bad
  | _ => .bad
def subT (mo mi : M Val) : Tg := fun v l s => (mo l s).bd fun o s1 => (mi l s1).bd fun i s2 => (putV o i v s2).bd fun _ s3 => .ok l s3
theorem cg_sub {o i : Expr} {mo mi : M Val} (ho : CE T W X o mo) (hi : CE T W X i mi)
    (ha : ∀ v, assign (.Subscript o i pos) X.env v = (do
      let ov ← holding [v] (eval o X.env)
      let iv ← holding [v, ov] (eval i X.env)
      standAt pos
      holding [v, ov, iv] (setItem ov iv v)
      release [v, ov, iv] []) := by intro _; rfl) : CG T W X (.Subscript o i pos) [] (subT mo mi) := by
  refine PGw (pg_sub ho hi set_list ha) fun x σ H Q h => ?_
  obtain ⟨p, v, l, s, S, L, r, q⟩ := h
  refine ⟨p, l, s, S, L, ?_⟩
  have cv : ∀ {p : Pl} {H : Hp} {r : R Loc}, postT T X.K W [] p H σ r Q → post T X.K W (fun p' H' l σ' => RepL T X.K p' H' l σ' ∧ SameB [] σ σ') p H σ r (fun σ' H' => Q σ' H') := fun {p H r} h => by
    cases r with
    | ok l s => exact fun p' H' x E S q => h p' x H' E S q.1 q.2
    | ex e s => exact h
    | bad => exact h
  refine (post.bd (rep := RepV X.K) (cv q)).imp fun xo H1 ⟨p1, vo, s1, e1, E1, S1, r1, q1⟩ => ?_
  refine ⟨p1, l, s1, S1, L.mono E1, ?_⟩
  refine (post.bd (rep := RepV X.K) q1).imp fun xi H2 ⟨p2, vi, s2, e2, E2, S2, r2, q2⟩ => ?_
  have ro := r1.mono E2
  have rv := r.mono (E1.trans E2)
  cases vo with
  | loc n =>
    cases vi with
    | int k =>
      cases r2
      cases ro with
      | @loc _ a hn =>
        have q2' : post T X.K W (fun p' H' l σ' => RepL T X.K p' H' l σ' ∧ SameB [] σ σ') p2 H2 σ (R.bd (match s2[n]? with | some (.lst xs) => (match ixN xs.length k with | some j => R.ok () (s2.set n (.lst (xs.set j v))) | none => .bad) | _ => .bad) fun _ s3 => .ok l s3) (fun σ' H' => Q σ' H') := q2
        split at q2'
        · rename_i xs ex
          split at q2'
          · rename_i j ej
            obtain ⟨ys, ey, rs⟩ := S2.lst hn ex
            have hm := List.mem_of_getElem? hn
            refine ⟨a, ys, k, j, rfl, rfl, ey, by rw [← rs.len]; exact ej, ?_⟩
            have rs' := rs.set rv j
            exact q2' p2 _ σ (.write hm) (S2.write hn ⟨_, rfl, rs'⟩) ⟨((L.mono E1).mono E2).mono (.write hm), .refl⟩
          · exact q2'.elim
        · exact q2'.elim
      | @dead _ a hn =>
        have q2' : post T X.K W (fun p' H' l σ' => RepL T X.K p' H' l σ' ∧ SameB [] σ σ') p2 H2 σ (R.bd (match s2[n]? with | some (.lst xs) => (match ixN xs.length k with | some j => R.ok () (s2.set n (.lst (xs.set j v))) | none => .bad) | _ => .bad) fun _ s3 => .ok l s3) (fun σ' H' => Q σ' H') := q2
        rw [S2.dd n hn] at q2'
        exact q2'.elim
    | _ => exact q2.elim
  | _ => exact q2.elim

/-! ### assignments -/
def asgB (m : M Val) (t : Tg) : B := fun l s => (m l s).rb l fun v s1 => (t v l s1).rb l fun l1 s2 => .nx l1 s2
theorem t_asg {m : M Val} {t : Tg} {ss : List Nat} {D : Ends} {σ : L2.St} {H : Hp} (h : tS T X.K W (asgB m t) D σ H) : tG T X.K W (RepV X.K) m σ H fun x H1 => tTg T X.K W ss t x σ H1 D.nx := by
  obtain ⟨p, l, s, S, L, q⟩ := h
  refine ⟨p, l, s, S, L, ?_⟩
  refine (postS.lift (rep := RepV X.K) q L).imp fun x H1 ⟨p1, v, s1, e1, E1, S1, r1, q1⟩ => ?_
  refine ⟨p1, v, l, s1, S1, L.mono E1, r1, ?_⟩
  have L1 := L.mono E1
  cases e : t v l s1 with
  | ok l2 s2 => rw [e] at q1; exact fun p' σ' H' E S L _ => q1 p' σ' H' E S L
  | ex e l2 => rw [e] at q1; exact fun p' H' c d E S q => q1 p' σ H' c d E S (L1.mono E) q
  | bad => rw [e] at q1; exact q1
theorem cs_asg {tg e : Expr} {m : M Val} {ss : List Nat} {t : Tg} (he : CE T W X e m) (hg : CG T W X tg ss t) (hs : swapsWithSole [tg] e pos.line X.env = pure false := by rfl) (hw : swappedStores [tg] e X.env = pure none := by rfl)
    (h1 : (assignEach [tg] X.env).map (·.2) = [assign tg X.env] := by rfl) : CS T W X (.Assign [tg] e pos) (asgB m t) := PSw (ps_asg he hg hs hw h1) fun D σ H h => t_asg h
theorem cs_set [Triv T] (i : Nat) {x : Str} {e : Expr} {m : M Val} {pos' : Pos} (hN : X.N.Nodup) (he : CE T W X e m) (hi : X.N[i]? = some x := by rfl) (hx : L2.Loc X.env.scope x := by first | exact Or.inl rfl | exact Or.inr rfl) (hs : swapsWith e (some (.Name x pos')) pos.line X.env = pure false := by rfl)
    (hf : X.fn x = true ∨ X.env.scope.names.lookup x = some .local := by first | exact .inl rfl | exact .inr rfl | assumption) : CS T W X (.Assign [.Name x pos'] e pos) (asgB m (nameT i)) := by
  refine PSw (ps_set hN hi hx he hs hf) fun D σ H h => ?_
  obtain ⟨p, l, s, S, L, q⟩ := h
  refine ⟨p, l, s, S, L, ?_⟩
  exact (postS.lift (rep := RepV X.K) q L).imp fun x H1 ⟨p1, v, s1, e1, E1, S1, r1, q1⟩ => q1 p1 _ H1 .refl S1 ((L.mono E1).set r1)
/-- a, b = x, y -/
def parB (i j : Nat) (n : M (List Val)) : B := fun l s => (n l s).rb l fun vs s1 => match vs with
  | [v, w] => .nx ((l.set i (some v)).set j (some w)) s1
  | _ => .bad
theorem cs_par [Triv T] (i j : Nat) {x y : Str} {a b : Expr} {n : M (List Val)} {px py pt : Pos} {kt k2 pt2} (hc : X.calm = true) (hN : X.N.Nodup) (ha : CA T W X [a, b] n) (hi : X.N[i]? = some x := by rfl) (hj : X.N[j]? = some y := by rfl) (hij : i ≠ j := by decide)
    (hx : X.env.scope.names.lookup x = some .local := by rfl) (hy : X.env.scope.names.lookup y = some .local := by rfl)
    (hw : swappedStores [.Tuple [.Name x px, .Name y py] kt pt] (.Tuple [a, b] k2 pt2) X.env = pure (some [x, y]) := by rfl)
    (hs : swapsWithSole [.Tuple [.Name x px, .Name y py] kt pt] (.Tuple [a, b] k2 pt2) pos.line X.env = pure false := by rfl) :
    CS T W X (.Assign [.Tuple [.Name x px, .Name y py] kt pt] (.Tuple [a, b] k2 pt2) pos) (parB i j n) := by
  refine PSw (ps_par hc hN hi hj hij hx hy ha hw hs) fun D σ H h => ?_
  obtain ⟨p, l, s, S, L, q⟩ := h
  refine ⟨p, l, s, S, L, ?_⟩
  refine (postS.lift (rep := RepVs X.K) q L).imp fun xs H1 ⟨p1, vs, s1, e1, E1, S1, r1, q1⟩ => ?_
  cases r1 with
  | nil => exact q1.elim
  | cons r1 r2 =>
    cases r2 with
    | nil => exact q1.elim
    | cons r2 r3 =>
      cases r3 with
      | nil => exact ⟨_, _, rfl, q1 p1 _ H1 .refl S1 (((L.mono E1).set r1).set r2)⟩
      | cons _ _ => exact q1.elim
end

/-! ### what is walked -/
structure Src (K : PySem.W.Frag) (p0 : Pl) (H0 : Hp) (xs : List Val) (J : It) : Prop where
  go : ∀ (i : Nat) p H, ExtW p0 H0 p H → i < xs.length → J.go i H
  stop : ∀ p H, ExtW p0 H0 p H → J.stop xs.length H
  yld : ∀ (i : Nat) p s H x H' v, ExtW p0 H0 p H → RepSt K p s H → xs[i]? = some v → J.yld i H x H' → Ext p H p H' ∧ RepSt K p s H' ∧ RepV K p H' v x
abbrev rSrc (K : PySem.W.Frag) : Rel (List Val) It := fun p H xs J => Src K p H xs J
def CI (T : Tab) (W : WX) (X : Cx) (tg e : Expr) (m : M (List Val)) : Prop := PI X tg e (tG T X.K W (rSrc X.K) m)
theorem PIw {X : Cx} {tg e : Expr} {t t' : TI} (h : PI X tg e t) (w : ∀ σ H Q, t' σ H Q → t σ H Q) : PI X tg e t' := ⟨fun pins s σ H Q I q => h.run pins s σ H Q I (w _ _ _ q)⟩
section
variable {K : PySem.W.Frag} {p : Pl} {H : Hp} {s : Sto}
theorem src_list2 {a : Addr} {ys : List V} {xs : List Val} (st : ∀ p' H', ExtW p H p' H' → SqL K H' a ys) (rs : RepVs K p H xs ys) : Src K p H xs (Itl K a) where
  go i p' H' E hi := ⟨ys, ys[i]'(by rw [← rs.len]; exact hi), st p' H' E, by simp⟩
  stop p' H' E := ⟨ys, st p' H' E, Nat.le_of_eq rs.len.symm⟩
  yld i p' s' H' x H'' v E S hv y := by
    obtain ⟨e, y⟩ := y
    subst e
    obtain ⟨u, hu, r⟩ := rs.at_ hv
    have e2 := y ys (st _ _ E)
    rw [hu] at e2
    cases e2
    exact ⟨.refl, S, RepV.monoW E _ _ r⟩
theorem src_tup {a : Addr} {ys : List V} {xs : List Val} (st : ∀ p' H', ExtW p H p' H' → SqT K H' a ys) (rs : RepVs K p H xs ys) : Src K p H xs (Itt K a) where
  go i p' H' E hi := ⟨ys, ys[i]'(by rw [← rs.len]; exact hi), st p' H' E, by simp⟩
  stop p' H' E := ⟨ys, st p' H' E, Nat.le_of_eq rs.len.symm⟩
  yld i p' s' H' x H'' v E S hv y := by
    obtain ⟨e, y⟩ := y
    subst e
    obtain ⟨u, hu, r⟩ := rs.at_ hv
    have e2 := y ys (st _ _ E)
    rw [hu] at e2
    cases e2
    exact ⟨.refl, S, RepV.monoW E _ _ r⟩
theorem src_rng {lo : Int} {n : Nat} : Src K p H ((List.range n).map fun i => Val.int (lo + (i : Nat))) (Itr lo n) where
  go i p' H' E hi := by rw [List.length_map, List.length_range] at hi; exact hi
  stop p' H' E := by rw [List.length_map, List.length_range]; exact Nat.le_refl _
  yld i p' s' H' x H'' v E S hv y := by
    obtain ⟨e, y⟩ := y
    subst e y
    rw [List.getElem?_map] at hv
    have hi : i < n := by
      cases h : (List.range n)[i]? with
      | none => rw [h] at hv; cases hv
      | some j => have := (List.getElem?_eq_some_iff.mp h).1; rwa [List.length_range] at this
    rw [List.getElem?_range hi] at hv
    cases hv
    exact ⟨.refl, S, .int _⟩
end
/-- a list that stands still, a tuple -/
def fixed : Val → Option (List Val)
  | .tup xs => some xs
  | .lst xs => some xs
  | .scr ns => some (ns.map .int)
  | _ => none
def walkV (m : M Val) : M (List Val) := fun l s => (m l s).bd fun v s1 => match fixed v with
  | some xs => .ok xs s1
  | none => .bad
section
variable {T : Tab} {W : WX} {X : Cx} {tg e : Expr} {m : M Val}
/-- a list or a tuple, whichever comes -/
def iSeq (K : PySem.W.Frag) (tl : TE) : TI := fun σ H R => tl σ H fun x H1 => ∃ a, x = .ref a ∧ (((∃ xs, SqL K H1 a xs) ∧ R (Itl K a) H1) ∨ ((∃ xs, SqT K H1 a xs) ∧ R (Itt K a) H1))
theorem pi_seq {tl : TE} (hl : PE X e tl) : PI X tg e (iSeq X.K tl) := by
  refine ⟨fun pins s σ H R I h => ?_⟩
  refine thn (hl.run pins s σ H _ I h) fun v s1 ⟨x, H1, I1, r1, q1⟩ => ?_
  obtain ⟨a, ex, q1⟩ := q1
  subst ex
  cases r1
  have new : ∀ {o : Obj} (b : Addr), b ∈ [s1.heap.objs.size] → FpOk X pins H1 b := fun {o} b hb => by
    have e : b = s1.heap.objs.size := by simpa using hb
    subst e
    exact I1.fpOk (Nat.le_refl _) (I1.hok.fresh (Nat.le_refl _))
  rcases q1 with ⟨⟨xs, hq⟩, q⟩ | ⟨⟨xs, hq⟩, q⟩
  · obtain ⟨its, _, pl, _⟩ := I1.list hq
    exact wpAny_pyIter_list pl.isList ⟨_, [s1.heap.objs.size], _, _, H1, rfl, I1.kept (t' := s1.toks) fun b o e => Heap.get?_push_of_some _ e, turn_list a _, ⟨_, Heap.get?_push_size _ rfl, rfl, rfl⟩, new (o := default), q⟩
  · obtain ⟨its, _, pl, _⟩ := I1.tuple hq
    exact wpAny_pyIter_tuple (show s1.heap.IsTuple a its.toArray from pl) ⟨_, [s1.heap.objs.size], _, _, H1, rfl, I1.kept (t' := s1.toks) fun b o e => Heap.get?_push_of_some _ e, turn_tuple a _, ⟨_, Heap.get?_push_size _ rfl, rfl, rfl⟩, new (o := default), q⟩
theorem ci_seq (h : CE T W X e m) : CI T W X tg e (walkV m) := by
  refine PIw (pi_seq h) fun σ H R h => ?_
  obtain ⟨p, l, s, S, L, q⟩ := h
  refine ⟨p, l, s, S, L, ?_⟩
  refine (post.bd (rep := RepV X.K) q).imp fun x H1 ⟨p1, v, s1, e1, E1, S1, r1, q1⟩ => ?_
  have fin : ∀ {xs : List Val} {J : It}, fixed v = some xs → Src X.K p1 H1 xs J → R J H1 := fun {xs J} e k => by
    rw [e] at q1
    exact q1 p1 H1 J .refl S1 k
  cases r1 with
  | @tup a ys xs h1 h2 h3 => exact ⟨a, rfl, .inr ⟨⟨ys, .inl h1⟩, fin rfl (src_tup (fun p' H' E => .inl (E.rd h1 h2).1) h3)⟩⟩
  | @ktup a ys xs h1 h3 => exact ⟨a, rfl, .inr ⟨⟨ys, .inr h1⟩, fin rfl (src_tup (fun p' H' E => .inr h1) h3)⟩⟩
  | @lst a ys xs h1 h2 h3 => exact ⟨a, rfl, .inl ⟨⟨ys, SqL.of h1⟩, fin rfl (src_list2 (fun p' H' E => .inl (.inl (E.keep _ _ h1 h2))) h3)⟩⟩
  | @scr a ns h1 h2 => exact ⟨a, rfl, .inl ⟨⟨_, .inl h1⟩, fin rfl (src_list2 (fun p' H' E => .inl (E.rd h1 h2).1) (.ofInts ns))⟩⟩
  | @kscr a ns h1 => exact ⟨a, rfl, .inl ⟨⟨_, .inr h1⟩, fin rfl (src_list2 (fun p' H' E => .inr h1) (.ofInts ns))⟩⟩
  | _ => exact q1.elim
/-- range(n), range(a, b) -/
def rngL (lo : Int) (n : Nat) : List Val := (List.range n).map fun i => Val.int (lo + (i : Nat))
def range1M (n : M (List Val)) : M (List Val) := fun l s => (n l s).bd fun vs s1 => match vs with
  | [v] => match v with
    | .int j => if j.natAbs < 4611686018427387904 then .ok (rngL 0 j.toNat) s1 else .bad
    | _ => .bad
  | _ => .bad
def range2M (n : M (List Val)) : M (List Val) := fun l s => (n l s).bd fun vs s1 => match vs with
  | [v, w] => match v with
    | .int i => match w with
      | .int j => if i.natAbs < 4611686018427387904 ∧ j.natAbs < 4611686018427387904 then .ok (rngL i (j - i).toNat) s1 else .bad
      | _ => .bad
    | _ => .bad
  | _ => .bad
theorem ci_range1 {a : Expr} {n : M (List Val)} {pf pos : Pos} (hg : Gl X "range") (hm : X.mg "range" = none) (ha : CA T W X [a] n) (hs : starEach [a] X.env = [(false, eval a X.env)] := by rfl) : CI T W X tg (.Call (.Name "range" pf) [a] [] pos) (range1M n) := by
  refine PIw (pi_range1 hg hm ha hs) fun σ H R h => ?_
  obtain ⟨p, l, s, S, L, q⟩ := h
  refine ⟨p, l, s, S, L, ?_⟩
  refine (post.bd (rep := RepVs X.K) q).imp fun xs H1 ⟨p1, vs, s1, e1, E1, S1, r1, q1⟩ => ?_
  cases r1 with
  | nil => exact q1.elim
  | @cons v x vs xs r1 r2 =>
    cases r2 with
    | nil =>
      cases v with
      | int j =>
        cases r1
        have q' : post T X.K W (rSrc X.K) p1 H1 σ (if j.natAbs < 4611686018427387904 then .ok (rngL 0 j.toNat) s1 else .bad) R := q1
        split at q'
        · rename_i hz; exact ⟨j, rfl, by omega, by omega, q' p1 H1 _ .refl S1 src_rng⟩
        · exact q'.elim
      | _ => exact q1.elim
    | cons _ _ => exact q1.elim
theorem ci_range2 {a b : Expr} {n : M (List Val)} {pf pos : Pos} (hg : Gl X "range") (hm : X.mg "range" = none) (ha : CA T W X [a, b] n) (hs : starEach [a, b] X.env = [(false, eval a X.env), (false, eval b X.env)] := by rfl) (hs2 : starEach [b] X.env = [(false, eval b X.env)] := by rfl) : CI T W X tg (.Call (.Name "range" pf) [a, b] [] pos) (range2M n) := by
  refine PIw (pi_range2 hg hm ha hs hs2) fun σ H R h => ?_
  obtain ⟨p, l, s, S, L, q⟩ := h
  refine ⟨p, l, s, S, L, ?_⟩
  refine (post.bd (rep := RepVs X.K) q).imp fun xs H1 ⟨p1, vs, s1, e1, E1, S1, r1, q1⟩ => ?_
  cases r1 with
  | nil => exact q1.elim
  | @cons v x vs xs r1 r2 =>
    cases r2 with
    | nil => exact q1.elim
    | @cons w y ws ys r2 r3 =>
      cases r3 with
      | nil =>
        cases v with
        | int i =>
          cases w with
          | int j =>
            cases r1
            cases r2
            have q' : post T X.K W (rSrc X.K) p1 H1 σ (if i.natAbs < 4611686018427387904 ∧ j.natAbs < 4611686018427387904 then .ok (rngL i (j - i).toNat) s1 else .bad) R := q1
            split at q'
            · rename_i hz; exact ⟨i, j, rfl, by omega, q' p1 H1 _ .refl S1 src_rng⟩
            · exact q'.elim
          | _ => exact q1.elim
        | _ => exact q1.elim
      | cons _ _ => exact q1.elim
end

/-! ### for, while -/
def forL (t : Tg) (b : B) : List Val → B
  | [] => fun l s => .nx l s
  | x :: r => fun l s => match t x l s with
    | .ok l1 s1 => match b l1 s1 with
      | .nx l2 s2 => forL t b r l2 s2
      | .ct l2 s2 => forL t b r l2 s2
      | .bk l2 s2 => .nx l2 s2
      | .rt v s2 => .rt v s2
      | .ex e l2 s2 => .ex e l2 s2
      | .bad => .bad
    | .ex e s1 => .ex e l s1
    | .bad => .bad
def forB (m : M (List Val)) (t : Tg) (b : B) : B := fun l s => (m l s).rb l fun xs s1 => forL t b xs l s1
def whL (c : M Bool) (b : B) : Nat → B
  | 0 => fun _ _ => .bad
  | n + 1 => fun l s => match c l s with
    | .ok k s1 => if k = true then match b l s1 with
      | .nx l2 s2 => whL c b n l2 s2
      | .ct l2 s2 => whL c b n l2 s2
      | .bk l2 s2 => .nx l2 s2
      | .rt v s2 => .rt v s2
      | .ex e l2 s2 => .ex e l2 s2
      | .bad => .bad
      else .nx l s1
    | .ex e s1 => .ex e l s1
    | .bad => .bad
/-- f: how many turns at most -/
def whB (f : Loc → Sto → Nat) (c : M Bool) (b : B) : B := fun l s => whL c b (f l s) l s
section
variable {T : Tab} {W : WX} {X : Cx} {tg e : Expr} {m : M (List Val)} {t : Tg} {b : B} {body : List Stmt} {pos : Pos} {ss : List Nat} {c : M Bool}
theorem cs_for (hp : PassesOwn (model X.prog X.w) X.A X.env X.xe) (hc : X.calm = true) (hi : CI T W X tg e m) (hg : CG T W X tg ss t) (hb : CB T W X body b)
    (hs : ∀ x, foldedSetIterable e X.env x = pure x := by intro _; rfl) : CS T W X (.For tg e body [] pos) (forB m t b) := by
  refine PSw (ps_for hp hc hi hg hb hs) fun D σ H h => ?_
  obtain ⟨p, l, s, S, L, q⟩ := h
  refine ⟨p, l, s, S, L, ?_⟩
  refine (postS.lift (rep := rSrc X.K) q L).imp fun J H1 ⟨p1, xs, s1, e1, E1, S1, src, q1⟩ => ?_
  refine ⟨fun i n σ H => n = xs.length - i ∧ i ≤ xs.length ∧ ∃ p l s, Ext p1 H1 p H ∧ RepSt X.K p s H ∧ RepL T X.K p H l σ ∧ postS T X.K W p H (forL t b (xs.drop i) l s) D, ⟨xs.length, by simp, Nat.zero_le _, p1, l, s1, .refl, S1, L.mono E1, q1⟩, ?_⟩
  rintro i n σ H ⟨rfl, hi, p, l, s, E, S, L, q⟩
  by_cases hlt : i < xs.length
  · refine .inr ⟨src.go i p H E.w hlt, fun σ' H' => ∃ p' l' s', Ext p1 H1 p' H' ∧ RepSt X.K p' s' H' ∧ RepL T X.K p' H' l' σ' ∧ postS T X.K W p' H' (forL t b (xs.drop (i + 1)) l' s') D, fun σ' H' w => ⟨xs.length - (i + 1), by omega, rfl, hlt, w⟩, fun x H' y => ?_⟩
    obtain ⟨E2, S2, r2⟩ := src.yld i p s H x H' xs[i] E.w S (List.getElem?_eq_getElem hlt) y
    refine ⟨p, xs[i], l, s, S2, L.mono E2, r2, ?_⟩
    rw [List.drop_eq_getElem_cons hlt] at q
    simp only [forL] at q
    cases et : t xs[i] l s with
    | ok l1 s1 =>
      rw [et] at q
      simp only at q
      intro p3 σ3 H3 E3 S3 L3 _
      refine ⟨p3, l1, s1, S3, L3, ?_⟩
      have E13 := E.trans (E2.trans E3)
      have q3 : postS T X.K W p3 H3 _ D := postS.ext (E2.trans E3) q
      cases eb : b l1 s1 with
      | nx l2 s2 => rw [eb] at q3; exact fun p4 σ4 H4 E4 S4 L4 => ⟨p4, l2, s2, E13.trans E4, S4, L4, postS.ext E4 q3⟩
      | ct l2 s2 => rw [eb] at q3; exact fun p4 σ4 H4 E4 S4 L4 => ⟨p4, l2, s2, E13.trans E4, S4, L4, postS.ext E4 q3⟩
      | bk l2 s2 => rw [eb] at q3; exact q3
      | rt v s2 => rw [eb] at q3; exact q3
      | ex e l2 s2 => rw [eb] at q3; exact q3
      | bad => rw [eb] at q3; exact q3
    | ex e s1 =>
      rw [et] at q
      have L2 := L.mono E2
      exact fun p' H'' c d E' S' q' => q p' σ H'' c d (E2.trans E') S' (L2.mono E') q'
    | bad => rw [et] at q; exact q
  · have e : i = xs.length := by omega
    subst e
    rw [List.drop_length] at q
    exact .inl ⟨src.stop p H E.w, q p σ H .refl S L⟩
theorem cs_while (f : Loc → Sto → Nat) (hp : PassesOwn (model X.prog X.w) X.A X.env X.xe) (hc : CT T W X e c) (hb : CB T W X body b) : CS T W X (.While e body [] pos) (whB f c b) := by
  refine PSw (ps_while hp hc hb) fun D σ H h => ?_
  obtain ⟨p, l, s, S, L, q⟩ := h
  refine ⟨fun n σ H => ∃ p l s, RepSt X.K p s H ∧ RepL T X.K p H l σ ∧ postS T X.K W p H (whL c b n l s) D, ⟨_, p, l, s, S, L, q⟩, ?_⟩
  rintro n σ H ⟨p, l, s, S, L, q⟩
  refine ⟨p, l, s, S, L, ?_⟩
  cases n with
  | zero => exact q.elim
  | succ n =>
    simp only [whL] at q
    cases ec : c l s with
    | ok k s1 =>
      rw [ec] at q
      simp only at q
      intro p' H' x E S' r
      cases r
      have L' := L.mono E
      have q2 : postS T X.K W p' H' _ D := postS.ext E q
      cases k with
      | false =>
        rw [if_neg Bool.false_ne_true] at q2 ⊢
        exact q2 p' σ H' .refl S' L'
      | true =>
        rw [if_pos rfl] at q2 ⊢
        refine ⟨fun σ' H' => ∃ p l s, RepSt X.K p s H' ∧ RepL T X.K p H' l σ' ∧ postS T X.K W p H' (whL c b n l s) D, fun σ' H' w => ⟨n, Nat.lt_succ_self n, w⟩, p', l, s1, S', L', ?_⟩
        cases eb : b l s1 with
        | nx l2 s2 => rw [eb] at q2; exact fun p4 σ4 H4 E4 S4 L4 => ⟨p4, l2, s2, S4, L4, postS.ext E4 q2⟩
        | ct l2 s2 => rw [eb] at q2; exact fun p4 σ4 H4 E4 S4 L4 => ⟨p4, l2, s2, S4, L4, postS.ext E4 q2⟩
        | bk l2 s2 => rw [eb] at q2; exact q2
        | rt v s2 => rw [eb] at q2; exact q2
        | ex e l2 s2 => rw [eb] at q2; exact q2
        | bad => rw [eb] at q2; exact q2
    | ex e s1 =>
      rw [ec] at q
      exact fun p' H'' c d E' S' q' => q p' σ H'' c d E' S' (L.mono E') q'
    | bad => rw [ec] at q; exact q
end
end Mn
set_option maxHeartbeats 4000000
/-! Mini5: comprehensions, defs and their calls, the law's end. -/
namespace Mn
open PySem PySem.Spec PyProof.Rows L2

/-! ### comprehensions -/
def wipeL (l : Loc) : List Nat → Loc
  | [] => l
  | v :: vs => (wipeL l vs).set v none
def lcL (t : Tg) (c : M Bool) (e : M Val) (l0 : Loc) : List Val → Sto → R (List Val)
  | [], s => .ok [] s
  | x :: r, s => (t x l0 s).bd fun l1 s1 => (c l1 s1).bd fun b s2 => if b = true then (e l1 s2).bd fun y s3 => (lcL t c e l0 r s3).bd fun ys s4 => .ok (y :: ys) s4 else lcL t c e l0 r s2
def finL (ys : List Val) (s : Sto) : R Val := .ok (.lst ys) s
def finC (ys : List Val) (s : Sto) : R Val := .ok (.loc s.length) (s ++ [.lst ys])
def lcM (m : M (List Val)) (t : Tg) (c : M Bool) (e : M Val) (vs : List Nat) (fin : List Val → Sto → R Val) : M Val := fun l s => (m l s).bd fun xs s1 =>
  if xs.length ≤ 16777216 then (noex (lcL t c e (wipeL l vs) xs s1)).bd fin else .bad
def yesM : M Bool := fun _ s => .ok true s
def CTs (T : Tab) (W : WX) (X : Cx) (es : List Expr) (m : M Bool) : Prop := PTs X es (tG T X.K W rB m)
abbrev W0 : WX := fun _ _ _ _ => False
section
variable {T : Tab} {W : WX} {X : Cx} {K : PySem.W.Frag} {p : Pl} {H : Hp}
theorem PTsw {e : List Expr} {t t' : TT} (h : PTs X e t) (w : ∀ σ H Q, t' σ H Q → t σ H Q) : PTs X e t' := ⟨fun pins s σ H Q I q => h.run pins s σ H Q I (w _ _ _ q)⟩
theorem cts_nil : CTs T W X [] yesM := PTsw pts_nil fun σ H Q ⟨p, l, s, S, L, q⟩ => q.pure S rfl
theorem cts_one {e : Expr} {m : M Bool} (h : CT T W X e m) : CTs T W X [e] m := pts_one h
theorem RepL.none [Triv T] {l : Loc} {σ : L2.St} (L : RepL T K p H l σ) (i : Nat) : RepL T K p H (l.set i none) (σ.set i none) := by
  refine ⟨by rw [List.length_set, List.length_set]; exact L.len, fun j v h => ?_, Triv.all _ _ _⟩
  by_cases e : i = j
  · subst e
    by_cases hl : i < l.length
    · rw [List.getElem?_set_self hl] at h; cases h
    · rw [List.getElem?_eq_none (by simpa using hl)] at h; cases h
  · rw [List.getElem?_set_ne e] at h ⊢
    exact L.at_ j v h
theorem RepL.wipe [Triv T] {l : Loc} {σ : L2.St} (L : RepL T K p H l σ) : ∀ vs : List Nat, RepL T K p H (wipeL l vs) (L2.wipe σ vs)
  | [] => L
  | v :: vs => (RepL.wipe L vs).none v
theorem wipe_in {σ : L2.St} {i : Nat} : ∀ {vs : List Nat}, i ∈ vs → (L2.wipe σ vs)[i]? = if i < σ.length then some none else none
  | v :: vs, h => by
    unfold L2.wipe
    by_cases e : v = i
    · subst e
      by_cases hl : v < σ.length
      · rw [if_pos hl, List.getElem?_set_self (by rw [wipe_length]; exact hl)]
      · rw [if_neg hl, List.getElem?_eq_none (by rw [List.length_set, wipe_length]; omega)]
    · rw [List.getElem?_set_ne e]
      rcases List.mem_cons.mp h with z | z
      · exact absurd z.symm e
      · exact wipe_in z
theorem wipe_same {σ σ' : L2.St} {vs ss : List Nat} (hs : ∀ i ∈ ss, i ∈ vs) (h : SameB ss (L2.wipe σ vs) σ') : L2.wipe σ' vs = L2.wipe σ vs := by
  have hl : σ'.length = σ.length := by rw [h.1, wipe_length]
  refine List.ext_getElem? fun i => ?_
  by_cases hi : i ∈ vs
  · rw [wipe_in hi, wipe_in hi, hl]
  · rw [wipe_out hi, wipe_out hi, h.2 i fun z => hi (hs i z), wipe_out hi]

/-- from the own meaning to the layer's reading of a comprehension -/
theorem t_lc [Triv T] {m : M (List Val)} {t : Tg} {c : M Bool} {e : M Val} {ss vs : List Nat} {fin : List Val → Sto → R Val} {σ : L2.St} {H : Hp} {Q : VK}
    (hfin : ∀ {q : List (Option Addr)} {s : Sto} {H : Hp} {σ : L2.St} {p1 : Pl} {H1 : Hp} {D : Addr} {acc : List Val} {ys : List V} {Q : VK}, H1 D = none → Ext p1 H1 ⟨q, p1.rs⟩ H → RepSt X.K ⟨q, D :: p1.rs⟩ s H → some D ∉ q → D ∉ p1.rs → H D = some (.lst ys) → RepVs X.K ⟨q, D :: p1.rs⟩ H acc ys → post T X.K W (RepV X.K) p1 H1 σ (fin acc s) Q → Q (.ref D) H)
    (hs : ∀ i ∈ ss, i ∈ vs) (h : tG T X.K W (RepV X.K) (lcM m t c e vs fin) σ H Q) :
    tLc (tG T X.K W (rSrc X.K) m) (tTg T X.K W0 ss t) (tG T X.K W0 rB c) (tG T X.K W0 (RepV X.K) e) vs σ H Q := by
  obtain ⟨p, l, s, S, L, q⟩ := h
  refine ⟨p, l, s, S, L, ?_⟩
  refine (post.bd (rep := rSrc X.K) q).imp fun J H1 ⟨p1, xs, s1, e1, E1, S1, src, q1⟩ => ?_
  intro D hD
  split at q1
  rotate_left
  · exact q1.elim
  rename_i hz
  have L1 := (L.mono E1).wipe vs
  have hDp := S1.nohas hD
  have hDr1 : D ∉ p1.rs := fun z => hDp (.inr z)
  have wOf : ∀ {q : List (Option Addr)} {H : Hp}, Ext p1 H1 ⟨q, p1.rs⟩ H → ExtW p1 H1 ⟨q, D :: p1.rs⟩ H := fun {q H} E =>
    ⟨E.len, E.w.pre, fun a ha => (List.mem_cons.mp ha).elim (fun z => .inr (by rw [z]; exact hD)) .inl, E.w.keep, E.dom⟩
  refine ⟨fun i n H => n = xs.length - i ∧ i ≤ xs.length ∧ ∃ (q : List (Option Addr)) (s : Sto) (acc : List Val) (ys : List V), some D ∉ q ∧ Ext p1 H1 ⟨q, p1.rs⟩ H ∧ RepSt X.K ⟨q, D :: p1.rs⟩ s H ∧ RepL T X.K ⟨q, D :: p1.rs⟩ H (wipeL l vs) (L2.wipe σ vs) ∧ H D = some (.lst ys) ∧ RepVs X.K ⟨q, D :: p1.rs⟩ H acc ys ∧ acc.length ≤ i ∧
    post T X.K W (RepV X.K) p1 H1 σ ((noex (lcL t c e (wipeL l vs) (xs.drop i) s)).bd fun zs s' => fin (acc ++ zs) s') Q, ?_, ?_⟩
  · have E0 : Ext p1 H1 ⟨p1.pl, p1.rs⟩ (upd H1 D (.lst [])) := Ext.alloc (p := p1) hD
    have SA := S1.alloc (o := .lst []) hD
    refine ⟨xs.length, by simp, Nat.zero_le _, p1.pl, s1, [], [], fun z => hDp (.inl z), E0, ?_, L1.monoW (wOf E0), upd_same, .nil, Nat.le_refl _, q1⟩
    refine ⟨SA.len, SA.nd, fun a ha => ?_, fun a ha => ?_, fun n a o h1 h2 => ?_, SA.dd⟩
    · rcases List.mem_cons.mp ha with z | z
      · exact ⟨_, by rw [z, upd_same]⟩
      · exact SA.rv a z
    · rcases List.mem_cons.mp ha with z | z
      · exact fun y => hDp (.inl (by rw [← z]; exact y))
      · exact SA.ap a z
    · have hb : a ≠ D := fun z => hDp (.inl (z ▸ List.mem_of_getElem? h1))
      rw [upd_ne hb]
      exact (S1.at_ n a o h1 h2).monoW (wOf E0)
  · rintro i n H ⟨rfl, hi, q0, s, acc, ys, hDpl, E, S, L, hHD, rs, hal, q⟩
    by_cases hlt : i < xs.length
    · refine .inr ⟨src.go i _ H (wOf E) hlt, fun H' => ∃ (q0 : List (Option Addr)) (s : Sto) (acc : List Val) (ys : List V), some D ∉ q0 ∧ Ext p1 H1 ⟨q0, p1.rs⟩ H' ∧ RepSt X.K ⟨q0, D :: p1.rs⟩ s H' ∧ RepL T X.K ⟨q0, D :: p1.rs⟩ H' (wipeL l vs) (L2.wipe σ vs) ∧ H' D = some (.lst ys) ∧ RepVs X.K ⟨q0, D :: p1.rs⟩ H' acc ys ∧ acc.length ≤ i + 1 ∧
        post T X.K W (RepV X.K) p1 H1 σ ((noex (lcL t c e (wipeL l vs) (xs.drop (i + 1)) s)).bd fun zs s' => fin (acc ++ zs) s') Q, fun H' w => ⟨xs.length - (i + 1), by omega, rfl, hlt, w⟩, fun x H' y => ?_⟩
      obtain ⟨E2, S2, r2⟩ := src.yld i _ s H x H' xs[i] (wOf E) S (List.getElem?_eq_getElem hlt) y
      refine ⟨_, xs[i], wipeL l vs, s, S2, L.mono E2, r2, ?_⟩
      rw [List.drop_eq_getElem_cons hlt] at q
      simp only [lcL] at q
      -- what stands behind some steps of the turn
      have go : ∀ {p' : Pl} {H' : Hp}, Ext ⟨q0, D :: p1.rs⟩ H p' H' → p' = ⟨p'.pl, D :: p1.rs⟩ ∧ some D ∉ p'.pl ∧ H' D = some (.lst ys) ∧ Ext p1 H1 ⟨p'.pl, p1.rs⟩ H' := fun {p' H'} F => by
        obtain ⟨pl, rs⟩ := p'
        have er : rs = D :: p1.rs := F.rsv
        subst er
        refine ⟨rfl, F.noPl hHD hDpl, F.keep D _ hHD hDpl, ?_⟩
        exact E.trans ⟨F.len, F.pre, rfl, F.keep, F.dom⟩
      cases et : t xs[i] (wipeL l vs) s with
      | ok l1 s2 =>
        rw [et] at q
        intro p3 σ3 H3 E3 S3 L3 sb
        refine ⟨wipe_same hs sb, p3, l1, s2, S3, L3, ?_⟩
        have E13 := E2.trans E3
        cases ec : c l1 s2 with
        | ok b s3 =>
          simp only [R.bd, ec] at q
          intro p4 H4 b' E4 S4 rb
          cases rb
          have E14 := E13.trans E4
          cases b with
          | true =>
            rw [if_pos rfl] at q ⊢
            refine ⟨p4, l1, s3, S4, L3.mono E4, ?_⟩
            cases ee : e l1 s3 with
            | ok z s4 =>
              simp only [ee] at q
              intro p5 H5 zv E5 S5 rz
              have E15 := E14.trans E5
              obtain ⟨ep, hD5p, hD5, E5'⟩ := go E15
              have L5 := L.mono E15
              have rs5 := rs.mono E15
              generalize hq5 : p5.pl = q5 at ep hD5p E5'
              subst ep
              have hDm : D ∈ (⟨q5, D :: p1.rs⟩ : Pl).rs := List.mem_cons_self
              have Ew : ExtW ⟨q5, D :: p1.rs⟩ H5 ⟨q5, D :: p1.rs⟩ (upd H5 D (.lst (ys ++ [zv]))) := .rsvd hDm
              refine ⟨ys, hD5, by rw [← rs.len, sizeLine_eq]; omega, q5, s4, acc ++ [z], ys ++ [zv], hD5p, ?_, S5.rsvd hDm, L5.monoW Ew, upd_same, RepVs.monoW Ew _ _ (rs5.app (.cons rz .nil)), by rw [List.length_append]; exact Nat.add_le_add_right hal 1, ?_⟩
              · refine ⟨E5'.len, E5'.pre, rfl, fun b o hb hn => ?_, fun b hb => ?_⟩
                · rw [upd_ne (ne_of_none hb hD)]; exact E5'.keep b o hb hn
                · by_cases eb : b = D
                  · rw [eb]; exact hD
                  · rw [upd_ne eb] at hb; exact E5'.dom b hb
              · cases er : lcL t c e (wipeL l vs) (xs.drop (i + 1)) s4 with
                | ok zs s5 =>
                  rw [er] at q
                  have q' : post T X.K W (RepV X.K) p1 H1 σ (fin (acc ++ z :: zs) s5) Q := q
                  show post T X.K W (RepV X.K) p1 H1 σ (fin ((acc ++ [z]) ++ zs) s5) Q
                  rw [List.append_assoc]
                  exact q'
                | ex e' s5 => rw [er] at q; exact (show False from q).elim
                | bad => rw [er] at q; exact (show False from q).elim
            | ex e' s4 => simp only [ee] at q; exact (show False from q).elim
            | bad => simp only [ee] at q; exact (show False from q).elim
          | false =>
            rw [if_neg Bool.false_ne_true] at q ⊢
            obtain ⟨ep, hD5p, hD5, E5'⟩ := go E14
            have L5 := L.mono E14
            have rs5 := rs.mono E14
            generalize hq5 : p4.pl = q5 at ep hD5p E5'
            subst ep
            exact ⟨q5, s3, acc, ys, hD5p, E5', S4, L5, hD5, rs5, by omega, q⟩
        | ex e' s3 => simp only [R.bd, ec] at q; exact (show False from q).elim
        | bad => simp only [R.bd, ec] at q; exact (show False from q).elim
      | ex e' s2 => rw [et] at q; exact (show False from q).elim
      | bad => rw [et] at q; exact (show False from q).elim
    · have ei : i = xs.length := by omega
      subst ei
      rw [List.drop_length] at q
      refine .inl ⟨src.stop _ H (wOf E), ?_⟩
      have q' : post T X.K W (RepV X.K) p1 H1 σ (fin (acc ++ []) s) Q := q
      rw [List.append_nil] at q'
      exact hfin hD E S hDpl hDr1 hHD rs q'
theorem fin_lst {q : List (Option Addr)} {s : Sto} {H : Hp} {σ : L2.St} {p1 : Pl} {H1 : Hp} {D : Addr} {acc : List Val} {ys : List V} {Q : VK} (hD : H1 D = Option.none) (E : Ext p1 H1 ⟨q, p1.rs⟩ H) (S : RepSt X.K ⟨q, D :: p1.rs⟩ s H) (h1 : some D ∉ q) (h2 : D ∉ p1.rs) (h3 : H D = some (.lst ys)) (r : RepVs X.K ⟨q, D :: p1.rs⟩ H acc ys)
    (h : post T X.K W (RepV X.K) p1 H1 σ (finL acc s) Q) : Q (.ref D) H := by
  have hle : ∀ a ∈ p1.rs, a ∈ (⟨q, D :: p1.rs⟩ : Pl).rs := fun a ha => List.mem_cons_of_mem _ ha
  exact h _ _ _ E (S.less hle) (.lst h3 (fun z => z.elim h1 h2) (RepVs.monoW (.less hle) _ _ r))
theorem fin_loc {q : List (Option Addr)} {s : Sto} {H : Hp} {σ : L2.St} {p1 : Pl} {H1 : Hp} {D : Addr} {acc : List Val} {ys : List V} {Q : VK} (hD : H1 D = Option.none) (E : Ext p1 H1 ⟨q, p1.rs⟩ H) (S : RepSt X.K ⟨q, D :: p1.rs⟩ s H) (h1 : some D ∉ q) (h2 : D ∉ p1.rs) (h3 : H D = some (.lst ys)) (r : RepVs X.K ⟨q, D :: p1.rs⟩ H acc ys)
    (h : post T X.K W (RepV X.K) p1 H1 σ (finC acc s) Q) : Q (.ref D) H := by
  have E2 : Ext p1 H1 ⟨q ++ [some D], p1.rs⟩ H := by
    refine ⟨by show _ ≤ (q ++ [some D]).length; rw [List.length_append]; exact Nat.le_trans E.len (Nat.le_add_right _ _), fun n a e => ?_, rfl, E.keep, E.dom⟩
    rcases app_at (show (q ++ [some D])[n]? = _ from e) with z | ⟨z, y⟩
    · exact E.pre n a z
    · cases y
      exact .inr ⟨by rw [z]; exact E.len, hD⟩
  exact h _ _ _ E2 (S.place h2 h3 r) (.loc (by show (q ++ [some D])[s.length]? = some (some D); rw [← S.len]; show (q ++ [some D])[q.length]? = some (some D); rw [List.getElem?_append_right (Nat.le_refl _)]; simp))
theorem c_lc [Triv T] {elt tg iter : Expr} {ifs : List Expr} {scope : Scope} (own : List (Str × Nat)) {pos : Pos} {m : M (List Val)} {t : Tg} {ss : List Nat} {c : M Bool} {e : M Val} {fin : List Val → Sto → R Val}
    (hfin : ∀ {q : List (Option Addr)} {s : Sto} {H : Hp} {σ : L2.St} {p1 : Pl} {H1 : Hp} {D : Addr} {acc : List Val} {ys : List V} {Q : VK}, H1 D = Option.none → Ext p1 H1 ⟨q, p1.rs⟩ H → RepSt X.K ⟨q, D :: p1.rs⟩ s H → some D ∉ q → D ∉ p1.rs → H D = some (.lst ys) → RepVs X.K ⟨q, D :: p1.rs⟩ H acc ys → post T X.K W (RepV X.K) p1 H1 σ (fin acc s) Q → Q (.ref D) H)
    (hc : X.calm = true) (hN : X.N.Nodup) (hi : CI T W X tg iter m) (ok : blkC X.N X.env.scope scope own = true) (hss : ∀ i ∈ ss, i ∈ own.map (·.2))
    (hg : ∀ (s : Shared) (H : Hp) (C : Addr) (cl : List (Str × Addr)) (fp : List Addr), CG T W0 (X.blk s H scope (compEnvC scope cl C X.env) fp) tg ss t)
    (ht : ∀ (s : Shared) (H : Hp) (C : Addr) (cl : List (Str × Addr)) (fp : List Addr), CTs T W0 (X.blk s H scope (compEnvC scope cl C X.env) fp) ifs c)
    (he : ∀ (s : Shared) (H : Hp) (C : Addr) (cl : List (Str × Addr)) (fp : List Addr), CE T W0 (X.blk s H scope (compEnvC scope cl C X.env) fp) elt e)
    (hs : ∀ x, foldedSetIterable iter X.env x = pure x := by intro _; rfl) : CE T W X (.ListComp elt [⟨tg, iter, ifs, 0⟩] scope pos) (lcM m t c e (own.map (·.2)) fin) :=
  PEw (pe_lc (g := tTg T X.K W0 ss t) (tt := tG T X.K W0 rB c) (te := tG T X.K W0 (RepV X.K) e) hc hN hi (blkOk_by ok) hg ht he hs) fun σ H Q h => t_lc (ss := ss) hfin hss h
/-- name = [..] on one line -/
theorem cs_setLc [Triv T] (i : Nat) {y : Str} {py : Pos} {elt tg iter : Expr} {ifs : List Expr} {scope : Scope} (own : List (Str × Nat)) {pos spos : Pos} {m : M (List Val)} {t : Tg} {ss : List Nat} {c : M Bool} {e : M Val} {fin : List Val → Sto → R Val}
    (hfin : ∀ {q : List (Option Addr)} {s : Sto} {H : Hp} {σ : L2.St} {p1 : Pl} {H1 : Hp} {D : Addr} {acc : List Val} {ys : List V} {Q : VK}, H1 D = Option.none → Ext p1 H1 ⟨q, p1.rs⟩ H → RepSt X.K ⟨q, D :: p1.rs⟩ s H → some D ∉ q → D ∉ p1.rs → H D = some (.lst ys) → RepVs X.K ⟨q, D :: p1.rs⟩ H acc ys → post T X.K W (RepV X.K) p1 H1 σ (fin acc s) Q → Q (.ref D) H)
    (hc : X.calm = true) (hN : X.N.Nodup) (hi : CI T W X tg iter m) (ok : blkC X.N X.env.scope scope own = true) (hss : ∀ i ∈ ss, i ∈ own.map (·.2))
    (hg : ∀ (s : Shared) (H : Hp) (C : Addr) (cl : List (Str × Addr)) (fp : List Addr), CG T W0 (X.blk s H scope (compEnvC scope cl C X.env) fp) tg ss t)
    (ht : ∀ (s : Shared) (H : Hp) (C : Addr) (cl : List (Str × Addr)) (fp : List Addr), CTs T W0 (X.blk s H scope (compEnvC scope cl C X.env) fp) ifs c)
    (he : ∀ (s : Shared) (H : Hp) (C : Addr) (cl : List (Str × Addr)) (fp : List Addr), CE T W0 (X.blk s H scope (compEnvC scope cl C X.env) fp) elt e)
    (hsw : swapsWith (.ListComp elt [⟨tg, iter, ifs, 0⟩] scope pos) (some (.Name y py)) spos.line X.env = pure true)
    (hy : X.N[i]? = some y := by rfl) (hyl : X.env.scope.names.lookup y = some .local := by rfl) (hs : ∀ x, foldedSetIterable iter X.env x = pure x := by intro _; rfl) :
    CS T W X (.Assign [.Name y py] (.ListComp elt [⟨tg, iter, ifs, 0⟩] scope pos) spos) (asgB (lcM m t c e (own.map (·.2)) fin) (nameT i)) := by
  refine PSw (ps_setLc (g := tTg T X.K W0 ss t) (tt := tG T X.K W0 rB c) (te := tG T X.K W0 (RepV X.K) e) hc hN hy hyl hsw hi (blkOk_by ok) hg ht he hs) fun D σ H h => ?_
  refine t_lc (ss := ss) (fin := fin) hfin hss ?_
  obtain ⟨p, l, s, S, L, q⟩ := t_asg (ss := [i]) h
  exact ⟨p, l, s, S, L, q.imp fun x H1 ⟨p1, v, l1, s1, S1, L1, r1, q1⟩ => q1 p1 _ H1 .refl S1 (L1.set r1) .set⟩
end

/-! ### defs -/
def runFn (nN np : Nat) (b : B) : Fn := fun args s => if args.length = np then match b (args.map some ++ List.replicate (nN - np) none) s with
  | .nx _ s1 => .ok .non s1
  | .rt v s1 => .ok v s1
  | .ex e _ s1 => .ex e s1
  | _ => .bad
  else .bad
/-- a def's promise: it does what f does -/
def spM (T : Tab) (K : PySem.W.Frag) (n : Nat) (f : Fn) : Sp := fun vs H Q E => vs.length = n ∧ ∃ p s args, RepSt K p s H ∧ RepVs K p H args vs ∧ post T K (fun c d _ H => E c d H) (RepV K) p H [] (f args s) Q
/-- FnOk where no guard is held -/
structure FnG (P : Program) (w : World) (K : PySem.W.Frag) (mg : Str → Option Value) (base : Heap) (k : Nat) (f : Addr) (fd : FuncData) (ps : List Str) (sp : Sp) : Prop where
  len : ∀ vs H Q E, sp vs H Q E → vs.length = ps.length
  run : ∀ (A : Around) (outer : List Env) (s : Shared) (H : Hp) (args : Args) (us : List Value) (vs : List V) (Q : VK) (E : XK), Room k A → A.guards = some [] → Env0 P w K mg base A outer s H → BindsTo s fd args (ps.zip us) → Vals vs us → sp vs H Q E →
    codeAny (model P w) A (.call (.ref f) args) (CR (L2.CX P w) outer P w H s Q E) s
theorem FnG.up {P : Program} {w : World} {K : PySem.W.Frag} {mg : Str → Option Value} {base : Heap} {j k : Nat} {f : Addr} {fd : FuncData} {ps : List Str} {sp : Sp} (F : FnG P w K mg base j f fd ps sp) (h : j ≤ k) : FnG P w K mg base k f fd ps sp :=
  ⟨F.len, fun A outer s H args us vs Q E hr => F.run A outer s H args us vs Q E (hr.mono h)⟩
section
variable {P : Program} {w : World} {K : PySem.W.Frag} {mg : Str → Option Value} {base : Heap}
/-- the context of a def's body -/
abbrev cxF (P : Program) (w : World) (K : PySem.W.Frag) (mg : Str → Option Value) (base : Heap) (N : List Str) (qual : Str) (st : Stmt) (f : Addr) (cd : Value) (A : Around) (outer : List Env) (s : Shared) (H : Hp) (E : XK) : Cx :=
  cxOf (L2.CX P w) P w K mg base N qual (defScope st) f cd A outer s H E
theorem fn_g {cl : Str → Option Addr} {x qual : Str} {st : Stmt} {f : Addr} {fd : FuncData} {N ps : List Str} {k : Nat} {b : B} (F : Fun K x qual st f fd) (S : FnScope N ps (defScope st))
    (hb : ∀ (cd : Value) (A : Around) (outer : List Env) (s : Shared) (H : Hp) (E : XK), XOk k (cxF P w K mg base N qual st f cd A outer s H E) → Takes (cxF P w K mg base N qual st f cd A outer s H E) (fun c d _ H => E c d H) →
      PassesOwn (model P w) (A.deeper (envOfC qual (defScope st) s.heap.objs.size f cd)) (envOfC qual (defScope st) s.heap.objs.size f cd) (cxF P w K mg base N qual st f cd A outer s H E).xe →
      CB (tab0 cl) (fun c d _ H => E c d H) (cxF P w K mg base N qual st f cd A outer s H E) (defBody st) b) : FnG P w K mg base (k + 1) f fd ps (spM (tab0 cl) K ps.length (runFn N.length ps.length b)) := by
  obtain ⟨oc, od, kV, doc, pm, an, cd, ct, osl, rfl, lk, hcd⟩ := F.ex
  refine ⟨fun vs H Q E h => h.1, fun A outer s H args us vs Q E hr hgr e0 hbt r hsp => ?_⟩
  obtain ⟨hl, p, st0, av, SS, RV, q⟩ := hsp
  have inK : K.In s.heap := e0.mod.kin.keeps fun b o e => (e0.bs b o e).1
  have noLim : s.heap.NoLimit := e0.mod.nolimit.keeps fun b o e => (e0.bs b o e).1
  refine codeAny_call_function hr.depth (inK _ _ lk) rfl S.co S.gen rfl (PySem.W.codeRec_of inK hcd) (hbt _ _ _ _ ?_)
  refine wpAny_newFunctionEnv_cells S.kind (fun y hy => ?_) fun env he s1 ic => ?_
  · obtain ⟨n, v⟩ := y
    rcases S.par n (List.of_mem_zip hy).1 with z | z
    · exact Or.inl z
    · exact Or.inr ⟨z, PySem.W.cellsFrom_some _ _ _ (Or.inl z)⟩
  subst he
  refine ⟨noLim.keeps ic.toInCall.keep, codeAny_func ?_⟩
  have I : Inv (cxF P w K mg base N qual st f cd A outer s H E) [] (L2.start N vs) H s1 := inv_start S hr.hd e0 hl r ic
  have xk : XOk k (cxF P w K mg base N qual st f cd A outer s H E) := ⟨hr.deeper _, hgr⟩
  have tk : Takes (cxF P w K mg base N qual st f cd A outer s H E) (fun c d _ H => E c d H) := takes_of rfl rfl rfl rfl
  have po : PassesOwn (model P w) (A.deeper (envOfC qual (defScope st) s.heap.objs.size f cd)) (envOfC qual (defScope st) s.heap.objs.size f cd) (cxF P w K mg base N qual st f cd A outer s H E).xe := passes_of rfl
  have hL : RepL (tab0 cl) K p H (av.map some ++ List.replicate (N.length - ps.length) none) (L2.start N vs) := by
    unfold L2.start
    refine ⟨by simp [RV.len, hl], fun i v h => ?_, trivial⟩
    by_cases hi : i < av.length
    · rw [List.getElem?_append_left (by simpa using hi), List.getElem?_map] at h
      cases e : av[i]? with
      | none => rw [e] at h; cases h
      | some u =>
        rw [e] at h
        cases h
        obtain ⟨y, e1, ry⟩ := RV.at_ e
        refine ⟨y, ?_, ry⟩
        rw [List.getElem?_append_left (by simpa [← RV.len] using hi), List.getElem?_map, e1]
        rfl
    · rw [List.getElem?_append_right (by simpa using hi), List.getElem?_replicate] at h
      split at h <;> cases h
  have hq : postS (tab0 cl) K (fun c d _ H => E c d H) p H (b (av.map some ++ List.replicate (N.length - ps.length) none) st0) { nx := fun _ H' => Q .non H', rt := Q } := by
    unfold runFn at q
    rw [if_pos (show av.length = ps.length by rw [RV.len]; exact hl)] at q
    cases e : b (av.map some ++ List.replicate (N.length - ps.length) none) st0 with
    | nx l s1 => rw [e] at q; exact fun p' σ' H' E' S' _ => q p' H' _ E' S' .non
    | rt v s1 => rw [e] at q; exact q
    | ex e' l s1 => rw [e] at q; exact fun p' σ' H' c d E' S' _ rx => q p' H' c d E' S' rx
    | bk l s1 => rw [e] at q; exact q.elim
    | ct l s1 => rw [e] at q; exact q.elim
    | bad => rw [e] at q; exact q.elim
  have body := (hb cd A outer s H E xk tk po).run [] s1 (L2.start N vs) H { nx := fun _ H' => Q .non H', rt := Q } I ⟨p, _, st0, SS, hL, hq⟩
  refine wpAny_mono body (fun fl s' hs => ?_) fun e s' hs => hs
  cases fl with
  | ret u =>
    obtain ⟨v, σ', H', J, rv, q'⟩ := hs
    exact ⟨v, H', J.os, J.bare, J.base, J.hok, rv, q'⟩
  | next =>
    obtain ⟨σ', H', J, q'⟩ := hs
    exact ⟨V.non, H', J.os, J.bare, J.base, J.hok, rfl, q'⟩
  | brk => obtain ⟨_, _, _, q'⟩ := hs; exact False.elim q'
  | cont => obtain ⟨_, _, _, q'⟩ := hs; exact False.elim q'
end

/-! ### calls of defs -/
/-- the arguments by the parameters' order -/
def pick {α : Type} (pm : List Nat) (xs : List α) : List α := pm.filterMap fun i => xs[i]?
theorem pick_cons {α : Type} (i : Nat) (pm : List Nat) (xs : List α) : pick (i :: pm) xs = match xs[i]? with | some y => y :: pick pm xs | none => pick pm xs := by
  unfold pick
  rw [List.filterMap_cons]
  cases xs[i]? <;> rfl
theorem pick_vals {xs : List V} {us : List Value} (r : Vals xs us) : ∀ pm : List Nat, Vals (pick pm xs) (pick pm us)
  | [] => .nil
  | i :: pm => by
    rw [pick_cons, pick_cons]
    cases e : xs[i]? with
    | some y =>
      obtain ⟨u, eu, ru⟩ := r.get e
      rw [eu]
      exact .cons ru (pick_vals r pm)
    | none => rw [Vals.none_of r e]; exact pick_vals r pm
theorem pick_rep {K : PySem.W.Frag} {p : Pl} {H : Hp} {vs : List Val} {xs : List V} (r : RepVs K p H vs xs) : ∀ pm : List Nat, RepVs K p H (pick pm vs) (pick pm xs)
  | [] => .nil
  | i :: pm => by
    rw [pick_cons, pick_cons]
    cases e : vs[i]? with
    | some y =>
      obtain ⟨u, eu, ru⟩ := r.at_ e
      rw [eu]
      exact .cons ru (pick_rep r pm)
    | none =>
      have e2 : xs[i]? = none := by
        rw [List.getElem?_eq_none_iff] at e ⊢
        rw [← r.len]; exact e
      rw [e2]
      exact pick_rep r pm
def KB (K : PySem.W.Frag) (fd : FuncData) (ps ks : List Str) (np : Nat) (pm : List Nat) : Prop := ∀ (s : Shared) (us ws : List Value), K.In s.heap → us.length = np → ws.length = ks.length → BindsTo s fd ⟨us, ks.zip ws⟩ (ps.zip (pick pm (us ++ ws)))
def callU (n : M (List Val)) (f : Fn) : M Val := fun l s => (n l s).bd f
def callK (n nk : M (List Val)) (np nkw : Nat) (pm : List Nat) (f : Fn) : M Val := fun l s => (n l s).bd fun vs s1 => (nk l s1).bd fun ws s2 => if vs.length = np ∧ ws.length = nkw then f (pick pm (vs ++ ws)) s2 else .bad
section
variable {T : Tab} {W : WX} {X : Cx} {k j : Nat} {f : Addr} {fd : FuncData} {ps ks : List Str} {fn : Fn} {x : Str} {pf pos kpos : Pos} {e : Expr} {es : List Expr} {n nk : M (List Val)} {kws : List Keyword} {nm : Option Str} {m : M Val} {na : Nat}
theorem run_g {args : Args} {pins : List (Addr × Obj)} {σ : L2.St} {H : Hp} {s : Shared} {Q : VK} {us : List Value} {vs : List V} {E : XK} {sp : Sp} (F : FnG X.prog X.w X.K X.mg X.base k f fd ps sp) (xk : XOk k X) (hx : PassesAt (L2.CX X.prog X.w) X σ E)
    (I : Inv X pins σ H s) (hb : BindsTo s fd args (ps.zip us)) (r : Vals vs us) (h : sp vs H Q E) : codeAny (model X.prog X.w) X.A (.call (.ref f) args) (fun r s' => match r with | .ok (.ret u) => EP X pins σ Q u s' | .ok _ => False | .error e => X.xe e s') s := by
  refine codeAny_mono (F.run X.A X.stack s H args us vs Q E xk.room xk.grd I.env0 hb r h) fun r s' hq => ?_
  cases r with
  | error e => exact hx pins H s e s' I hq
  | ok fl =>
    cases fl with
    | ret u => exact I.after hq
    | next => exact hq
    | brk => exact hq
    | cont => exact hq
theorem sp_of {p : Pl} {s : Sto} {H : Hp} {σ : L2.St} {vs : List Val} {xs : List V} {Q : VK} (S : RepSt X.K p s H) (r : RepVs X.K p H vs xs) (hl : vs.length = na) (q : post T X.K W (RepV X.K) p H σ (fn vs s) Q) : spM T.base X.K na fn xs H Q (WE W σ) := by
  refine ⟨by rw [← r.len]; exact hl, p, s, vs, S, r, ?_⟩
  cases e : fn vs s with
  | ok v s1 => rw [e] at q; exact q
  | ex e' s1 => rw [e] at q; exact q
  | bad => rw [e] at q; exact q.elim
theorem c_call (F : FnG X.prog X.w X.K X.mg X.base j f fd ps (spM T.base X.K na fn)) (xk : XOk k X) (tk : Takes X W) (hg : Gl X x) (hm : X.mg x = some (.ref f)) (hk : PySem.W.keepIn X.K (.ref f) = true) (hb : Binds X.K fd ps [])
    (ha : CA T W X (e :: es) n) (hlen : ∀ l s v s1, n l s = .ok v s1 → v.length = na) (hps : ps.length = na) (hj : j ≤ k := by decide) (hdb : (x == ("__debug__" : Str)) = false := by decide) (he : starEach (e :: es) X.env = (false, eval e X.env) :: starEach es X.env := by rfl) (hpl : (backTo pos (starEach es X.env)).any (·.1) = false := by rfl) :
    CE T W X (.Call (.Name x pf) (e :: es) [] pos) (callU n fn) := by
  refine ⟨fun pins s σ H Q I h => ?_⟩
  obtain ⟨p, l, st, S, L, q⟩ := h
  refine wpAny_Call_Name_kw (ld_glob I hg hm ?_ hdb)
  refine PySem.W.callWith_K (h₀ := X.base) I.ok.mod.kin hk (thn (ha.run pos pins s σ H _ I ⟨p, l, st, S, L, post.bd (rep := RepVs X.K) q⟩) fun us s1 ⟨vs, H1, I1, r, p1, av, s2, e1, E1, S1, r1, q1⟩ => ⟨I1.kIn, ?_⟩) he hpl
  have hl := hlen _ _ _ _ e1
  have hu : us.length = ps.length := by rw [← r.length, ← r1.len, hl, hps]
  have b := hb s1 us I1.kIn (by rw [List.append_nil]; exact hu)
  rw [List.append_nil] at b
  refine wpAny_call (codeAny_mono (run_g (F.up hj) xk (passAt tk σ) I1 b r (sp_of S1 r1 hl q1)) fun r s' hq => ?_)
  cases r with
  | error e => exact hq
  | ok fl => cases fl <;> exact hq
theorem c_call0 (F : FnG X.prog X.w X.K X.mg X.base j f fd ps (spM T.base X.K na fn)) (xk : XOk k X) (tk : Takes X W) (hg : Gl X x) (hm : X.mg x = some (.ref f)) (hk : PySem.W.keepIn X.K (.ref f) = true) (hb : Binds X.K fd ps []) (hna : na = 0) (hps : ps = [])
    (hj : j ≤ k := by decide) (hdb : (x == ("__debug__" : Str)) = false := by decide) : CE T W X (.Call (.Name x pf) [] [] pos) (callU nilM fn) := by
  refine ⟨fun pins s σ H Q I h => ?_⟩
  obtain ⟨p, l, st, S, L, q⟩ := h
  refine wpAny_Call_Name_kw (ld_glob I hg hm ?_ hdb)
  subst hps hna
  have b := hb s [] I.kIn rfl
  exact PySem.W.callWith_K0 I.kIn hk (wpAny_call (codeAny_mono (run_g (F.up hj) xk (passAt tk σ) I b .nil (sp_of (vs := []) S .nil rfl q)) fun r s' hq => by
    cases r with
    | error e => exact hq
    | ok fl => cases fl <;> exact hq))
def CK (T : Tab) (W : WX) (X : Cx) (kws : List Keyword) (n : M (List Val)) : Prop := PK X kws (tG T X.K W (RepVs X.K) n)
theorem PKw {kws : List Keyword} {t t' : TA} (h : PK X kws t) (w : ∀ σ H Q, t' σ H Q → t σ H Q) : PK X kws t' := ⟨fun pos pins s σ H Q I q => h.run pos pins s σ H Q I (w _ _ _ q)⟩
theorem ck_nil : CK T W X [] nilM := PKw pk_nil fun σ H Q ⟨p, l, s, S, L, q⟩ => q.pure S .nil
theorem ck_cons (ha : CE T W X e m) (hr : CK T W X kws n) : CK T W X (⟨nm, e, kpos⟩ :: kws) (consM m n) := by
  refine PKw (pk_cons ha hr) fun σ H Q h => ?_
  obtain ⟨p, l, s, S, L, q⟩ := h
  refine ⟨p, l, s, S, L, ?_⟩
  refine (post.bd (rep := RepV X.K) q).imp fun x H1 ⟨p1, v, s1, e1, E1, S1, r1, q1⟩ => ?_
  refine ⟨p1, l, s1, S1, L.mono E1, ?_⟩
  refine (post.bd (rep := RepVs X.K) q1).imp fun xs H2 ⟨p2, vs, s2, e2, E2, S2, r2, q2⟩ => ?_
  exact q2.pure S2 (.cons (r1.mono E2) r2)
theorem c_callK {np nkw : Nat} {pm : List Nat} (F : FnG X.prog X.w X.K X.mg X.base j f fd ps (spM T.base X.K na fn)) (xk : XOk k X) (tk : Takes X W) (hg : Gl X x) (hm : X.mg x = some (.ref f)) (hk : PySem.W.keepIn X.K (.ref f) = true) (hb : KB X.K fd ps ks np pm) (hkl : ks.length = nkw)
    (ha : CA T W X (e :: es) n) (hkw : CK T W X kws nk) (hpm : ∀ vs : List Val, vs.length = np + nkw → (pick pm vs).length = na) (hall : (backToKw pos (keywordEach kws X.env)).all (·.1.isSome) = true := by rfl) (hks : (backToKw pos (keywordEach kws X.env)).filterMap (·.1) = ks := by rfl)
    (hj : j ≤ k := by decide) (hdb : (x == ("__debug__" : Str)) = false := by decide) (he : starEach (e :: es) X.env = (false, eval e X.env) :: starEach es X.env := by rfl)
    (hpl : ((backTo pos (starEach (e :: es) X.env)).any (·.1) || (backToKw pos (keywordEach kws X.env)).any (·.1.isNone)) = false := by rfl) :
    CE T W X (.Call (.Name x pf) (e :: es) kws pos) (callK n nk np nkw pm fn) := by
  refine ⟨fun pins s σ H Q I h => ?_⟩
  obtain ⟨p, l, st, S, L, q⟩ := h
  refine wpAny_Call_Name_kw (ld_glob I hg hm ?_ hdb)
  refine PySem.W.callWith_KW (h₀ := X.base) I.ok.mod.kin hk hall (thn (ha.run pos pins s σ H _ I ⟨p, l, st, S, L, post.bd (rep := RepVs X.K) q⟩) fun us s1 ⟨vs, H1, I1, r, p1, av, s2, e1, E1, S1, r1, q1⟩ => ?_) hpl he
  refine thn (hkw.run pos pins s1 σ H1 _ I1 ⟨p1, l, s2, S1, L.mono E1, post.bd (rep := RepVs X.K) q1⟩) fun ws s3 ⟨zs, H2, I2, rz, p2, aw, s4, e2, E2, S2, r2, q2⟩ => ⟨I2.kIn, ?_⟩
  split at q2
  · rename_i hz
    rw [hks]
    have rr := (r1.mono E2).app r2
    have rv : Vals (vs ++ zs) (us ++ ws) := r.append rz
    have hl : (pick pm (av ++ aw)).length = na := hpm _ (by rw [List.length_append]; omega)
    refine wpAny_call (codeAny_mono (run_g (F.up hj) xk (passAt tk σ) I2 (hb s3 us ws I2.kIn (by rw [← r.length, ← r1.len]; exact hz.1) (by rw [← rz.length, ← r2.len, hkl]; exact hz.2)) (pick_vals rv pm) (sp_of S2 (pick_rep rr pm) hl q2)) fun r s' hq => ?_)
    cases r with
    | error e => exact hq
    | ok fl => cases fl <;> exact hq
  · exact q2.elim
theorem c_callK0 {nkw : Nat} {pm : List Nat} (F : FnG X.prog X.w X.K X.mg X.base j f fd ps (spM T.base X.K na fn)) (xk : XOk k X) (tk : Takes X W) (hg : Gl X x) (hm : X.mg x = some (.ref f)) (hk : PySem.W.keepIn X.K (.ref f) = true) (hb : KB X.K fd ps ks 0 pm) (hkl : ks.length = nkw)
    (hkw : CK T W X kws nk) (hpm : ∀ vs : List Val, vs.length = nkw → (pick pm vs).length = na) (hall : (backToKw pos (keywordEach kws X.env)).all (·.1.isSome) = true := by rfl) (hks : (backToKw pos (keywordEach kws X.env)).filterMap (·.1) = ks := by rfl)
    (hj : j ≤ k := by decide) (hdb : (x == ("__debug__" : Str)) = false := by decide)
    (hpl : ((backTo pos (starEach [] X.env)).any (·.1) || (backToKw pos (keywordEach kws X.env)).any (·.1.isNone)) = false := by rfl) :
    CE T W X (.Call (.Name x pf) [] kws pos) (callK nilM nk 0 nkw pm fn) := by
  refine ⟨fun pins s σ H Q I h => ?_⟩
  obtain ⟨p, l, st, S, L, q⟩ := h
  refine wpAny_Call_Name_kw (ld_glob I hg hm ?_ hdb)
  have q0 : post T X.K W (RepV X.K) p H σ ((nk l st).bd fun ws s2 => if ([] : List Val).length = 0 ∧ ws.length = nkw then fn (pick pm ([] ++ ws)) s2 else .bad) Q := q
  refine PySem.W.callWith_KW0 (h₀ := X.base) I.ok.mod.kin hk hall (thn (hkw.run pos pins s σ H _ I ⟨p, l, st, S, L, post.bd (rep := RepVs X.K) q0⟩) fun ws s3 ⟨zs, H2, I2, rz, p2, aw, s4, e2, E2, S2, r2, q2⟩ => ⟨I2.kIn, ?_⟩) hpl
  split at q2
  · rename_i hz
    rw [hks]
    have hl : (pick pm aw).length = na := hpm _ hz.2
    have bb := hb s3 [] ws I2.kIn rfl (by rw [← rz.length, ← r2.len, hkl]; exact hz.2)
    rw [List.nil_append] at bb q2
    refine wpAny_call (codeAny_mono (run_g (F.up hj) xk (passAt tk σ) I2 bb (pick_vals rz pm) (sp_of S2 (pick_rep r2 pm) hl q2)) fun r s' hq => ?_)
    cases r with
    | error e => exact hq
    | ok fl => cases fl <;> exact hq
  · exact q2.elim
end
/-- how many values a list of expressions gives -/
theorem len_nil : ∀ l s v s1, nilM l s = .ok v s1 → v.length = 0 := fun l s v s1 h => by
  unfold nilM at h
  cases h; rfl
theorem len_cons {m : M Val} {n : M (List Val)} {k : Nat} (hn : ∀ l s v s1, n l s = .ok v s1 → v.length = k) : ∀ l s v s1, consM m n l s = .ok v s1 → v.length = k + 1 := fun l s v s1 h => by
  unfold consM at h
  cases e : m l s with
  | ok a s2 =>
    rw [e] at h
    simp only [R.bd] at h
    cases e2 : n l s2 with
    | ok b s3 => rw [e2] at h; simp only at h; cases h; rw [List.length_cons, hn _ _ _ _ e2]
    | ex _ _ => rw [e2] at h; simp only at h; cases h
    | bad => rw [e2] at h; simp only at h; cases h
  | ex _ _ => rw [e] at h; simp only [R.bd] at h; cases h
  | bad => rw [e] at h; simp only [R.bd] at h; cases h
end Mn
set_option maxHeartbeats 4000000
/-! Mini6: repr, str; the law's end. -/
namespace Mn
open PySem PySem.Spec PyProof.Rows L2

/-! ### repr of data -/
section
variable {T : Tab} {W : WX} {X : Cx}
def rRepr (K : PySem.W.Frag) : List V → Hp → VK → Prop := fun vs H Q => ∃ x d, vs = [x] ∧ Dp K H x d ∧ d.showable = true ∧ d.canLay0 = true ∧ d.depth ≤ 60 ∧ d.shown.length ≤ sizeLine ∧ Q (.str d.shown) H
theorem o_repr {k : Nat} (xk : XOk k X) : CallR X (.builtin "repr") (rRepr X.K) := by
  intro pins s σ H vs us Q I r h
  obtain ⟨x, d, rfl, hd, h1, h2, h3, h4, q⟩ := h
  obtain ⟨u, rfl, ru⟩ := vals1 r
  obtain ⟨as, rd⟩ := Dp.reads I d x u hd ru
  have hu := xk.hu
  have fin : ∀ (z : Str) (tk : Nat), d.shown = z → EP X pins σ Q (.str z s.toks) { s with toks := tk } := fun z tk e => ⟨.str z, H, I.tok tk, ⟨_, rfl⟩, by rw [← e]; exact q⟩
  cases hd with
  | non => cases (show u = Value.none from ru); exact PySem.P.repr_of_none (fin _ _ rfl)
  | bl b => cases (show u = Value.bool b from ru); exact PySem.P.repr_of_bool (fin _ _ rfl)
  | int i =>
    obtain ⟨t, rfl⟩ := (show ∃ t, u = Value.int i t from ru)
    exact PySem.P.repr_of_int (of_decide_eq_true h1) (fin _ _ rfl)
  | str z =>
    obtain ⟨t, rfl⟩ := (show ∃ t, u = Value.str z t from ru)
    exact PySem.P.repr_of_str (fin _ _ rfl) h4
  | @lst a xs ds hs ha =>
    cases (show u = Value.ref a from ru)
    refine PySem.repr_of_reads' rd h1 (fun z => ?_) xk.grd (by omega) (fun b o e => e) (fun h' u tk hk => ⟨.str _, H, I.kept (t' := tk) hk, ⟨_, rfl⟩, q⟩) h4
    rw [PyData.hasDict_of_canLay _ h2] at z
    cases z
  | @tup a xs ds hs ha =>
    cases (show u = Value.ref a from ru)
    refine PySem.repr_of_reads' rd h1 (fun z => ?_) xk.grd (by omega) (fun b o e => e) (fun h' u tk hk => ⟨.str _, H, I.kept (t' := tk) hk, ⟨_, rfl⟩, q⟩) h4
    rw [PyData.hasDict_of_canLay _ h2] at z
    cases z
def reprV (v : Val) (s : Sto) : R Val := getO (data s v) fun d => if (d.showable && d.canLay0 && decide (d.depth ≤ 60)) = true ∧ d.shown.length ≤ 16777216 then .ok (.str d.shown) s else .bad
theorem s_repr : SndL T X W (rRepr X.K) (g1 reprV) := snd1 fun p s H σ v x Q S r1 q => by
  unfold reprV at q
  obtain ⟨d, e, q⟩ := q.getO
  split at q
  · rename_i hz
    obtain ⟨h1, h2⟩ := hz
    rw [Bool.and_eq_true, Bool.and_eq_true] at h1
    exact ⟨x, d, rfl, r1.dp S e, h1.1.1, h1.1.2, of_decide_eq_true h1.2, line_ok h2, q.pure S (.str _)⟩
  · exact q.elim
end

/-! ### the law's end -/
theorem end_call {P : Program} {w : World} {K : PySem.W.Frag} {mg mb : Str → Option Value} {k : Nat} {fa a : Addr} {fd : FuncData} {x : Str} {T : Tab} {f : Fn} {s1 : Shared} {vs : List Value} {ns : List Int}
    (KX : K.In s1.heap) (hns : s1.heap.Ns mainGlobals mg) (hb : s1.heap.Ns builtinsNs mb) (hbb : ∀ x : Str, x ≠ "__name__" → mb x = bootBuiltins x) (hlim : s1.heap.NoLimit) (hg : s1.gens = #[])
    (ha : s1.heap.get? a = some { cls := .type "list", data := .seq vs.toArray }) (hi : IntsAre vs ns) (hl : ns.length ≤ sizeLine) (hr : Room k callerA)
    (F : ∀ base : Heap, K.In base → base.Ns mainGlobals mg → FnG P w K mg base k fa fd [x] (spM T K 1 f)) (hbind : ∀ (s : Shared) (u : Value), BindsTo s fd ⟨[u], []⟩ [(x, u)])
    (hf : ∃ s', f [.scr ns] [] = .ok (.bl true) s') :
    codeAny (model P w) callerA (.call (.ref fa) ⟨[.ref a], []⟩) (fun r s' => r = .ok (.ret (.bool true)) ∧ OldK s1.heap s'.heap ∧ s'.os = s1.os ∧ AllBare s'.gens) s1 := by
  obtain ⟨sE, hf⟩ := hf
  have hlen := hi.length
  -- the heap is known by H: nothing, or the script locked
  have main : ∀ H : Hp, Only H → HOk P w H s1.heap → (∀ b, H b ≠ none → b = a) → (H a ≠ none → K.lookup a = none) → RepV K ⟨[], []⟩ H (.scr ns) (.ref a) →
      codeAny (model P w) callerA (.call (.ref fa) ⟨[.ref a], []⟩) (fun r s' => r = .ok (.ret (.bool true)) ∧ OldK s1.heap s'.heap ∧ s'.os = s1.os ∧ AllBare s'.gens) s1 := by
    intro H hO hok hA hK hrep
    have free : ∀ {b : Addr} {o : Obj}, s1.heap.get? b = some o → (b = a → False) → (hidT s1.heap H).get? b = some o := fun {b o} e hne => by
      refine hidT_get e ?_
      cases q : H b with
      | none => rfl
      | some u => exact (hne (hA b (by rw [q]; simp))).elim
    have names : ∀ {b : Addr} {m : Str → Option Value}, s1.heap.Ns b m → (hidT s1.heap H).Ns b m := fun {b m} hn => by
      obtain ⟨o, es, ep, e, d, r⟩ := hn
      refine ⟨o, es, ep, free e fun z => ?_, d, r⟩
      subst z
      rw [ha] at e
      cases e
      exact nomatch d
    have kin : K.In (hidT s1.heap H) := fun b o e => by
      have e1 := KX b o e
      cases q : H b with
      | none => exact hidT_get e1 q
      | some u =>
        have hba := hA b (by rw [q]; simp)
        subst hba
        have := hK (by rw [q]; simp)
        rw [this] at e; cases e
    have md : Mod K mg (hidT s1.heap H) := ⟨kin, names hns, ⟨mb, names hb, hbb⟩, by
      obtain ⟨mc, h1, h2⟩ := hlim
      exact ⟨mc, names h1, h2⟩⟩
    have env : Env0 P w K mg (hidT s1.heap H) callerA [] s1 H := ⟨rfl, md, fun b o e => of_hidT e, Nat.le_of_eq (hidT_size _ _), trivial, (fun b hb => nomatch hb), hok, .of_eq hg⟩
    have sp : spM T K 1 f [.ref a] H (fun v _ => v = .bl true) (fun _ _ _ => False) := by
      refine ⟨rfl, ⟨[], []⟩, [], [.scr ns], ⟨rfl, (fun n m a h1 _ => nomatch h1), (fun a ha => nomatch ha), (fun a ha => nomatch ha), (fun n a o h1 _ => nomatch h1), (fun n h1 => nomatch h1)⟩, .cons hrep .nil, ?_⟩
      rw [hf]
      intro p' H' x _ _ r
      cases r
      rfl
    refine codeAny_mono ((F _ kin (names hns)).run callerA [] s1 H ⟨[.ref a], []⟩ [.ref a] [.ref a] _ _ hr rfl env (hbind s1 (.ref a)) (.cons rfl .nil) sp) fun r s' h => ?_
    cases r with
    | error e =>
      obtain ⟨_, _, _, _, _, _, _, _, _, _, _, _, z⟩ := h
      exact z.elim
    | ok fl =>
      cases fl with
      | ret u =>
        obtain ⟨v, H', os, bare, un, hok', rv, qv⟩ := h
        have qv' : v = .bl true := qv
        subst qv'
        cases (show u = Value.bool true from rv)
        refine ⟨rfl, OldK.of_keep fun b o e => ?_, os, bare⟩
        cases q : H b with
        | none => exact un.keep b o e q (fun z => nomatch z) (by simp)
        | some u =>
          rcases hO b with z | ⟨ob, xs, z⟩
          · rw [q] at z; cases z
          · have o1 := (hok b _ z).1
            have o2 := (hok' b _ (un.frzs b ob _ z)).1
            rw [e] at o1
            cases o1
            exact o2
      | next => exact False.elim h
      | brk => exact False.elim h
      | cont => exact False.elim h
  cases hk : K.lookup a with
  | some o =>
    have e := KX a o hk
    rw [ha] at e
    cases e
    exact main (fun _ => none) (fun _ => .inl rfl) (fun b u z => nomatch z) (fun b z => absurd rfl z) (fun z => absurd rfl z) (.kscr ⟨_, vs.toArray, _, hk, rfl, rfl, rfl, by rw [List.size_toArray, hlen]; exact hl, by simpa using vals_ints hi⟩)
  | none =>
    have hat : ∀ {u : HO}, (fun b : Addr => if b = a then some u else none) a = some u := fun {u} => if_pos rfl
    have hoff : ∀ {u : HO} {b : Addr}, b ≠ a → (fun b : Addr => if b = a then some u else none) b = none := fun {u b} h => if_neg h
    refine main (fun b => if b = a then some (.frz { cls := .type "list", data := .seq vs.toArray } (.lst (ns.map V.int))) else none) (fun b => ?_) (fun b u z => ?_) (fun b z => ?_) (fun _ => hk) (.scr (.inr ⟨_, hat⟩) fun z => by rcases z with z | z <;> exact nomatch z)
    · by_cases hba : b = a
      · subst hba; exact .inr ⟨_, _, hat⟩
      · exact .inl (hoff hba)
    · by_cases hba : b = a
      · subst hba
        have z' := hat.symm.trans z
        cases z'
        exact ⟨ha, by rw [List.length_map]; exact hl, vs, _, vals_ints hi, ha⟩
      · have z' := (hoff hba).symm.trans z
        cases z'
    · by_cases hba : b = a
      · exact hba
      · exact absurd (hoff hba) z
theorem walk_g {l : PySem.W.OpenLaw} {n k : Nat} {q : Program} {loose : List Str} {XP : (Str → Option Value) → Heap → Prop} {YP : World → Heap → Prop} {d : DefRec} {K : Params → PySem.W.Frag} {x : Str} {f : Fn}
    (hn : l.most = some n) (hn2 : n ≤ sizeLine) (hdf : d.params.defaults = []) (hr : Room k callerA)
    (hY : ∀ (w : World) (h : Heap), YP w h → (K w.params).In h)
    (F : ∀ (w : World) (mg : Str → Option Value) (fa : Addr) (h : Heap), (K w.params).In h → h.Ns mainGlobals mg → mg d.name = some (.ref fa) →
      ∃ (fd : FuncData) (T : Tab), (∀ (s : Shared) (u : Value), BindsTo s fd ⟨[u], []⟩ [(x, u)]) ∧
        ∀ base : Heap, (K w.params).In base → base.Ns mainGlobals mg → FnG l.prog w (K w.params) mg base k fa fd [x] (spM T (K w.params) 1 f))
    (hf : ∀ ns : List Int, ns.length ≤ n → ∃ s', f [.scr ns] [] = .ok (.bl true) s') :
    PySem.W.WalkO q loose XP YP l.row.toRowW d [] (fun f vs => PySem.call f vs) := by
  refine Att.attach_call hn hdf fun w s0 s1 mg mb fa o pm cd doc a vs ns G Y ho hd hcd hmg hobj hints hlen hg => ?_
  have KX := hY w _ Y
  obtain ⟨fd, T, hb, hF⟩ := F w mg fa _ KX G.T.g hmg
  exact end_call KX G.T.g G.T.b G.T.builtins G.T.nolimit hg hobj hints (Nat.le_trans hlen hn2) hr hF hb (hf ns hlen)
end Mn
set_option maxHeartbeats 4000000
/-! Mini7: short rules for the printed derivations. -/
namespace Mn
open PySem PySem.Spec PyProof.Rows L2

/-- as many turns as the int at a slot, and one -/
def fuelAt (i : Nat) : Loc → Sto → Nat := fun l _ => match l[i]? with
  | some (some (Val.int j)) => j.natAbs + 1
  | _ => 0
theorem bt_abs : bootBuiltins "abs" = some (.builtin "abs") := by decide +kernel
theorem bt_max : bootBuiltins "max" = some (.builtin "max") := by decide +kernel
theorem bt_min : bootBuiltins "min" = some (.builtin "min") := by decide +kernel
theorem bt_len : bootBuiltins "len" = some (.builtin "len") := by decide +kernel
theorem bt_divmod : bootBuiltins "divmod" = some (.builtin "divmod") := by decide +kernel
theorem bt_all : bootBuiltins "all" = some (.builtin "all") := by decide +kernel
theorem bt_any : bootBuiltins "any" = some (.builtin "any") := by decide +kernel
theorem bt_sum : bootBuiltins "sum" = some (.builtin "sum") := by decide +kernel
theorem bt_repr : bootBuiltins "repr" = some (.builtin "repr") := by decide +kernel
theorem bt_int : bootBuiltins "int" = some (.type "int") := by decide +kernel
theorem bt_bool : bootBuiltins "bool" = some (.type "bool") := by decide +kernel
theorem bt_str : bootBuiltins "str" = some (.type "str") := by decide +kernel
theorem bt_tuple : bootBuiltins "tuple" = some (.type "tuple") := by decide +kernel
theorem bt_list : bootBuiltins "list" = some (.type "list") := by decide +kernel
theorem bt_dict : bootBuiltins "dict" = some (.type "dict") := by decide +kernel
section
variable {T : Tab} {W : WX} {X : Cx} {k : Nat} {pf pos : Pos} {e e2 : Expr} {n : M (List Val)}
theorem k_abs (hm : X.mg "abs" = none) (ha : CA T W X [e] n) (hg : Gl X "abs" := by rfl) (he : starEach [e] X.env = (false, eval e X.env) :: starEach [] X.env := by rfl) (hpl : (backTo pos (starEach [] X.env)).any (·.1) = false := by rfl) : CE T W X (.Call (.Name "abs" pf) [e] [] pos) (callG n (g1 absV)) := c_callB call_abs s_abs hg hm bt_abs ha (by decide) (by decide) he hpl
theorem k_len (hm : X.mg "len" = none) (ha : CA T W X [e] n) (hg : Gl X "len" := by rfl) (he : starEach [e] X.env = (false, eval e X.env) :: starEach [] X.env := by rfl) (hpl : (backTo pos (starEach [] X.env)).any (·.1) = false := by rfl) : CE T W X (.Call (.Name "len" pf) [e] [] pos) (callG n (g1 lenV)) := c_callB call_len s_len hg hm bt_len ha (by decide) (by decide) he hpl
theorem k_all (hc : X.calm = true) (hm : X.mg "all" = none) (ha : CA T W X [e] n) (hg : Gl X "all" := by rfl) (he : starEach [e] X.env = (false, eval e X.env) :: starEach [] X.env := by rfl) (hpl : (backTo pos (starEach [] X.env)).any (·.1) = false := by rfl) : CE T W X (.Call (.Name "all" pf) [e] [] pos) (callG n (g1 allV)) := c_callB (cr_all hc) s_all hg hm bt_all ha (by decide) (by decide) he hpl
theorem k_any (hc : X.calm = true) (hm : X.mg "any" = none) (ha : CA T W X [e] n) (hg : Gl X "any" := by rfl) (he : starEach [e] X.env = (false, eval e X.env) :: starEach [] X.env := by rfl) (hpl : (backTo pos (starEach [] X.env)).any (·.1) = false := by rfl) : CE T W X (.Call (.Name "any" pf) [e] [] pos) (callG n (g1 anyV)) := c_callB (cr_any hc) s_any hg hm bt_any ha (by decide) (by decide) he hpl
theorem k_sum (hc : X.calm = true) (hm : X.mg "sum" = none) (ha : CA T W X [e] n) (hg : Gl X "sum" := by rfl) (he : starEach [e] X.env = (false, eval e X.env) :: starEach [] X.env := by rfl) (hpl : (backTo pos (starEach [] X.env)).any (·.1) = false := by rfl) : CE T W X (.Call (.Name "sum" pf) [e] [] pos) (callG n (g1 sumV)) := c_callB (cr_sum hc) s_sum hg hm bt_sum ha (by decide) (by decide) he hpl
theorem k_repr (xk : XOk k X) (hm : X.mg "repr" = none) (ha : CA T W X [e] n) (hg : Gl X "repr" := by rfl) (he : starEach [e] X.env = (false, eval e X.env) :: starEach [] X.env := by rfl) (hpl : (backTo pos (starEach [] X.env)).any (·.1) = false := by rfl) : CE T W X (.Call (.Name "repr" pf) [e] [] pos) (callG n (g1 reprV)) := c_callB (o_repr xk) s_repr hg hm bt_repr ha (by decide) (by decide) he hpl
theorem k_max2 (hc : X.calm = true) (hm : X.mg "max" = none) (ha : CA T W X [e, e2] n) (hg : Gl X "max" := by rfl) (he : starEach [e, e2] X.env = (false, eval e X.env) :: starEach [e2] X.env := by rfl) (hpl : (backTo pos (starEach [e2] X.env)).any (·.1) = false := by rfl) : CE T W X (.Call (.Name "max" pf) [e, e2] [] pos) (callG n (g2 maxV)) := c_callB (call_max2 hc) s_max2 hg hm bt_max ha (by decide) (by decide) he hpl
theorem k_min2 (hc : X.calm = true) (hm : X.mg "min" = none) (ha : CA T W X [e, e2] n) (hg : Gl X "min" := by rfl) (he : starEach [e, e2] X.env = (false, eval e X.env) :: starEach [e2] X.env := by rfl) (hpl : (backTo pos (starEach [e2] X.env)).any (·.1) = false := by rfl) : CE T W X (.Call (.Name "min" pf) [e, e2] [] pos) (callG n (g2 minV)) := c_callB (call_min2 hc) s_min2 hg hm bt_min ha (by decide) (by decide) he hpl
theorem k_divmod (hm : X.mg "divmod" = none) (ha : CA T W X [e, e2] n) (hg : Gl X "divmod" := by rfl) (he : starEach [e, e2] X.env = (false, eval e X.env) :: starEach [e2] X.env := by rfl) (hpl : (backTo pos (starEach [e2] X.env)).any (·.1) = false := by rfl) : CE T W X (.Call (.Name "divmod" pf) [e, e2] [] pos) (callG n (g2 dmV)) := c_callB call_divmod s_dm hg hm bt_divmod ha (by decide) (by decide) he hpl
theorem k_gcd (hm : X.mg "gcd" = some (.builtin "math.gcd")) (ha : CA T W X [e, e2] n) (hg : Gl X "gcd" := by rfl) (he : starEach [e, e2] X.env = (false, eval e X.env) :: starEach [e2] X.env := by rfl) (hpl : (backTo pos (starEach [e2] X.env)).any (·.1) = false := by rfl) : CE T W X (.Call (.Name "gcd" pf) [e, e2] [] pos) (callG n (g2 gcdV)) := c_callF cr_gcd s_gcd hg hm ha (by decide) he hpl
theorem k_int (hm : X.mg "int" = none) (ha : CA T W X [e] n) (hg : Gl X "int" := by rfl) (he : starEach [e] X.env = (false, eval e X.env) :: starEach [] X.env := by rfl) (hpl : (backTo pos (starEach [] X.env)).any (·.1) = false := by rfl) : CE T W X (.Call (.Name "int" pf) [e] [] pos) (callG n (g1 intV)) := c_callTy o_int s_int hg hm bt_int ha (by decide) (by decide) he hpl
theorem k_tuple (hm : X.mg "tuple" = none) (ha : CA T W X [e] n) (hg : Gl X "tuple" := by rfl) (he : starEach [e] X.env = (false, eval e X.env) :: starEach [] X.env := by rfl) (hpl : (backTo pos (starEach [] X.env)).any (·.1) = false := by rfl) : CE T W X (.Call (.Name "tuple" pf) [e] [] pos) (callG n (g1 tupleV)) := c_callTy call_tuple_of s_tuple hg hm bt_tuple ha (by decide) (by decide) he hpl
theorem k_list (hm : X.mg "list" = none) (ha : CA T W X [e] n) (hg : Gl X "list" := by rfl) (he : starEach [e] X.env = (false, eval e X.env) :: starEach [] X.env := by rfl) (hpl : (backTo pos (starEach [] X.env)).any (·.1) = false := by rfl) : CE T W X (.Call (.Name "list" pf) [e] [] pos) (callG n (g1 listV)) := c_callTy call_list_of s_list hg hm bt_list ha (by decide) (by decide) he hpl
theorem k_listC (hm : X.mg "list" = none) (ha : CA T W X [e] n) (hg : Gl X "list" := by rfl) (he : starEach [e] X.env = (false, eval e X.env) :: starEach [] X.env := by rfl) (hpl : (backTo pos (starEach [] X.env)).any (·.1) = false := by rfl) : CE T W X (.Call (.Name "list" pf) [e] [] pos) (callG n (g1 listC)) := c_callTy call_list_of s_listC hg hm bt_list ha (by decide) (by decide) he hpl
end
/-- binding by keywords -/
theorem kb_of {K : PySem.W.Frag} {x qual : Str} {st : Stmt} {f : Addr} {fd : FuncData} {ps ks : List Str} {np : Nat} {pm : List Nat} (F : Fun K x qual st f fd)
    (h : ∀ (kV doc pm' : Value) (an : Option Addr) (cdv ct : Value) (us ws : List Value), us.length = np → ws.length = ks.length → bindArgs (PySem.W.fnOf x qual (defArgs st) (defBody st) (defScope st) .none kV doc pm' an cdv ct) ⟨us, ks.zip ws⟩ = pure (ps.zip (pick pm (us ++ ws)))) : KB K fd ps ks np pm := by
  obtain ⟨oc, od, kV, doc, pm', an, cdv, ct, osl, rfl, lk, hcd⟩ := F.ex
  exact fun s us ws _ h1 h2 => .of_eq (h kV doc pm' an cdv ct us ws h1 h2)
theorem calls0 {X : Cx} : Takes X W0 := takes0
theorem blk_ok {k : Nat} {X : Cx} {s : Shared} {H : Hp} {scope : Scope} {cenv : Env} {fp : List Addr} (xk : XOk k X) : XOk k (X.blk s H scope cenv fp) := ⟨xk.room, xk.grd⟩
end Mn
set_option maxHeartbeats 4000000
/-! Mini9: lists that stand still from now on; their methods; zip, enumerate; constants of the module; isinstance with several types; t[::-1]. -/
namespace Mn
open PySem PySem.Spec PyProof.Rows L2

section
variable {T : Tab} {W : WX} {X : Cx}
/-! ### to stand still -/
def frzV (v : Val) (s : Sto) : R Val := match v with
  | .loc n => match s[n]? with
    | some (.lst xs) => .ok (.lst xs) (s.set n .gone)
    | _ => .bad
  | v => .ok v s
theorem c_frz {e : Expr} {m : M Val} (h : CE T W X e m) : CE T W X e (una m frzV) := by
  refine PEw h fun σ H Q h => ?_
  obtain ⟨p, l, s, S, L, q⟩ := h
  refine ⟨p, l, s, S, L, ?_⟩
  refine (post.bd (rep := RepV X.K) q).imp fun x H1 ⟨p1, v, s1, e1, E1, S1, r1, q1⟩ => ?_
  cases v with
  | loc n =>
    have q1' : post T X.K W (RepV X.K) p1 H1 σ (match s1[n]? with | some (.lst xs) => .ok (.lst xs) (s1.set n .gone) | _ => .bad) Q := q1
    split at q1'
    · rename_i xs e
      cases r1 with
      | loc hn => exact q1' _ _ _ .frz S1.frz (.frz S1 hn e)
      | dead hn => rw [S1.dd n hn] at e; cases e
    · exact q1'.elim
  | non => exact post.pure (v := Val.non) q1 S1 r1
  | emp => exact post.pure (v := Val.emp) q1 S1 r1
  | bl b => exact post.pure (v := Val.bl b) q1 S1 r1
  | int b => exact post.pure (v := Val.int b) q1 S1 r1
  | str b => exact post.pure (v := Val.str b) q1 S1 r1
  | tup b => exact post.pure (v := Val.tup b) q1 S1 r1
  | lst b => exact post.pure (v := Val.lst b) q1 S1 r1
  | scr b => exact post.pure (v := Val.scr b) q1 S1 r1
/-- the list at slot i -/
def frzB (i : Nat) : B := fun l s => match l[i]? with
  | some (some v) => (frzV v s).rb l fun w s1 => .nx (l.set i (some w)) s1
  | _ => .bad
theorem set_same {α : Type} {xs : List α} {i : Nat} {x : α} (h : xs[i]? = some x) : xs.set i x = xs := by
  refine List.ext_getElem? fun j => ?_
  by_cases e : i = j
  · subst e
    rw [List.getElem?_set_self (List.getElem?_eq_some_iff.mp h).1, h]
  · rw [List.getElem?_set_ne e]
theorem cb_frz [Triv T] {sts : List Stmt} {b : B} (i : Nat) (h : CB T W X sts b) : CB T W X sts (sq (frzB i) b) := by
  refine PSsw h fun D σ H h => ?_
  obtain ⟨p, l, s, S, L, q⟩ := h
  have q0 : postS T X.K W p H (match (match l[i]? with | some (some v) => (frzV v s).rb l fun w s1 => .nx (l.set i (some w)) s1 | _ => RB.bad) with | .nx l1 s1 => b l1 s1 | r => r) D := q
  split at q0
  · rename_i l1 s1 e
    split at e
    · rename_i v hv
      obtain ⟨y, e1, r⟩ := L.at_ i v hv
      cases v with
      | loc n =>
        have e' : R.rb (match s[n]? with | some (.lst xs) => R.ok (Val.lst xs) (s.set n .gone) | _ => .bad) l (fun w s1 => RB.nx (l.set i (some w)) s1) = RB.nx l1 s1 := e
        split at e'
        · rename_i xs ex
          cases e'
          cases r with
          | loc hn =>
            have L2' := (L.mono (Ext.frz (n := n))).set (i := i) (RepV.frz S hn ex)
            rw [set_same e1] at L2'
            exact ⟨_, _, _, S.frz, L2', postS.ext .frz q0⟩
          | dead hn => rw [S.dd n hn] at ex; cases ex
        · cases e'
      | non => cases e; rw [set_same hv] at q0; exact ⟨p, l, s, S, L, q0⟩
      | emp => cases e; rw [set_same hv] at q0; exact ⟨p, l, s, S, L, q0⟩
      | bl b => cases e; rw [set_same hv] at q0; exact ⟨p, l, s, S, L, q0⟩
      | int b => cases e; rw [set_same hv] at q0; exact ⟨p, l, s, S, L, q0⟩
      | str b => cases e; rw [set_same hv] at q0; exact ⟨p, l, s, S, L, q0⟩
      | tup b => cases e; rw [set_same hv] at q0; exact ⟨p, l, s, S, L, q0⟩
      | lst b => cases e; rw [set_same hv] at q0; exact ⟨p, l, s, S, L, q0⟩
      | scr b => cases e; rw [set_same hv] at q0; exact ⟨p, l, s, S, L, q0⟩
    · cases e
  · rename_i r hr
    exfalso
    split at q0
    · rename_i v hv
      cases v with
      | loc n =>
        have q1 : postS T X.K W p H (R.rb (match s[n]? with | some (.lst xs) => R.ok (Val.lst xs) (s.set n .gone) | _ => .bad) l fun w s1 => RB.nx (l.set i (some w)) s1) D := q0
        have hr' : ∀ l1 s1, R.rb (match s[n]? with | some (.lst xs) => R.ok (Val.lst xs) (s.set n .gone) | _ => .bad) l (fun w s1 => RB.nx (l.set i (some w)) s1) = RB.nx l1 s1 → False := fun l1 s1 e => hr l1 s1 (by rw [hv]; exact e)
        split at q1
        · rename_i xs ex
          exact hr' _ _ (by rw [ex]; rfl)
        · exact q1
      | non => exact hr _ _ (by rw [hv]; rfl)
      | emp => exact hr _ _ (by rw [hv]; rfl)
      | bl b => exact hr _ _ (by rw [hv]; rfl)
      | int b => exact hr _ _ (by rw [hv]; rfl)
      | str b => exact hr _ _ (by rw [hv]; rfl)
      | tup b => exact hr _ _ (by rw [hv]; rfl)
      | lst b => exact hr _ _ (by rw [hv]; rfl)
      | scr b => exact hr _ _ (by rw [hv]; rfl)
    · exact q0

/-! ### methods of lists -/
def methL (mo : M Val) (n : M (List Val)) (g : Val → List Val → Sto → R Val) : M Val := fun l s => (mo l s).bd fun o s1 => match deref s1 o with
  | some _ => (n l s1).bd fun vs s2 => g o vs s2
  | none => .bad
def SndM (T : Tab) (X : Cx) (W : WX) (r : V → List V → Hp → VK → Prop) (g : Val → List Val → Sto → R Val) : Prop := ∀ (p : Pl) (s : Sto) (H : Hp) (σ : L2.St) (v : Val) (vs : List Val) (x : V) (xs : List V) (Q : VK),
  RepSt X.K p s H → RepV X.K p H v x → RepVs X.K p H vs xs → post T X.K W (RepV X.K) p H σ (g v vs s) Q → r x xs H Q
theorem c_methL {r : V → List V → Hp → VK → Prop} {g : Val → List Val → Sto → R Val} {o e : Expr} {es : List Expr} {name : Str} {apos cpos : Pos} {id : String} {mo : M Val} {n : M (List Val)}
    (slot : Slot "list" name id) (hty : typeOf (.builtin id) = pure (.type "method_descriptor")) (hm : MtR X id r) (sd : SndM T X W r g) (ho : CE T W X o mo) (ha : CA T W X (e :: es) n)
    (hbase : attributeBase o name X.env (eval o X.env) = eval o X.env := by rfl)
    (hfew : ((backTo cpos (starEach (e :: es) X.env)).all (fun x => !x.1) && (backToKw cpos (keywordEach [] X.env)).all (fun x => x.1.isSome)
      && decide ((e :: es).length + ([] : List Keyword).length + (if ([] : List Keyword).isEmpty then 0 else 1) < 30)) = true := by rfl)
    (hline : (apos.endLine == cpos.line) = true := by rfl) (hs : starEach (e :: es) X.env = (false, eval e X.env) :: starEach es X.env := by rfl) (hplain : (backTo cpos (starEach es X.env)).any (·.1) = false := by rfl) :
    CE T W X (.Call (.Attribute o name apos) (e :: es) [] cpos) (methL mo n g) := by
  refine PEw (pe_bm PySem.F.plainAttrs_list slot hty hm ho ha hbase hfew hline hs hplain) fun σ H Q h => ?_
  obtain ⟨p, l, s, S, L, q⟩ := h
  refine ⟨p, l, s, S, L, ?_⟩
  refine (post.bd (rep := RepV X.K) q).imp fun x H1 ⟨p1, v, s1, e1, E1, S1, r1, q1⟩ => ?_
  split at q1
  · rename_i ws ew
    obtain ⟨a, ys, rfl, hq, _⟩ := r1.asLst S1 ew
    refine ⟨.inl ⟨rfl, ys, hq⟩, p1, l, s1, S1, L.mono E1, ?_⟩
    exact (post.bd (rep := RepVs X.K) q1).imp fun xs H2 ⟨p2, vs, s2, e2, E2, S2, r2, q2⟩ => sd p2 s2 H2 σ v vs _ xs Q S2 (r1.mono E2) r2 q2
  · exact q1.elim
theorem c_methL0 {r : V → List V → Hp → VK → Prop} {g : Val → List Val → Sto → R Val} {o : Expr} {name : Str} {apos cpos : Pos} {id : String} {mo : M Val}
    (slot : Slot "list" name id) (hty : typeOf (.builtin id) = pure (.type "method_descriptor")) (hm : MtR X id r) (sd : SndM T X W r g) (ho : CE T W X o mo)
    (hbase : attributeBase o name X.env (eval o X.env) = eval o X.env := by rfl) (hline : (apos.endLine == cpos.line) = true := by rfl) :
    CE T W X (.Call (.Attribute o name apos) [] [] cpos) (methL mo nilM g) := by
  refine PEw (pe_bm0 PySem.F.plainAttrs_list slot hty hm ho hbase hline) fun σ H Q h => ?_
  obtain ⟨p, l, s, S, L, q⟩ := h
  refine ⟨p, l, s, S, L, ?_⟩
  refine (post.bd (rep := RepV X.K) q).imp fun x H1 ⟨p1, v, s1, e1, E1, S1, r1, q1⟩ => ?_
  split at q1
  · rename_i ws ew
    obtain ⟨a, ys, rfl, hq, _⟩ := r1.asLst S1 ew
    exact ⟨.inl ⟨rfl, ys, hq⟩, sd p1 s1 H1 σ v [] _ [] Q S1 r1 .nil q1⟩
  · exact q1.elim
def appV (v : Val) (vs : List Val) (s : Sto) : R Val := match v with
  | .loc n => match vs with
    | [w] => match s[n]? with
      | some (.lst xs) => if xs.length < 16777216 then .ok .non (s.set n (.lst (xs ++ [w]))) else .bad
      | _ => .bad
    | _ => .bad
  | _ => .bad
theorem s_app : SndM T X W rAppend appV := by
  intro p s H σ v vs x xs Q S r rs q
  cases v with
  | loc n =>
    cases rs with
    | nil => exact q.elim
    | @cons w y ws ys r1 r2 =>
      cases r2 with
      | nil =>
        have q' : post T X.K W (RepV X.K) p H σ (match s[n]? with | some (.lst xs) => if xs.length < 16777216 then .ok .non (s.set n (.lst (xs ++ [w]))) else .bad | _ => .bad) Q := q
        split at q'
        · rename_i zs ez
          split at q'
          · rename_i hz
            cases r with
            | loc hn =>
              obtain ⟨us, eu, ru⟩ := S.lst hn ez
              refine ⟨_, us, y, rfl, rfl, eu, by rw [← ru.len, sizeLine_eq]; exact hz, ?_⟩
              exact q' p _ _ (.write (List.mem_of_getElem? hn)) (S.write hn ⟨_, rfl, ru.app (.cons r1 .nil)⟩) .non
            | dead hn => rw [S.dd n hn] at ez; cases ez
          · exact q'.elim
        · exact q'.elim
      | cons _ _ => exact q.elim
  | _ => exact q.elim
def extV (v : Val) (vs : List Val) (s : Sto) : R Val := match v with
  | .loc n => match vs with
    | [w] => match s[n]? with
      | some (.lst xs) => getO (derefH s w) fun ys => if xs.length + ys.length ≤ 16777216 then .ok .non (s.set n (.lst (xs ++ ys))) else .bad
      | _ => .bad
    | _ => .bad
  | _ => .bad
theorem s_ext : SndM T X W rExtend extV := by
  intro p s H σ v vs x xs Q S r rs q
  cases v with
  | loc n =>
    cases rs with
    | nil => exact q.elim
    | @cons w y ws ys r1 r2 =>
      cases r2 with
      | nil =>
        have q' : post T X.K W (RepV X.K) p H σ (match s[n]? with | some (.lst xs) => getO (derefH s w) fun ys => if xs.length + ys.length ≤ 16777216 then .ok .non (s.set n (.lst (xs ++ ys))) else .bad | _ => .bad) Q := q
        split at q'
        · rename_i zs ez
          obtain ⟨ts, et, q'⟩ := q'.getO
          split at q'
          · rename_i hz
            cases r with
            | loc hn =>
              obtain ⟨us, eu, ru⟩ := S.lst hn ez
              obtain ⟨b, vs, rfl, hb, rb⟩ := r1.asLstH S et
              refine ⟨_, b, us, vs, rfl, rfl, eu, hb, by rw [← ru.len, ← rb.len, sizeLine_eq]; exact hz, ?_⟩
              exact q' p _ _ (.write (List.mem_of_getElem? hn)) (S.write hn ⟨_, rfl, ru.app rb⟩) .non
            | dead hn => rw [S.dd n hn] at ez; cases ez
          · exact q'.elim
        · exact q'.elim
      | cons _ _ => exact q.elim
  | _ => exact q.elim
def popV (v : Val) (vs : List Val) (s : Sto) : R Val := match v with
  | .loc n => match vs with
    | [] => match s[n]? with
      | some (.lst xs) => getO (xs[xs.length - 1]?) fun y => .ok y (s.set n (.lst xs.dropLast))
      | _ => .bad
    | [w] => match w with
      | .int i => match s[n]? with
        | some (.lst xs) => if i.natAbs < 9223372036854775808 then getO (L2.ixN xs.length i) fun k => getO (xs[k]?) fun y => .ok y (s.set n (.lst (xs.eraseIdx k))) else .bad
        | _ => .bad
      | _ => .bad
    | _ => .bad
  | _ => .bad
theorem RepVs.dropLast {K : PySem.W.Frag} {p : Pl} {H : Hp} {vs : List Val} {xs : List V} (r : RepVs K p H vs xs) : RepVs K p H vs.dropLast xs.dropLast := by
  rw [List.dropLast_eq_take, List.dropLast_eq_take, r.len]
  exact r.take _
theorem RepVs.erase {K : PySem.W.Frag} {p : Pl} {H : Hp} : ∀ {vs : List Val} {xs : List V} (k : Nat), RepVs K p H vs xs → RepVs K p H (vs.eraseIdx k) (xs.eraseIdx k)
  | [], _, _, h => by cases h; exact .nil
  | v :: vs, _, 0, h => by cases h with | cons h1 h2 => exact h2
  | v :: vs, _, k + 1, h => by cases h with | cons h1 h2 => exact .cons h1 (RepVs.erase k h2)
theorem s_pop0 : SndM T X W rPop fun v vs s => match vs with
  | [] => popV v vs s
  | _ => .bad := by
  intro p s H σ v vs x xs Q S r rs q
  cases rs with
  | cons _ _ => exact q.elim
  | nil =>
    cases v with
    | loc n =>
      have q' : post T X.K W (RepV X.K) p H σ (match s[n]? with | some (.lst xs) => getO (xs[xs.length - 1]?) fun y => .ok y (s.set n (.lst xs.dropLast)) | _ => .bad) Q := q
      split at q'
      · rename_i zs ez
        obtain ⟨t, et, q'⟩ := q'.getO
        cases r with
        | loc hn =>
          obtain ⟨us, eu, ru⟩ := S.lst hn ez
          obtain ⟨y, ey, ry⟩ := ru.at_ et
          have E := Ext.write (H := H) (o := .lst us.dropLast) (List.mem_of_getElem? hn)
          exact ⟨_, us, y, rfl, rfl, eu, by rw [← ru.len]; exact ey, q' p _ _ E (S.write hn ⟨_, rfl, ru.dropLast⟩) (ry.mono E)⟩
        | dead hn => rw [S.dd n hn] at ez; cases ez
      · exact q'.elim
    | _ => exact q.elim
theorem s_pop1 : SndM T X W rPopAt fun v vs s => match vs with
  | [_] => popV v vs s
  | _ => .bad := by
  intro p s H σ v vs x xs Q S r rs q
  cases rs with
  | nil => exact q.elim
  | @cons w y ws ys r1 r2 =>
    cases r2 with
    | cons _ _ => exact q.elim
    | nil =>
      cases v with
      | loc n =>
        cases w with
        | int i =>
          cases r1
          have q' : post T X.K W (RepV X.K) p H σ (match s[n]? with | some (.lst xs) => if i.natAbs < 9223372036854775808 then getO (L2.ixN xs.length i) fun k => getO (xs[k]?) fun y => .ok y (s.set n (.lst (xs.eraseIdx k))) else .bad | _ => .bad) Q := q
          split at q'
          · rename_i zs ez
            split at q'
            · rename_i hi
              obtain ⟨k, ek, q'⟩ := q'.getO
              obtain ⟨t, et, q'⟩ := q'.getO
              cases r with
              | loc hn =>
                obtain ⟨us, eu, ru⟩ := S.lst hn ez
                obtain ⟨y, ey, ry⟩ := ru.at_ et
                have E := Ext.write (H := H) (o := .lst (us.eraseIdx k)) (List.mem_of_getElem? hn)
                exact ⟨_, us, i, k, y, rfl, rfl, eu, by omega, by omega, by rw [← ru.len]; exact (L2.ixN_seq ek).1, ey, q' p _ _ E (S.write hn ⟨_, rfl, ru.erase k⟩) (ry.mono E)⟩
              | dead hn => rw [S.dd n hn] at ez; cases ez
            · exact q'.elim
          · exact q'.elim
        | _ => exact q.elim
      | _ => exact q.elim

/-! ### zip, enumerate -/
def seqL : Val → Option (List Val)
  | .lst xs => some xs
  | .scr ns => some (ns.map .int)
  | _ => none
def pairsL (xs ys : List Val) : List Val := List.zipWith (fun a b => .tup [a, b]) xs ys
def zipM (n : M (List Val)) : M (List Val) := fun l s => (n l s).bd fun vs s1 => match vs with
  | [v, w] => match v with
    | .tup xs => match w with
      | .tup ys => .ok (pairsL xs ys) s1
      | _ => .bad
    | v => getO (seqL v) fun xs => getO (seqL w) fun ys => .ok (pairsL xs ys) s1
  | _ => .bad
def numL (k : Nat) : List Val → List Val
  | [] => []
  | x :: xs => .tup [.int (k : Nat), x] :: numL (k + 1) xs
def enumM (n : M (List Val)) : M (List Val) := fun l s => (n l s).bd fun vs s1 => match vs with
  | [v] => getO (seqL v) fun xs => .ok (numL 0 xs) s1
  | _ => .bad
theorem numL_len : ∀ (xs : List Val) (k : Nat), (numL k xs).length = xs.length
  | [], _ => rfl
  | x :: xs, k => by unfold numL; rw [List.length_cons, List.length_cons, numL_len xs]
theorem numL_at : ∀ (xs : List Val) (k i : Nat) (v : Val), (numL k xs)[i]? = some v → ∃ x, xs[i]? = some x ∧ v = .tup [.int ((k + i : Nat) : Int), x]
  | [], _, _, _, h => by simp [numL] at h
  | x :: xs, k, 0, v, h => by
    simp [numL] at h
    exact ⟨x, rfl, by rw [← h]; rfl⟩
  | x :: xs, k, i + 1, v, h => by
    obtain ⟨y, e1, e2⟩ := numL_at xs (k + 1) i v (by simpa [numL] using h)
    exact ⟨y, by simpa using e1, by rw [e2, show k + 1 + i = k + (i + 1) by omega]⟩
theorem RepV.asSeq {K : PySem.W.Frag} {p : Pl} {H : Hp} {v : Val} {x : V} {xs : List Val} (r : RepV K p H v x) (h : seqL v = some xs) : ∃ a ys, x = .ref a ∧ (∀ p' H', ExtW p H p' H' → SqL K H' a ys) ∧ RepVs K p H xs ys := by
  cases r with
  | lst h1 h2 h3 => cases h; exact ⟨_, _, rfl, fun p' H' E => .inl (.inl (E.keep _ _ h1 h2)), h3⟩
  | scr h1 h2 => cases h; exact ⟨_, _, rfl, fun p' H' E => .inl (E.rd h1 h2).1, .ofInts _⟩
  | kscr h1 => cases h; exact ⟨_, _, rfl, fun p' H' E => .inr h1, .ofInts _⟩
  | _ => cases h
theorem RepV.asTupW {K : PySem.W.Frag} {p : Pl} {H : Hp} {x : V} {xs : List Val} (r : RepV K p H (.tup xs) x) : ∃ a ys, x = .ref a ∧ (∀ p' H', ExtW p H p' H' → SqT K H' a ys) ∧ RepVs K p H xs ys := by
  cases r with
  | tup h1 h2 h3 => exact ⟨_, _, rfl, fun p' H' E => .inl (E.rd h1 h2).1, h3⟩
  | ktup h1 h3 => exact ⟨_, _, rfl, fun p' H' E => .inr h1, h3⟩
theorem pairsL_at {xs ys : List Val} {i : Nat} {v : Val} (h : (pairsL xs ys)[i]? = some v) : ∃ x y, xs[i]? = some x ∧ ys[i]? = some y ∧ v = .tup [x, y] := by
  unfold pairsL at h
  rw [List.getElem?_zipWith] at h
  cases e1 : xs[i]? with
  | none => rw [e1] at h; cases h
  | some x =>
    cases e2 : ys[i]? with
    | none => rw [e1, e2] at h; cases h
    | some y => rw [e1, e2] at h; cases h; exact ⟨x, y, rfl, rfl, rfl⟩
theorem pairsL_len {xs ys : List Val} : (pairsL xs ys).length = min xs.length ys.length := List.length_zipWith
theorem RepVs.get {K : PySem.W.Frag} {p : Pl} {H : Hp} {vs : List Val} {xs : List V} (r : RepVs K p H vs xs) {i : Nat} (h : i < vs.length) : ∃ x, xs[i]? = some x := by
  obtain ⟨x, e, _⟩ := r.at_ (List.getElem?_eq_getElem h)
  exact ⟨x, e⟩
section
variable {K : PySem.W.Frag} {p : Pl} {H : Hp} {a b : Addr} {xs ys : List Val} {us ws : List V}
theorem src_zip (s1 : ∀ p' H', ExtW p H p' H' → SqL K H' a us) (s2 : ∀ p' H', ExtW p H p' H' → SqL K H' b ws) (r1 : RepVs K p H xs us) (r2 : RepVs K p H ys ws) : Src K p H (pairsL xs ys) (Itz K a b) where
  go i p' H' E hi := by
    rw [pairsL_len] at hi
    obtain ⟨x, e1⟩ := r1.get (i := i) (by omega)
    obtain ⟨y, e2⟩ := r2.get (i := i) (by omega)
    exact ⟨us, ws, x, y, s1 p' H' E, s2 p' H' E, e1, e2⟩
  stop p' H' E := ⟨us, ws, s1 p' H' E, s2 p' H' E, by rw [pairsL_len, ← r1.len, ← r2.len]; omega⟩
  yld i p' s' H' x H'' v E S hv y := by
    obtain ⟨x1, y1, e1, e2, rfl⟩ := pairsL_at hv
    obtain ⟨A, x2, y2, rfl, hA, rfl, h1, h2⟩ := y
    obtain ⟨u, hu, ru⟩ := r1.at_ e1
    obtain ⟨w, hw, rw'⟩ := r2.at_ e2
    have c1 := h1 us (s1 _ _ E)
    have c2 := h2 ws (s2 _ _ E)
    rw [hu] at c1
    rw [hw] at c2
    cases c1
    cases c2
    have EA : Ext p' H' p' (upd H' A (.tup [x2, y2])) := .alloc hA
    exact ⟨EA, S.alloc hA, .tup (.inl upd_same) (S.nohas hA) (.cons ((RepV.monoW E _ _ ru).mono EA) (.cons ((RepV.monoW E _ _ rw').mono EA) .nil))⟩
theorem src_zipT (s1 : ∀ p' H', ExtW p H p' H' → SqT K H' a us) (s2 : ∀ p' H', ExtW p H p' H' → SqT K H' b ws) (r1 : RepVs K p H xs us) (r2 : RepVs K p H ys ws) : Src K p H (pairsL xs ys) (RZ.ItzT K a b) where
  go i p' H' E hi := by
    rw [pairsL_len] at hi
    obtain ⟨x, e1⟩ := r1.get (i := i) (by omega)
    obtain ⟨y, e2⟩ := r2.get (i := i) (by omega)
    exact ⟨us, ws, x, y, s1 p' H' E, s2 p' H' E, e1, e2⟩
  stop p' H' E := ⟨us, ws, s1 p' H' E, s2 p' H' E, by rw [pairsL_len, ← r1.len, ← r2.len]; omega⟩
  yld i p' s' H' x H'' v E S hv y := by
    obtain ⟨x1, y1, e1, e2, rfl⟩ := pairsL_at hv
    obtain ⟨A, x2, y2, rfl, hA, rfl, h1, h2⟩ := y
    obtain ⟨u, hu, ru⟩ := r1.at_ e1
    obtain ⟨w, hw, rw'⟩ := r2.at_ e2
    have c1 := h1 us (s1 _ _ E)
    have c2 := h2 ws (s2 _ _ E)
    rw [hu] at c1
    rw [hw] at c2
    cases c1
    cases c2
    have EA : Ext p' H' p' (upd H' A (.tup [x2, y2])) := .alloc hA
    exact ⟨EA, S.alloc hA, .tup (.inl upd_same) (S.nohas hA) (.cons ((RepV.monoW E _ _ ru).mono EA) (.cons ((RepV.monoW E _ _ rw').mono EA) .nil))⟩
theorem src_enum (s1 : ∀ p' H', ExtW p H p' H' → SqL K H' a us) (r1 : RepVs K p H xs us) : Src K p H (numL 0 xs) (Ite K a) where
  go i p' H' E hi := by
    rw [numL_len] at hi
    obtain ⟨x, e1⟩ := r1.get hi
    exact ⟨us, x, s1 p' H' E, e1⟩
  stop p' H' E := ⟨us, s1 p' H' E, by rw [numL_len, r1.len]; exact Nat.le_refl _⟩
  yld i p' s' H' x H'' v E S hv y := by
    obtain ⟨x1, e1, rfl⟩ := numL_at _ _ _ _ hv
    obtain ⟨A, x2, rfl, hA, rfl, h1⟩ := y
    obtain ⟨u, hu, ru⟩ := r1.at_ e1
    have c1 := h1 us (s1 _ _ E)
    rw [hu] at c1
    cases c1
    have EA : Ext p' H' p' (upd H' A (.tup [.int (i : Nat), x2])) := .alloc hA
    rw [Nat.zero_add]
    exact ⟨EA, S.alloc hA, .tup (.inl upd_same) (S.nohas hA) (.cons (.int _) (.cons ((RepV.monoW E _ _ ru).mono EA) .nil))⟩
end
theorem ci_zip {e e2 : Expr} {n : M (List Val)} {pf pos tpos : Pos} {elts : List Expr} {kk : Nat} (hg : Gl X "zip") (hm : X.mg "zip" = none) (ha : CA T W X [e, e2] n)
    (hs : starEach [e, e2] X.env = (false, eval e X.env) :: starEach [e2] X.env := by rfl) (hpl : (backTo pos (starEach [e2] X.env)).any (·.1) = false := by rfl) :
    CI T W X (.Tuple elts kk tpos) (.Call (.Name "zip" pf) [e, e2] [] pos) (zipM n) := by
  refine PIw (RZ.pi_zipA hg hm ha hs hpl) fun σ H Rr h => ?_
  obtain ⟨p, l, s, S, L, q⟩ := h
  refine ⟨p, l, s, S, L, ?_⟩
  refine (post.bd (rep := RepVs X.K) q).imp fun xs H1 ⟨p1, vs, s1, e1, E1, S1, r1, q1⟩ => ?_
  cases r1 with
  | nil => exact q1.elim
  | @cons v x vs xs r1 r2 =>
    cases r2 with
    | nil => exact q1.elim
    | @cons w y ws ys r2 r3 =>
      cases r3 with
      | cons _ _ => exact q1.elim
      | nil =>
        have gen : post T X.K W (rSrc X.K) p1 H1 σ (getO (seqL v) fun xs => getO (seqL w) fun ys => .ok (pairsL xs ys) s1) Rr →
            ∃ a b xs ys, [x, y] = [V.ref a, V.ref b] ∧ ((SqL X.K H1 a xs ∧ SqL X.K H1 b ys ∧ Rr (Itz X.K a b) H1) ∨ (SqT X.K H1 a xs ∧ SqT X.K H1 b ys ∧ Rr (RZ.ItzT X.K a b) H1)) := fun q => by
          obtain ⟨zs, ez, q⟩ := q.getO
          obtain ⟨ts, et, q⟩ := q.getO
          obtain ⟨a, us, rfl, h1, rr1⟩ := r1.asSeq ez
          obtain ⟨b, ws, rfl, h2, rr2⟩ := r2.asSeq et
          exact ⟨a, b, us, ws, rfl, .inl ⟨h1 _ _ Ext.refl.w, h2 _ _ Ext.refl.w, q p1 H1 _ .refl S1 (src_zip h1 h2 rr1 rr2)⟩⟩
        cases v with
        | tup xs =>
          cases w with
          | tup ys =>
            obtain ⟨a, us, rfl, h1, rr1⟩ := r1.asTupW
            obtain ⟨b, ws, rfl, h2, rr2⟩ := r2.asTupW
            exact ⟨a, b, us, ws, rfl, .inr ⟨h1 _ _ Ext.refl.w, h2 _ _ Ext.refl.w, q1 p1 H1 _ .refl S1 (src_zipT h1 h2 rr1 rr2)⟩⟩
          | _ => exact q1.elim
        | lst xs => exact gen q1
        | scr xs => exact gen q1
        | loc xs => exact gen q1
        | non => exact gen q1
        | emp => exact gen q1
        | bl xs => exact gen q1
        | int xs => exact gen q1
        | str xs => exact gen q1
theorem ci_enum {e : Expr} {n : M (List Val)} {pf pos tpos : Pos} {elts : List Expr} {kk : Nat} (hg : Gl X "enumerate") (hm : X.mg "enumerate" = none) (ha : CA T W X [e] n) (hs : starEach [e] X.env = [(false, eval e X.env)] := by rfl) :
    CI T W X (.Tuple elts kk tpos) (.Call (.Name "enumerate" pf) [e] [] pos) (enumM n) := by
  refine PIw (pi_enum hg hm ha hs) fun σ H Rr h => ?_
  obtain ⟨p, l, s, S, L, q⟩ := h
  refine ⟨p, l, s, S, L, ?_⟩
  refine (post.bd (rep := RepVs X.K) q).imp fun xs H1 ⟨p1, vs, s1, e1, E1, S1, r1, q1⟩ => ?_
  cases r1 with
  | nil => exact q1.elim
  | @cons v x vs xs r1 r2 =>
    cases r2 with
    | cons _ _ => exact q1.elim
    | nil =>
      have q' : post T X.K W (rSrc X.K) p1 H1 σ (getO (seqL v) fun xs => .ok (numL 0 xs) s1) Rr := q1
      obtain ⟨zs, ez, q'⟩ := q'.getO
      obtain ⟨a, us, rfl, h1, rr1⟩ := r1.asSeq ez
      exact ⟨a, us, rfl, h1 _ _ Ext.refl.w, q' p1 H1 _ .refl S1 (src_enum h1 rr1)⟩

/-! ### xs[::-1] -/
theorem applied_rev {prog : Program} {w : World} {A : Around} {E : Value → Shared → Prop} {s : Shared} {sl : Addr} {vl vu vs : Value} {n : Nat} {Q : Int × Int × Nat → Shared → Prop} (hs : s.heap.IsSliceOf sl vl vu vs) (pl : IsPart vl Option.none) (pu : IsPart vu Option.none) (ps : IsPart vs (some (-1)))
    (h : Q ((n : Int) - 1, -1, n) s) : wpAny (model prog w) A (Builtin.Slice.sliceApplied (.ref sl) (pure (n : Int))) Q E s := by
  obtain ⟨os, hos, hcs, hds⟩ := id hs
  unfold Builtin.Slice.sliceApplied Builtin.Slice.sliceFields
  refine wpAny_bind (wpAny_bind (wpAny_field hos hds (x := vl) rfl (wpAny_bind (wpAny_field hos hds (x := vu) rfl (wpAny_bind (wpAny_field hos hds (x := vs) rfl (wpAny_pure ?_)))))))
  refine wpAny_bind (HT.slicePart_ ps ?_)
  show wpAny _ _ (if ((-1 : Int) == 0) = true then _ else _) _ _ s
  rw [if_neg (by decide)]
  refine wpAny_bind (HT.slicePart_ pl (wpAny_bind (HT.slicePart_ pu (wpAny_bind (wpAny_pure ?_)))))
  show wpAny _ _ (pure ((n : Int) - 1, (-1 : Int), Builtin.Slice.slicePlaces ((n : Int) - 1) (-1) (-1))) _ _ s
  have e : Builtin.Slice.slicePlaces ((n : Int) - 1) (-1) (-1) = n := by
    unfold Builtin.Slice.slicePlaces
    have h1 : ¬ ((-1 : Int) > 0) := by decide
    simp only [h1, if_false]
    by_cases hn : n = 0
    · subst hn; rfl
    · have h2 : (n : Int) - 1 > -1 := by omega
      rw [if_pos h2, show (- -1 : Int) = 1 by decide, Int.ediv_one]
      omega
  rw [e]
  exact wpAny_pure h
theorem pick_rev (xs : Array Value) : ((List.range xs.size).filterMap fun (m : Nat) => xs[((xs.size : Int) - 1 + (m : Int) * -1).toNat]?).toArray = xs.toList.reverse.toArray := by
  have e : (fun (m : Nat) => xs[((xs.size : Int) - 1 + (m : Int) * -1).toNat]?) = (fun k => xs[k]?) ∘ fun m => xs.size - 1 - m := by
    funext m
    have : ((xs.size : Int) - 1 + (m : Int) * -1).toNat = xs.size - 1 - m := by omega
    show xs[_]? = xs[_]?
    rw [this]
  rw [e, ← List.filterMap_map, PySem.W.krv_range, List.filterMap_reverse, PySem.W.krv_all]
theorem getItem_rev {prog : Program} {w : World} {A : Around} {E : Value → Shared → Prop} {s : Shared} {t sl : Addr} {items : Array Value} {vl vu vs : Value} {Q : Value → Shared → Prop} (ht : IsTup s.heap t items) (hs : s.heap.IsSliceOf sl vl vu vs) (pl : IsPart vl Option.none) (pu : IsPart vu Option.none) (ps : IsPart vs (some (-1)))
    (h : Q (.ref s.heap.objs.size) { s with heap := s.heap.push { cls := .type "tuple", data := .seq items.toList.reverse.toArray } })
    (hsz : items.size ≤ sizeLine) : wpAny (model prog w) A (getItem (.ref t) (.ref sl)) Q E s := by
  have htake : sizeOk (.seq items.toList.reverse.toArray) := by
    show items.toList.reverse.toArray.size ≤ sizeLine
    rw [List.size_toArray, List.length_reverse, Array.length_toList]
    exact hsz
  obtain ⟨os, hos, hcs, hds⟩ := id hs
  have hTs : s.TypeIs (.ref sl) "slice" := ⟨os, hos, hcs⟩
  unfold getItem
  try with_reducible refine wpAny_holding ?_
  first | refine wpAny_bind (wpAny_pure ?_) | skip
  refine wpAny_bind (wpAny_sequenceKey ht.typeIs (by decide) ?_)
  refine wpAny_bind (wpAny_callSpecial?_slot (name := Str.ofString "__getitem__") ht.typeIs PyProof.Rows.slot_tuple_getitem
    (wpAny_call_entry PyProof.Rows.slot_tuple_getitem ht.typeIs entry_tuple_getitem ?_ (args_tuple_getitem _ _)))
  show wpAny _ _ (Builtin.Tuple.tupleItemsOf (.ref t) >>= _) _ _ s
  refine wpAny_bind (tupleItemsOf_ ht ?_)
  refine wpAny_bind (wpAny_typeOf hTs ?_)
  rw [if_pos (by decide)]
  refine wpAny_bind (applied_rev hs pl pu ps ?_)
  have hno : ¬ ((((items.size : Nat) : Int) - 1 == 0 && (-1 : Int) == 1 && items.size == items.size) = true) := by
    intro q
    rw [Bool.and_eq_true, Bool.and_eq_true] at q
    exact absurd (eq_of_beq q.1.2) (by decide)
  show wpAny _ _ (if (((items.size : Nat) : Int) - 1 == 0 && (-1 : Int) == 1 && items.size == items.size) = true then _ else _) _ _ s
  rw [if_neg hno, pick_rev]
  first
    | exact wpAny_bind (m := Builtin.Tuple.tupleExact _) (wpAny_newObj_type (wpAny_pure ⟨_, rfl, wpAny_pure h⟩) htake)
    | exact wpAny_bind (m := Builtin.Tuple.tupleExact _) (wpAny_newObj_type (wpAny_bind (wpAny_pure (wpAny_pure ⟨_, rfl, wpAny_pure h⟩))) htake)
    | exact wpAny_bind (wpAny_bind (m := Builtin.Tuple.tupleExact _) (wpAny_newObj_type (wpAny_pure (wpAny_pure ⟨_, rfl, wpAny_pure h⟩)) htake))
    | exact wpAny_bind (wpAny_bind (m := Builtin.Tuple.tupleExact _) (wpAny_newObj_type (wpAny_pure ⟨_, rfl, wpAny_pure h⟩) htake))
def tRev (K : PySem.W.Frag) (te : TE) : TE := fun σ H Q => te σ H fun x H1 => ∃ a xs, x = .ref a ∧ ((SqL K H1 a xs ∧ ∀ p, H1 p = none → Q (.ref p) (upd H1 p (.lst xs.reverse))) ∨ (SqT K H1 a xs ∧ ∀ p, H1 p = none → Q (.ref p) (upd H1 p (.tup xs.reverse))))
theorem pe_rev {e : Expr} {te : TE} {k : Nat} {p1 p2 p3 pos : Pos} (he : PE X e te) : PE X (.Subscript e (.Slice none none (some (.UnaryOp .USub (.Constant (.int 1) k p1) p2)) p3) pos) (tRev X.K te) := by
  refine ⟨fun pins s σ H Q I h => ?_⟩
  refine Subscript_ (thn (he.run pins s σ H _ I h) fun v s1 ⟨x, H1, I1, r1, q1⟩ => ?_)
  obtain ⟨a, xs, ex, q⟩ := q1
  subst ex
  cases r1
  have hst : PO X (some (.UnaryOp .USub (.Constant (.int 1) k p1) p2)) (tPart (tUn (rU fun i => .int (-i)) (tC (.int 1)))) := po_some (pe_un un_neg pe_int)
  refine wpAny_Slice (thn (po_none.run pins s1 σ H1 (fun o H2 => o = none ∧ H2 = H1) I1 ⟨rfl, rfl⟩) fun vl s2 ⟨l, H2, I2, pl, el, e2⟩ => ?_)
  subst el e2
  refine thn (po_none.run pins s2 σ H2 (fun o H3 => o = none ∧ H3 = H2) I2 ⟨rfl, rfl⟩) fun vu s3 ⟨u, H3, I3, pu, eu, e3⟩ => ?_
  subst eu e3
  refine thn (hst.run pins s3 σ H3 (fun o H4 => o = some (-1) ∧ H4 = H3) I3 ⟨1, rfl, -1, rfl, rfl, rfl⟩) fun vs s4 ⟨o, H4, I4, ps, eo, e4⟩ => ?_
  subst eo e4
  have I5 : Inv X pins σ H4 { s4 with heap := s4.heap.push { cls := .type "slice", data := .fields #[vl, vu, vs] } } := I4.kept (t' := s4.toks) fun b ob q => Heap.get?_push_of_some _ q
  show wpAny (model X.prog X.w) X.A (subscriptTail e (.Slice none none (some (.UnaryOp .USub (.Constant (.int 1) k p1) p2)) p3) (.ref a) (.ref s4.heap.objs.size)) (EP X pins σ Q) X.xe { s4 with heap := s4.heap.push { cls := .type "slice", data := .fields #[vl, vu, vs] } }
  rcases q with ⟨hx, q⟩ | ⟨hx, q⟩
  · obtain ⟨its, r, ht, hz⟩ := I5.list hx
    have hlen := r.length
    refine tail_any (ops := [.ref a, .ref s4.heap.objs.size]) ht.isList.typeIs (PySem.slot_list_getitem.lookup) ?_ (by with_unfolding_all rfl)
    refine wpAny_getItem_list_slice ht.isList (Heap.IsSliceOf.new _ vl vu vs) pl pu ps (by decide) ?_ (by rw [List.size_toArray]; omega)
    rw [PySem.W.krv_pick]
    refine ⟨.ref _, _, I5.laid (t' := s4.toks) (o := .lst xs.reverse) (fun b ob q => Heap.get?_push_of_some _ q) (Nat.le_refl _) ?_, rfl, q _ (I5.hok.fresh (Nat.le_refl _))⟩
    exact ⟨by rw [List.length_reverse]; exact hz, _, 0, r.reverse, Heap.get?_push_size _ rfl⟩
  · obtain ⟨its, r, ht, hz⟩ := I5.tuple hx
    have hlen := r.length
    refine tail_any (ops := [.ref a, .ref s4.heap.objs.size]) ht.typeIs (PyProof.Rows.slot_tuple_getitem.lookup) ?_ (by with_unfolding_all rfl)
    refine getItem_rev ht (Heap.IsSliceOf.new _ vl vu vs) pl pu ps ?_ (by rw [List.size_toArray]; omega)
    refine ⟨.ref _, _, I5.laid (t' := s4.toks) (o := .tup xs.reverse) (fun b ob q => Heap.get?_push_of_some _ q) (Nat.le_refl _) ?_, rfl, q _ (I5.hok.fresh (Nat.le_refl _))⟩
    exact ⟨by rw [List.length_reverse]; exact hz, _, r.reverse, IsTup.new _ _⟩
theorem RepVs.rev {K : PySem.W.Frag} {p : Pl} {H : Hp} : ∀ {vs : List Val} {xs : List V}, RepVs K p H vs xs → RepVs K p H vs.reverse xs.reverse
  | [], _, h => by cases h; exact .nil
  | v :: vs, _, h => by
    cases h with
    | cons h1 h2 => rw [List.reverse_cons, List.reverse_cons]; exact h2.rev.app (.cons h1 .nil)
def revV (v : Val) (s : Sto) : R Val := match v with
  | .tup xs => .ok (.tup xs.reverse) s
  | v => getO (deref s v) fun xs => .ok (.lst xs.reverse) s
theorem c_rev {e : Expr} {m : M Val} {k : Nat} {p1 p2 p3 pos : Pos} (ha : CE T W X e m) : CE T W X (.Subscript e (.Slice none none (some (.UnaryOp .USub (.Constant (.int 1) k p1) p2)) p3) pos) (una m revV) := by
  refine PEw (pe_rev ha) fun σ H Q h => ?_
  obtain ⟨p, l, s, S, L, q⟩ := h
  refine ⟨p, l, s, S, L, ?_⟩
  refine (post.bd (rep := RepV X.K) q).imp fun x H1 ⟨p1, v, s1, e1, E1, S1, r1, q1⟩ => ?_
  have gen : post T X.K W (RepV X.K) p1 H1 σ (getO (deref s1 v) fun xs => .ok (.lst xs.reverse) s1) Q → ∃ a xs, x = .ref a ∧ ((SqL X.K H1 a xs ∧ ∀ p, H1 p = none → Q (.ref p) (upd H1 p (.lst xs.reverse))) ∨ (SqT X.K H1 a xs ∧ ∀ p, H1 p = none → Q (.ref p) (upd H1 p (.tup xs.reverse)))) := fun q => by
    obtain ⟨xs, ex, q⟩ := q.getO
    obtain ⟨a, ys, rfl, hq, rs⟩ := r1.asLst S1 ex
    exact ⟨a, ys, rfl, .inl ⟨hq, fun c hc => q.lst S1 rs.rev c hc⟩⟩
  cases v with
  | tup xs =>
    obtain ⟨a, ys, rfl, hq, rs⟩ := r1.asTup
    exact ⟨a, ys, rfl, .inr ⟨hq, fun c hc => post.tup (vs := xs.reverse) q1 S1 rs.rev c hc⟩⟩
  | lst xs => exact gen q1
  | scr xs => exact gen q1
  | loc xs => exact gen q1
  | non => exact gen q1
  | emp => exact gen q1
  | bl xs => exact gen q1
  | int xs => exact gen q1
  | str xs => exact gen q1

/-! ### a constant of the module -/
theorem c_globI {x : Str} {i : Int} {pos : Pos} (hm : ∃ t, X.mg x = some (.int i t)) (hg : Gl X x := by rfl) (hd : (x == ("__debug__" : Str)) = false := by decide) : CE T W X (.Name x pos) (cst (.int i)) :=
  let ⟨_, h⟩ := hm
  c_cst (pe_glob hg h (show RelV (.int i) _ from ⟨_, rfl⟩) hd) fun _ _ => .int i
theorem c_globS {x y : Str} {pos : Pos} (hm : ∃ t, X.mg x = some (.str y t)) (hg : Gl X x := by rfl) (hd : (x == ("__debug__" : Str)) = false := by decide) : CE T W X (.Name x pos) (cst (.str y)) :=
  let ⟨_, h⟩ := hm
  c_cst (pe_glob hg h (show RelV (.str y) _ from ⟨_, rfl⟩) hd) fun _ _ => .str y

/-! ### isinstance with two types -/
def isi2V (t u : Ty) (v : Val) (s : Sto) : R Val := if live s v = true then .ok (.bl (isa t v || isa u v)) s else .bad
theorem c_isi2 {ev : Expr} {m : M Val} {pt pu ptt pf pos : Pos} {k : Nat} (t u : Ty) {tn un : Str} (hg : Gl X "isinstance") (hm : X.mg "isinstance" = none) (hgt : Gl X tn) (hmt : X.mg tn = none) (hvt : bootBuiltins tn = some (.type t.nm)) (hgu : Gl X un) (hmu : X.mg un = none) (hvu : bootBuiltins un = some (.type u.nm)) (ha : CE T W X ev m)
    (hn : tn ≠ "__name__" := by decide) (hdb : (tn == ("__debug__" : Str)) = false := by decide) (hn2 : un ≠ "__name__" := by decide) (hdb2 : (un == ("__debug__" : Str)) = false := by decide)
    (h1 : starEach [ev, .Tuple [.Name tn pt, .Name un pu] k ptt] X.env = (false, eval ev X.env) :: starEach [.Tuple [.Name tn pt, .Name un pu] k ptt] X.env := by rfl) (h2 : starEach [.Tuple [.Name tn pt, .Name un pu] k ptt] X.env = (false, eval (.Tuple [.Name tn pt, .Name un pu] k ptt) X.env) :: starEach [] X.env := by rfl)
    (h3 : starEach [.Name tn pt, .Name un pu] X.env = (false, eval (.Name tn pt) X.env) :: starEach [.Name un pu] X.env := by rfl) (h4 : starEach [.Name un pu] X.env = (false, eval (.Name un pu) X.env) :: starEach [] X.env := by rfl)
    (hpl : (backTo pos (starEach [.Tuple [.Name tn pt, .Name un pu] k ptt] X.env)).any (·.1) = false := by rfl) :
    CE T W X (.Call (.Name "isinstance" pf) [ev, .Tuple [.Name tn pt, .Name un pu] k ptt] [] pos) (una m (isi2V t u)) := by
  refine PEw (pe_callB call_isiT hg hm (by decide +kernel) (pa_cons ha (pa_cons (pe_tup (pa_cons (pe_bltn (v := .ty t.nm) hgt hmt hvt rfl hn hdb) (pa_cons (pe_bltn (v := .ty u.nm) hgu hmu hvu rfl hn2 hdb2) pa_nil h4) h3)) pa_nil h2) h1) (by decide) (by decide) h1 hpl) fun σ H Q h => ?_
  obtain ⟨p, l, s, S, L, q⟩ := h
  refine ⟨p, l, s, S, L, ?_⟩
  refine (post.bd (rep := RepV X.K) q).imp fun x H1 ⟨p1, v, s1, e1, E1, S1, r1, q1⟩ => ?_
  unfold isi2V at q1
  split at q1
  rotate_left
  · exact q1.elim
  rename_i lv
  refine ⟨by show 2 ≤ sizeLine; decide, fun A hA => ?_⟩
  have EA : Ext p1 H1 p1 (upd H1 A (.tup [.ty t.nm, .ty u.nm])) := .alloc hA
  have SA := S1.alloc (o := .tup [.ty t.nm, .ty u.nm]) hA
  obtain ⟨b, ty, hk⟩ := (r1.mono EA).tyx SA lv
  refine ⟨x, A, [.ty t.nm, .ty u.nm], .type b, [.type t.nm, .type u.nm], isa t v || isa u v, rfl, upd_same, .cons (.ty _) (.cons (.ty _) .nil), ty, ?_, q1 p1 _ _ EA SA (.bl _)⟩
  refine kitAny_cons (kit_ty (hk t)) (fun z => kitAny_cons (kit_ty (hk u)) (fun z2 => ?_) fun z2 => ?_) fun z => ?_
  · rw [z, z2]; exact kitAny_nil
  · rw [z2, Bool.or_true]
  · rw [z, Bool.true_or]
end
end Mn
set_option maxHeartbeats 4000000
/-! Mini10: short rules for Mini9. -/
namespace Mn
open PySem PySem.Spec PyProof.Rows L2
section
variable {T : Tab} {W : WX} {X : Cx} {pf pos : Pos} {e : Expr} {n : M (List Val)}
def par3B (i j k : Nat) (n : M (List Val)) : B := fun l s => (n l s).rb l fun vs s1 => match vs with
  | [v, w, u] => .nx (((l.set i (some v)).set j (some w)).set k (some u)) s1
  | _ => .bad
theorem cs_par3 [Triv T] (i j k : Nat) {x y z : Str} {a b c : Expr} {n : M (List Val)} {px py pz pt : Pos} {kt k2 pt2} (hc : X.calm = true) (hN : X.N.Nodup) (ha : CA T W X [a, b, c] n) (hi : X.N[i]? = some x := by rfl) (hj : X.N[j]? = some y := by rfl) (hk : X.N[k]? = some z := by rfl) (hij : i ≠ j := by decide) (hik : i ≠ k := by decide) (hjk : j ≠ k := by decide)
    (hx : X.env.scope.names.lookup x = some .local := by rfl) (hy : X.env.scope.names.lookup y = some .local := by rfl) (hz : X.env.scope.names.lookup z = some .local := by rfl)
    (hw : swappedStores [.Tuple [.Name x px, .Name y py, .Name z pz] kt pt] (.Tuple [a, b, c] k2 pt2) X.env = pure (some [x, y, z]) := by rfl)
    (hs : swapsWithSole [.Tuple [.Name x px, .Name y py, .Name z pz] kt pt] (.Tuple [a, b, c] k2 pt2) pos.line X.env = pure false := by rfl) :
    CS T W X (.Assign [.Tuple [.Name x px, .Name y py, .Name z pz] kt pt] (.Tuple [a, b, c] k2 pt2) pos) (par3B i j k n) := by
  refine PSw (ps_par3 hc hN hi hj hk hij hik hjk hx hy hz ha hw hs) fun D σ H h => ?_
  obtain ⟨p, l, s, S, L, q⟩ := h
  refine ⟨p, l, s, S, L, ?_⟩
  refine (postS.lift (rep := RepVs X.K) q L).imp fun xs H1 ⟨p1, vs, s1, e1, E1, S1, r1, q1⟩ => ?_
  cases r1 with
  | nil => exact q1.elim
  | cons r1 r2 =>
    cases r2 with
    | nil => exact q1.elim
    | cons r2 r3 =>
      cases r3 with
      | nil => exact q1.elim
      | cons r3 r4 =>
        cases r4 with
        | nil => exact ⟨_, _, _, rfl, q1 p1 _ H1 .refl S1 ((((L.mono E1).set r1).set r2).set r3)⟩
        | cons _ _ => exact q1.elim
theorem k_append {o e : Expr} {apos cpos : Pos} {mo : M Val} {n : M (List Val)} (ho : CE T W X o mo) (ha : CA T W X [e] n)
    (hbase : attributeBase o "append" X.env (eval o X.env) = eval o X.env := by rfl)
    (hfew : ((backTo cpos (starEach [e] X.env)).all (fun x => !x.1) && (backToKw cpos (keywordEach [] X.env)).all (fun x => x.1.isSome)
      && decide (([e] : List Expr).length + ([] : List Keyword).length + (if ([] : List Keyword).isEmpty then 0 else 1) < 30)) = true := by rfl)
    (hline : (apos.endLine == cpos.line) = true := by rfl) (hs : starEach [e] X.env = (false, eval e X.env) :: starEach [] X.env := by rfl) (hplain : (backTo cpos (starEach [] X.env)).any (·.1) = false := by rfl) :
    CE T W X (.Call (.Attribute o "append" apos) [e] [] cpos) (methL mo n appV) := c_methL PySem.F.slot_list_append PySem.F.type_list_append mt_append s_app ho ha hbase hfew hline hs hplain
theorem k_extend {o e : Expr} {apos cpos : Pos} {mo : M Val} {n : M (List Val)} (ho : CE T W X o mo) (ha : CA T W X [e] n)
    (hbase : attributeBase o "extend" X.env (eval o X.env) = eval o X.env := by rfl)
    (hfew : ((backTo cpos (starEach [e] X.env)).all (fun x => !x.1) && (backToKw cpos (keywordEach [] X.env)).all (fun x => x.1.isSome)
      && decide (([e] : List Expr).length + ([] : List Keyword).length + (if ([] : List Keyword).isEmpty then 0 else 1) < 30)) = true := by rfl)
    (hline : (apos.endLine == cpos.line) = true := by rfl) (hs : starEach [e] X.env = (false, eval e X.env) :: starEach [] X.env := by rfl) (hplain : (backTo cpos (starEach [] X.env)).any (·.1) = false := by rfl) :
    CE T W X (.Call (.Attribute o "extend" apos) [e] [] cpos) (methL mo n extV) := c_methL PySem.F.slot_list_extend PySem.F.type_list_extend mt_extend s_ext ho ha hbase hfew hline hs hplain
def pop1V (v : Val) (vs : List Val) (s : Sto) : R Val := match vs with
  | [_] => popV v vs s
  | _ => .bad
def pop0V (v : Val) (vs : List Val) (s : Sto) : R Val := match vs with
  | [] => popV v vs s
  | _ => .bad
theorem k_pop1 {o e : Expr} {apos cpos : Pos} {mo : M Val} {n : M (List Val)} (ho : CE T W X o mo) (ha : CA T W X [e] n)
    (hbase : attributeBase o "pop" X.env (eval o X.env) = eval o X.env := by rfl)
    (hfew : ((backTo cpos (starEach [e] X.env)).all (fun x => !x.1) && (backToKw cpos (keywordEach [] X.env)).all (fun x => x.1.isSome)
      && decide (([e] : List Expr).length + ([] : List Keyword).length + (if ([] : List Keyword).isEmpty then 0 else 1) < 30)) = true := by rfl)
    (hline : (apos.endLine == cpos.line) = true := by rfl) (hs : starEach [e] X.env = (false, eval e X.env) :: starEach [] X.env := by rfl) (hplain : (backTo cpos (starEach [] X.env)).any (·.1) = false := by rfl) :
    CE T W X (.Call (.Attribute o "pop" apos) [e] [] cpos) (methL mo n pop1V) := c_methL PySem.F.slot_list_pop PySem.F.type_list_pop mt_popAt s_pop1 ho ha hbase hfew hline hs hplain
theorem k_pop0 {o : Expr} {apos cpos : Pos} {mo : M Val} (ho : CE T W X o mo)
    (hbase : attributeBase o "pop" X.env (eval o X.env) = eval o X.env := by rfl) (hline : (apos.endLine == cpos.line) = true := by rfl) :
    CE T W X (.Call (.Attribute o "pop" apos) [] [] cpos) (methL mo nilM pop0V) := c_methL0 PySem.F.slot_list_pop PySem.F.type_list_pop mt_pop s_pop0 ho hbase hline
end
end Mn
set_option maxHeartbeats 4000000
/-! Mini8: how the own meanings are reckoned with. -/
namespace Mn
open PySem PySem.Spec PyProof.Rows L2
section
variable {α β : Type} {a : α} {s : Sto} {e : Exn} {f : α → Sto → R β} {fb : α → Sto → RB} {l : Loc}
theorem bd_ok : (R.ok a s).bd f = f a s := rfl
theorem bd_ex : (R.ex e s : R α).bd f = .ex e s := rfl
theorem bd_bad : (R.bad : R α).bd f = .bad := rfl
theorem rb_ok : (R.ok a s).rb l fb = fb a s := rfl
theorem rb_ex : (R.ex e s : R α).rb l fb = .ex e l s := rfl
theorem rb_bad : (R.bad : R α).rb l fb = .bad := rfl
theorem noex_ok : noex (R.ok a s) = .ok a s := rfl
theorem getO_some {o : α} {g : α → R β} : getO (some o) g = g o := rfl
end
def RB.tn (r : RB) (c : B) : RB := match r with
  | .nx l1 s1 => c l1 s1
  | r => r
def RB.fn (r : RB) : R Val := match r with
  | .nx _ s1 => .ok .non s1
  | .rt v s1 => .ok v s1
  | .ex e _ s1 => .ex e s1
  | _ => .bad
def toB (v : Val) (s : Sto) : R Bool := match v with
  | .bl b => .ok b s
  | _ => .bad
def notK (v : Val) (s : Sto) : R Val := match v with
  | .bl b => .ok (.bl (!b)) s
  | _ => .bad
def andK (m : M Val) (l : Loc) (v : Val) (s : Sto) : R Val := match v with
  | .bl true => m l s
  | .bl false => .ok (.bl false) s
  | _ => .bad
def orK (m : M Val) (l : Loc) (v : Val) (s : Sto) : R Val := match v with
  | .bl true => .ok (.bl true) s
  | .bl false => m l s
  | _ => .bad
def parK (i j : Nat) (l : Loc) (vs : List Val) (s : Sto) : RB := match vs with
  | [v, w] => .nx ((l.set i (some v)).set j (some w)) s
  | _ => .bad
section
variable {l : Loc} {s : Sto} {c : B} {v w : Val} {e : Exn} {m : M Val} {i j : Nat} {b : Bool}
theorem tn_nx : (RB.nx l s).tn c = c l s := rfl
theorem tn_rt : (RB.rt v s).tn c = .rt v s := rfl
theorem tn_ex : (RB.ex e l s).tn c = .ex e l s := rfl
theorem tn_bk : (RB.bk l s).tn c = .bk l s := rfl
theorem tn_ct : (RB.ct l s).tn c = .ct l s := rfl
theorem tn_bad : RB.bad.tn c = .bad := rfl
theorem fn_nx : (RB.nx l s).fn = .ok .non s := rfl
theorem fn_rt : (RB.rt v s).fn = .ok v s := rfl
theorem fn_ex : (RB.ex e l s).fn = .ex e s := rfl
theorem fn_bad : RB.bad.fn = .bad := rfl
theorem toB_bl : toB (.bl b) s = .ok b s := rfl
theorem notK_bl : notK (.bl b) s = .ok (.bl (!b)) s := rfl
theorem andK_t : andK m l (.bl true) s = m l s := rfl
theorem andK_f : andK m l (.bl false) s = .ok (.bl false) s := rfl
theorem andK_b : andK m l (.bl b) s = if b = true then m l s else .ok (.bl false) s := by cases b <;> rfl
theorem orK_b : orK m l (.bl b) s = if b = true then .ok (.bl true) s else m l s := by cases b <;> rfl
theorem parK_2 : parK i j l [v, w] s = .nx ((l.set i (some v)).set j (some w)) s := rfl
theorem lk_0 : lk 0 (some v :: l) s = .ok v s := rfl
theorem lk_s {x : Option Val} : lk (i + 1) (x :: l) s = lk i l s := rfl
end
section
variable {α : Type} {x y z u w : α} {xs : List α}
theorem atI_0 : L2.atI (x :: xs) 0 = some x := atI_nat (j := 0) rfl
theorem atI_1 : L2.atI (x :: y :: xs) 1 = some y := atI_nat (j := 1) rfl
theorem atI_2 : L2.atI (x :: y :: z :: xs) 2 = some z := atI_nat (j := 2) rfl
theorem atI_3 : L2.atI (x :: y :: z :: u :: xs) 3 = some u := atI_nat (j := 3) rfl
theorem ixN_0 {n : Nat} (h : 0 < n) : L2.ixN n 0 = some 0 := by unfold L2.ixN; rw [if_pos (by decide), if_pos (by omega)]; rfl
theorem ixN_1 {n : Nat} (h : 1 < n) : L2.ixN n 1 = some 1 := by unfold L2.ixN; rw [if_pos (by decide), if_pos (by omega)]; rfl
end
section
variable {s : Sto} {l : Loc} {ma mb mc : M Val} {g g' : Val → Val → Sto → R Val} {h1 : Val → Sto → R Val} {t : M Bool} {b c : B} {tg : Tg} {n nk : M (List Val)} {i j : Int} {vs ws : List Val} {v w : Val}
theorem e_bin : bin ma mb g l s = (ma l s).bd fun v s1 => (mb l s1).bd fun w s2 => g v w s2 := rfl
theorem e_una : una ma h1 l s = (ma l s).bd h1 := rfl
theorem e_cst : cst v l s = .ok v s := rfl
theorem e_sq_nx {l1 : Loc} {s1 : Sto} (h : b l s = .nx l1 s1) : sq b c l s = c l1 s1 := by unfold sq; rw [h]
theorem e_sq : sq b c l s = (b l s).tn c := rfl
theorem e_asg : asgB ma tg l s = (ma l s).rb l fun v s1 => (tg v l s1).rb l fun l1 s2 => .nx l1 s2 := rfl
theorem e_ret : retB ma l s = (ma l s).rb l fun v s1 => .rt v s1 := rfl
theorem e_drop : dropB ma l s = (ma l s).rb l fun _ s1 => .nx l s1 := rfl
theorem e_ifB : ifB t b c l s = (t l s).rb l fun k s1 => if k = true then b l s1 else c l s1 := rfl
theorem e_pass : passB l s = .nx l s := rfl
theorem e_retN : retN l s = .rt .non s := rfl
theorem e_bad : badB l s = .bad := rfl
theorem e_name {k : Nat} : nameT k v l s = .ok (l.set k (some v)) s := rfl
theorem e_consM : consM ma n l s = (ma l s).bd fun v s1 => (n l s1).bd fun vs s2 => .ok (v :: vs) s2 := rfl
theorem e_nilM : nilM l s = .ok [] s := rfl
theorem e_callU {f : Fn} : callU n f l s = (n l s).bd f := rfl
theorem e_callG {f : List Val → Sto → R Val} : callG n f l s = (n l s).bd f := rfl
theorem e_g1 {f : Val → Sto → R Val} : g1 f [v] s = f v s := rfl
theorem e_g2 {f : Val → Val → Sto → R Val} : g2 f [v, w] s = f v w s := rfl
theorem e_asB : asB ma l s = (ma l s).bd toB := rfl
theorem e_tru : tru ma l s = (ma l s).bd truV := rfl
theorem e_ifV : ifV t ma mb l s = (t l s).bd fun b s1 => if b = true then ma l s1 else mb l s1 := rfl
theorem e_andM {u : M Bool} : andM t u l s = (t l s).bd fun b s1 => if b = true then u l s1 else .ok false s1 := rfl
theorem e_orM {u : M Bool} : orM t u l s = (t l s).bd fun b s1 => if b = true then .ok true s1 else u l s1 := rfl
theorem e_notM : notM t l s = (t l s).bd fun b s1 => .ok (!b) s1 := rfl
theorem e_add : addV (.int i) (.int j) s = .ok (.int (i + j)) s := rfl
theorem e_sub : subV (.int i) (.int j) s = .ok (.int (i - j)) s := rfl
theorem e_mul : mulV (.int i) (.int j) s = if i.natAbs.log2 + j.natAbs.log2 < 1000000 then .ok (.int (i * j)) s else .bad := rfl
theorem e_fdiv : fdivV (.int i) (.int j) s = if j ≠ 0 ∧ j.natAbs.log2 < 9000 then .ok (.int (i.fdiv j)) s else .bad := rfl
theorem e_mod : modV (.int i) (.int j) s = if j ≠ 0 then .ok (.int (i.fmod j)) s else .bad := rfl
theorem e_pow : powV (.int i) (.int j) s = if 0 ≤ j ∧ j.natAbs ≤ 1000000 ∧ i.natAbs < 18446744073709551616 then .ok (.int (i ^ j.toNat)) s else .bad := rfl
theorem e_neg : negV (.int i) s = .ok (.int (-i)) s := rfl
theorem e_cmp {f : Int → Int → Bool} : cmpV f (.int i) (.int j) s = .ok (.bl (f i j)) s := rfl
theorem e_eqI : eqV (.int i) (.int j) s = .ok (.bl (i == j)) s := rfl
theorem e_neI : neV (.int i) (.int j) s = .ok (.bl (!(i == j))) s := rfl
theorem e_eqT2 {a b c d : Int} : eqV (.tup [.int a, .int b]) (.tup [.int c, .int d]) s = .ok (.bl ((a == c) && ((b == d) && true))) s := rfl
theorem e_neT2 {a b c d : Int} : neV (.tup [.int a, .int b]) (.tup [.int c, .int d]) s = .ok (.bl (!((a == c) && ((b == d) && true)))) s := rfl
theorem e_ixT {xs : List Val} : ixV (.tup xs) (.int i) s = getO (atI xs i) fun y => .ok y s := rfl
theorem e_ixL {xs : List Val} : ixV (.lst xs) (.int i) s = getO (atI xs i) fun y => .ok y s := rfl
theorem e_ixS {ns : List Int} : ixV (.scr ns) (.int i) s = getO (atI (ns.map Val.int) i) fun y => .ok y s := rfl
theorem e_lk0 {x : Option Val} {l : Loc} (h : x = some v) : lk 0 (x :: l) s = .ok v s := by subst h; rfl
theorem e_abs : absV (.int i) s = .ok (.int (if i < 0 then -i else i)) s := rfl
theorem e_max : maxV (.int i) (.int j) s = .ok (.int (if j > i then j else i)) s := rfl
theorem e_intI : intV (.int i) s = .ok (.int i) s := rfl
theorem e_intB {b : Bool} : intV (.bl b) s = .ok (.int (if b then 1 else 0)) s := rfl
theorem e_gcd : gcdV (.int i) (.int j) s = .ok (.int ((Nat.gcd i.natAbs j.natAbs : Nat) : Int)) s := rfl
theorem e_dm : dmV (.int i) (.int j) s = if 0 < j ∧ j.natAbs < 1073741824 then .ok (.tup [.int (i / j), .int (i % j)]) s else .bad := rfl
theorem e_lenT {xs : List Val} : lenV (.tup xs) s = .ok (.int xs.length) s := rfl
theorem e_lenL {xs : List Val} : lenV (.lst xs) s = .ok (.int xs.length) s := rfl
theorem e_lenS {ns : List Int} : lenV (.scr ns) s = .ok (.int (ns.map Val.int).length) s := rfl
theorem e_tup : tupM n l s = (n l s).bd fun vs s1 => if vs.length ≤ 16777216 then .ok (.tup vs) s1 else .bad := rfl
theorem e_lst : lstM n l s = (n l s).bd fun vs s1 => if vs.length ≤ 16777216 then .ok (.lst vs) s1 else .bad := rfl
theorem e_loc : locM n l s = (n l s).bd fun vs s1 => if vs.length ≤ 16777216 then .ok (.loc s1.length) (s1 ++ [.lst vs]) else .bad := rfl
theorem e_truB {b : Bool} : truV (.bl b) s = .ok b s := rfl
theorem e_isi {t : Ty} : isiV t v s = if live s v = true then .ok (.bl (isa t v)) s else .bad := rfl
theorem e_isi2 {t u : Ty} : isi2V t u v s = if live s v = true then .ok (.bl (isa t v || isa u v)) s else .bad := rfl
theorem lv_non : live s .non = true := rfl
theorem lv_bl {b : Bool} : live s (.bl b) = true := rfl
theorem lv_int : live s (.int i) = true := rfl
theorem lv_str {x : Str} : live s (.str x) = true := rfl
theorem lv_tup {xs : List Val} : live s (.tup xs) = true := rfl
theorem lv_lst {xs : List Val} : live s (.lst xs) = true := rfl
theorem lv_scr {ns : List Int} : live s (.scr ns) = true := rfl
theorem e_addT {xs ys : List Val} : addV (.tup xs) (.tup ys) s = if xs.length + ys.length ≤ 16777216 then .ok (.tup (xs ++ ys)) s else .bad := rfl
theorem e_par3 {x y z : Nat} : par3B x y z n l s = (n l s).rb l fun vs s1 => match vs with
  | [v, w, u] => .nx (((l.set x (some v)).set y (some w)).set z (some u)) s1
  | _ => .bad := rfl
theorem e_revT {xs : List Val} : revV (.tup xs) s = .ok (.tup xs.reverse) s := rfl
theorem e_revL {xs : List Val} : revV (.lst xs) s = .ok (.lst xs.reverse) s := rfl
theorem e_frzT {xs : List Val} : frzV (.tup xs) s = .ok (.tup xs) s := rfl
theorem e_frzL {xs : List Val} : frzV (.lst xs) s = .ok (.lst xs) s := rfl
theorem e_frzC {k : Nat} {xs : List Val} (h : s[k]? = some (.lst xs)) : frzV (.loc k) s = .ok (.lst xs) (s.set k .gone) := by
  show (match s[k]? with | some (.lst xs) => R.ok (Val.lst xs) (s.set k .gone) | _ => .bad) = _
  rw [h]
theorem e_appC {k : Nat} {xs : List Val} (h : s[k]? = some (.lst xs)) (hl : xs.length < 16777216) : appV (.loc k) [w] s = .ok .non (s.set k (.lst (xs ++ [w]))) := by
  show (match s[k]? with | some (.lst xs) => if xs.length < 16777216 then R.ok Val.non (s.set k (.lst (xs ++ [w]))) else .bad | _ => .bad) = _
  rw [h]
  exact if_pos hl
def methK (n : M (List Val)) (l : Loc) (f : Val → List Val → Sto → R Val) (o : Val) (s : Sto) : R Val := match deref s o with
  | some _ => (n l s).bd fun vs s2 => f o vs s2
  | none => .bad
theorem e_meth {f : Val → List Val → Sto → R Val} : methL ma n f l s = (ma l s).bd (methK n l f) := rfl
theorem e_for {m : M (List Val)} : forB m tg b l s = (m l s).rb l fun xs s1 => forL tg b xs l s1 := rfl
def zipK (vs : List Val) (s : Sto) : R (List Val) := match vs with
  | [v, w] => match v with
    | .tup xs => match w with
      | .tup ys => .ok (pairsL xs ys) s
      | _ => .bad
    | v => getO (seqL v) fun xs => getO (seqL w) fun ys => .ok (pairsL xs ys) s
  | _ => .bad
theorem e_zip : zipM n l s = (n l s).bd zipK := rfl
theorem zipK_t {xs ys : List Val} : zipK [.tup xs, .tup ys] s = .ok (pairsL xs ys) s := rfl
theorem zipK_l {xs ys : List Val} : zipK [.lst xs, .lst ys] s = .ok (pairsL xs ys) s := rfl
def rng1K (vs : List Val) (s : Sto) : R (List Val) := match vs with
  | [v] => match v with
    | .int j => if j.natAbs < 4611686018427387904 then .ok (rngL 0 j.toNat) s else .bad
    | _ => .bad
  | _ => .bad
theorem e_rng1 : range1M n l s = (n l s).bd rng1K := rfl
theorem rng1K_i {i : Int} (h : i.natAbs < 4611686018427387904) : rng1K [.int i] s = .ok (rngL 0 i.toNat) s := if_pos h
theorem e_tupT {k : Nat} {u : List Val → M Loc} : tupT k u (.tup vs) l s = if vs.length = k then u vs l s else .bad := rfl
theorem e_consT {u : List Val → M Loc} : consT tg u (v :: vs) l s = (tg v l s).bd fun l1 s1 => noex (u vs l1 s1) := rfl
theorem e_nilT : nilT [] l s = .ok l s := rfl
theorem e_sub_ : subT ma mb v l s = (ma l s).bd fun o s1 => (mb l s1).bd fun i s2 => (putV o i v s2).bd fun _ s3 => .ok l s3 := rfl
theorem e_run {nN np : Nat} {b : B} : runFn nN np b vs s = if vs.length = np then (b (vs.map some ++ List.replicate (nN - np) none) s).fn else .bad := rfl
theorem e_par {x y : Nat} : parB x y n l s = (n l s).rb l (parK x y l) := rfl
theorem e_chn : chn ma mb mc g g' l s = (ma l s).bd fun v s1 => (mb l s1).bd fun w s2 => (g v w s2).bd (andK (una mc (g' w)) l) := rfl
theorem e_callK {np nkw : Nat} {pm : List Nat} {f : Fn} : callK n nk np nkw pm f l s = (n l s).bd fun vs s1 => (nk l s1).bd fun ws s2 => if vs.length = np ∧ ws.length = nkw then f (pick pm (vs ++ ws)) s2 else .bad := rfl
theorem e_andV : andV ma mb l s = (ma l s).bd (andK mb l) := rfl
theorem e_orV : orV ma mb l s = (ma l s).bd (orK mb l) := rfl
theorem e_notV : notV ma l s = (ma l s).bd notK := rfl
theorem e_isB {a b : Bool} : isBV (.bl a) (.bl b) s = .ok (.bl (decide (a = b))) s := rfl
theorem e_notB {a b : Bool} : notBV (.bl a) (.bl b) s = .ok (.bl (!decide (a = b))) s := rfl
end
section
variable {n : Nat} {s : Sto} {xs : List Val} {i : Int} {v : Val} {j : Nat}
theorem deref_loc (h : s[n]? = some (.lst xs)) : deref s (.loc n) = some xs := by
  show (match s[n]? with | some (.lst xs) => some xs | _ => none) = _
  rw [h]
theorem e_ixC (h : s[n]? = some (.lst xs)) : ixV (.loc n) (.int i) s = getO (atI xs i) fun y => .ok y s := by
  show getO (deref s (.loc n)) _ = _
  rw [deref_loc h]; rfl
theorem e_lenC (h : s[n]? = some (.lst xs)) : lenV (.loc n) s = .ok (.int xs.length) s := by
  show (match deref s (.loc n) with | some xs => R.ok (Val.int xs.length) s | none => .bad) = _
  rw [deref_loc h]
theorem e_put (h : s[n]? = some (.lst xs)) (hj : L2.ixN xs.length i = some j) : putV (.loc n) (.int i) v s = .ok () (s.set n (.lst (xs.set j v))) := by
  show (match s[n]? with | some (.lst xs) => (match ixN xs.length i with | some j => R.ok () (s.set n (.lst (xs.set j v))) | none => .bad) | _ => .bad) = _
  rw [h]
  simp only
  rw [hj]
end
section
variable {m : M (List Val)} {me mv : M Val} {t : Tg} {c : M Bool} {vs xs : List Val} {x : Val} {os : List Nat} {fin : List Val → Sto → R Val} {l : Loc} {s : Sto} {o : Nat} {ns : List Int}
theorem e_lcM : lcM m t c me os fin l s = (m l s).bd fun xs s1 => if xs.length ≤ 16777216 then (noex (lcL t c me (wipeL l os) xs s1)).bd fin else .bad := rfl
theorem lcL_nil : lcL t c me l [] s = .ok [] s := rfl
theorem lcL_cons : lcL t c me l (x :: xs) s = (t x l s).bd fun l1 s1 => (c l1 s1).bd fun b s2 => if b = true then (me l1 s2).bd fun y s3 => (lcL t c me l xs s3).bd fun ys s4 => .ok (y :: ys) s4 else lcL t c me l xs s2 := rfl
theorem wipeL_nil : wipeL l [] = l := rfl
theorem wipeL_cons : wipeL l (o :: os) = (wipeL l os).set o none := rfl
theorem e_yes : yesM l s = .ok true s := rfl
theorem e_finL : finL vs s = .ok (.lst vs) s := rfl
theorem e_finC : finC vs s = .ok (.loc s.length) (s ++ [.lst vs]) := rfl
def walkK (v : Val) (s : Sto) : R (List Val) := match fixed v with
  | some xs => .ok xs s
  | none => .bad
theorem e_walk : walkV mv l s = (mv l s).bd walkK := rfl
theorem walkK_t : walkK (.tup xs) s = .ok xs s := rfl
theorem walkK_l : walkK (.lst xs) s = .ok xs s := rfl
theorem walkK_s : walkK (.scr ns) s = .ok (ns.map .int) s := rfl
theorem e_allL : allV (.lst xs) s = getO (boolsOf xs) fun bs => .ok (.bl (bs.all id)) s := by
  show (match deref s (.lst xs) with | some xs => (match boolsOf xs with | some bs => R.ok (Val.bl (bs.all id)) s | none => .bad) | none => .bad) = _
  show (match boolsOf xs with | some bs => R.ok (Val.bl (bs.all id)) s | none => .bad) = _
  cases boolsOf xs <;> rfl
theorem e_anyL : anyV (.lst xs) s = getO (boolsOf xs) fun bs => .ok (.bl (bs.any id)) s := by
  show (match boolsOf xs with | some bs => R.ok (Val.bl (bs.any id)) s | none => .bad) = _
  cases boolsOf xs <;> rfl
theorem e_sumL : sumV (.lst xs) s = getO (intsOf xs) fun bs => .ok (.int bs.sum) s := by
  show (match intsOf xs with | some bs => R.ok (Val.int bs.sum) s | none => .bad) = _
  cases intsOf xs <;> rfl
theorem boolsOf_map : ∀ bs : List Bool, boolsOf (bs.map .bl) = some bs
  | [] => rfl
  | b :: bs => by
    show (match boolsOf (bs.map Val.bl) with | some cs => some (b :: cs) | none => none) = _
    rw [boolsOf_map bs]
theorem intsOf_map : ∀ bs : List Int, intsOf (bs.map .int) = some bs
  | [] => rfl
  | b :: bs => by
    show (match intsOf (bs.map Val.int) with | some cs => some (b :: cs) | none => none) = _
    rw [intsOf_map bs]
theorem e_tupleT : tupleV (.tup xs) s = .ok (.tup xs) s := rfl
theorem e_tupleL : tupleV (.lst xs) s = .ok (.tup xs) s := rfl
theorem e_listT : listV (.tup xs) s = .ok (.lst xs) s := rfl
theorem e_listL : listV (.lst xs) s = .ok (.lst xs) s := rfl
end
/-- a comprehension whose turns leave the store as it is -/
theorem lcL_map {t : Tg} {e : M Val} {l0 : Loc} {s : Sto} (g : Val → Loc) (f : Val → Val) : ∀ xs : List Val, (∀ x ∈ xs, t x l0 s = .ok (g x) s ∧ e (g x) s = .ok (f x) s) → lcL t yesM e l0 xs s = .ok (xs.map f) s
  | [], _ => rfl
  | x :: xs, h => by
    rw [lcL_cons, (h x List.mem_cons_self).1]
    simp only [bd_ok, e_yes, if_true]
    rw [(h x List.mem_cons_self).2]
    simp only [bd_ok]
    rw [lcL_map g f xs fun y hy => h y (List.mem_cons_of_mem _ hy)]
    rfl
theorem lcL_filter {t : Tg} {c : M Bool} {e : M Val} {l0 : Loc} {s : Sto} (g : Val → Loc) (k : Val → Bool) (f : Val → Val) : ∀ xs : List Val, (∀ x ∈ xs, t x l0 s = .ok (g x) s ∧ c (g x) s = .ok (k x) s ∧ (k x = true → e (g x) s = .ok (f x) s)) → lcL t c e l0 xs s = .ok ((xs.filter k).map f) s
  | [], _ => rfl
  | x :: xs, h => by
    obtain ⟨h1, h2, h3⟩ := h x List.mem_cons_self
    rw [lcL_cons, h1]
    simp only [bd_ok]
    rw [h2]
    simp only [bd_ok]
    have ih := lcL_filter g k f xs fun y hy => h y (List.mem_cons_of_mem _ hy)
    cases hk : k x with
    | true =>
      rw [if_pos rfl, h3 hk]
      simp only [bd_ok]
      rw [ih, List.filter_cons_of_pos hk]
      rfl
    | false =>
      rw [if_neg Bool.false_ne_true, ih, List.filter_cons_of_neg (by rw [hk]; exact Bool.false_ne_true)]
/-- a loop whose every turn goes through: an invariant by what has been walked -/
theorem forL_inv {t : Tg} {b : B} (I : List Val → Loc → Sto → Prop) : ∀ (xs ys : List Val) (l : Loc) (s : Sto), I ys l s → (∀ (ys : List Val) (x : Val) (l : Loc) (s : Sto), x ∈ xs → I ys l s → ∃ l1 s1 l2 s2, t x l s = .ok l1 s1 ∧ b l1 s1 = .nx l2 s2 ∧ I (ys ++ [x]) l2 s2) → ∃ l2 s2, forL t b xs l s = .nx l2 s2 ∧ I (ys ++ xs) l2 s2
  | [], ys, l, s, h, _ => ⟨l, s, rfl, by rw [List.append_nil]; exact h⟩
  | x :: xs, ys, l, s, h, st => by
    obtain ⟨l1, s1, l2, s2, e1, e2, h2⟩ := st ys x l s List.mem_cons_self h
    obtain ⟨l3, s3, e3, h3⟩ := forL_inv I xs (ys ++ [x]) l2 s2 h2 fun ys y l s hy => st ys y l s (List.mem_cons_of_mem _ hy)
    refine ⟨l3, s3, ?_, by rw [List.append_assoc] at h3; exact h3⟩
    unfold forL
    rw [e1]
    simp only
    rw [e2]
    exact e3
theorem lg_of {i : Int} {k : Nat} (h : i.natAbs < 2 ^ k) (hk : 0 < k) : i.natAbs.log2 < k := PySem.Flt.log2_lt_of hk h
/-- below 2 ^ k in size -/
def Sm (k : Nat) (i : Int) : Prop := i.natAbs < 2 ^ k
instance {k : Nat} {i : Int} : Decidable (Sm k i) := inferInstanceAs (Decidable (_ < _))
theorem nc_0 : ((0 : Nat) : Int) = 0 := rfl
theorem nc_1 : ((1 : Nat) : Int) = 1 := rfl
theorem nc_2 : ((2 : Nat) : Int) = 2 := rfl
theorem nc_3 : ((3 : Nat) : Int) = 3 := rfl
theorem nc_4 : ((4 : Nat) : Int) = 4 := rfl
theorem nc_5 : ((5 : Nat) : Int) = 5 := rfl
theorem nc_6 : ((6 : Nat) : Int) = 6 := rfl
theorem nc_7 : ((7 : Nat) : Int) = 7 := rfl
theorem nc_8 : ((8 : Nat) : Int) = 8 := rfl
theorem nc_9 : ((9 : Nat) : Int) = 9 := rfl
theorem Sm.up {k j : Nat} {i : Int} (h : Sm k i) (hj : k ≤ j) : Sm j i := Nat.lt_of_lt_of_le h (Nat.pow_le_pow_right (by decide) hj)
theorem Sm.lg {k : Nat} {i : Int} (h : Sm k i) : i.natAbs.log2 ≤ k := by
  by_cases hk : 0 < k
  · exact Nat.le_of_lt (lg_of h hk)
  · have e : k = 0 := by omega
    subst e
    have : i.natAbs < 1 := h
    have e2 : i.natAbs = 0 := by omega
    rw [e2]
    exact Nat.le_of_eq (by decide)
theorem Sm.mulc {k j : Nat} {a b : Int} (ha : Sm k a) (hb : Sm j b) (h : k + j < 1000000) : a.natAbs.log2 + b.natAbs.log2 < 1000000 := by
  have := ha.lg
  have := hb.lg
  omega
theorem Sm.mul {k j : Nat} {a b : Int} (ha : Sm k a) (hb : Sm j b) : Sm (k + j) (a * b) := wide_lt ha hb
theorem Sm.add {k j : Nat} {a b : Int} (ha : Sm k a) (hb : Sm j b) : Sm (max k j + 1) (a + b) := by
  unfold Sm at *
  have h1 : (2 : Nat) ^ k ≤ 2 ^ (max k j) := Nat.pow_le_pow_right (by decide) (Nat.le_max_left _ _)
  have h2 : (2 : Nat) ^ j ≤ 2 ^ (max k j) := Nat.pow_le_pow_right (by decide) (Nat.le_max_right _ _)
  rw [Nat.pow_succ]
  omega
theorem Sm.neg {k : Nat} {a : Int} (ha : Sm k a) : Sm k (-a) := by
  unfold Sm at *
  rw [Int.natAbs_neg]; exact ha
theorem Sm.sub {k j : Nat} {a b : Int} (ha : Sm k a) (hb : Sm j b) : Sm (max k j + 1) (a - b) := by
  rw [Int.sub_eq_add_neg]; exact ha.add hb.neg
theorem Sm.le {k : Nat} {a b : Int} (hb : Sm k b) (h : a.natAbs ≤ b.natAbs) : Sm k a := Nat.lt_of_le_of_lt h hb
end Mn
set_option maxHeartbeats 4000000
/-! Mini11: plain data, == of it; comprehensions and loops over mapped lists. -/
namespace Mn
open PySem PySem.Spec PyProof.Rows L2
mutual
/-- data: no list that changes in it -/
def okV : Val → Bool
  | .non => true
  | .bl _ => true
  | .int _ => true
  | .str x => PyData.strOk x
  | .tup xs => okVs xs
  | .lst xs => okVs xs
  | .scr _ => true
  | .loc _ => false
  | .emp => false
def okVs : List Val → Bool
  | [] => true
  | v :: vs => okV v && okVs vs
end
mutual
def pd : Val → PyData
  | .non => .none
  | .bl b => .bool b
  | .int i => .int i
  | .str x => .str x
  | .tup xs => .tuple (pds xs)
  | .lst xs => .list (pds xs)
  | .scr ns => .list (ns.map .int)
  | .loc _ => .none
  | .emp => .none
def pds : List Val → List PyData
  | [] => []
  | v :: vs => pd v :: pds vs
end
theorem lay_ints : ∀ ns : List Int, PyData.canLayAll0 (ns.map PyData.int) = true
  | [] => by simp only [List.map_nil, PyData.canLayAll0]
  | n :: ns => by simp only [List.map_cons, PyData.canLayAll0, PyData.canLay0, lay_ints ns, Bool.and_self]
mutual
theorem data_pd {f : Nat → Option PyData} : ∀ v : Val, okV v = true → dataW f v = some (pd v) ∧ (pd v).canLay0 = true
  | .non, _ => ⟨by simp only [dataW, pd], by simp only [pd, PyData.canLay0]⟩
  | .bl b, _ => ⟨by simp only [dataW, pd], by simp only [pd, PyData.canLay0]⟩
  | .int i, _ => ⟨by simp only [dataW, pd], by simp only [pd, PyData.canLay0]⟩
  | .str x, h => ⟨by simp only [dataW, pd], by simp only [pd, PyData.canLay0]; simpa only [okV] using h⟩
  | .tup xs, h => by
    have ih := data_pds (f := f) xs (by simpa only [okV] using h)
    exact ⟨by simp only [dataW, pd, ih.1], by simp only [pd, PyData.canLay0]; exact ih.2⟩
  | .lst xs, h => by
    have ih := data_pds (f := f) xs (by simpa only [okV] using h)
    exact ⟨by simp only [dataW, pd, ih.1], by simp only [pd, PyData.canLay0]; exact ih.2⟩
  | .scr ns, _ => ⟨by simp only [dataW, pd], by simp only [pd, PyData.canLay0]; exact lay_ints ns⟩
  | .loc n, h => by simp only [okV] at h; cases h
  | .emp, h => by simp only [okV] at h; cases h
theorem data_pds {f : Nat → Option PyData} : ∀ vs : List Val, okVs vs = true → datasW f vs = some (pds vs) ∧ PyData.canLayAll0 (pds vs) = true
  | [], _ => ⟨by simp only [datasW, pds], by simp only [pds, PyData.canLayAll0]⟩
  | v :: vs, h => by
    simp only [okVs, Bool.and_eq_true] at h
    have h1 := data_pd (f := f) v h.1
    have h2 := data_pds (f := f) vs h.2
    exact ⟨by simp only [datasW, pds, h1.1, h2.1], by simp only [pds, PyData.canLayAll0, h1.2, h2.2, Bool.and_self]⟩
end
/-- data of at most so deep -/
structure Okd (k : Nat) (v : Val) : Prop where
  ok : okV v = true
  dp : (pd v).depth ≤ k
theorem okd_non {k : Nat} : Okd k .non := ⟨by simp only [okV], by simp only [pd, PyData.depth]; exact Nat.zero_le _⟩
theorem okd_bl {k : Nat} {b : Bool} : Okd k (.bl b) := ⟨by simp only [okV], by simp only [pd, PyData.depth]; exact Nat.zero_le _⟩
theorem okd_int {k : Nat} {i : Int} : Okd k (.int i) := ⟨by simp only [okV], by simp only [pd, PyData.depth]; exact Nat.zero_le _⟩
theorem okd_str {k : Nat} {x : Str} (h : PyData.strOk x = true) : Okd k (.str x) := ⟨by simp only [okV]; exact h, by simp only [pd, PyData.depth]; exact Nat.zero_le _⟩
theorem okd_all {k : Nat} : ∀ {vs : List Val}, (∀ v ∈ vs, Okd k v) → okVs vs = true ∧ PyData.depthAll (pds vs) ≤ k
  | [], _ => ⟨by simp only [okVs], by simp only [pds, PyData.depthAll]; exact Nat.zero_le _⟩
  | v :: vs, h => by
    have h1 := h v List.mem_cons_self
    have h2 := okd_all (vs := vs) fun w hw => h w (List.mem_cons_of_mem _ hw)
    exact ⟨by simp only [okVs, h1.ok, h2.1, Bool.and_self], by simp only [pds, PyData.depthAll]; exact Nat.max_le.mpr ⟨h1.dp, h2.2⟩⟩
theorem okd_tup {k : Nat} {vs : List Val} (h : ∀ v ∈ vs, Okd k v) : Okd (k + 1) (.tup vs) :=
  ⟨by simp only [okV]; exact (okd_all h).1, by simp only [pd, PyData.depth]; exact Nat.succ_le_succ (okd_all h).2⟩
theorem okd_lst {k : Nat} {vs : List Val} (h : ∀ v ∈ vs, Okd k v) : Okd (k + 1) (.lst vs) :=
  ⟨by simp only [okV]; exact (okd_all h).1, by simp only [pd, PyData.depth]; exact Nat.succ_le_succ (okd_all h).2⟩
theorem Okd.shaped {k : Nat} {v : Val} (h : Okd k v) (hk : k ≤ 64) : SeqAt.shaped (pd v) = true := by
  unfold SeqAt.shaped
  rw [(data_pd (f := fun _ => none) v h.ok).2, Bool.true_and]
  exact decide_eq_true (Nat.le_trans h.dp hk)
theorem eq_okd {k j : Nat} {v w : Val} {s : Sto} (h : Okd k v) (h2 : Okd j w) (hk : k ≤ 64) (hj : j ≤ 64) : Mn.eqV v w s = .ok (.bl (PyData.eqv (pd v) (pd w))) s := by
  unfold Mn.eqV data
  rw [(data_pd v h.ok).1, (data_pd w h2.ok).1]
  simp only
  rw [h.shaped hk, h2.shaped hj]
  rfl
theorem ne_okd {k j : Nat} {v w : Val} {s : Sto} (h : Okd k v) (h2 : Okd j w) (hk : k ≤ 64) (hj : j ≤ 64) : Mn.neV v w s = .ok (.bl (!PyData.eqv (pd v) (pd w))) s := by
  unfold Mn.neV data
  rw [(data_pd v h.ok).1, (data_pd w h2.ok).1]
  simp only
  rw [h.shaped hk, h2.shaped hj]
  rfl
theorem eq_same {k : Nat} {v : Val} {s : Sto} (h : Okd k v) (hk : k ≤ 64) : Mn.eqV v v s = .ok (.bl true) s := by
  rw [eq_okd h h hk hk, PySem.SeqAt.eqv_refl _ (data_pd (f := fun _ => none) v h.ok).2]
theorem ne_same {k : Nat} {v : Val} {s : Sto} (h : Okd k v) (hk : k ≤ 64) : Mn.neV v v s = .ok (.bl false) s := by
  rw [ne_okd h h hk hk, PySem.SeqAt.eqv_refl _ (data_pd (f := fun _ => none) v h.ok).2]
  rfl
section
variable {α : Type} {t : Tg} {c : M Bool} {e : M Val} {b : B} {l0 : Loc} {s : Sto}
/-- a comprehension over mapped things, that leaves the store as it is -/
theorem lcL_mapF (h : α → Val) (g : α → Loc) (f : α → Val) : ∀ xs : List α, (∀ x ∈ xs, t (h x) l0 s = .ok (g x) s ∧ e (g x) s = .ok (f x) s) → lcL t yesM e l0 (xs.map h) s = .ok (xs.map f) s
  | [], _ => rfl
  | x :: xs, H => by
    rw [List.map_cons, lcL_cons, (H x List.mem_cons_self).1]
    simp only [bd_ok, e_yes, if_true]
    rw [(H x List.mem_cons_self).2]
    simp only [bd_ok]
    rw [lcL_mapF h g f xs fun y hy => H y (List.mem_cons_of_mem _ hy)]
    rfl
theorem lcL_filterF (h : α → Val) (g : α → Loc) (k : α → Bool) (f : α → Val) : ∀ xs : List α, (∀ x ∈ xs, t (h x) l0 s = .ok (g x) s ∧ c (g x) s = .ok (k x) s ∧ (k x = true → e (g x) s = .ok (f x) s)) → lcL t c e l0 (xs.map h) s = .ok ((xs.filter k).map f) s
  | [], _ => rfl
  | x :: xs, H => by
    obtain ⟨h1, h2, h3⟩ := H x List.mem_cons_self
    rw [List.map_cons, lcL_cons, h1]
    simp only [bd_ok]
    rw [h2]
    simp only [bd_ok]
    have ih := lcL_filterF h g k f xs fun y hy => H y (List.mem_cons_of_mem _ hy)
    cases hk : k x with
    | true =>
      rw [if_pos rfl, h3 hk]
      simp only [bd_ok]
      rw [ih, List.filter_cons_of_pos hk]
      rfl
    | false =>
      rw [if_neg Bool.false_ne_true, ih, List.filter_cons_of_neg (by rw [hk]; exact Bool.false_ne_true)]
theorem forL_invF (h : α → Val) (I : List α → Loc → Sto → Prop) : ∀ (xs ys : List α) (l : Loc) (s : Sto), I ys l s → (∀ (ys : List α) (x : α) (l : Loc) (s : Sto), x ∈ xs → I ys l s → ∃ l1 s1 l2 s2, t (h x) l s = .ok l1 s1 ∧ b l1 s1 = .nx l2 s2 ∧ I (ys ++ [x]) l2 s2) → ∃ l2 s2, forL t b (xs.map h) l s = .nx l2 s2 ∧ I (ys ++ xs) l2 s2
  | [], ys, l, s, hI, _ => ⟨l, s, rfl, by rw [List.append_nil]; exact hI⟩
  | x :: xs, ys, l, s, hI, st => by
    obtain ⟨l1, s1, l2, s2, e1, e2, h2⟩ := st ys x l s List.mem_cons_self hI
    obtain ⟨l3, s3, e3, h3⟩ := forL_invF h I xs (ys ++ [x]) l2 s2 h2 fun ys y l s hy => st ys y l s (List.mem_cons_of_mem _ hy)
    refine ⟨l3, s3, ?_, by rw [List.append_assoc] at h3; exact h3⟩
    rw [List.map_cons]
    unfold forL
    rw [e1]
    simp only
    rw [e2]
    exact e3
end
theorem forL_all {α : Type} {t : Tg} {b : B} (h : α → Val) (I : List α → Loc → Sto → Prop) (all : List α) (st : ∀ (ys : List α) (x : α) (zs : List α) (l : Loc) (s : Sto), all = ys ++ x :: zs → I ys l s → ∃ l1 s1 l2 s2, t (h x) l s = .ok l1 s1 ∧ b l1 s1 = .nx l2 s2 ∧ I (ys ++ [x]) l2 s2) :
    ∀ (xs ys : List α) (l : Loc) (s : Sto), all = ys ++ xs → I ys l s → ∃ l2 s2, forL t b (xs.map h) l s = .nx l2 s2 ∧ I all l2 s2
  | [], ys, l, s, e, hI => ⟨l, s, rfl, by rw [e, List.append_nil]; exact hI⟩
  | x :: xs, ys, l, s, e, hI => by
    obtain ⟨l1, s1, l2, s2, e1, e2, h2⟩ := st ys x xs l s e hI
    obtain ⟨l3, s3, e3, h3⟩ := forL_all h I all st xs (ys ++ [x]) l2 s2 (by rw [e, List.append_assoc]; rfl) h2
    refine ⟨l3, s3, ?_, h3⟩
    rw [List.map_cons]
    unfold forL
    rw [e1]
    simp only
    rw [e2]
    exact e3
theorem rngL_map (lo : Int) (n : Nat) : rngL lo n = (List.range n).map fun i => Val.int (lo + (i : Nat)) := rfl
theorem bools_true {α : Type} (xs : List α) : boolsOf (xs.map fun _ => Val.bl true) = some (xs.map fun _ => true) := by
  have e : (xs.map fun _ => Val.bl true) = (xs.map fun _ => true).map Val.bl := by rw [List.map_map]; rfl
  rw [e, boolsOf_map]
theorem alls_true {α : Type} (xs : List α) : (xs.map fun _ => true).all id = true := by
  rw [List.all_map]
  exact List.all_eq_true.mpr fun x _ => rfl
theorem all_true {α : Type} (xs : List α) (s : Sto) : allV (.lst (xs.map fun _ => Val.bl true)) s = .ok (.bl true) s := by
  have e : (xs.map fun _ => Val.bl true) = (xs.map fun _ => true).map Val.bl := by rw [List.map_map]; rfl
  rw [e, e_allL, boolsOf_map]
  show R.ok (Val.bl ((xs.map fun _ => true).all id)) s = _
  have e2 : (xs.map fun _ => true).all id = true := by
    rw [List.all_map]
    exact List.all_eq_true.mpr fun x _ => rfl
  rw [e2]
end Mn
set_option maxHeartbeats 4000000
/-! Mini12: own errors: made, raised, caught by one clause with a name; their fields, their kin. -/
namespace Mn
open PySem PySem.Spec PyProof.Rows L2

/-! ### __init__(self, f): self.f = f -/
def spIni (K : PySem.W.Frag) (f : Str) : Sp := fun vs H Q _ => ∃ (a C : Addr) (y : V), vs = [.ref a, y] ∧ OexC K C ∧ PySem.W.findIn K (.ref C) f = some none ∧ H a = some (exo a C none) ∧
  ∀ dx, H dx = none → dx ≠ a → Q .non (upd (upd H dx (exd dx [(f, y)])) a (exo a C (some dx)))
theorem ini_ok {P : Program} {w : World} {K : PySem.W.Frag} {mg : Str → Option Value} {base : Heap} {qual f : Str} {pa : Arguments} {bd : List Stmt} {sc : Scope} {dvs : List V} {kws : List (Str × V)} {fI : Addr} {fd : FuncData} {q1 q2 q3 q4 : Pos}
    (F : FunD K "__init__" qual pa bd sc dvs kws fI fd) (S : FnScope ["self", f] ["self", f] sc) (hv1 : Vis sc "self") (hv2 : Vis sc f) (hb : bd = [.Assign [.Attribute (.Name "self" q1) f q2] (.Name f q3) q4]) (hd1 : (f == ("__debug__" : Str)) = false) (hd2 : (f == ("__classdict__" : Str)) = false) :
    FnOk P w K mg base CX0 1 fI fd ["self", f] (spIni K f) := by
  refine F.ok (CX := CX0) S (fun vs H Q E h => ?_) (fun cdv A outer s H vs Q E hr h => ?_)
  · obtain ⟨a, C, y, rfl, _⟩ := h
    rfl
  · rw [hb]
    obtain ⟨a, C, y, rfl, T, hno, ha, q⟩ := h
    refine ⟨_, pss_one (ps_ost (pe_var (i := 0) rfl hv1) (pe_var (i := 1) rfl hv2 hd1 hd2)), ?_⟩
    exact ⟨y, rfl, .ref a, rfl, a, C, rfl, T, hno, .inl ⟨ha, fun dx n ne => q dx n ne⟩⟩
/-- what the written part says of the class x of errors, at C: it keeps what it is given at f -/
structure XCls (K : PySem.W.Frag) (mg : Str → Option Value) (base : Heap) (P : Program) (w : World) (x : Str) (C : Addr) (f : Str) : Prop where
  gC : mg x = some (.ref C)
  oex : OexC K C
  noF : PySem.W.findIn K (.ref C) f = some none
  ini : ∃ (fI : Addr) (fd : FuncData) (ps : List Str), PySem.W.findIn K (.ref C) "__init__" = some (some (.ref fI)) ∧ PySem.W.typeIn K (.ref fI) = some (.type "function") ∧ FnOk P w K mg base CX0 1 fI fd ps (spIni K f) ∧ Binds K fd ps []
section
variable {T : Tab} {W : WX} {X : Cx} {k : Nat} {x f : Str} {C : Addr} {e : Expr} {n : M (List Val)} {pf pos pos2 : Pos}
/-- raise C(e) -/
def raiB (x f : Str) (n : M (List Val)) : B := fun l s => (n l s).rb l fun vs s1 => match vs with
  | [v] => .ex ⟨x, [(f, v)]⟩ l s1
  | _ => .bad
theorem cs_raise (xk : XOk k X) (hk2 : 2 ≤ k) (hc : X.calm = true) (tk : Takes X W) (XC : XCls X.K X.mg X.base X.prog X.w x C f) (hT : T.cl x = some C) (ha : CA T W X [e] n) (hg : Gl X x := by rfl)
    (hdb : (x == ("__debug__" : Str)) = false := by decide) (he : starEach [e] X.env = (false, eval e X.env) :: starEach [] X.env := by rfl) (hpl : (backTo pos (starEach [] X.env)).any (·.1) = false := by rfl) :
    CS T W X (.Raise (some (.Call (.Name x pf) [e] [] pos)) none pos2) (raiB x f n) := by
  obtain ⟨fI, fd, ps, i1, i2, i3, i4⟩ := XC.ini
  refine PSw (ps_raise hc tk (pmk_oex (dvs := []) (ds := []) XC.oex i1 i2 i3 (xk.room.mono hk2) i4 .nil pass0 hg XC.gC ha hdb he hpl)) fun D σ H h => ?_
  obtain ⟨p, l, s, S, L, q⟩ := h
  refine ⟨p, l, s, S, L, ?_⟩
  refine (postS.lift (rep := RepVs X.K) q L).imp fun xs H1 ⟨p1, vs, s1, e1, E1, S1, r1, q1⟩ => ?_
  cases r1 with
  | nil => exact q1.elim
  | @cons v y vs ys r1 r2 =>
    cases r2 with
    | cons _ _ => exact q1.elim
    | nil =>
      refine ⟨by show 1 ≤ 1000; decide, fun a na => ⟨a, C, y, rfl, XC.oex, XC.noF, upd_same, fun dx nd ne => ⟨rfl, dx, [(f, y)], upd_same, ?_, ?_, ?_⟩⟩⟩
      · rw [upd_ne ne, upd_same]
      · rw [upd_ne ne] at nd
        exact nd
      · rw [upd_ne ne] at nd
        have e0 : upd (del (upd (upd (upd H1 a (exo a C none)) dx (exd dx [(f, y)])) a (exo a C (some dx))) a) dx (.xd [(f, y)]) = upd H1 dx (.xd [(f, y)]) := by
          funext b
          by_cases hb : b = dx
          · rw [hb, upd_same, upd_same]
          · rw [upd_ne hb, upd_ne hb]
            by_cases hb2 : b = a
            · rw [hb2, del_same, na]
            · rw [del_ne hb2, upd_ne hb2, upd_ne hb, upd_ne hb2]
        rw [e0]
        have EA : Ext p1 H1 p1 (upd H1 dx (.xd [(f, y)])) := .alloc nd
        exact q1 p1 σ _ (.ref C) (some dx) EA (S1.alloc nd) ((L.mono E1).mono EA) ⟨C, hT, rfl, .inr ⟨dx, [y], rfl, S1.nohas nd, upd_same, .cons (r1.mono EA) .nil⟩⟩
end
/-! ### try: .. except x as n: one statement -/
/-- what is known besides, where the error e is held in slot i -/
def Tab.sup (T : Tab) (K : PySem.W.Frag) (i : Nat) (e : Exn) (a : Addr) (c : Value) (d : Option Addr) : Tab where
  cl := T.cl
  G := fun σ p H => σ[i]? = some (some (.ref a)) ∧ RepX T K p H e c d
  mono := fun {σ p p' H H'} E ⟨h1, C, h2, h3, h4⟩ => ⟨h1, C, h2, h3, h4.imp id fun ⟨dd, ys, a1, a2, a3, a4⟩ => ⟨dd, ys, a1, E.notin a3 a2, E.keep _ _ a3 a2, RepVs.monoW E _ _ a4⟩⟩
theorem RepL.to {T T' : Tab} [Triv T] {K : PySem.W.Frag} {p : Pl} {H : Hp} {l : Mn.Loc} {σ : L2.St} (L : RepL T' K p H l σ) : RepL T K p H l σ := ⟨L.len, L.at_, Triv.all _ _ _⟩
theorem post.to {α β : Type} {T T' : Tab} (hT : T'.cl = T.cl) {K : PySem.W.Frag} {W : WX} {rep : Rel α β} {p : Pl} {H : Hp} {σ : L2.St} {r : R α} {Q : β → Hp → Prop} (h : post T K W rep p H σ r Q) : post T' K W rep p H σ r Q := by
  cases r with
  | ok v s => exact h
  | ex e s => exact fun p' H' c d E S ⟨C, h1, h2⟩ => h p' H' c d E S ⟨C, by rw [← hT]; exact h1, h2⟩
  | bad => exact h
/-- a statement of a suite: what it leaves is told without the error -/
def CX_ (T T' : Tab) (W : WX) (X : Cx) (sts : List Stmt) (b : B) : Prop := PSs X sts fun D σ H => ∃ p l s, RepSt X.K p s H ∧ RepL T' X.K p H l σ ∧ postS T X.K W p H (b l s) D
section
variable {T T' : Tab} {W : WX} {X : Cx} {e : Expr} {m : M Val} {pos : Pos}
theorem cx_ret [Triv T] {K0 : PySem.W.Frag} {j : Nat} {ex : Exn} {a : Addr} {c : Value} {d : Option Addr} (he : CE (T.sup K0 j ex a c d) W X e m) : CX_ T (T.sup K0 j ex a c d) W X [.Return (some e) pos] (retB m) := by
  refine PSsw (pss_one (ps_ret he)) fun D σ H h => ?_
  obtain ⟨p, l, s, S, L, q⟩ := h
  refine ⟨p, l, s, S, L, post.to (T := T) rfl ?_⟩
  exact (postS.lift (rep := RepV X.K) q L.to).imp fun x H1 ⟨p1, v, s1, e1, E1, S1, r1, q1⟩ => q1 p1 H1 x .refl S1 r1
theorem cx_set [Triv T] {K0 : PySem.W.Frag} {j : Nat} {ex : Exn} {a : Addr} {c : Value} {d : Option Addr} (i : Nat) {x : Str} {pos' : Pos} (hN : X.N.Nodup) (he : CE (T.sup K0 j ex a c d) W X e m) (hi : X.N[i]? = some x := by rfl) (hx : L2.Loc X.env.scope x := by first | exact Or.inl rfl | exact Or.inr rfl) (hs : swapsWith e (some (.Name x pos')) pos.line X.env = pure false := by rfl) (hf : X.fn x = true ∨ X.env.scope.names.lookup x = some .local := by first | exact .inl rfl | exact .inr rfl | assumption) :
    CX_ T (T.sup K0 j ex a c d) W X [.Assign [.Name x pos'] e pos] (asgB m (nameT i)) := by
  refine PSsw (pss_one (ps_set hN hi hx he hs hf)) fun D σ H h => ?_
  obtain ⟨p, l, s, S, L, q⟩ := h
  refine ⟨p, l, s, S, L, post.to (T := T) rfl ?_⟩
  exact (postS.lift (rep := RepV X.K) q L.to).imp fun y H1 ⟨p1, v, s1, e1, E1, S1, r1, q1⟩ => q1 p1 _ H1 .refl S1 ((RepL.to (L.mono E1)).set r1)
end
def wipeR (i : Nat) (r : RB) : RB := match r with
  | .nx l s => .nx (l.set i none) s
  | .bk l s => .bk (l.set i none) s
  | .ct l s => .ct (l.set i none) s
  | .rt v s => .rt v s
  | .ex _ _ _ => .bad
  | .bad => .bad
/-- kin: is an error of that class taken -/
def tryB (kin : Str → Option Bool) (i : Nat) (b : B) (su : Exn → B) : B := fun l s => match b l s with
  | .ex e l1 s1 => match kin e.cls with
    | some true => if i < l1.length then wipeR i (su e (l1.set i none) s1) else .bad
    | some false => .ex e l1 s1
    | none => .bad
  | r => r
theorem cs_try {T : Tab} {W : WX} {X : Cx} {kin : Str → Option Bool} (i : Nat) {x n : Str} {cv : Value} {body suite : List Stmt} {b0 : Stmt} {np pos pos' : Pos} {b : B} {su : Exn → B} [Triv T]
    (hs : X.stack = X.env :: X.outer) (hf : X.env.frame = some X.env.locals) (hN : X.N.Nodup) (hc : Names X x cv) (tk : Takes X W)
    (hk : ∀ (c : Str) (C : Addr) (k : Bool), T.cl c = some C → kin c = some k → PySem.W.exmOne X.K (.ref C) cv = some k)
    (hb : ∀ (W' : WX) (pn : List (Addr × Obj)) (xe : Value → Shared → Prop), Takes (X.tr pn xe) W' → PassesOwn (model X.prog X.w) X.A X.env xe → CB T W' (X.tr pn xe) body b)
    (hsu : ∀ (e : Exn) (C a : Addr) (oe : Obj) (d : Option Addr) (pn : List (Addr × Obj)), T.cl e.cls = some C → kin e.cls = some true → Zc (.ref C) d oe → (∃ vs, oe.data = .fields vs) → CX_ T (T.sup X.K i e a (.ref C) d) W0 (X.suite a ((a, oe) :: pn)) (b0 :: suite) (su e))
    (hi : X.N[i]? = some n := by rfl) (hln : X.env.kindOf n = some .local := by rfl) :
    CS T W X (.Try body [.ExceptHandler (some (.Name x np)) (some n) (b0 :: suite) pos'] [] [] pos) (tryB kin i b su) := by
  -- the suite, whatever error of ours it holds
  have hsuite : ∀ (a : Addr) (oe : Obj) (cls : Value) (d : Option Addr) (pn : List (Addr × Obj)), Zc cls d oe → (∃ vs, oe.data = .fields vs) → PSs (X.suite a ((a, oe) :: pn)) (b0 :: suite) (fun D σ H => ∃ (e : Exn) (C : Addr), cls = .ref C ∧ T.cl e.cls = some C ∧ kin e.cls = some true ∧ ∃ p l s, RepSt X.K p s H ∧ RepL (T.sup X.K i e a (.ref C) d) X.K p H l σ ∧ postS T X.K W0 p H (su e l s) D) := by
    intro a oe cls d pn hz hfd
    refine ⟨fun pins s σ H D I h => ?_⟩
    obtain ⟨e, C, rfl, h1, h2, h3⟩ := h
    exact (hsu e C a oe d pn h1 h2 hz hfd).run pins s σ H D I h3
  refine PSw (ps_try_as (Wout := W) (tb := fun W' => tS T X.K W' b) hs hf hN hi hln hc tk hb hsuite) fun D σ H h => ?_
  obtain ⟨p, l, s, S, L, q⟩ := h
  refine ⟨p, l, s, S, L, ?_⟩
  unfold tryB at q
  cases eb : b l s with
  | nx l1 s1 => rw [eb] at q; exact q
  | bk l1 s1 => rw [eb] at q; exact q
  | ct l1 s1 => rw [eb] at q; exact q
  | rt v s1 => rw [eb] at q; exact q
  | bad => rw [eb] at q; exact q
  | ex e l1 s1 =>
    rw [eb] at q
    intro p' σ' H' c d E S' L' rx
    obtain ⟨C, hC, rfl, hrx⟩ := rx
    cases hkin : kin e.cls with
    | none => simp only [hkin] at q; exact (show False from q).elim
    | some kb =>
      refine ⟨kb, hk _ _ _ hC hkin, fun hy a na => ?_, fun hn => ?_⟩
      · subst hy
        simp only [hkin] at q
        split at q
        rotate_left
        · exact (show False from q).elim
        rename_i hil
        have q' : postS T X.K W p' H' (wipeR i (su e (l1.set i none) s1)) D := postS.ext E q
        have hL : RepL (T.sup X.K i e a (.ref C) d) X.K p' H' (l1.set i none) (σ'.set i (some (.ref a))) := by
          have h0 := L'.none i
          refine ⟨by rw [List.length_set, List.length_set]; exact L'.len, fun j v hj => ?_, ?_, C, hC, rfl, hrx⟩
          · obtain ⟨y, e1, e2⟩ := h0.at_ j v hj
            by_cases hij : i = j
            · subst hij
              by_cases hl : i < σ'.length
              · rw [List.getElem?_set_self hl] at e1; cases e1
              · rw [List.getElem?_eq_none (by simpa using hl)] at e1; cases e1
            · rw [List.getElem?_set_ne hij] at e1 ⊢
              exact ⟨y, e1, e2⟩
          · exact List.getElem?_set_self (by rw [← L'.len]; exact hil)
        refine ⟨e, C, rfl, hC, hkin, p', _, s1, S', hL, ?_⟩
        cases es : su e (l1.set i none) s1 with
        | nx l2 s2 => rw [es] at q'; exact fun p2 σ2 H2 E2 S2 L2 => q' p2 _ H2 E2 S2 (L2.none i)
        | bk l2 s2 => rw [es] at q'; exact fun p2 σ2 H2 E2 S2 L2 => q' p2 _ H2 E2 S2 (L2.none i)
        | ct l2 s2 => rw [es] at q'; exact fun p2 σ2 H2 E2 S2 L2 => q' p2 _ H2 E2 S2 (L2.none i)
        | rt v s2 => rw [es] at q'; exact q'
        | ex e2 l2 s2 => rw [es] at q'; exact (show False from q').elim
        | bad => rw [es] at q'; exact q'
      · subst hn
        simp only [hkin] at q
        exact q p' σ' H' (.ref C) d E S' L' ⟨C, hC, rfl, hrx⟩
/-! ### in the suite: e.f, isinstance(e, C) -/
def exfM (e : Exn) (f : Str) : M Val := fun _ s => match e.fs.lookup f with
  | some v => .ok v s
  | none => .bad
theorem look_put {α : Type} (f g : Str) (y : α) (fs : List (Str × α)) : List.lookup f ((g, y) :: fs) = if f = g then some y else fs.lookup f := by
  by_cases h : f = g
  · subst h
    simp [List.lookup]
  · have e : (f == g) = false := by simpa using h
    rw [if_neg h]
    simp [List.lookup, e]
theorem lookup_zip {K : PySem.W.Frag} {p : Pl} {H : Hp} {f : Str} {v : Val} : ∀ {fs : List (Str × Val)} {ys : List V}, RepVs K p H (fs.map (·.2)) ys → fs.lookup f = some v → ∃ y, ((fs.map (·.1)).zip ys).lookup f = some y ∧ RepV K p H v y
  | [], _, _, h => nomatch h
  | (g, w) :: fs, ys, r, h => by
    cases r with
    | @cons _ y _ ys r1 r2 =>
      show ∃ z, ((g, y) :: (fs.map (·.1)).zip ys).lookup f = some z ∧ _
      rw [look_put] at h ⊢
      by_cases e : f = g
      · rw [if_pos e] at h ⊢
        cases h
        exact ⟨y, rfl, r1⟩
      · rw [if_neg e] at h ⊢
        exact lookup_zip r2 h
section
variable {T : Tab} {X : Cx} {W : WX} {e : Exn} {C a : Addr} {oe : Obj} {d : Option Addr} {pn : List (Addr × Obj)} {n f : Str} {pos p2 : Pos} {i : Nat}
theorem c_exf (XF : XfC X.K C) (hno : PySem.W.findIn X.K (.ref C) f = some none) (hz : Zc (.ref C) d oe) (hf : ∃ vs, oe.data = .fields vs) (hN : X.N[i]? = some n := by rfl) (hv : Vis X.env.scope n := by first | exact Or.inl rfl | exact Or.inr (Or.inl rfl) | exact Or.inr (Or.inr rfl)) (hd : (n == ("__debug__" : Str)) = false := by decide) (hcd : (n == ("__classdict__" : Str)) = false := by decide)
    (hb : attributeBase (.Name n p2) f X.env (eval (.Name n p2) X.env) = eval (.Name n p2) X.env := by rfl) : CE (T.sup X.K i e a (.ref C) d) W (X.suite a ((a, oe) :: pn)) (.Attribute (.Name n p2) f pos) (exfM e f) := by
  refine PEw (pe_xf XF hno hz hf (pe_var (X := X.suite a ((a, oe) :: pn)) hN hv hd hcd) hb) fun σ H Q h => ?_
  obtain ⟨p, l, s, S, L, q⟩ := h
  obtain ⟨hs, C', h1, h2, h3⟩ := L.g
  unfold exfM at q
  split at q
  · rename_i v hl
    refine ⟨.ref a, hs, rfl, rfl, ?_⟩
    rcases h3 with ⟨h3, _⟩ | ⟨dd, ys, b1, b2, b3, b4⟩
    · rw [h3] at hl; cases hl
    · obtain ⟨y, e1, e2⟩ := lookup_zip b4 hl
      exact ⟨dd, _, y, b1, b3, e1, q.pure S e2⟩
  · exact q.elim
end
end Mn
set_option maxHeartbeats 4000000
/-! Mini13: isinstance(e, C) of a caught error, C its kin. -/
namespace Mn
open PySem PySem.Spec PySem.W PyProof.Rows L2
theorem ans_kin {K : PySem.W.Frag} {u ty c : Value} {I : Heap → Prop} (hty : ∀ (M : Model) (h : Heap), K.In h → I h → Looks M h (typeOf u) ty) (e : kitOne K ty c = some true) : Answers (fun s => K.In s.heap ∧ I s.heap) u c true := by
  intro dep tk prog w A R sh hsh
  obtain ⟨hh, gg, dd, tz, oo⟩ := sh
  obtain ⟨⟨KX, pI⟩, fin⟩ := hsh
  have LU := hty (model prog w) hh KX pI
  unfold kitOne at e
  unfold Builtin.«isinstance.nested»
  refine wpAny_bind (LU.at ?_)
  by_cases same : (ty == c) = true
  · rw [if_pos same] at e
    rw [if_pos same]
    first
      | ((repeat lk); exact fin tz)
      | exact wpAny_bind (wpAny_rule (fin tz))
      | exact wpAny_bind (wpAny_rule (wpAny_pure (fin tz)))
  · rw [if_neg same] at e
    rw [if_neg same]
    obtain ⟨c1, c2, c3⟩ := kit_cls (M := model prog w) KX e
    have LK : Looks (model prog w) hh (isInstance u c) true := LU.andThen c3
    refine wpAny_bind (c1.at ?_)
    rw [if_pos (by decide)]
    k_delta "plainIsInstance"
    refine wpAny_bind (wpAny_bind (c2.at ?_))
    simp only [Bool.not_true, Bool.false_eq_true, if_false]
    refine wpAny_bind (LK.at ?_)
    first
      | exact wpAny_pure (wpAny_pure (fin tz))
      | (simp only [if_true]; first | exact wpAny_pure (wpAny_pure (fin tz)) | exact wpAny_pure (fin tz) | exact wpAny_bind (wpAny_pure (wpAny_pure (fin tz))))
section
variable {T : Tab} {X : Cx} {W : WX} {e : Exn} {C D a : Addr} {oe : Obj} {d : Option Addr} {pn : List (Addr × Obj)} {n x : Str} {pf p2 p3 pos : Pos} {i : Nat}
def rKin (a D : Addr) : List V → Hp → VK → Prop := fun xs H Q => xs = [.ref a, .ref D] ∧ Q (.bl true) H
theorem call_kin (hk : kitOne X.K (.ref C) (.ref D) = some true) (hz : Zc (.ref C) d oe) : CallR (X.suite a ((a, oe) :: pn)) (.builtin "isinstance") (rKin a D) := by
  intro pins s σ H xs us Q I r h
  obtain ⟨rfl, q⟩ := h
  obtain ⟨u1, u2, rfl, r1, r2⟩ := vals2 r
  cases (show u1 = Value.ref a from r1)
  cases (show u2 = Value.ref D from r2)
  obtain ⟨hget, _⟩ := I.pin (a, oe) (List.mem_append.mpr (.inl List.mem_cons_self))
  refine call_isinstance (S := fun _ R s => (X.K.In s.heap ∧ s.heap.get? a = some oe) ∧ ∀ tk, R (.ok (.ret (.bool true))) { s with toks := tk })
    (fun prog w A R s hs => isinstance_outer (ans_kin (I := fun h => h.get? a = some oe) (fun M h _ hg A Q E s k q => wpAny_typeOf_ref (k _ _ hg) (by rw [hz.1]; exact q)) hk 0 _ prog w A R s hs) (fun z => nomatch z)) ⟨⟨I.kIn, hget⟩, fun tk => ?_⟩
  exact ⟨.bl true, H, I.kept (t' := tk) fun _ _ z => z, rfl, q⟩
/-- isinstance(e, D) -/
theorem c_isE (hk : kitOne X.K (.ref C) (.ref D) = some true) (hz : Zc (.ref C) d oe) (gD : X.mg x = some (.ref D)) (hm : X.mg "isinstance" = none) (hg : Gl X "isinstance" := by rfl) (hgx : Gl X x := by rfl) (hdx : (x == ("__debug__" : Str)) = false := by decide) (hN : X.N[i]? = some n := by rfl) (hv : Vis X.env.scope n := by first | exact Or.inl rfl | exact Or.inr (Or.inl rfl) | exact Or.inr (Or.inr rfl)) (hd : (n == ("__debug__" : Str)) = false := by decide) (hcd : (n == ("__classdict__" : Str)) = false := by decide)
    (h1 : starEach [.Name n p2, .Name x p3] X.env = (false, eval (.Name n p2) X.env) :: starEach [.Name x p3] X.env := by rfl) (h2 : starEach [.Name x p3] X.env = (false, eval (.Name x p3) X.env) :: starEach [] X.env := by rfl)
    (hpl : (backTo pos (starEach [.Name x p3] X.env)).any (·.1) = false := by rfl) :
    CE (T.sup X.K i e a (.ref C) d) W (X.suite a ((a, oe) :: pn)) (.Call (.Name "isinstance" pf) [.Name n p2, .Name x p3] [] pos) (cst (.bl true)) := by
  refine PEw (pe_callB (X := X.suite a ((a, oe) :: pn)) (call_kin hk hz) hg hm (by decide +kernel) (pa_cons (pe_var (X := X.suite a ((a, oe) :: pn)) hN hv hd hcd) (pa_cons (pe_glob (X := X.suite a ((a, oe) :: pn)) (v := .ref D) hgx gD rfl hdx) pa_nil h2) h1) (by decide) (by decide) h1 hpl) fun σ H Q h => ?_
  obtain ⟨p, l, s, S, L, q⟩ := h
  exact ⟨.ref a, L.g.1, rfl, q.pure S (.bl true)⟩
end
end Mn
set_option maxHeartbeats 4000000
/-! Mini14: texts: str(..), a sign in a text; in a list of data; repr in a suite. -/
namespace Mn
open PySem PySem.Spec PyProof.Rows L2
section
variable {T : Tab} {W : WX} {X : Cx} {k : Nat} {pf pos : Pos} {e : Expr} {n : M (List Val)}
/-! ### str -/
def strV (v : Val) (s : Sto) : R Val := match v with
  | .int i => if i.natAbs.log2 < 1920 then .ok (.str (Str.ofString (toString i))) s else .bad
  | .str x => .ok (.str x) s
  | _ => .bad
theorem s_str : SndL T X W (fun xs H Q => (∃ i, xs = [V.int i] ∧ i.natAbs.log2 < 1920 ∧ Q (.str (toString i)) H) ∨ ∃ a, xs = [V.str a] ∧ Q (.str a) H) (g1 strV) := snd1 fun p s H σ v x Q S r1 q => by
  cases v with
  | int i =>
    cases r1
    have q' : post T X.K W (RepV X.K) p H σ (if i.natAbs.log2 < 1920 then .ok (.str (Str.ofString (toString i))) s else .bad) Q := q
    split at q'
    · rename_i hz; exact .inl ⟨i, rfl, hz, q'.pure S (.str _)⟩
    · exact q'.elim
  | str z => cases r1; exact .inr ⟨z, rfl, q.pure S (.str _)⟩
  | _ => exact q.elim
theorem k_str (hm : X.mg "str" = none) (ha : CA T W X [e] n) (hg : Gl X "str" := by rfl) (he : starEach [e] X.env = (false, eval e X.env) :: starEach [] X.env := by rfl) (hpl : (backTo pos (starEach [] X.env)).any (·.1) = false := by rfl) :
    CE T W X (.Call (.Name "str" pf) [e] [] pos) (callG n (g1 strV)) := c_callTy (call_str_int.or SkE.call_str_str) s_str hg hm bt_str ha (by decide) (by decide) he hpl
/-! ### in -/
def inT (neg : Bool) (v w : Val) (s : Sto) : R Val := match w with
  | .str z => match v with
    | .str y => match y.cps.toList with
      | [c] => .ok (.bl (if neg then !decide (c ∈ z.cps.toList) else decide (c ∈ z.cps.toList))) s
      | _ => .bad
    | _ => .bad
  | w => match data s v, data s w with
    | some d, some (.list ds) => if (SeqAt.shaped d && SeqAt.shaped (.list ds)) = true then .ok (.bl (if neg then !(ds.any fun z => PyData.eqv z d) else ds.any fun z => PyData.eqv z d)) s else .bad
    | _, _ => .bad
abbrev inV := inT false
abbrev ninV := inT true
def rInT (K : PySem.W.Frag) (neg : Bool) : R2 := fun x y H Q => (∃ (c : Nat) (z : Str), x = .str ⟨#[c]⟩ ∧ y = .str z ∧ Q (.bl (if neg then !decide (c ∈ z.cps.toList) else decide (c ∈ z.cps.toList))) H) ∨
  (∃ d ds, Dp K H x d ∧ Dp K H y (.list ds) ∧ SeqAt.shaped d = true ∧ SeqAt.shaped (.list ds) = true ∧ Q (.bl (if neg then !(ds.any fun z => PyData.eqv z d) else ds.any fun z => PyData.eqv z d)) H)
theorem o_in (hu : X.A.units + 65 < cLine) : OpR X (compareOp .In) (rInT X.K false) := opOr op_in_sign (op_inD hu)
theorem o_nin (hu : X.A.units + 65 < cLine) : OpR X (compareOp .NotIn) (rInT X.K true) := opOr op_notIn_sign (op_notInD hu)
theorem s_in {neg : Bool} : Snd2 T X W (rInT X.K neg) (inT neg) := by
  intro p s H σ v w x y Q S r1 r2 q
  have gen : post T X.K W (RepV X.K) p H σ (match data s v, data s w with | some d, some (.list ds) => if (SeqAt.shaped d && SeqAt.shaped (.list ds)) = true then .ok (.bl (if neg then !(ds.any fun z => PyData.eqv z d) else ds.any fun z => PyData.eqv z d)) s else .bad | _, _ => .bad) Q → rInT X.K neg x y H Q := fun q => by
    split at q
    · rename_i d ds e1 e2
      split at q
      · rename_i hz
        rw [Bool.and_eq_true] at hz
        exact .inr ⟨d, ds, r1.dp S e1, r2.dp S e2, hz.1, hz.2, q.pure S (.bl _)⟩
      · exact q.elim
    · exact q.elim
  cases w with
  | str z =>
    cases v with
    | str t =>
      cases r1; cases r2
      have q' : post T X.K W (RepV X.K) p H σ (match t.cps.toList with | [c] => .ok (.bl (if neg then !decide (c ∈ z.cps.toList) else decide (c ∈ z.cps.toList))) s | _ => .bad) Q := q
      split at q'
      · rename_i c ec
        refine .inl ⟨c, z, ?_, rfl, q'.pure S (.bl _)⟩
        obtain ⟨cps⟩ := t
        have : cps = #[c] := by
          apply Array.ext'
          rw [ec]
        rw [this]
      · exact q'.elim
    | _ => exact q.elim
  | tup zs => exact gen q
  | lst zs => exact gen q
  | scr zs => exact gen q
  | loc zs => exact gen q
  | non => exact gen q
  | bl b => exact gen q
  | int b => exact gen q
  | emp => exact gen q
theorem XOk.hu65 (h : XOk k X) : X.A.units + 65 < cLine := by have := h.room.un; omega
end
/-! ### repr in a suite -/
section
variable {T : Tab} {W : WX} {X : Cx} {k : Nat} {pf pos : Pos} {e : Expr} {n : M (List Val)} {a : Addr} {oe : Obj} {pn : List (Addr × Obj)}
theorem o_reprS (xk : XOk k X) : CallR (X.suite a ((a, oe) :: pn)) (.builtin "repr") (rRepr X.K) := by
  intro pins s σ H vs us Q I r h
  obtain ⟨x, d, rfl, hd, h1, h2, h3, h4, q⟩ := h
  obtain ⟨u, rfl, ru⟩ := vals1 r
  obtain ⟨as, rd⟩ := Dp.reads I d x u hd ru
  have hu : (X.suite a ((a, oe) :: pn)).A.units + 64 < cLine := xk.hu
  have fin : ∀ (z : Str) (tk : Nat), d.shown = z → EP (X.suite a ((a, oe) :: pn)) pins σ Q (.str z s.toks) { s with toks := tk } := fun z tk e => ⟨.str z, H, I.tok tk, ⟨_, rfl⟩, by rw [← e]; exact q⟩
  cases hd with
  | non => cases (show u = Value.none from ru); exact PySem.P.repr_of_none (fin _ _ rfl)
  | bl b => cases (show u = Value.bool b from ru); exact PySem.P.repr_of_bool (fin _ _ rfl)
  | int i =>
    obtain ⟨t, rfl⟩ := (show ∃ t, u = Value.int i t from ru)
    exact PySem.P.repr_of_int (of_decide_eq_true h1) (fin _ _ rfl)
  | str z =>
    obtain ⟨t, rfl⟩ := (show ∃ t, u = Value.str z t from ru)
    exact PySem.P.repr_of_str (fin _ _ rfl) h4
  | @lst b xs ds hs ha =>
    cases (show u = Value.ref b from ru)
    refine PySem.repr_of_reads' rd h1 (fun z => ?_) (show X.A.guards = some [] from xk.grd) (by omega) (fun b o e => e) (fun h' u tk hk => ⟨.str _, H, I.kept (t' := tk) hk, ⟨_, rfl⟩, q⟩) h4
    rw [PyData.hasDict_of_canLay _ h2] at z
    cases z
  | @tup b xs ds hs ha =>
    cases (show u = Value.ref b from ru)
    refine PySem.repr_of_reads' rd h1 (fun z => ?_) (show X.A.guards = some [] from xk.grd) (by omega) (fun b o e => e) (fun h' u tk hk => ⟨.str _, H, I.kept (t' := tk) hk, ⟨_, rfl⟩, q⟩) h4
    rw [PyData.hasDict_of_canLay _ h2] at z
    cases z
theorem k_reprS (xk : XOk k X) (hm : X.mg "repr" = none) (ha : CA T W (X.suite a ((a, oe) :: pn)) [e] n) (hg : Gl X "repr" := by rfl) (he : starEach [e] X.env = (false, eval e X.env) :: starEach [] X.env := by rfl) (hpl : (backTo pos (starEach [] X.env)).any (·.1) = false := by rfl) :
    CE T W (X.suite a ((a, oe) :: pn)) (.Call (.Name "repr" pf) [e] [] pos) (callG n (g1 reprV)) := c_callB (X := X.suite a ((a, oe) :: pn)) (o_reprS xk) s_repr hg hm bt_repr ha (by decide) (by decide) he hpl
theorem xok_tr (xk : XOk k X) {xe : Value → Shared → Prop} {pn : List (Addr × Obj)} : XOk k (X.tr pn xe) := ⟨xk.room, xk.grd⟩
end
/-! ### what the top says of the classes of errors -/
structure XRaw (K : PySem.W.Frag) (mg : Str → Option Value) (x : Str) (C fI : Addr) (f : Str) : Prop where
  gC : mg x = some (.ref C)
  oex : OexC K C
  noF : PySem.W.findIn K (.ref C) f = some none
  iC : PySem.W.findIn K (.ref C) "__init__" = some (some (.ref fI))
  tI : PySem.W.typeIn K (.ref fI) = some (.type "function")
  xf : XfC K C
  me : PySem.W.exmOne K (.ref C) (.ref C) = some true
theorem exm_of {K : PySem.W.Frag} {S : Addr} {cls : Value} {b : Bool} (h1 : PySem.W.subIn K (.ref S) (.type "BaseException") = some true) (h2 : PySem.W.hasDictIn K S = true) (h3 : PySem.W.typeIn K (.ref S) = some (.type "type")) (h4 : PySem.W.subIn K cls (.ref S) = some b) :
    PySem.W.exmOne K cls (.ref S) = some b := PySem.W.exm_ref h1 h2 h3 h4
theorem kit_of {K : PySem.W.Frag} {C D : Addr} (h2 : PySem.W.isClsIn K D = true) (h3 : PySem.W.typeIn K (.ref D) = some (.type "type")) (h4 : PySem.W.subIn K (.ref C) (.ref D) = some true) : PySem.W.kitOne K (.ref C) (.ref D) = some true := by
  have e2 : ((PySem.W.clsIn K D).isSome && PySem.W.typeIn K (.ref D) == some (.type "type")) = true := by
    have h2' : (PySem.W.clsIn K D).isSome = true := h2
    rw [h2', h3] <;> rfl
  unfold PySem.W.kitOne
  split
  · rfl
  · show (if ((PySem.W.clsIn K D).isSome && PySem.W.typeIn K (.ref D) == some (.type "type")) = true then PySem.W.subIn K (.ref C) (.ref D) else none) = some true
    rw [if_pos e2]
    exact h4
theorem xc_of {K : PySem.W.Frag} {mg : Str → Option Value} {base : Heap} {P : Program} {w : World} {x qual f : Str} {C fI : Addr} {pa : Arguments} {bd : List Stmt} {sc : Scope} {dvs : List V} {kws : List (Str × V)} {fd : FuncData} {q1 q2 q3 q4 : Pos} (R : XRaw K mg x C fI f)
    (F : FunD K "__init__" qual pa bd sc dvs kws fI fd) (B : Binds K fd ["self", f] []) (S : FnScope ["self", f] ["self", f] sc) (hv1 : Vis sc "self") (hv2 : Vis sc f) (hb : bd = [.Assign [.Attribute (.Name "self" q1) f q2] (.Name f q3) q4]) (hd1 : (f == ("__debug__" : Str)) = false) (hd2 : (f == ("__classdict__" : Str)) = false) : XCls K mg base P w x C f :=
  ⟨R.gC, R.oex, R.noF, fI, fd, _, R.iC, R.tI, ini_ok F S hv1 hv2 hb hd1 hd2, B⟩
/-- which classes a clause takes: by name, place, answer -/
abbrev KT := List (Str × Addr × Bool)
def clL (L : KT) : Str → Option Addr := fun x => L.lookup x |>.map (·.1)
def knL (L : List (Str × Bool)) : Str → Option Bool := fun x => L.lookup x
theorem kin_look {K : PySem.W.Frag} {cv : Value} : ∀ (L : KT), (∀ q ∈ L, PySem.W.exmOne K (.ref q.2.1) cv = some q.2.2) → ∀ (c : Str) (C : Addr) (k : Bool), (L.map fun q => (q.1, q.2.1)).lookup c = some C → knL (L.map fun q => (q.1, q.2.2)) c = some k → PySem.W.exmOne K (.ref C) cv = some k
  | [], _, c, C, k, h, _ => nomatch h
  | (x, a, b) :: L, H, c, C, k, h1, h2 => by
    unfold knL at h2
    rw [List.map_cons, look_put] at h1 h2
    by_cases e : c = x
    · rw [if_pos e] at h1 h2
      cases h1; cases h2
      exact H (x, a, b) List.mem_cons_self
    · rw [if_neg e] at h1 h2
      exact kin_look L (fun q hq => H q (List.mem_cons_of_mem _ hq)) c C k h1 h2
theorem kin_true {a : Addr} : ∀ (L : KT), (∀ q ∈ L, q.2.2 = true → q.2.1 = a) → ∀ (c : Str) (C : Addr), (L.map fun q => (q.1, q.2.1)).lookup c = some C → knL (L.map fun q => (q.1, q.2.2)) c = some true → C = a
  | [], _, c, C, h, _ => nomatch h
  | (x, b, k) :: L, H, c, C, h1, h2 => by
    unfold knL at h2
    rw [List.map_cons, look_put] at h1 h2
    by_cases e : c = x
    · rw [if_pos e] at h1 h2
      cases h1; cases h2
      exact H (x, b, true) List.mem_cons_self rfl
    · rw [if_neg e] at h1 h2
      exact kin_true L (fun q hq => H q (List.mem_cons_of_mem _ hq)) c C h1 h2
def clsBody : Stmt → List Stmt
  | .ClassDef (body := b) .. => b
  | _ => []
end Mn
set_option maxHeartbeats 4000000
/-! Mini15: k times a text; simp lemmas for Mini12..14. -/
namespace Mn
open PySem PySem.Spec PyProof.Rows L2
section
variable {T : Tab} {W : WX} {X : Cx}
def repS (z : Str) (n : Nat) : Str := ⟨(List.replicate n z.cps).foldl (· ++ ·) #[]⟩
theorem rep_size (c : Array Nat) : ∀ (n : Nat) (a : Array Nat), ((List.replicate n c).foldl (· ++ ·) a).size = a.size + n * c.size
  | 0, a => by rw [Nat.zero_mul]; rfl
  | n + 1, a => by
    rw [List.replicate_succ, List.foldl_cons, rep_size c n (a ++ c), Array.size_append, Nat.succ_mul]
    omega
def rMulS : R2 := fun x y H Q => ∃ z k, x = .str z ∧ y = .int k ∧ 2 ≤ k ∧ k ≤ 1000 ∧ 1 ≤ z.length ∧ z.length ≤ 1000 ∧ Q (.str (repS z k.toNat)) H
theorem op_mulS : OpR X (binaryOp .Mult) rMulS := by
  intro pins s σ H x y v u Q I rx ry h
  obtain ⟨z, k, rfl, rfl, h1, h2, h3, h4, q⟩ := h
  obtain ⟨t, rfl⟩ := rx
  obtain ⟨t', rfl⟩ := ry
  have n1 : ¬ k < 1 := by omega
  have n2 : (k == 1 || z.length == 0) = false := by
    have a : (k == 1) = false := beq_false_of_ne (by omega)
    have b : (z.length == 0) = false := beq_false_of_ne (by omega)
    rw [a, b]; rfl
  have hb : ¬ ((z.length : Int) > (2 ^ 63 - 1) / k) := by
    have : (1000 : Int) ≤ (2 ^ 63 - 1) / k := by
      rw [Int.le_ediv_iff_mul_le (by omega)]
      omega
    omega
  have hm : z.length * k.toNat ≤ 1000 * 1000 := Nat.mul_le_mul h4 (by omega)
  have hl : Builtin.Str.tooLong (z.length * k.toNat) = false := by
    unfold Builtin.Str.tooLong
    exact decide_eq_false (by rw [sizeLine_eq]; omega)
  refine PySem.P.mul_str ?_ (fun _ _ => hb) (fun _ _ => hl) ?_
  · have a1 : ¬ k < -(2 ^ 63 : Int) := by omega
    have a2 : ¬ k ≥ 2 ^ 63 := by omega
    rw [decide_eq_false a1, decide_eq_false a2]; rfl
  · rw [if_neg n1, n2, if_neg Bool.false_ne_true]
    refine ⟨?_, .str _, H, I.tok _, ⟨_, rfl⟩, q⟩
    show ((List.replicate k.toNat z.cps).foldl (· ++ ·) #[]).size ≤ sizeLine
    rw [rep_size, sizeLine_eq]
    have e : z.cps.size = z.length := rfl
    rw [e, Nat.mul_comm]
    show 0 + _ ≤ _
    omega
def mulT (v w : Val) (s : Sto) : R Val := match v with
  | .str z => match w with
    | .int k => if 2 ≤ k ∧ k.natAbs ≤ 1000 ∧ 1 ≤ z.length ∧ z.length ≤ 1000 then .ok (.str (repS z k.toNat)) s else .bad
    | _ => .bad
  | _ => .bad
theorem s_mulT : Snd2 T X W rMulS mulT := by
  intro p s H σ v w x y Q S r1 r2 q
  cases v with
  | str z =>
    cases w with
    | int k =>
      cases r1; cases r2
      have q' : post T X.K W (RepV X.K) p H σ (if 2 ≤ k ∧ k.natAbs ≤ 1000 ∧ 1 ≤ z.length ∧ z.length ≤ 1000 then .ok (.str (repS z k.toNat)) s else .bad) Q := q
      split at q'
      · rename_i hz
        exact ⟨z, k, rfl, rfl, hz.1, by omega, hz.2.2.1, hz.2.2.2, q'.pure S (.str _)⟩
      · exact q'.elim
    | _ => exact q.elim
  | _ => exact q.elim
end
section
variable {s : Sto} {l : Mn.Loc} {i : Nat} {b : B} {su : Exn → B} {kin : Str → Option Bool} {n : M (List Val)} {x f : Str} {e : Exn} {v : Val}
def RB.ty (kin : Str → Option Bool) (i : Nat) (su : Exn → B) (r : RB) : RB := match r with
  | .ex e l1 s1 => match kin e.cls with
    | some true => if i < l1.length then wipeR i (su e (l1.set i none) s1) else .bad
    | some false => .ex e l1 s1
    | none => .bad
  | r => r
theorem e_try : tryB kin i b su l s = (b l s).ty kin i su := rfl
theorem ty_nx : (RB.nx l s).ty kin i su = .nx l s := rfl
theorem ty_rt : (RB.rt v s).ty kin i su = .rt v s := rfl
theorem ty_bk : (RB.bk l s).ty kin i su = .bk l s := rfl
theorem ty_ct : (RB.ct l s).ty kin i su = .ct l s := rfl
theorem ty_ex (h : kin e.cls = some true) : (RB.ex e l s).ty kin i su = if i < l.length then wipeR i (su e (l.set i none) s) else .bad := by
  unfold RB.ty
  simp only [h]
theorem wr_nx : wipeR i (.nx l s) = .nx (l.set i none) s := rfl
theorem wr_rt : wipeR i (.rt v s) = .rt v s := rfl
def raiK (x f : Str) (l : Mn.Loc) (vs : List Val) (s : Sto) : RB := match vs with
  | [v] => .ex ⟨x, [(f, v)]⟩ l s
  | _ => .bad
theorem e_rai : raiB x f n l s = (n l s).rb l (raiK x f l) := rfl
theorem raiK_1 : raiK x f l [v] s = .ex ⟨x, [(f, v)]⟩ l s := rfl
theorem e_exf : exfM ⟨x, [(f, v)]⟩ f l s = .ok v s := by
  show (match List.lookup f [(f, v)] with | some v => R.ok v s | none => .bad) = _
  rw [look_put, if_pos rfl]
theorem e_strI {j : Int} : strV (.int j) s = if j.natAbs.log2 < 1920 then .ok (.str (Str.ofString (toString j))) s else .bad := rfl
theorem e_strS {y : Str} : strV (.str y) s = .ok (.str y) s := rfl
theorem e_lenT_ {y : Str} : lenV (.str y) s = if y.length ≤ 16777216 then .ok (.int y.length) s else .bad := rfl
end
/-- as many turns as the text at a slot is long, and one -/
def fuelLen (i : Nat) : Mn.Loc → Sto → Nat := fun l _ => match l[i]? with
  | some (some (Val.str z)) => z.length + 1
  | _ => 0
end Mn
set_option maxHeartbeats 4000000
/-! Mini16: the empty dict as a value that won't change. -/
namespace Mn
open PySem PySem.Spec PyProof.Rows L2
section
variable {T : Tab} {W : WX} {X : Cx} {p : Pl} {s : Sto} {H : Hp} {σ : L2.St} {Q : VK} {K : PySem.W.Frag}
theorem post.emp (h : post T K W (RepV K) p H σ (.ok .emp s) Q) (S : RepSt K p s H) (a : Addr) (ha : H a = none) : Q (.ref a) (upd H a (.dK [])) :=
  h p _ _ (.alloc ha) (S.alloc ha) (.emp upd_same (S.nohas ha))
theorem c_emp {pos : Pos} : CE T W X (.Dict [] [] pos) (cst .emp) := by
  refine PEw pe_dnewK fun σ H Q h => ?_
  obtain ⟨p, l, s, S, L, q⟩ := h
  exact fun a ha => post.emp (show post T X.K W (RepV X.K) p H σ (.ok .emp s) Q from q) S a ha
/-! ### repr of it -/
def rReprE : List V → Hp → VK → Prop := fun vs H Q => ∃ a, vs = [V.ref a] ∧ H a = some (.dK []) ∧ Q (.str (Str.ofString "{}")) H
theorem o_reprE {k : Nat} (xk : XOk k X) : CallR X (.builtin "repr") rReprE := by
  intro pins s σ H vs us Q I r h
  obtain ⟨a, rfl, ha, q⟩ := h
  obtain ⟨u, rfl, ru⟩ := vals1 r
  obtain rfl : u = Value.ref a := ru
  obtain ⟨_, hsm, vs, kv, o, es, ep, e1, hx, e2, _, pr, _⟩ := I.hok _ _ ha
  have hu := xk.hu
  have rd : Reads s.heap (.ref a) (.dict []) (a :: [] ++ []) := by
    cases kv
    have he : es.toList = [] := by
      generalize es.toList = z at pr
      cases pr
      rfl
    exact .dict (kvs := []) e1 hx.1 e2 (by rw [he]; exact .nil) (by rw [he]; exact .nil)
  refine PySem.repr_of_reads' rd (by decide +kernel) (fun _ hm => ?_) xk.grd (by have h0 : (PyData.dict []).depth ≤ 1 := (by decide +kernel); omega) (fun b o e => e) (fun h' u tk hk => ⟨.str _, H, I.kept (t' := tk) hk, ⟨_, rfl⟩, q⟩) (by rw [sizeLine_eq]; decide +kernel)
  rcases List.mem_cons.mp hm with e | e
  · rw [← e] at hsm; exact absurd hsm (by decide +kernel)
  · exact nomatch e
/-- repr of data, and of the empty dict -/
def reprE (v : Val) (s : Sto) : R Val := match v with
  | .emp => .ok (.str (Str.ofString "{}")) s
  | v => reprV v s
theorem s_reprE : SndL T X W (fun xs H Q => rRepr X.K xs H Q ∨ rReprE xs H Q) (g1 reprE) := snd1 fun p s H σ v x Q S r1 q => by
  have gen : post T X.K W (RepV X.K) p H σ (reprV v s) Q → rRepr X.K [x] H Q ∨ rReprE [x] H Q := fun q => .inl (s_repr p s H σ [v] [x] Q S (.cons r1 .nil) q)
  cases v with
  | emp =>
    cases r1 with
    | emp h1 h2 => exact .inr ⟨_, rfl, h1, post.pure (v := Val.str (Str.ofString "{}")) q S (.str _)⟩
  | non => exact gen q
  | bl b => exact gen q
  | int b => exact gen q
  | str b => exact gen q
  | tup b => exact gen q
  | lst b => exact gen q
  | scr b => exact gen q
  | loc b => exact gen q
end
section
variable {T : Tab} {W : WX} {X : Cx} {k : Nat} {e : Expr} {n : M (List Val)} {pf pos : Pos}
theorem k_reprE (xk : XOk k X) (hm : X.mg "repr" = none) (ha : CA T W X [e] n) (hg : Gl X "repr" := by rfl) (he : starEach [e] X.env = (false, eval e X.env) :: starEach [] X.env := by rfl) (hpl : (backTo pos (starEach [] X.env)).any (·.1) = false := by rfl) : CE T W X (.Call (.Name "repr" pf) [e] [] pos) (callG n (g1 reprE)) := c_callB ((o_repr xk).or (o_reprE xk)) s_reprE hg hm bt_repr ha (by decide) (by decide) he hpl
theorem e_reprE {v : Val} {s : Sto} (h : v ≠ .emp) : reprE v s = reprV v s := by
  cases v <;> first | rfl | exact absurd rfl h
theorem e_reprEE {s : Sto} : reprE .emp s = .ok (.str (Str.ofString "{}")) s := rfl
end
end Mn
set_option maxHeartbeats 4000000
/-! Mini17: xs + ys as a list that will change; == of texts whatever their signs. -/
namespace Mn
open PySem PySem.Spec PyProof.Rows L2
section
variable {T : Tab} {W : WX} {X : Cx}
def addC (v w : Val) (s : Sto) : R Val := match derefH s v, derefH s w with
  | some xs, some ys => if xs.length + ys.length ≤ 16777216 then .ok (.loc s.length) (s ++ [.lst (xs ++ ys)]) else .bad
  | _, _ => .bad
theorem s_addC : Snd2 T X W (rAdd X.K) addC := by
  intro p s H σ v w x y Q S r1 r2 q
  unfold addC at q
  split at q
  · rename_i xs ys e1 e2
    split at q
    · rename_i hz
      obtain ⟨a, us, rfl, h1, rs⟩ := r1.asLstH S e1
      obtain ⟨b, ws, rfl, h2, rt⟩ := r2.asLstH S e2
      exact .inr (.inr (.inr ⟨a, b, us, ws, rfl, rfl, h1, h2, by rw [← rs.len, ← rt.len]; exact line_ok hz, fun c hc => q.loc S (rs.app rt) c hc⟩))
    · exact q.elim
  · exact q.elim
/-- texts: whatever their signs -/
def eqW (v w : Val) (s : Sto) : R Val := match v, w with
  | .str x, .str y => .ok (.bl (decide (x = y))) s
  | v, w => eqV v w s
def neW (v w : Val) (s : Sto) : R Val := match v, w with
  | .str x, .str y => .ok (.bl (!decide (x = y))) s
  | v, w => neV v w s
theorem o_eqW (hu : X.A.units + 64 < cLine) : OpR X (compareOp .Eq) (fun x y H Q => L2.rEq x y H Q ∨ rEqD X.K x y H Q) := op_eq.or (op_eqD hu)
theorem o_neW (hu : X.A.units + 64 < cLine) : OpR X (compareOp .NotEq) (fun x y H Q => L2.rNe x y H Q ∨ rNeD X.K x y H Q) := op_ne.or (op_neD hu)
theorem s_eqW : Snd2 T X W (fun x y H Q => L2.rEq x y H Q ∨ rEqD X.K x y H Q) eqW := by
  intro p s H σ v w x y Q S r1 r2 q
  unfold eqW at q
  split at q
  · cases r1; cases r2
    refine .inl ⟨rfl, ?_⟩
    have := post.pure q S (x := V.bl _) (.bl _)
    rename_i a b
    have e : decide (V.str a = V.str b) = decide (a = b) := by simp
    rw [e]; exact this
  · exact .inr (s_eq p s H σ v w x y Q S r1 r2 q)
theorem s_neW : Snd2 T X W (fun x y H Q => L2.rNe x y H Q ∨ rNeD X.K x y H Q) neW := by
  intro p s H σ v w x y Q S r1 r2 q
  unfold neW at q
  split at q
  · cases r1; cases r2
    refine .inl ⟨rfl, ?_⟩
    have := post.pure q S (x := V.bl _) (.bl _)
    rename_i a b
    have e : decide (V.str a = V.str b) = decide (a = b) := by simp
    rw [e]; exact this
  · exact .inr (s_ne p s H σ v w x y Q S r1 r2 q)
end
end Mn
namespace Mn
open PySem PySem.Spec PyProof.Rows L2
section
variable {s : Sto} {v w : Val} {i j : Int} {x y : Str} {xs ys : List Val}
theorem e_eqWS : eqW (.str x) (.str y) s = .ok (.bl (decide (x = y))) s := rfl
theorem e_neWS : neW (.str x) (.str y) s = .ok (.bl (!decide (x = y))) s := rfl
theorem e_eqWI : eqW (.int i) w s = eqV (.int i) w s := rfl
theorem e_neWI : neW (.int i) w s = neV (.int i) w s := rfl
theorem e_eqWB {b : Bool} : eqW (.bl b) w s = eqV (.bl b) w s := rfl
theorem e_neWB {b : Bool} : neW (.bl b) w s = neV (.bl b) w s := rfl
theorem e_eqWT : eqW (.tup xs) w s = eqV (.tup xs) w s := rfl
theorem e_neWT : neW (.tup xs) w s = neV (.tup xs) w s := rfl
theorem e_eqWL : eqW (.lst xs) w s = eqV (.lst xs) w s := rfl
theorem e_neWL : neW (.lst xs) w s = neV (.lst xs) w s := rfl
theorem e_eqWN : eqW .non w s = eqV .non w s := rfl
theorem e_neWN : neW .non w s = neV .non w s := rfl
theorem e_eqWC {n : Nat} : eqW (.loc n) w s = eqV (.loc n) w s := rfl
theorem e_neWC {n : Nat} : neW (.loc n) w s = neV (.loc n) w s := rfl
theorem e_addC {k : Nat} (h : s[k]? = some (.lst xs)) (hl : xs.length + ys.length ≤ 16777216) : addC (.loc k) (.lst ys) s = .ok (.loc s.length) (s ++ [.lst (xs ++ ys)]) := by
  have e : derefH s (.loc k) = some xs := by show (match s[k]? with | some (.lst xs) => some xs | _ => none) = _; rw [h]
  unfold addC
  rw [e]
  show (if xs.length + ys.length ≤ 16777216 then _ else _) = _
  rw [if_pos hl]
end
end Mn
set_option maxHeartbeats 4000000
/-! Txt1: texts by their signs. -/
namespace Mn
open PySem PySem.Spec PyProof.Rows L2 TL PySem.NumText
/-- a text that is no longer than so, of signs that are ones -/
structure OkT (k : Nat) (z : Str) : Prop where
  few : (tl z).length ≤ k
  ok : ∀ c ∈ tl z, c < 1114112
theorem strOk_of {z : Str} (h : ∀ c ∈ tl z, c < 1114112) : PyData.strOk z = true := by
  unfold PyData.strOk
  rw [← Array.all_toList]
  exact List.all_eq_true.mpr fun c hc => decide_eq_true (h c hc)
theorem OkT.so {k : Nat} {z : Str} (h : OkT k z) : PyData.strOk z = true := strOk_of h.ok
theorem OkT.up {k j : Nat} {z : Str} (h : OkT k z) (hj : k ≤ j) : OkT j z := ⟨Nat.le_trans h.few hj, h.ok⟩
theorem beq_tl (x y : Str) : (x == y) = decide (tl x = tl y) := by
  rw [Bool.eq_iff_iff, beq_iff_eq, decide_eq_true_eq]
  exact ⟨fun h => by rw [h], ext_tl⟩
theorem shp {z : Str} (h : PyData.strOk z = true) : SeqAt.shaped (.str z) = true := by
  unfold SeqAt.shaped
  rw [show PyData.canLay0 (.str z) = PyData.strOk z from rfl, h]
  rfl
section
variable {x y z : Str} {s : Sto} {k : Nat}
theorem e_eqStr (h : PyData.strOk x = true) (h2 : PyData.strOk y = true) : Mn.eqV (.str x) (.str y) s = .ok (.bl (decide (tl x = tl y))) s := by
  have e : Mn.eqV (.str x) (.str y) s = if (SeqAt.shaped (.str x) && SeqAt.shaped (.str y)) = true then .ok (.bl (PyData.eqv (.str x) (.str y))) s else .bad := rfl
  rw [e, shp h, shp h2]
  show R.ok (Val.bl (x == y)) s = _
  rw [beq_tl]
theorem e_neStr (h : PyData.strOk x = true) (h2 : PyData.strOk y = true) : Mn.neV (.str x) (.str y) s = .ok (.bl (!decide (tl x = tl y))) s := by
  have e : Mn.neV (.str x) (.str y) s = if (SeqAt.shaped (.str x) && SeqAt.shaped (.str y)) = true then .ok (.bl (!PyData.eqv (.str x) (.str y))) s else .bad := rfl
  rw [e, shp h, shp h2]
  show R.ok (Val.bl (!(x == y))) s = _
  rw [beq_tl]
theorem e_lenStr (h : OkT k z) (hk : k ≤ 16777216) : lenV (.str z) s = .ok (.int ((tl z).length : Nat)) s := by
  have e : lenV (.str z) s = if z.length ≤ 16777216 then .ok (.int z.length) s else .bad := rfl
  rw [e, len_tl, if_pos (Nat.le_trans h.few hk)]
/-- one sign -/
def sg (c : Nat) : Str := ⟨#[c]⟩
theorem tl_sg {c : Nat} : tl (sg c) = [c] := rfl
theorem e_ixStr {j c : Nat} (h : OkT k z) (hk : k ≤ 16777216) (hj : (tl z)[j]? = some c) : ixV (.str z) (.int (j : Nat)) s = .ok (.str (sg c)) s := by
  have e : ixV (.str z) (.int (j : Nat)) s = if z.length ≤ 16777216 then getO (L2.atI z.cps.toList (j : Nat)) fun c => .ok (.str ⟨#[c]⟩) s else .bad := rfl
  have hl : j < (tl z).length := (List.getElem?_eq_some_iff.mp hj).1
  have ea : L2.atI z.cps.toList (j : Nat) = some c := by
    unfold L2.atI
    have e2 : L2.ixN z.cps.toList.length (j : Int) = some j := by
      have hl' : j < z.cps.toList.length := hl
      unfold L2.ixN
      rw [if_pos (by omega), if_pos (by omega), Int.toNat_natCast]
    rw [e2]
    exact hj
  rw [e, len_tl, if_pos (Nat.le_trans h.few hk), ea]
  rfl
theorem e_inStr {c : Nat} : inT false (.str (sg c)) (.str z) s = .ok (.bl (decide (c ∈ tl z))) s := rfl
theorem e_ninStr {c : Nat} : inT true (.str (sg c)) (.str z) s = .ok (.bl (!decide (c ∈ tl z))) s := rfl
theorem e_slStr {lo hi : Option Int} (h : OkT k z) (hk : k ≤ 16777216) : slV (.str z) lo hi s = .ok (.str (cutS z lo hi)) s := by
  have e : slV (.str z) lo hi s = if z.length ≤ 16777216 then .ok (.str (cutS z lo hi)) s else .bad := rfl
  rw [e, len_tl, if_pos (Nat.le_trans h.few hk)]
/-- the bounds of a cut -/
theorem six_nat (n d k : Nat) : HT.sIx n d (some (k : Int)) = min k n := HT.sIx_nat n d k
theorem tl_cut (lo hi : Option Int) : tl (cutS z lo hi) = ((tl z).drop (HT.sIx (tl z).length 0 lo)).take (HT.sIx (tl z).length (tl z).length hi - HT.sIx (tl z).length 0 lo) := by
  unfold cutS
  rw [len_tl]
theorem tl_cut2 (a b : Nat) (hab : a ≤ b) : tl (cutS z (some (a : Int)) (some (b : Int))) = ((tl z).drop a).take (b - a) := by
  rw [tl_cut, six_nat, six_nat]
  by_cases h : a ≤ (tl z).length
  · rw [Nat.min_eq_left h]
    by_cases h2 : b ≤ (tl z).length
    · rw [Nat.min_eq_left h2]
    · have e : min b (tl z).length = (tl z).length := Nat.min_eq_right (by omega)
      rw [e, List.take_of_length_le (by rw [List.length_drop]; exact Nat.le_refl _), List.take_of_length_le (by rw [List.length_drop]; omega)]
  · have e : min a (tl z).length = (tl z).length := Nat.min_eq_right (by omega)
    rw [e, List.drop_of_length_le (Nat.le_refl _), List.drop_of_length_le (show (tl z).length ≤ a by omega)]
    rw [List.take_nil, List.take_nil]
theorem tl_cutL (b : Nat) : tl (cutS z none (some (b : Int))) = (tl z).take b := by
  rw [tl_cut, six_nat]
  show ((tl z).drop 0).take (min b (tl z).length - 0) = _
  rw [List.drop_zero, Nat.sub_zero]
  by_cases h2 : b ≤ (tl z).length
  · rw [Nat.min_eq_left h2]
  · rw [Nat.min_eq_right (by omega), List.take_of_length_le (Nat.le_refl _), List.take_of_length_le (by omega)]
theorem tl_cutR (a : Nat) : tl (cutS z (some (a : Int)) none) = (tl z).drop a := by
  rw [tl_cut, six_nat]
  show ((tl z).drop (min a (tl z).length)).take ((tl z).length - min a (tl z).length) = _
  by_cases h : a ≤ (tl z).length
  · rw [Nat.min_eq_left h, List.take_of_length_le (by rw [List.length_drop]; exact Nat.le_refl _)]
  · rw [Nat.min_eq_right (by omega), List.drop_of_length_le (Nat.le_refl _), List.drop_of_length_le (by omega), List.take_nil]
theorem OkT.sub {w : Str} (h : OkT k z) (hl : (tl w).length ≤ (tl z).length) (hm : ∀ c ∈ tl w, c ∈ tl z) : OkT k w := ⟨Nat.le_trans hl h.few, fun c hc => h.ok c (hm c hc)⟩
theorem OkT.cut {lo hi : Option Int} (h : OkT k z) : OkT k (cutS z lo hi) := h.sub (by rw [tl_cut, List.length_take, List.length_drop]; omega) fun c hc => by
  rw [tl_cut] at hc
  exact List.mem_of_mem_drop (List.mem_of_mem_take hc)
theorem OkT.sg {c : Nat} (h : OkT k z) (hc : c ∈ tl z) : PyData.strOk (Mn.sg c) = true := strOk_of fun d hd => by
  rw [tl_sg, List.mem_singleton] at hd
  rw [hd]; exact h.ok c hc
/-! ### digits -/
def dg (c : Nat) : Bool := decide (48 ≤ c) && decide (c ≤ 57)
def run (cs : List Nat) : Nat := (cs.takeWhile dg).length
theorem run_le : ∀ cs : List Nat, run cs ≤ cs.length
  | [] => Nat.le_refl _
  | c :: cs => by
    unfold run
    rw [List.takeWhile_cons]
    split
    · rw [List.length_cons, List.length_cons]; exact Nat.succ_le_succ (run_le cs)
    · exact Nat.zero_le _
theorem run_cons {c : Nat} {cs : List Nat} (h : dg c = true) : run (c :: cs) = 1 + run cs := by
  unfold run
  rw [List.takeWhile_cons, if_pos h, List.length_cons, Nat.add_comm]
theorem run_no {c : Nat} {cs : List Nat} (h : dg c = false) : run (c :: cs) = 0 := by
  unfold run
  rw [List.takeWhile_cons, if_neg (by rw [h]; exact Bool.false_ne_true)]
  rfl
theorem run_take : ∀ cs : List Nat, NumText.AllDigits (cs.take (run cs))
  | [] => fun c hc => nomatch hc
  | c :: cs => by
    by_cases h : dg c = true
    · rw [run_cons h, Nat.add_comm, List.take_succ_cons]
      intro d hd
      rcases List.mem_cons.mp hd with rfl | hd
      · unfold dg at h
        rw [Bool.and_eq_true, decide_eq_true_eq, decide_eq_true_eq] at h
        exact h
      · exact run_take cs d hd
    · rw [run_no (by simpa using h), List.take_zero]
      exact fun c hc => nomatch hc
theorem run_all : ∀ {ds r : List Nat}, NumText.AllDigits ds → (∀ c ∈ r.head?, dg c = false) → run (ds ++ r) = ds.length
  | [], [], _, _ => rfl
  | [], c :: r, _, h => run_no (h c rfl)
  | d :: ds, r, h, h2 => by
    have hd := h.head
    rw [List.cons_append, run_cons (by unfold dg; rw [decide_eq_true hd.1, decide_eq_true hd.2]; rfl), run_all h.tail h2, List.length_cons, Nat.add_comm]
theorem mem_dig (c : Nat) : c ∈ tl (Str.ofString "0123456789") ↔ dg c = true := by
  have e : tl (Str.ofString "0123456789") = [48, 49, 50, 51, 52, 53, 54, 55, 56, 57] := by decide +kernel
  rw [e]
  unfold dg
  rw [Bool.and_eq_true, decide_eq_true_eq, decide_eq_true_eq]
  simp only [List.mem_cons, List.not_mem_nil, or_false]
  omega
theorem val_lt : ∀ (cs : List Nat) (a : Nat), NumText.AllDigits cs → cs.foldl (fun acc c => acc * 10 + (c - 48)) a < (a + 1) * 10 ^ cs.length
  | [], a, _ => by
    show a < (a + 1) * 10 ^ 0
    rw [Nat.pow_zero, Nat.mul_one]; exact Nat.lt_succ_self a
  | c :: cs, a, h => by
    have hc := h.head
    have ih := val_lt cs (a * 10 + (c - 48)) h.tail
    rw [List.foldl_cons, List.length_cons, Nat.pow_succ]
    refine Nat.lt_of_lt_of_le ih ?_
    have h1 : a * 10 + (c - 48) + 1 ≤ (a + 1) * 10 := by omega
    calc (a * 10 + (c - 48) + 1) * 10 ^ cs.length ≤ (a + 1) * 10 * 10 ^ cs.length := Nat.mul_le_mul_right _ h1
      _ = (a + 1) * (10 ^ cs.length * 10) := by rw [Nat.mul_assoc, Nat.mul_comm 10]
theorem val_ge : ∀ (cs : List Nat) (a : Nat), a ≤ cs.foldl (fun acc c => acc * 10 + (c - 48)) a
  | [], a => Nat.le_refl a
  | c :: cs, a => by
    rw [List.foldl_cons]
    exact Nat.le_trans (by omega) (val_ge cs (a * 10 + (c - 48)))
theorem val_pos {c : Nat} {cs : List Nat} (h : 49 ≤ c) : 1 ≤ NumText.digitsVal (c :: cs) := by
  unfold NumText.digitsVal
  rw [List.foldl_cons]
  exact Nat.le_trans (by omega) (val_ge cs _)
theorem val_sm {cs : List Nat} (h : NumText.AllDigits cs) (hl : cs.length ≤ 640) : Sm 3000 ((NumText.digitsVal cs : Nat) : Int) := by
  unfold Sm
  rw [Int.natAbs_natCast]
  have h1 := val_lt cs 0 h
  rw [Nat.zero_add, Nat.one_mul] at h1
  have h2 : 10 ^ cs.length ≤ 10 ^ 640 := Nat.pow_le_pow_right (by decide) hl
  have h3 : (10 : Nat) ^ 640 < 2 ^ 3000 := by decide +kernel
  exact Nat.lt_trans (Nat.lt_of_lt_of_le h1 h2) h3
theorem e_intStr (h : NumText.AllDigits (tl z)) (h1 : tl z ≠ []) (hl : (tl z).length ≤ 640) : intV (.str z) s = .ok (.int ((NumText.digitsVal (tl z) : Nat) : Int)) s := by
  have e : intV (.str z) s = getO (PySem.intText? z) fun n => if z.length ≤ 640 then .ok (.int n) s else .bad := rfl
  have hz : z.length ≤ 640 := by rw [len_tl]; exact hl
  rw [e, intText_digits (x := z) h h1 (by omega)]
  exact if_pos hz
end
end Mn
/-! Rat1: ratios in lowest terms, plain integers. -/
namespace Rt
/-- p / q is a / b in lowest terms -/
structure Low (p q a b : Int) : Prop where
  pos : 0 < q
  cop : Nat.gcd p.natAbs q.natAbs = 1
  eq : p * b = a * q
theorem mul_cancel {a b c : Int} (hc : c ≠ 0) (h : a * c = b * c) : a = b := Int.eq_of_mul_eq_mul_right hc h
theorem cross {p q p' q' a b : Int} (hb : b ≠ 0) (h : p * b = a * q) (h' : p' * b = a * q') : p * q' = p' * q := by
  apply mul_cancel hb
  calc p * q' * b = p * b * q' := by rw [Int.mul_right_comm]
    _ = a * q * q' := by rw [h]
    _ = a * q' * q := by rw [Int.mul_right_comm]
    _ = p' * b * q := by rw [h']
    _ = p' * q * b := by rw [Int.mul_right_comm]
theorem same {p q p' q' : Int} (hq : 0 < q) (hq' : 0 < q') (c : Nat.gcd p.natAbs q.natAbs = 1) (c' : Nat.gcd p'.natAbs q'.natAbs = 1) (h : p * q' = p' * q) : p = p' ∧ q = q' := by
  have hn : p.natAbs * q'.natAbs = p'.natAbs * q.natAbs := by
    have := congrArg Int.natAbs h
    rwa [Int.natAbs_mul, Int.natAbs_mul] at this
  have d1 : q.natAbs ∣ q'.natAbs := by
    have hd : q.natAbs ∣ p.natAbs * q'.natAbs := by rw [hn]; exact Nat.dvd_mul_left _ _
    exact Nat.Coprime.dvd_of_dvd_mul_left (by rw [Nat.Coprime, Nat.gcd_comm]; exact c) hd
  have d2 : q'.natAbs ∣ q.natAbs := by
    have hd : q'.natAbs ∣ p'.natAbs * q.natAbs := by rw [← hn]; exact Nat.dvd_mul_left _ _
    exact Nat.Coprime.dvd_of_dvd_mul_left (by rw [Nat.Coprime, Nat.gcd_comm]; exact c') hd
  have e : q.natAbs = q'.natAbs := Nat.dvd_antisymm d1 d2
  have e2 : q = q' := by omega
  subst e2
  exact ⟨mul_cancel (by omega) h, rfl⟩
theorem Low.uniq {p q p' q' a b : Int} (hb : b ≠ 0) (h : Low p q a b) (h' : Low p' q' a b) : p = p' ∧ q = q' := same h.pos h'.pos h.cop h'.cop (cross hb h.eq h'.eq)
theorem gcd_pos {a b : Int} (hb : b ≠ 0) : 0 < Nat.gcd a.natAbs b.natAbs := Nat.gcd_pos_of_pos_right _ (by omega)
def lowP (a b : Int) : Int := (if 0 < b then a else -a) / ((Nat.gcd a.natAbs b.natAbs : Nat) : Int)
def lowQ (a b : Int) : Int := (if 0 < b then b else -b) / ((Nat.gcd a.natAbs b.natAbs : Nat) : Int)
theorem low_of {a b : Int} (hb : b ≠ 0) : Low (lowP a b) (lowQ a b) a b := by
  have hg := gcd_pos (a := a) hb
  generalize hgd : Nat.gcd a.natAbs b.natAbs = g at hg
  have da : (g : Int) ∣ a := by rw [← Int.natAbs_dvd_natAbs, Int.natAbs_natCast, ← hgd]; exact Nat.gcd_dvd_left _ _
  have db : (g : Int) ∣ b := by rw [← Int.natAbs_dvd_natAbs, Int.natAbs_natCast, ← hgd]; exact Nat.gcd_dvd_right _ _
  obtain ⟨x, hx⟩ := da
  obtain ⟨y, hy⟩ := db
  have hgi : (0 : Int) < (g : Int) := by omega
  have cop : Nat.gcd x.natAbs y.natAbs = 1 := by
    have h1 : Nat.gcd (g * x.natAbs) (g * y.natAbs) = g := by
      have e1 : a.natAbs = g * x.natAbs := by rw [hx, Int.natAbs_mul, Int.natAbs_natCast]
      have e2 : b.natAbs = g * y.natAbs := by rw [hy, Int.natAbs_mul, Int.natAbs_natCast]
      rw [← e1, ← e2]; exact hgd
    rw [Nat.gcd_mul_left] at h1
    exact Nat.eq_of_mul_eq_mul_left hg (by rw [h1, Nat.mul_one])
  have hy0 : y ≠ 0 := fun z => hb (by rw [hy, z, Int.mul_zero])
  unfold lowP lowQ
  rw [hgd]
  by_cases h : 0 < b
  · rw [if_pos h, if_pos h]
    have ea : a / (g : Int) = x := by rw [hx]; exact Int.mul_ediv_cancel_left _ (by omega)
    have eb : b / (g : Int) = y := by rw [hy]; exact Int.mul_ediv_cancel_left _ (by omega)
    rw [ea, eb]
    refine ⟨?_, cop, ?_⟩
    · rw [hy] at h
      exact Int.pos_of_mul_pos_left (by rw [Int.mul_comm]; exact h) hgi
    · rw [hx, hy]
      rw [Int.mul_left_comm, Int.mul_assoc]
  · rw [if_neg h, if_neg h]
    have ea : -a / (g : Int) = -x := by rw [hx, ← Int.mul_neg]; exact Int.mul_ediv_cancel_left _ (by omega)
    have eb : -b / (g : Int) = -y := by rw [hy, ← Int.mul_neg]; exact Int.mul_ediv_cancel_left _ (by omega)
    rw [ea, eb]
    refine ⟨?_, by rw [Int.natAbs_neg, Int.natAbs_neg]; exact cop, ?_⟩
    · have hb' : b < 0 := by omega
      have : 0 < (g : Int) * (-y) := by rw [Int.mul_neg, ← hy]; omega
      exact Int.pos_of_mul_pos_left (by rw [Int.mul_comm]; exact this) hgi
    · rw [hx, hy]
      rw [Int.neg_mul, Int.mul_neg, Int.mul_left_comm, Int.mul_assoc]
theorem ediv_le {a : Int} {g : Nat} : (a / (g : Int)).natAbs ≤ a.natAbs := by
  by_cases hg : g = 0
  · subst hg
    simp
  · have h := Int.natAbs_ediv_le_natAbs a (g : Int)
    exact h
theorem lowP_le (a b : Int) : (lowP a b).natAbs ≤ a.natAbs := by
  unfold lowP
  refine Nat.le_trans ediv_le ?_
  split
  · exact Nat.le_refl _
  · rw [Int.natAbs_neg]; exact Nat.le_refl _
theorem lowQ_le (a b : Int) : (lowQ a b).natAbs ≤ b.natAbs := by
  unfold lowQ
  refine Nat.le_trans ediv_le ?_
  split
  · exact Nat.le_refl _
  · rw [Int.natAbs_neg]; exact Nat.le_refl _
theorem gcd_step {a b q r : Int} (h : r = a - q * b) : Nat.gcd a.natAbs b.natAbs = Nat.gcd b.natAbs r.natAbs := by
  have d : ∀ (g : Nat) (x : Int), g ∣ x.natAbs ↔ (g : Int) ∣ x := fun g x => by rw [← Int.natAbs_dvd_natAbs, Int.natAbs_natCast]
  refine Nat.dvd_antisymm (Nat.dvd_gcd (Nat.gcd_dvd_right _ _) ?_) (Nat.dvd_gcd ?_ (Nat.gcd_dvd_left _ _))
  · rw [d, h]
    exact Int.dvd_sub ((d _ _).mp (Nat.gcd_dvd_left _ _)) (Int.dvd_trans ((d _ _).mp (Nat.gcd_dvd_right _ _)) (Int.dvd_mul_left _ _))
  · rw [d]
    have e : a = r + q * b := by rw [h, Int.sub_add_cancel]
    rw [e]
    refine Int.dvd_add ?_ ?_
    · rw [← d]
      exact Nat.gcd_dvd_right _ _
    · refine Int.dvd_trans ?_ (Int.dvd_mul_left _ _)
      rw [← d]
      exact Nat.gcd_dvd_left _ _
theorem fmod_lt {a b : Int} (hb : b ≠ 0) : (a - a.fdiv b * b).natAbs < b.natAbs := by
  rcases Int.lt_or_gt_of_ne hb with h | h
  · have e1 : a.fdiv b = (-a) / (-b) := by rw [← Int.fdiv_eq_ediv_of_nonneg (-a) (by omega), Int.neg_fdiv_neg]
    rw [e1]
    have h1 := Int.emod_nonneg (-a) (show -b ≠ 0 by omega)
    have h2 := Int.emod_lt_of_pos (-a) (show 0 < -b by omega)
    have h3 := Int.emod_def (-a) (-b)
    rw [Int.neg_mul] at h3
    rw [Int.mul_comm ((-a) / (-b)) b]
    omega
  · have e1 : a.fdiv b = a / b := Int.fdiv_eq_ediv_of_nonneg a (by omega)
    rw [e1]
    have h1 := Int.emod_nonneg a hb
    have h2 := Int.emod_lt_of_pos a h
    have h3 := Int.emod_def a b
    rw [Int.mul_comm (a / b) b]
    omega
theorem fdiv_abs (a b : Int) : (a.fdiv b).natAbs ≤ a.natAbs + 1 := by
  by_cases hb : b = 0
  · subst hb
    simp
  · have h := fmod_lt (a := a) hb
    have e : a.fdiv b * b = a - (a - a.fdiv b * b) := by rw [Int.sub_sub_self]
    have h2 : (a.fdiv b).natAbs * b.natAbs ≤ a.natAbs + b.natAbs := by
      rw [← Int.natAbs_mul, e]
      omega
    have hbp : 0 < b.natAbs := by omega
    by_cases hc : (a.fdiv b).natAbs ≤ a.natAbs + 1
    · exact hc
    · exfalso
      have h3 : a.natAbs + 2 ≤ (a.fdiv b).natAbs := by omega
      have h4 : (a.natAbs + 2) * b.natAbs ≤ (a.fdiv b).natAbs * b.natAbs := Nat.mul_le_mul_right _ h3
      have h5 : (a.natAbs + 2) * b.natAbs = a.natAbs * b.natAbs + 2 * b.natAbs := by rw [Nat.add_mul]
      have h6 : a.natAbs ≤ a.natAbs * b.natAbs := Nat.le_mul_of_pos_right _ hbp
      omega
theorem Low.of_self {a b : Int} (hb : 0 < b) (h : Nat.gcd a.natAbs b.natAbs = 1) : Low a b a b := ⟨hb, h, rfl⟩
/-- what is known to be in lowest terms and worth n / u is what is made of n and u -/
theorem low_is {p q n u : Int} (hu : u ≠ 0) (h : Low p q n u) : p = lowP n u ∧ q = lowQ n u := h.uniq hu (low_of hu)
end Rt
set_option maxHeartbeats 4000000
namespace Law
open PySem PySem.Spec PyProof.Rows L2 Mn
/-! ### the text by places -/
def top (i : Nat) : Stmt := PySem.Challenge.pw_wishways_k11_any_value_as_ratio_or_row.main.body.getD i (.Pass ⟨0, 0, 0, 0⟩)
abbrev t__law_pot : Stmt := top 25
abbrev t__law_draw : Stmt := top 26
abbrev t__law_pick : Stmt := top 27
abbrev t__law_bent : Stmt := top 32
abbrev t__law_common : Stmt := top 28
abbrev t__law_is_whole : Stmt := top 29
abbrev t__law_is_ratio : Stmt := top 30
abbrev t__law_is_row : Stmt := top 31
abbrev t_lowest : Stmt := top 11
abbrev t_digits_end : Stmt := top 13
abbrev t_read_ratio : Stmt := top 14
abbrev t_want_text : Stmt := top 8
abbrev t_parse_ratio : Stmt := top 19
abbrev t_is_integer : Stmt := top 7
abbrev t_is_ratio_value : Stmt := top 15
abbrev t_is_ratio : Stmt := top 17
abbrev t_text_of_ratio : Stmt := top 12
abbrev t_want_ratio : Stmt := top 16
abbrev t_ratio_text : Stmt := top 18
abbrev t_is_row_value : Stmt := top 22
abbrev t_is_row : Stmt := top 23
abbrev t__law_right : Stmt := top 33
abbrev t_law : Stmt := top 34
/-! ### what each def does -/
def b__law_pot : B := (sq (asgB (ifV (asB (bin (lk 1) (callG (consM (lk 0) nilM) (g1 lenV)) ltV)) (callG (consM (bin (lk 0) (lk 1) ixV) nilM) (g1 absV)) (bin (bin (cst (.int 1249)) (lk 1) mulV) (cst (.int 997)) addV)) (nameT 2))
    (retB (locM (consM (callG (consM (cst (.int 0)) (consM (bin (lk 2) (bin (cst (.int 10)) (cst (.int 18)) powV) subV) nilM)) (g2 maxV)) (consM (bin (bin (callG (consM (bin (bin (bin (bin (callG (consM (lk 2) nilM) (g1 intV)) (cst (.int 2147483529)) modV) (cst (.int 41771)) mulV) (bin (cst (.int 7369)) (lk 1) mulV) addV) (cst (.int 983)) addV) nilM) (g1 intV)) (cst (.int 2147483587)) modV) (cst (.int 1)) addV) nilM)))))
def m__law_pot : Fn := runFn 3 2 b__law_pot
def b__law_draw : B := (sq (ifB (asB (bin (bin (lk 0) (cst (.int 0)) ixV) (cst (.int 0)) gtV)) (sq (asgB (callG (consM (bin (lk 0) (cst (.int 0)) ixV) (consM (lk 1) nilM)) (g2 dmV)) (tupT 2 (consT (subT (lk 0) (cst (.int 0))) (consT (nameT 2) nilT))))
    (retB (lk 2))) passB)
    (sq (asgB (bin (callG (consM (bin (bin (bin (lk 0) (cst (.int 1)) ixV) (cst (.int 41131)) mulV) (cst (.int 31607)) addV) nilM) (g1 intV)) (cst (.int 2147483587)) modV) (subT (lk 0) (cst (.int 1))))
    (retB (bin (callG (consM (bin (bin (callG (consM (bin (bin (lk 0) (cst (.int 1)) ixV) (bin (lk 0) (cst (.int 1)) ixV) mulV) nilM) (g1 intV)) (cst (.int 2147483529)) modV) (cst (.int 23)) fdivV) nilM) (g1 intV)) (lk 1) modV))))
def m__law_draw : Fn := runFn 3 2 b__law_draw
def b__law_pick : B := (retB (bin (lk 1) (callU (consM (lk 0) (consM (callG (consM (lk 1) nilM) (g1 lenV)) nilM)) m__law_draw) ixV))
def m__law_pick : Fn := runFn 2 2 b__law_pick
def b__law_bent : B := (sq (parB 2 3 (consM (callG (consM (lk 1) nilM) (g1 listV)) (consM (callU (consM (lk 0) (consM (cst (.int 6)) nilM)) m__law_draw) nilM)))
    (sq (asgB (bin (callU (consM (lk 0) (consM (cst (.int 60)) nilM)) m__law_draw) (callG (consM (cst (.int 1)) (consM (callG (consM (lk 2) nilM) (g1 lenV)) nilM)) (g2 maxV)) modV) (nameT 4))
    (sq (ifB (orM (asB (bin (lk 3) (cst (.int 0)) eqW)) (asB (bin (lk 2) (lstM nilM) eqW))) (retB (callU (consM (lk 0) (consM (lstM (consM (lk 2) (consM (cst .non) (consM (cst .emp) (consM (cst (.str (PySem.Str.ofString ""))) (consM (bin (lk 1) (tupM (consM (cst (.int 1)) nilM)) addV) (consM (slM (lk 1) noP (someP (una (cst (.int 1)) negV))) (consM (tupM (consM (lk 1) nilM)) (consM (cst (.int 7)) nilM))))))))) nilM)) m__law_pick)) passB)
    (sq (ifB (asB (bin (lk 3) (cst (.int 1)) eqW)) (retB (bin (slM (lk 1) noP (someP (lk 4))) (slM (lk 1) (someP (bin (lk 4) (cst (.int 1)) addV)) noP) addV)) passB)
    (sq (ifB (asB (bin (lk 3) (cst (.int 2)) eqW)) (retB (una (lk 1) revV)) passB)
    (sq (asgB (callU (consM (lk 0) (consM (lstM (consM (cst (.bl true)) (consM (cst (.bl false)) (consM (cst .non) (consM (cst (.str (PySem.Str.ofString "1"))) (consM (una (cst (.int 1)) negV) (consM (cst (.int 0)) (consM (cst (.int 1)) (consM (cst (.int 2)) (consM (cst (.int 6)) (consM (tupM (consM (cst (.int 1)) nilM)) (consM (lstM (consM (cst (.int 1)) nilM)) (consM (bin (cst (.int 10)) (cst (.int 39)) powV) nilM))))))))))))) nilM)) m__law_pick) (nameT 5))
    (retB (bin (bin (slM (lk 1) noP (someP (lk 4))) (tupM (consM (lk 5) nilM)) addV) (slM (lk 1) (someP (bin (lk 4) (cst (.int 1)) addV)) noP) addV))))))))
def m__law_bent : Fn := runFn 6 2 b__law_bent
def b__law_common : B := (sq (whB (fuelAt 1) (asB (bin (lk 1) (cst (.int 0)) neW)) (parB 0 1 (consM (lk 1) (consM (bin (lk 0) (bin (bin (lk 0) (lk 1) fdivV) (lk 1) mulV) subV) nilM))))
    (retB (callG (consM (lk 0) nilM) (g1 absV))))
def m__law_common : Fn := runFn 2 2 b__law_common
def b__law_is_whole : B := (retB (andV (una (lk 0) (isiV .int)) (notV (una (lk 0) (isiV .bool)))))
def m__law_is_whole : Fn := runFn 1 1 b__law_is_whole
def b__law_is_ratio : B := (sq (ifB (orM (notM (tru (una (lk 0) (isiV .tup)))) (orM (asB (bin (callG (consM (lk 0) nilM) (g1 lenV)) (cst (.int 2)) neW)) (notM (tru (callG (consM (lcM (walkV (lk 0)) (nameT 1) yesM (callU (consM (lk 1) nilM) m__law_is_whole) [1] finL) nilM) (g1 allV)))))) (retB (cst (.bl false))) passB)
    (retB (andV (bin (bin (lk 0) (cst (.int 1)) ixV) (cst (.int 0)) gtV) (bin (callU (consM (bin (lk 0) (cst (.int 0)) ixV) (consM (bin (lk 0) (cst (.int 1)) ixV) nilM)) m__law_common) (cst (.int 1)) eqW))))
def m__law_is_ratio : Fn := runFn 2 1 b__law_is_ratio
def b__law_is_row : B := (sq (ifB (orM (notM (tru (una (lk 0) (isiV .tup)))) (notM (asB (chn (cst (.int 1)) (callG (consM (lk 0) nilM) (g1 lenV)) (cst (.int 40)) leV leV)))) (retB (cst (.bl false))) passB)
    (retB (callG (consM (lcM (walkV (lk 0)) (nameT 1) yesM (callU (consM (lk 1) nilM) m__law_is_whole) [1] finL) nilM) (g1 allV))))
def m__law_is_row : Fn := runFn 2 1 b__law_is_row
def b_lowest : B := (sq (asgB (callG (consM (lk 0) (consM (lk 1) nilM)) (g2 gcdV)) (nameT 2))
    (sq (asgB (ifV (asB (bin (lk 1) (cst (.int 0)) gtV)) (cst (.int 1)) (una (cst (.int 1)) negV)) (nameT 3))
    (retB (tupM (consM (bin (bin (lk 3) (lk 0) mulV) (lk 2) fdivV) (consM (bin (bin (lk 3) (lk 1) mulV) (lk 2) fdivV) nilM))))))
def m_lowest : Fn := runFn 4 2 b_lowest
def b_digits_end : B := (sq (ifB (orM (asB (bin (lk 1) (callG (consM (lk 0) nilM) (g1 lenV)) eqW)) (asB (bin (bin (lk 0) (lk 1) ixV) (slM (cst (.str (PySem.Str.ofString "0123456789"))) (someP (lk 2)) noP) ninV))) badB passB)
    (sq (asgB (bin (lk 1) (cst (.int 1)) addV) (nameT 3))
    (sq (whB (fuelLen 0) (andM (asB (bin (bin (lk 0) (lk 1) ixV) (cst (.str (PySem.Str.ofString "0"))) neW)) (andM (asB (bin (lk 3) (callG (consM (lk 0) nilM) (g1 lenV)) ltV)) (asB (bin (bin (lk 0) (lk 3) ixV) (cst (.str (PySem.Str.ofString "0123456789"))) inV)))) (asgB (bin (lk 3) (cst (.int 1)) addV) (nameT 3)))
    (retB (lk 3)))))
def m_digits_end : Fn := runFn 4 3 b_digits_end
def b_read_ratio : B := (sq (asgB (ifV (asB (bin (slM (lk 0) noP (someP (cst (.int 1)))) (cst (.str (PySem.Str.ofString "-"))) eqW)) (cst (.int 1)) (cst (.int 0))) (nameT 1))
    (sq (parB 2 3 (consM (callU (consM (lk 0) (consM (lk 1) (consM (cst (.int 0)) nilM))) m_digits_end) (consM (cst (.int 1)) nilM)))
    (sq (asgB (callG (consM (slM (lk 0) (someP (lk 1)) (someP (lk 2))) nilM) (g1 intV)) (nameT 4))
    (sq (ifB (asB (bin (slM (lk 0) (someP (lk 2)) (someP (bin (lk 2) (cst (.int 1)) addV))) (cst (.str (PySem.Str.ofString "/"))) eqW)) (sq (parB 5 2 (consM (bin (lk 2) (cst (.int 1)) addV) (consM (callU (consM (lk 0) (consM (bin (lk 2) (cst (.int 1)) addV) (consM (cst (.int 1)) nilM))) m_digits_end) nilM)))
    (asgB (callG (consM (slM (lk 0) (someP (lk 5)) (someP (lk 2))) nilM) (g1 intV)) (nameT 3))) passB)
    (sq (ifB (asB (bin (lk 2) (callG (consM (lk 0) nilM) (g1 lenV)) ltV)) badB passB)
    (retB (callU (consM (ifV (asB (bin (lk 1) (cst (.int 1)) eqW)) (una (lk 4) negV) (lk 4)) (consM (lk 3) nilM)) m_lowest)))))))
def m_read_ratio : Fn := runFn 6 1 b_read_ratio
def b_want_text : B := (sq (ifB (notM (tru (una (lk 0) (isiV .str)))) badB passB)
    (retB (lk 0)))
def m_want_text : Fn := runFn 1 1 b_want_text
def b_parse_ratio : B := (retB (callU (consM (callU (consM (lk 0) nilM) m_want_text) nilM) m_read_ratio))
def m_parse_ratio : Fn := runFn 1 1 b_parse_ratio
def b_is_integer : B := (retB (andV (una (lk 0) (isiV .int)) (notV (una (lk 0) (isiV .bool)))))
def m_is_integer : Fn := runFn 1 1 b_is_integer
def b_is_ratio_value : B := (sq (ifB (orM (notM (tru (una (lk 0) (isiV .tup)))) (orM (asB (bin (callG (consM (lk 0) nilM) (g1 lenV)) (cst (.int 2)) neW)) (notM (tru (callG (consM (lcM (walkV (lk 0)) (nameT 1) yesM (callU (consM (lk 1) nilM) m_is_integer) [1] finL) nilM) (g1 allV)))))) (retB (cst (.bl false))) passB)
    (retB (andV (bin (bin (lk 0) (cst (.int 1)) ixV) (cst (.int 1)) geV) (bin (callG (consM (bin (lk 0) (cst (.int 0)) ixV) (consM (bin (lk 0) (cst (.int 1)) ixV) nilM)) (g2 gcdV)) (cst (.int 1)) eqW))))
def m_is_ratio_value : Fn := runFn 2 1 b_is_ratio_value
def b_is_ratio : B := (retB (callU (consM (lk 0) nilM) m_is_ratio_value))
def m_is_ratio : Fn := runFn 1 1 b_is_ratio
def b_text_of_ratio : B := (retB (ifV (asB (bin (bin (lk 0) (cst (.int 1)) ixV) (cst (.int 1)) eqW)) (callG (consM (bin (lk 0) (cst (.int 0)) ixV) nilM) (g1 strV)) (bin (bin (callG (consM (bin (lk 0) (cst (.int 0)) ixV) nilM) (g1 strV)) (cst (.str (PySem.Str.ofString "/"))) addV) (callG (consM (bin (lk 0) (cst (.int 1)) ixV) nilM) (g1 strV)) addV)))
def m_text_of_ratio : Fn := runFn 1 1 b_text_of_ratio
def b_want_ratio : B := (sq (ifB (notM (tru (callU (consM (lk 0) nilM) m_is_ratio_value))) badB passB)
    (retB (lk 0)))
def m_want_ratio : Fn := runFn 1 1 b_want_ratio
def b_ratio_text : B := (retB (callU (consM (callU (consM (lk 0) nilM) m_want_ratio) nilM) m_text_of_ratio))
def m_ratio_text : Fn := runFn 1 1 b_ratio_text
def b_is_row_value : B := (sq (ifB (orM (notM (tru (una (lk 0) (isiV .tup)))) (notM (asB (chn (cst (.int 1)) (callG (consM (lk 0) nilM) (g1 lenV)) (cst (.int 40)) leV leV)))) (retB (cst (.bl false))) passB)
    (retB (callG (consM (lcM (walkV (lk 0)) (nameT 1) yesM (callU (consM (lk 1) nilM) m_is_integer) [1] finL) nilM) (g1 allV))))
def m_is_row_value : Fn := runFn 2 1 b_is_row_value
def b_is_row : B := (retB (callU (consM (lk 0) nilM) m_is_row_value))
def m_is_row : Fn := runFn 1 1 b_is_row
def b__law_right : B := (sq (parB 1 2 (consM (callG (consM (lk 0) nilM) (g1 reprE)) (consM (lstM (consM (callU (consM (lk 0) nilM) m__law_is_ratio) (consM (callU (consM (lk 0) nilM) m__law_is_row) nilM))) nilM)))
    (sq (ifB (orM (asB (bin (callG (consM (lstM (consM (callU (consM (lk 0) nilM) m_is_ratio) (consM (callK nilM (consM (lk 0) nilM) 0 1 [0] m_is_row) nilM))) nilM) (g1 reprE)) (callG (consM (lk 2) nilM) (g1 reprE)) neW)) (asB (bin (callG (consM (callK nilM (consM (lk 0) nilM) 0 1 [0] m_is_ratio) nilM) (g1 reprE)) (callG (consM (bin (lk 2) (cst (.int 0)) ixV) nilM) (g1 reprE)) neW))) (retB (cst (.bl false))) passB)
    (sq (ifB (andM (tru (bin (lk 2) (cst (.int 0)) ixV)) (asB (bin (callU (consM (callU (consM (lk 0) nilM) m_ratio_text) nilM) m_parse_ratio) (lk 0) neW))) (retB (cst (.bl false))) passB)
    (retB (bin (callG (consM (lk 0) nilM) (g1 reprE)) (lk 1) eqW)))))
def m__law_right : Fn := runFn 3 1 b__law_right
def b_law : B := (sq (asgB (callU (consM (lk 0) (consM (cst (.int 0)) nilM)) m__law_pot) (nameT 1))
    (sq (asgB (locM (consM (cst .non) (consM (cst (.int 0)) (consM (cst (.bl true)) (consM (cst (.str (PySem.Str.ofString "1/2"))) (consM (lstM nilM) (consM (tupM nilM) (consM (cst .emp) (consM (lstM (consM (cst (.int 1)) (consM (cst (.int 2)) nilM))) (consM (tupM (consM (cst (.int 0)) (consM (cst (.int 1)) nilM))) (consM (tupM (consM (cst (.int 0)) (consM (cst (.int 2)) nilM))) (consM (tupM (consM (cst (.int 1)) (consM (cst (.int 0)) nilM))) (consM (tupM (consM (cst (.int 1)) (consM (una (cst (.int 1)) negV) nilM))) (consM (tupM (consM (cst (.bl true)) (consM (cst (.int 1)) nilM))) (consM (tupM (consM (cst (.int 1)) (consM (cst (.bl true)) nilM))) (consM (bin (tupM (consM (cst (.int 0)) nilM)) (cst (.int 40)) mulV) (consM (bin (tupM (consM (cst (.int 0)) nilM)) (cst (.int 41)) mulV) nilM))))))))))))))))) (nameT 2))
    (sq (asgB (bin (lk 2) (lstM (consM (tupM (consM (bin (cst (.int 10)) (cst (.int 39)) powV) (consM (cst (.int 1)) nilM))) (consM (tupM (consM (bin (cst (.int 10)) (cst (.int 39)) powV) (consM (bin (cst (.int 10)) (cst (.int 38)) powV) nilM))) (consM (tupM (consM (una (bin (cst (.int 10)) (cst (.int 39)) powV) negV) (consM (cst (.int 3)) nilM))) (consM (tupM (consM (cst (.int 3)) (consM (cst (.int 3)) nilM))) (consM (tupM (consM (cst (.int 7)) (consM (cst (.int 7)) (consM (cst (.int 7)) nilM)))) nilM)))))) addC) (nameT 2))
    (sq (forB (range1M (consM (cst (.int 6)) nilM)) (nameT 3) (sq (parB 7 8 (consM (bin (callU (consM (lk 1) (consM (cst (.int 41)) nilM)) m__law_draw) (cst (.int 20)) subV) (consM (callU (consM (lk 1) (consM (cst (.int 13)) nilM)) m__law_draw) nilM)))
    (sq (asgB (tupM (consM (lk 7) (consM (lk 8) nilM))) (nameT 4))
    (sq (asgB (tupM nilM) (nameT 5))
    (sq (forB (range1M (consM (bin (cst (.int 1)) (callU (consM (lk 1) (consM (cst (.int 4)) nilM)) m__law_draw) addV) nilM)) (nameT 6) (asgB (bin (lk 5) (tupM (consM (bin (callU (consM (lk 1) (consM (cst (.int 21)) nilM)) m__law_draw) (cst (.int 10)) subV) nilM)) addV) (nameT 5)))
    (dropB (methL (lk 2) (consM (lstM (consM (lk 4) (consM (callU (consM (lk 1) (consM (lk 4) nilM)) m__law_bent) (consM (lk 5) (consM (callU (consM (lk 1) (consM (lk 5) nilM)) m__law_bent) nilM))))) nilM) extV)))))))
    (sq (frzB 2) (retB (bin (lcM (walkV (lk 2)) (nameT 9) (notM (tru (callU (consM (lk 9) nilM) m__law_right))) (cst (.int 1)) [9] finL) (lstM nilM) eqW)))))))
def m_law : Fn := runFn 10 1 b_law
/-! ### what the top leaves -/
structure Top (K : PySem.W.Frag) (mg : Str → Option Value) where
  z_abs : mg "abs" = none
  z_all : mg "all" = none
  z_bool : mg "bool" = none
  z_divmod : mg "divmod" = none
  z_int : mg "int" = none
  z_isinstance : mg "isinstance" = none
  z_len : mg "len" = none
  z_list : mg "list" = none
  z_max : mg "max" = none
  z_range : mg "range" = none
  z_repr : mg "repr" = none
  z_str : mg "str" = none
  z_tuple : mg "tuple" = none
  i_gcd : mg "gcd" = some (.builtin "math.gcd")
  v_DIGITS : ∃ t, mg "DIGITS" = some (.str (PySem.Str.ofString "0123456789") t)
  v_MOST_IN_ROW : ∃ t, mg "MOST_IN_ROW" = some (.int 40 t)
  a__law_pot : Addr
  d__law_pot : FuncData
  g__law_pot : mg "_law_pot" = some (.ref a__law_pot)
  F__law_pot : Fun K "_law_pot" "_law_pot" t__law_pot a__law_pot d__law_pot
  a__law_draw : Addr
  d__law_draw : FuncData
  g__law_draw : mg "_law_draw" = some (.ref a__law_draw)
  F__law_draw : Fun K "_law_draw" "_law_draw" t__law_draw a__law_draw d__law_draw
  a__law_pick : Addr
  d__law_pick : FuncData
  g__law_pick : mg "_law_pick" = some (.ref a__law_pick)
  F__law_pick : Fun K "_law_pick" "_law_pick" t__law_pick a__law_pick d__law_pick
  a__law_bent : Addr
  d__law_bent : FuncData
  g__law_bent : mg "_law_bent" = some (.ref a__law_bent)
  F__law_bent : Fun K "_law_bent" "_law_bent" t__law_bent a__law_bent d__law_bent
  a__law_common : Addr
  d__law_common : FuncData
  g__law_common : mg "_law_common" = some (.ref a__law_common)
  F__law_common : Fun K "_law_common" "_law_common" t__law_common a__law_common d__law_common
  a__law_is_whole : Addr
  d__law_is_whole : FuncData
  g__law_is_whole : mg "_law_is_whole" = some (.ref a__law_is_whole)
  F__law_is_whole : Fun K "_law_is_whole" "_law_is_whole" t__law_is_whole a__law_is_whole d__law_is_whole
  a__law_is_ratio : Addr
  d__law_is_ratio : FuncData
  g__law_is_ratio : mg "_law_is_ratio" = some (.ref a__law_is_ratio)
  F__law_is_ratio : Fun K "_law_is_ratio" "_law_is_ratio" t__law_is_ratio a__law_is_ratio d__law_is_ratio
  a__law_is_row : Addr
  d__law_is_row : FuncData
  g__law_is_row : mg "_law_is_row" = some (.ref a__law_is_row)
  F__law_is_row : Fun K "_law_is_row" "_law_is_row" t__law_is_row a__law_is_row d__law_is_row
  a_lowest : Addr
  d_lowest : FuncData
  g_lowest : mg "lowest" = some (.ref a_lowest)
  F_lowest : Fun K "lowest" "lowest" t_lowest a_lowest d_lowest
  a_digits_end : Addr
  d_digits_end : FuncData
  g_digits_end : mg "digits_end" = some (.ref a_digits_end)
  F_digits_end : Fun K "digits_end" "digits_end" t_digits_end a_digits_end d_digits_end
  a_read_ratio : Addr
  d_read_ratio : FuncData
  g_read_ratio : mg "read_ratio" = some (.ref a_read_ratio)
  F_read_ratio : Fun K "read_ratio" "read_ratio" t_read_ratio a_read_ratio d_read_ratio
  a_want_text : Addr
  d_want_text : FuncData
  g_want_text : mg "want_text" = some (.ref a_want_text)
  F_want_text : Fun K "want_text" "want_text" t_want_text a_want_text d_want_text
  a_parse_ratio : Addr
  d_parse_ratio : FuncData
  g_parse_ratio : mg "parse_ratio" = some (.ref a_parse_ratio)
  F_parse_ratio : Fun K "parse_ratio" "parse_ratio" t_parse_ratio a_parse_ratio d_parse_ratio
  a_is_integer : Addr
  d_is_integer : FuncData
  g_is_integer : mg "is_integer" = some (.ref a_is_integer)
  F_is_integer : Fun K "is_integer" "is_integer" t_is_integer a_is_integer d_is_integer
  a_is_ratio_value : Addr
  d_is_ratio_value : FuncData
  g_is_ratio_value : mg "is_ratio_value" = some (.ref a_is_ratio_value)
  F_is_ratio_value : Fun K "is_ratio_value" "is_ratio_value" t_is_ratio_value a_is_ratio_value d_is_ratio_value
  a_is_ratio : Addr
  d_is_ratio : FuncData
  g_is_ratio : mg "is_ratio" = some (.ref a_is_ratio)
  F_is_ratio : Fun K "is_ratio" "is_ratio" t_is_ratio a_is_ratio d_is_ratio
  a_text_of_ratio : Addr
  d_text_of_ratio : FuncData
  g_text_of_ratio : mg "text_of_ratio" = some (.ref a_text_of_ratio)
  F_text_of_ratio : Fun K "text_of_ratio" "text_of_ratio" t_text_of_ratio a_text_of_ratio d_text_of_ratio
  a_want_ratio : Addr
  d_want_ratio : FuncData
  g_want_ratio : mg "want_ratio" = some (.ref a_want_ratio)
  F_want_ratio : Fun K "want_ratio" "want_ratio" t_want_ratio a_want_ratio d_want_ratio
  a_ratio_text : Addr
  d_ratio_text : FuncData
  g_ratio_text : mg "ratio_text" = some (.ref a_ratio_text)
  F_ratio_text : Fun K "ratio_text" "ratio_text" t_ratio_text a_ratio_text d_ratio_text
  a_is_row_value : Addr
  d_is_row_value : FuncData
  g_is_row_value : mg "is_row_value" = some (.ref a_is_row_value)
  F_is_row_value : Fun K "is_row_value" "is_row_value" t_is_row_value a_is_row_value d_is_row_value
  a_is_row : Addr
  d_is_row : FuncData
  g_is_row : mg "is_row" = some (.ref a_is_row)
  F_is_row : Fun K "is_row" "is_row" t_is_row a_is_row d_is_row
  a__law_right : Addr
  d__law_right : FuncData
  g__law_right : mg "_law_right" = some (.ref a__law_right)
  F__law_right : Fun K "_law_right" "_law_right" t__law_right a__law_right d__law_right
  a_law : Addr
  d_law : FuncData
  g_law : mg "law" = some (.ref a_law)
  F_law : Fun K "law" "law" t_law a_law d_law
section
variable {K : PySem.W.Frag} {mg : Str → Option Value}
theorem sc__law_pot : FnScope ["_law_script", "_law_k", "_law_cell"] ["_law_script", "_law_k"] (defScope t__law_pot) := ⟨rfl, rfl, rfl, by decide +kernel, rfl, by decide +kernel, by decide +kernel⟩
theorem bi__law_pot (Tp : Top K mg) : Binds K Tp.d__law_pot ["_law_script", "_law_k"] [] := Tp.F__law_pot.binds fun _ _ _ _ _ _ us hl => match us, hl with | [_, _], _ => rfl
theorem sc__law_draw : FnScope ["_law_pot_here", "_law_size", "_law_digit"] ["_law_pot_here", "_law_size"] (defScope t__law_draw) := ⟨rfl, rfl, rfl, by decide +kernel, rfl, by decide +kernel, by decide +kernel⟩
theorem bi__law_draw (Tp : Top K mg) : Binds K Tp.d__law_draw ["_law_pot_here", "_law_size"] [] := Tp.F__law_draw.binds fun _ _ _ _ _ _ us hl => match us, hl with | [_, _], _ => rfl
theorem sc__law_pick : FnScope ["_law_pot_here", "_law_some"] ["_law_pot_here", "_law_some"] (defScope t__law_pick) := ⟨rfl, rfl, rfl, by decide +kernel, rfl, by decide +kernel, by decide +kernel⟩
theorem bi__law_pick (Tp : Top K mg) : Binds K Tp.d__law_pick ["_law_pot_here", "_law_some"] [] := Tp.F__law_pick.binds fun _ _ _ _ _ _ us hl => match us, hl with | [_, _], _ => rfl
theorem sc__law_bent : FnScope ["_law_pot_here", "_law_value", "_law_some", "_law_way", "_law_at", "_law_odd"] ["_law_pot_here", "_law_value"] (defScope t__law_bent) := ⟨rfl, rfl, rfl, by decide +kernel, rfl, by decide +kernel, by decide +kernel⟩
theorem bi__law_bent (Tp : Top K mg) : Binds K Tp.d__law_bent ["_law_pot_here", "_law_value"] [] := Tp.F__law_bent.binds fun _ _ _ _ _ _ us hl => match us, hl with | [_, _], _ => rfl
theorem sc__law_common : FnScope ["_law_one", "_law_other"] ["_law_one", "_law_other"] (defScope t__law_common) := ⟨rfl, rfl, rfl, by decide +kernel, rfl, by decide +kernel, by decide +kernel⟩
theorem bi__law_common (Tp : Top K mg) : Binds K Tp.d__law_common ["_law_one", "_law_other"] [] := Tp.F__law_common.binds fun _ _ _ _ _ _ us hl => match us, hl with | [_, _], _ => rfl
theorem sc__law_is_whole : FnScope ["_law_value"] ["_law_value"] (defScope t__law_is_whole) := ⟨rfl, rfl, rfl, by decide +kernel, rfl, by decide +kernel, by decide +kernel⟩
theorem bi__law_is_whole (Tp : Top K mg) : Binds K Tp.d__law_is_whole ["_law_value"] [] := Tp.F__law_is_whole.binds fun _ _ _ _ _ _ us hl => match us, hl with | [_], _ => rfl
theorem sc__law_is_ratio : FnScope ["_law_value", "_law_one"] ["_law_value"] (defScope t__law_is_ratio) := ⟨rfl, rfl, rfl, by decide +kernel, rfl, by decide +kernel, by decide +kernel⟩
theorem bi__law_is_ratio (Tp : Top K mg) : Binds K Tp.d__law_is_ratio ["_law_value"] [] := Tp.F__law_is_ratio.binds fun _ _ _ _ _ _ us hl => match us, hl with | [_], _ => rfl
theorem sc__law_is_row : FnScope ["_law_value", "_law_one"] ["_law_value"] (defScope t__law_is_row) := ⟨rfl, rfl, rfl, by decide +kernel, rfl, by decide +kernel, by decide +kernel⟩
theorem bi__law_is_row (Tp : Top K mg) : Binds K Tp.d__law_is_row ["_law_value"] [] := Tp.F__law_is_row.binds fun _ _ _ _ _ _ us hl => match us, hl with | [_], _ => rfl
theorem sc_lowest : FnScope ["number", "under", "shared", "sign"] ["number", "under"] (defScope t_lowest) := ⟨rfl, rfl, rfl, by decide +kernel, rfl, by decide +kernel, by decide +kernel⟩
theorem bi_lowest (Tp : Top K mg) : Binds K Tp.d_lowest ["number", "under"] [] := Tp.F_lowest.binds fun _ _ _ _ _ _ us hl => match us, hl with | [_, _], _ => rfl
theorem sc_digits_end : FnScope ["text", "at", "least", "end"] ["text", "at", "least"] (defScope t_digits_end) := ⟨rfl, rfl, rfl, by decide +kernel, rfl, by decide +kernel, by decide +kernel⟩
theorem bi_digits_end (Tp : Top K mg) : Binds K Tp.d_digits_end ["text", "at", "least"] [] := Tp.F_digits_end.binds fun _ _ _ _ _ _ us hl => match us, hl with | [_, _, _], _ => rfl
theorem sc_read_ratio : FnScope ["text", "begin", "end", "under", "number", "begin_under"] ["text"] (defScope t_read_ratio) := ⟨rfl, rfl, rfl, by decide +kernel, rfl, by decide +kernel, by decide +kernel⟩
theorem bi_read_ratio (Tp : Top K mg) : Binds K Tp.d_read_ratio ["text"] [] := Tp.F_read_ratio.binds fun _ _ _ _ _ _ us hl => match us, hl with | [_], _ => rfl
theorem sc_want_text : FnScope ["value"] ["value"] (defScope t_want_text) := ⟨rfl, rfl, rfl, by decide +kernel, rfl, by decide +kernel, by decide +kernel⟩
theorem bi_want_text (Tp : Top K mg) : Binds K Tp.d_want_text ["value"] [] := Tp.F_want_text.binds fun _ _ _ _ _ _ us hl => match us, hl with | [_], _ => rfl
theorem sc_parse_ratio : FnScope ["text"] ["text"] (defScope t_parse_ratio) := ⟨rfl, rfl, rfl, by decide +kernel, rfl, by decide +kernel, by decide +kernel⟩
theorem bi_parse_ratio (Tp : Top K mg) : Binds K Tp.d_parse_ratio ["text"] [] := Tp.F_parse_ratio.binds fun _ _ _ _ _ _ us hl => match us, hl with | [_], _ => rfl
theorem sc_is_integer : FnScope ["value"] ["value"] (defScope t_is_integer) := ⟨rfl, rfl, rfl, by decide +kernel, rfl, by decide +kernel, by decide +kernel⟩
theorem bi_is_integer (Tp : Top K mg) : Binds K Tp.d_is_integer ["value"] [] := Tp.F_is_integer.binds fun _ _ _ _ _ _ us hl => match us, hl with | [_], _ => rfl
theorem sc_is_ratio_value : FnScope ["value", "one"] ["value"] (defScope t_is_ratio_value) := ⟨rfl, rfl, rfl, by decide +kernel, rfl, by decide +kernel, by decide +kernel⟩
theorem bi_is_ratio_value (Tp : Top K mg) : Binds K Tp.d_is_ratio_value ["value"] [] := Tp.F_is_ratio_value.binds fun _ _ _ _ _ _ us hl => match us, hl with | [_], _ => rfl
theorem sc_is_ratio : FnScope ["value"] ["value"] (defScope t_is_ratio) := ⟨rfl, rfl, rfl, by decide +kernel, rfl, by decide +kernel, by decide +kernel⟩
theorem bi_is_ratio (Tp : Top K mg) : Binds K Tp.d_is_ratio ["value"] [] := Tp.F_is_ratio.binds fun _ _ _ _ _ _ us hl => match us, hl with | [_], _ => rfl
theorem sc_text_of_ratio : FnScope ["ratio"] ["ratio"] (defScope t_text_of_ratio) := ⟨rfl, rfl, rfl, by decide +kernel, rfl, by decide +kernel, by decide +kernel⟩
theorem bi_text_of_ratio (Tp : Top K mg) : Binds K Tp.d_text_of_ratio ["ratio"] [] := Tp.F_text_of_ratio.binds fun _ _ _ _ _ _ us hl => match us, hl with | [_], _ => rfl
theorem sc_want_ratio : FnScope ["value"] ["value"] (defScope t_want_ratio) := ⟨rfl, rfl, rfl, by decide +kernel, rfl, by decide +kernel, by decide +kernel⟩
theorem bi_want_ratio (Tp : Top K mg) : Binds K Tp.d_want_ratio ["value"] [] := Tp.F_want_ratio.binds fun _ _ _ _ _ _ us hl => match us, hl with | [_], _ => rfl
theorem sc_ratio_text : FnScope ["ratio"] ["ratio"] (defScope t_ratio_text) := ⟨rfl, rfl, rfl, by decide +kernel, rfl, by decide +kernel, by decide +kernel⟩
theorem bi_ratio_text (Tp : Top K mg) : Binds K Tp.d_ratio_text ["ratio"] [] := Tp.F_ratio_text.binds fun _ _ _ _ _ _ us hl => match us, hl with | [_], _ => rfl
theorem sc_is_row_value : FnScope ["value", "one"] ["value"] (defScope t_is_row_value) := ⟨rfl, rfl, rfl, by decide +kernel, rfl, by decide +kernel, by decide +kernel⟩
theorem bi_is_row_value (Tp : Top K mg) : Binds K Tp.d_is_row_value ["value"] [] := Tp.F_is_row_value.binds fun _ _ _ _ _ _ us hl => match us, hl with | [_], _ => rfl
theorem sc_is_row : FnScope ["value"] ["value"] (defScope t_is_row) := ⟨rfl, rfl, rfl, by decide +kernel, rfl, by decide +kernel, by decide +kernel⟩
theorem bi_is_row (Tp : Top K mg) : Binds K Tp.d_is_row ["value"] [] := Tp.F_is_row.binds fun _ _ _ _ _ _ us hl => match us, hl with | [_], _ => rfl
theorem sc__law_right : FnScope ["_law_value", "_law_before", "_law_due"] ["_law_value"] (defScope t__law_right) := ⟨rfl, rfl, rfl, by decide +kernel, rfl, by decide +kernel, by decide +kernel⟩
theorem bi__law_right (Tp : Top K mg) : Binds K Tp.d__law_right ["_law_value"] [] := Tp.F__law_right.binds fun _ _ _ _ _ _ us hl => match us, hl with | [_], _ => rfl
theorem sc_law : FnScope ["_law_script", "_law_pot_here", "_law_values", "_law_turn", "_law_pair", "_law_row", "_law_more", "_law_number", "_law_under", "_law_value"] ["_law_script"] (defScope t_law) := ⟨rfl, rfl, rfl, by decide +kernel, rfl, by decide +kernel, by decide +kernel⟩
theorem bi_law (Tp : Top K mg) : Binds K Tp.d_law ["_law_script"] [] := Tp.F_law.binds fun _ _ _ _ _ _ us hl => match us, hl with | [_], _ => rfl
def tabL (Tp : Top K mg) : Str → Option Addr := fun x => List.lookup x []
theorem kb_is_row_0 (Tp : Top K mg) : KB K Tp.d_is_row ["value"] ["value"] 0 [0] := kb_of Tp.F_is_row fun _ _ _ _ _ _ us ws h1 h2 => match us, h1, ws, h2 with | [], _, [_], _ => rfl
theorem kb_is_ratio_0 (Tp : Top K mg) : KB K Tp.d_is_ratio ["value"] ["value"] 0 [0] := kb_of Tp.F_is_ratio fun _ _ _ _ _ _ us ws h1 h2 => match us, h1, ws, h2 with | [], _, [_], _ => rfl
end
/-! ### each def does it -/
section
variable (P : Program) (w : World) {K : PySem.W.Frag} {mg : Str → Option Value} {base : Heap} (Tp : Top K mg) (hin : K.In base) (hns : base.Ns mainGlobals mg)
include Tp hin hns in
theorem ok__law_pot : FnG P w K mg base 1 Tp.a__law_pot Tp.d__law_pot ["_law_script", "_law_k"] (spM (tab0 (tabL Tp)) K 2 m__law_pot) :=
  fn_g (N := ["_law_script", "_law_k", "_law_cell"]) (b := b__law_pot) Tp.F__law_pot sc__law_pot fun cd A outer s H E xk tk po => (cb_cons (cs_set 2 sc__law_pot.nd (c_if (ct_cmp op_lt s_cmp (c_var 1) (k_len Tp.z_len (ca_cons (c_var 0) ca_nil)) (nomark _)) (k_abs Tp.z_abs (ca_cons (c_ix (c_var 0) (c_var 1)) ca_nil)) (c_op o_add s_add (c_op o_mul s_mul c_int (c_var 1)) c_int)))
    (cb_one (cs_ret (c_loc (ca_cons (k_max2 rfl Tp.z_max (ca_cons c_int (ca_cons (c_op op_sub s_sub (c_var 2) (c_op op_pow s_pow c_int c_int)) ca_nil))) (ca_cons (c_op o_add s_add (c_op op_modN s_mod (k_int Tp.z_int (ca_cons (c_op o_add s_add (c_op o_add s_add (c_op o_mul s_mul (c_op op_modN s_mod (k_int Tp.z_int (ca_cons (c_var 2) ca_nil)) c_int) c_int) (c_op o_mul s_mul c_int (c_var 1))) c_int) ca_nil)) c_int) c_int) ca_nil))))))
include Tp hin hns in
theorem ok__law_draw : FnG P w K mg base 1 Tp.a__law_draw Tp.d__law_draw ["_law_pot_here", "_law_size"] (spM (tab0 (tabL Tp)) K 2 m__law_draw) :=
  fn_g (N := ["_law_pot_here", "_law_size", "_law_digit"]) (b := b__law_draw) Tp.F__law_draw sc__law_draw fun cd A outer s H E xk tk po => (cb_cons (cs_if (ct_cmp op_gt s_cmp (c_ix (c_var 0) c_int) c_int (nomark _)) (cb_cons (cs_asg (k_divmod Tp.z_divmod (ca_cons (c_ix (c_var 0) c_int) (ca_cons (c_var 1) ca_nil))) (cg_tup 2 rfl (cgs_cons (cg_sub (c_var 0) c_int) (cgs_cons (cg_name 2 sc__law_draw.nd) cgs_nil))))
    (cb_one (cs_ret (c_var 2)))) cb_nil)
    (cb_cons (cs_asg (c_op op_modN s_mod (k_int Tp.z_int (ca_cons (c_op o_add s_add (c_op o_mul s_mul (c_ix (c_var 0) c_int) c_int) c_int) ca_nil)) c_int) (cg_sub (c_var 0) c_int))
    (cb_one (cs_ret (c_op op_modN s_mod (k_int Tp.z_int (ca_cons (c_op o_fdiv s_fdiv (c_op op_modN s_mod (k_int Tp.z_int (ca_cons (c_op o_mul s_mul (c_ix (c_var 0) c_int) (c_ix (c_var 0) c_int)) ca_nil)) c_int) c_int) ca_nil)) (c_var 1))))))
include Tp hin hns in
theorem ok__law_pick : FnG P w K mg base 2 Tp.a__law_pick Tp.d__law_pick ["_law_pot_here", "_law_some"] (spM (tab0 (tabL Tp)) K 2 m__law_pick) :=
  fn_g (N := ["_law_pot_here", "_law_some"]) (b := b__law_pick) Tp.F__law_pick sc__law_pick fun cd A outer s H E xk tk po => (cb_one (cs_ret (c_ix (c_var 1) (c_call (ok__law_draw P w Tp hin hns) xk tk rfl Tp.g__law_draw Tp.F__law_draw.kp (bi__law_draw Tp) (ca_cons (c_var 0) (ca_cons (k_len Tp.z_len (ca_cons (c_var 1) ca_nil)) ca_nil)) (len_cons (len_cons len_nil)) rfl))))
include Tp hin hns in
theorem ok__law_bent : FnG P w K mg base 3 Tp.a__law_bent Tp.d__law_bent ["_law_pot_here", "_law_value"] (spM (tab0 (tabL Tp)) K 2 m__law_bent) :=
  fn_g (N := ["_law_pot_here", "_law_value", "_law_some", "_law_way", "_law_at", "_law_odd"]) (b := b__law_bent) Tp.F__law_bent sc__law_bent fun cd A outer s H E xk tk po => (cb_cons (cs_par 2 3 rfl sc__law_bent.nd (ca_cons (k_list Tp.z_list (ca_cons (c_var 1) ca_nil)) (ca_cons (c_call (ok__law_draw P w Tp hin hns) xk tk rfl Tp.g__law_draw Tp.F__law_draw.kp (bi__law_draw Tp) (ca_cons (c_var 0) (ca_cons c_int ca_nil)) (len_cons (len_cons len_nil)) rfl) ca_nil)))
    (cb_cons (cs_set 4 sc__law_bent.nd (c_op op_modN s_mod (c_call (ok__law_draw P w Tp hin hns) xk tk rfl Tp.g__law_draw Tp.F__law_draw.kp (bi__law_draw Tp) (ca_cons (c_var 0) (ca_cons c_int ca_nil)) (len_cons (len_cons len_nil)) rfl) (k_max2 rfl Tp.z_max (ca_cons c_int (ca_cons (k_len Tp.z_len (ca_cons (c_var 2) ca_nil)) ca_nil)))))
    (cb_cons (cs_if (ct_w (cw_or (ct_cmp (o_eqW xk.hu) s_eqW (c_var 3) c_int (nomark _)) (cw_or1 (ct_cmp (o_eqW xk.hu) s_eqW (c_var 2) (c_lst ca_nil) (nomark _))))) (cb_one (cs_ret (c_call (ok__law_pick P w Tp hin hns) xk tk rfl Tp.g__law_pick Tp.F__law_pick.kp (bi__law_pick Tp) (ca_cons (c_var 0) (ca_cons (c_lst (ca_cons (c_var 2) (ca_cons c_non (ca_cons c_emp (ca_cons c_str (ca_cons (c_op o_add s_add (c_var 1) (c_tup (ca_cons c_int ca_nil))) (ca_cons (c_sl (c_var 1) co_none (co_some (c_un un_neg s_neg c_int))) (ca_cons (c_tup (ca_cons (c_var 1) ca_nil)) (ca_cons c_int ca_nil))))))))) ca_nil)) (len_cons (len_cons len_nil)) rfl))) cb_nil)
    (cb_cons (cs_if (ct_cmp (o_eqW xk.hu) s_eqW (c_var 3) c_int (nomark _)) (cb_one (cs_ret (c_op o_add s_add (c_sl (c_var 1) co_none (co_some (c_var 4))) (c_sl (c_var 1) (co_some (c_op o_add s_add (c_var 4) c_int)) co_none)))) cb_nil)
    (cb_cons (cs_if (ct_cmp (o_eqW xk.hu) s_eqW (c_var 3) c_int (nomark _)) (cb_one (cs_ret (c_rev (c_var 1)))) cb_nil)
    (cb_cons (cs_set 5 sc__law_bent.nd (c_call (ok__law_pick P w Tp hin hns) xk tk rfl Tp.g__law_pick Tp.F__law_pick.kp (bi__law_pick Tp) (ca_cons (c_var 0) (ca_cons (c_lst (ca_cons c_bl (ca_cons c_bl (ca_cons c_non (ca_cons c_str (ca_cons (c_un un_neg s_neg c_int) (ca_cons c_int (ca_cons c_int (ca_cons c_int (ca_cons c_int (ca_cons (c_tup (ca_cons c_int ca_nil)) (ca_cons (c_lst (ca_cons c_int ca_nil)) (ca_cons (c_op op_pow s_pow c_int c_int) ca_nil))))))))))))) ca_nil)) (len_cons (len_cons len_nil)) rfl))
    (cb_one (cs_ret (c_op o_add s_add (c_op o_add s_add (c_sl (c_var 1) co_none (co_some (c_var 4))) (c_tup (ca_cons (c_var 5) ca_nil))) (c_sl (c_var 1) (co_some (c_op o_add s_add (c_var 4) c_int)) co_none))))))))))
include Tp hin hns in
theorem ok__law_common : FnG P w K mg base 1 Tp.a__law_common Tp.d__law_common ["_law_one", "_law_other"] (spM (tab0 (tabL Tp)) K 2 m__law_common) :=
  fn_g (N := ["_law_one", "_law_other"]) (b := b__law_common) Tp.F__law_common sc__law_common fun cd A outer s H E xk tk po => (cb_cons (cs_while (fuelAt 1) po (ct_cmp (o_neW xk.hu) s_neW (c_var 1) c_int (nomark _)) (cb_one (cs_par 0 1 rfl sc__law_common.nd (ca_cons (c_var 1) (ca_cons (c_op op_sub s_sub (c_var 0) (c_op o_mul s_mul (c_op o_fdiv s_fdiv (c_var 0) (c_var 1)) (c_var 1))) ca_nil)))))
    (cb_one (cs_ret (k_abs Tp.z_abs (ca_cons (c_var 0) ca_nil)))))
include Tp hin hns in
theorem ok__law_is_whole : FnG P w K mg base 1 Tp.a__law_is_whole Tp.d__law_is_whole ["_law_value"] (spM (tab0 (tabL Tp)) K 1 m__law_is_whole) :=
  fn_g (N := ["_law_value"]) (b := b__law_is_whole) Tp.F__law_is_whole sc__law_is_whole fun cd A outer s H E xk tk po => (cb_one (cs_ret (c_and (c_isi .int rfl Tp.z_isinstance rfl Tp.z_int bt_int (c_var 0)) (c_one (c_not (c_isi .bool rfl Tp.z_isinstance rfl Tp.z_bool bt_bool (c_var 0)))))))
include Tp hin hns in
theorem ok__law_is_ratio : FnG P w K mg base 2 Tp.a__law_is_ratio Tp.d__law_is_ratio ["_law_value"] (spM (tab0 (tabL Tp)) K 1 m__law_is_ratio) :=
  fn_g (N := ["_law_value", "_law_one"]) (b := b__law_is_ratio) Tp.F__law_is_ratio sc__law_is_ratio fun cd A outer s H E xk tk po => (cb_cons (cs_if (ct_w (cw_or (ct_not (ct_tru (c_isi .tup rfl Tp.z_isinstance rfl Tp.z_tuple bt_tuple (c_var 0)))) (cw_or (ct_cmp (o_neW xk.hu) s_neW (k_len Tp.z_len (ca_cons (c_var 0) ca_nil)) c_int (nomark _)) (cw_or1 (ct_not (ct_tru (k_all rfl Tp.z_all (ca_cons (c_lc (own := [("_law_one", 1)]) fin_lst rfl sc__law_is_ratio.nd (ci_seq (c_var 0)) (show blkC ["_law_value", "_law_one"] (defScope t__law_is_ratio) _ _ = true by decide +kernel) (by decide) (fun _ _ _ _ _ => (cg_name 1 sc__law_is_ratio.nd)) (fun _ _ _ _ _ => cts_nil) (fun _ _ _ _ _ => (c_call (ok__law_is_whole P w Tp hin hns) (blk_ok xk) calls0 rfl Tp.g__law_is_whole Tp.F__law_is_whole.kp (bi__law_is_whole Tp) (ca_cons (c_var 1) ca_nil) (len_cons len_nil) rfl))) ca_nil)))))))) (cb_one (cs_ret c_bl)) cb_nil)
    (cb_one (cs_ret (c_and (c_cmp op_gt s_cmp (c_ix (c_var 0) c_int) c_int (nomark _)) (c_one (c_cmp (o_eqW xk.hu) s_eqW (c_call (ok__law_common P w Tp hin hns) xk tk rfl Tp.g__law_common Tp.F__law_common.kp (bi__law_common Tp) (ca_cons (c_ix (c_var 0) c_int) (ca_cons (c_ix (c_var 0) c_int) ca_nil)) (len_cons (len_cons len_nil)) rfl) c_int (nomark _)))))))
include Tp hin hns in
theorem ok__law_is_row : FnG P w K mg base 2 Tp.a__law_is_row Tp.d__law_is_row ["_law_value"] (spM (tab0 (tabL Tp)) K 1 m__law_is_row) :=
  fn_g (N := ["_law_value", "_law_one"]) (b := b__law_is_row) Tp.F__law_is_row sc__law_is_row fun cd A outer s H E xk tk po => (cb_cons (cs_if (ct_w (cw_or (ct_not (ct_tru (c_isi .tup rfl Tp.z_isinstance rfl Tp.z_tuple bt_tuple (c_var 0)))) (cw_or1 (ct_not (ct_chn op_le op_le s_cmp s_cmp c_int (k_len Tp.z_len (ca_cons (c_var 0) ca_nil)) c_int))))) (cb_one (cs_ret c_bl)) cb_nil)
    (cb_one (cs_ret (k_all rfl Tp.z_all (ca_cons (c_lc (own := [("_law_one", 1)]) fin_lst rfl sc__law_is_row.nd (ci_seq (c_var 0)) (show blkC ["_law_value", "_law_one"] (defScope t__law_is_row) _ _ = true by decide +kernel) (by decide) (fun _ _ _ _ _ => (cg_name 1 sc__law_is_row.nd)) (fun _ _ _ _ _ => cts_nil) (fun _ _ _ _ _ => (c_call (ok__law_is_whole P w Tp hin hns) (blk_ok xk) calls0 rfl Tp.g__law_is_whole Tp.F__law_is_whole.kp (bi__law_is_whole Tp) (ca_cons (c_var 1) ca_nil) (len_cons len_nil) rfl))) ca_nil)))))
include Tp hin hns in
theorem ok_lowest : FnG P w K mg base 1 Tp.a_lowest Tp.d_lowest ["number", "under"] (spM (tab0 (tabL Tp)) K 2 m_lowest) :=
  fn_g (N := ["number", "under", "shared", "sign"]) (b := b_lowest) Tp.F_lowest sc_lowest fun cd A outer s H E xk tk po => (cb_cons (cs_set 2 sc_lowest.nd (k_gcd Tp.i_gcd (ca_cons (c_var 0) (ca_cons (c_var 1) ca_nil))))
    (cb_cons (cs_set 3 sc_lowest.nd (c_if (ct_cmp op_gt s_cmp (c_var 1) c_int (nomark _)) c_int (c_un un_neg s_neg c_int)))
    (cb_one (cs_ret (c_tup (ca_cons (c_op o_fdiv s_fdiv (c_op o_mul s_mul (c_var 3) (c_var 0)) (c_var 2)) (ca_cons (c_op o_fdiv s_fdiv (c_op o_mul s_mul (c_var 3) (c_var 1)) (c_var 2)) ca_nil)))))))
include Tp hin hns in
theorem ok_digits_end : FnG P w K mg base 1 Tp.a_digits_end Tp.d_digits_end ["text", "at", "least"] (spM (tab0 (tabL Tp)) K 3 m_digits_end) :=
  fn_g (N := ["text", "at", "least", "end"]) (b := b_digits_end) Tp.F_digits_end sc_digits_end fun cd A outer s H E xk tk po => (cb_cons (cs_if (ct_w (cw_or (ct_cmp (o_eqW xk.hu) s_eqW (c_var 1) (k_len Tp.z_len (ca_cons (c_var 0) ca_nil)) (nomark _)) (cw_or1 (ct_cmp (o_nin xk.hu65) s_in (c_ix (c_var 0) (c_var 1)) (c_sl (c_globS Tp.v_DIGITS) (co_some (c_var 2)) co_none) (by rfl))))) (cb_one cs_never) cb_nil)
    (cb_cons (cs_set 3 sc_digits_end.nd (c_op o_add s_add (c_var 1) c_int))
    (cb_cons (cs_while (fuelLen 0) po (ct_w (cw_and (ct_cmp (o_neW xk.hu) s_neW (c_ix (c_var 0) (c_var 1)) c_str (nomark _)) (cw_and (ct_cmp op_lt s_cmp (c_var 3) (k_len Tp.z_len (ca_cons (c_var 0) ca_nil)) (nomark _)) (cw_and1 (ct_cmp (o_in xk.hu65) s_in (c_ix (c_var 0) (c_var 3)) (c_globS Tp.v_DIGITS) (by rfl)))))) (cb_one (cs_set 3 sc_digits_end.nd (c_op o_add s_add (c_var 3) c_int))))
    (cb_one (cs_ret (c_var 3))))))
include Tp hin hns in
theorem ok_read_ratio : FnG P w K mg base 2 Tp.a_read_ratio Tp.d_read_ratio ["text"] (spM (tab0 (tabL Tp)) K 1 m_read_ratio) :=
  fn_g (N := ["text", "begin", "end", "under", "number", "begin_under"]) (b := b_read_ratio) Tp.F_read_ratio sc_read_ratio fun cd A outer s H E xk tk po => (cb_cons (cs_set 1 sc_read_ratio.nd (c_if (ct_cmp (o_eqW xk.hu) s_eqW (c_sl (c_var 0) co_none (co_some c_int)) c_str (nomark _)) c_int c_int))
    (cb_cons (cs_par 2 3 rfl sc_read_ratio.nd (ca_cons (c_call (ok_digits_end P w Tp hin hns) xk tk rfl Tp.g_digits_end Tp.F_digits_end.kp (bi_digits_end Tp) (ca_cons (c_var 0) (ca_cons (c_var 1) (ca_cons c_int ca_nil))) (len_cons (len_cons (len_cons len_nil))) rfl) (ca_cons c_int ca_nil)))
    (cb_cons (cs_set 4 sc_read_ratio.nd (k_int Tp.z_int (ca_cons (c_sl (c_var 0) (co_some (c_var 1)) (co_some (c_var 2))) ca_nil)))
    (cb_cons (cs_if (ct_cmp (o_eqW xk.hu) s_eqW (c_sl (c_var 0) (co_some (c_var 2)) (co_some (c_op o_add s_add (c_var 2) c_int))) c_str (nomark _)) (cb_cons (cs_par 5 2 rfl sc_read_ratio.nd (ca_cons (c_op o_add s_add (c_var 2) c_int) (ca_cons (c_call (ok_digits_end P w Tp hin hns) xk tk rfl Tp.g_digits_end Tp.F_digits_end.kp (bi_digits_end Tp) (ca_cons (c_var 0) (ca_cons (c_op o_add s_add (c_var 2) c_int) (ca_cons c_int ca_nil))) (len_cons (len_cons (len_cons len_nil))) rfl) ca_nil)))
    (cb_one (cs_set 3 sc_read_ratio.nd (k_int Tp.z_int (ca_cons (c_sl (c_var 0) (co_some (c_var 5)) (co_some (c_var 2))) ca_nil))))) cb_nil)
    (cb_cons (cs_if (ct_cmp op_lt s_cmp (c_var 2) (k_len Tp.z_len (ca_cons (c_var 0) ca_nil)) (nomark _)) (cb_one cs_never) cb_nil)
    (cb_one (cs_ret (c_call (ok_lowest P w Tp hin hns) xk tk rfl Tp.g_lowest Tp.F_lowest.kp (bi_lowest Tp) (ca_cons (c_if (ct_cmp (o_eqW xk.hu) s_eqW (c_var 1) c_int (nomark _)) (c_un un_neg s_neg (c_var 4)) (c_var 4)) (ca_cons (c_var 3) ca_nil)) (len_cons (len_cons len_nil)) rfl))))))))
include Tp hin hns in
theorem ok_want_text : FnG P w K mg base 1 Tp.a_want_text Tp.d_want_text ["value"] (spM (tab0 (tabL Tp)) K 1 m_want_text) :=
  fn_g (N := ["value"]) (b := b_want_text) Tp.F_want_text sc_want_text fun cd A outer s H E xk tk po => (cb_cons (cs_if (ct_not (ct_tru (c_isi .str rfl Tp.z_isinstance rfl Tp.z_str bt_str (c_var 0)))) (cb_one cs_never) cb_nil)
    (cb_one (cs_ret (c_var 0))))
include Tp hin hns in
theorem ok_parse_ratio : FnG P w K mg base 3 Tp.a_parse_ratio Tp.d_parse_ratio ["text"] (spM (tab0 (tabL Tp)) K 1 m_parse_ratio) :=
  fn_g (N := ["text"]) (b := b_parse_ratio) Tp.F_parse_ratio sc_parse_ratio fun cd A outer s H E xk tk po => (cb_one (cs_ret (c_call (ok_read_ratio P w Tp hin hns) xk tk rfl Tp.g_read_ratio Tp.F_read_ratio.kp (bi_read_ratio Tp) (ca_cons (c_call (ok_want_text P w Tp hin hns) xk tk rfl Tp.g_want_text Tp.F_want_text.kp (bi_want_text Tp) (ca_cons (c_var 0) ca_nil) (len_cons len_nil) rfl) ca_nil) (len_cons len_nil) rfl)))
include Tp hin hns in
theorem ok_is_integer : FnG P w K mg base 1 Tp.a_is_integer Tp.d_is_integer ["value"] (spM (tab0 (tabL Tp)) K 1 m_is_integer) :=
  fn_g (N := ["value"]) (b := b_is_integer) Tp.F_is_integer sc_is_integer fun cd A outer s H E xk tk po => (cb_one (cs_ret (c_and (c_isi .int rfl Tp.z_isinstance rfl Tp.z_int bt_int (c_var 0)) (c_one (c_not (c_isi .bool rfl Tp.z_isinstance rfl Tp.z_bool bt_bool (c_var 0)))))))
include Tp hin hns in
theorem ok_is_ratio_value : FnG P w K mg base 2 Tp.a_is_ratio_value Tp.d_is_ratio_value ["value"] (spM (tab0 (tabL Tp)) K 1 m_is_ratio_value) :=
  fn_g (N := ["value", "one"]) (b := b_is_ratio_value) Tp.F_is_ratio_value sc_is_ratio_value fun cd A outer s H E xk tk po => (cb_cons (cs_if (ct_w (cw_or (ct_not (ct_tru (c_isi .tup rfl Tp.z_isinstance rfl Tp.z_tuple bt_tuple (c_var 0)))) (cw_or (ct_cmp (o_neW xk.hu) s_neW (k_len Tp.z_len (ca_cons (c_var 0) ca_nil)) c_int (nomark _)) (cw_or1 (ct_not (ct_tru (k_all rfl Tp.z_all (ca_cons (c_lc (own := [("one", 1)]) fin_lst rfl sc_is_ratio_value.nd (ci_seq (c_var 0)) (show blkC ["value", "one"] (defScope t_is_ratio_value) _ _ = true by decide +kernel) (by decide) (fun _ _ _ _ _ => (cg_name 1 sc_is_ratio_value.nd)) (fun _ _ _ _ _ => cts_nil) (fun _ _ _ _ _ => (c_call (ok_is_integer P w Tp hin hns) (blk_ok xk) calls0 rfl Tp.g_is_integer Tp.F_is_integer.kp (bi_is_integer Tp) (ca_cons (c_var 1) ca_nil) (len_cons len_nil) rfl))) ca_nil)))))))) (cb_one (cs_ret c_bl)) cb_nil)
    (cb_one (cs_ret (c_and (c_cmp op_ge s_cmp (c_ix (c_var 0) c_int) c_int (nomark _)) (c_one (c_cmp (o_eqW xk.hu) s_eqW (k_gcd Tp.i_gcd (ca_cons (c_ix (c_var 0) c_int) (ca_cons (c_ix (c_var 0) c_int) ca_nil))) c_int (nomark _)))))))
include Tp hin hns in
theorem ok_is_ratio : FnG P w K mg base 3 Tp.a_is_ratio Tp.d_is_ratio ["value"] (spM (tab0 (tabL Tp)) K 1 m_is_ratio) :=
  fn_g (N := ["value"]) (b := b_is_ratio) Tp.F_is_ratio sc_is_ratio fun cd A outer s H E xk tk po => (cb_one (cs_ret (c_call (ok_is_ratio_value P w Tp hin hns) xk tk rfl Tp.g_is_ratio_value Tp.F_is_ratio_value.kp (bi_is_ratio_value Tp) (ca_cons (c_var 0) ca_nil) (len_cons len_nil) rfl)))
include Tp hin hns in
theorem ok_text_of_ratio : FnG P w K mg base 1 Tp.a_text_of_ratio Tp.d_text_of_ratio ["ratio"] (spM (tab0 (tabL Tp)) K 1 m_text_of_ratio) :=
  fn_g (N := ["ratio"]) (b := b_text_of_ratio) Tp.F_text_of_ratio sc_text_of_ratio fun cd A outer s H E xk tk po => (cb_one (cs_ret (c_if (ct_cmp (o_eqW xk.hu) s_eqW (c_ix (c_var 0) c_int) c_int (nomark _)) (k_str Tp.z_str (ca_cons (c_ix (c_var 0) c_int) ca_nil)) (c_op o_add s_add (c_op o_add s_add (k_str Tp.z_str (ca_cons (c_ix (c_var 0) c_int) ca_nil)) c_str) (k_str Tp.z_str (ca_cons (c_ix (c_var 0) c_int) ca_nil))))))
include Tp hin hns in
theorem ok_want_ratio : FnG P w K mg base 3 Tp.a_want_ratio Tp.d_want_ratio ["value"] (spM (tab0 (tabL Tp)) K 1 m_want_ratio) :=
  fn_g (N := ["value"]) (b := b_want_ratio) Tp.F_want_ratio sc_want_ratio fun cd A outer s H E xk tk po => (cb_cons (cs_if (ct_not (ct_tru (c_call (ok_is_ratio_value P w Tp hin hns) xk tk rfl Tp.g_is_ratio_value Tp.F_is_ratio_value.kp (bi_is_ratio_value Tp) (ca_cons (c_var 0) ca_nil) (len_cons len_nil) rfl))) (cb_one cs_never) cb_nil)
    (cb_one (cs_ret (c_var 0))))
include Tp hin hns in
theorem ok_ratio_text : FnG P w K mg base 4 Tp.a_ratio_text Tp.d_ratio_text ["ratio"] (spM (tab0 (tabL Tp)) K 1 m_ratio_text) :=
  fn_g (N := ["ratio"]) (b := b_ratio_text) Tp.F_ratio_text sc_ratio_text fun cd A outer s H E xk tk po => (cb_one (cs_ret (c_call (ok_text_of_ratio P w Tp hin hns) xk tk rfl Tp.g_text_of_ratio Tp.F_text_of_ratio.kp (bi_text_of_ratio Tp) (ca_cons (c_call (ok_want_ratio P w Tp hin hns) xk tk rfl Tp.g_want_ratio Tp.F_want_ratio.kp (bi_want_ratio Tp) (ca_cons (c_var 0) ca_nil) (len_cons len_nil) rfl) ca_nil) (len_cons len_nil) rfl)))
include Tp hin hns in
theorem ok_is_row_value : FnG P w K mg base 2 Tp.a_is_row_value Tp.d_is_row_value ["value"] (spM (tab0 (tabL Tp)) K 1 m_is_row_value) :=
  fn_g (N := ["value", "one"]) (b := b_is_row_value) Tp.F_is_row_value sc_is_row_value fun cd A outer s H E xk tk po => (cb_cons (cs_if (ct_w (cw_or (ct_not (ct_tru (c_isi .tup rfl Tp.z_isinstance rfl Tp.z_tuple bt_tuple (c_var 0)))) (cw_or1 (ct_not (ct_chn op_le op_le s_cmp s_cmp c_int (k_len Tp.z_len (ca_cons (c_var 0) ca_nil)) (c_globI Tp.v_MOST_IN_ROW)))))) (cb_one (cs_ret c_bl)) cb_nil)
    (cb_one (cs_ret (k_all rfl Tp.z_all (ca_cons (c_lc (own := [("one", 1)]) fin_lst rfl sc_is_row_value.nd (ci_seq (c_var 0)) (show blkC ["value", "one"] (defScope t_is_row_value) _ _ = true by decide +kernel) (by decide) (fun _ _ _ _ _ => (cg_name 1 sc_is_row_value.nd)) (fun _ _ _ _ _ => cts_nil) (fun _ _ _ _ _ => (c_call (ok_is_integer P w Tp hin hns) (blk_ok xk) calls0 rfl Tp.g_is_integer Tp.F_is_integer.kp (bi_is_integer Tp) (ca_cons (c_var 1) ca_nil) (len_cons len_nil) rfl))) ca_nil)))))
include Tp hin hns in
theorem ok_is_row : FnG P w K mg base 3 Tp.a_is_row Tp.d_is_row ["value"] (spM (tab0 (tabL Tp)) K 1 m_is_row) :=
  fn_g (N := ["value"]) (b := b_is_row) Tp.F_is_row sc_is_row fun cd A outer s H E xk tk po => (cb_one (cs_ret (c_call (ok_is_row_value P w Tp hin hns) xk tk rfl Tp.g_is_row_value Tp.F_is_row_value.kp (bi_is_row_value Tp) (ca_cons (c_var 0) ca_nil) (len_cons len_nil) rfl)))
include Tp hin hns in
theorem ok__law_right : FnG P w K mg base 5 Tp.a__law_right Tp.d__law_right ["_law_value"] (spM (tab0 (tabL Tp)) K 1 m__law_right) :=
  fn_g (N := ["_law_value", "_law_before", "_law_due"]) (b := b__law_right) Tp.F__law_right sc__law_right fun cd A outer s H E xk tk po => (cb_cons (cs_par 1 2 rfl sc__law_right.nd (ca_cons (k_reprE xk Tp.z_repr (ca_cons (c_var 0) ca_nil)) (ca_cons (c_lst (ca_cons (c_call (ok__law_is_ratio P w Tp hin hns) xk tk rfl Tp.g__law_is_ratio Tp.F__law_is_ratio.kp (bi__law_is_ratio Tp) (ca_cons (c_var 0) ca_nil) (len_cons len_nil) rfl) (ca_cons (c_call (ok__law_is_row P w Tp hin hns) xk tk rfl Tp.g__law_is_row Tp.F__law_is_row.kp (bi__law_is_row Tp) (ca_cons (c_var 0) ca_nil) (len_cons len_nil) rfl) ca_nil))) ca_nil)))
    (cb_cons (cs_if (ct_w (cw_or (ct_cmp (o_neW xk.hu) s_neW (k_reprE xk Tp.z_repr (ca_cons (c_lst (ca_cons (c_call (ok_is_ratio P w Tp hin hns) xk tk rfl Tp.g_is_ratio Tp.F_is_ratio.kp (bi_is_ratio Tp) (ca_cons (c_var 0) ca_nil) (len_cons len_nil) rfl) (ca_cons (c_callK0 (ok_is_row P w Tp hin hns) xk tk rfl Tp.g_is_row Tp.F_is_row.kp (kb_is_row_0 Tp) rfl (ck_cons (c_var 0) ck_nil) (by intro vs h; match vs, h with | [_], _ => rfl)) ca_nil))) ca_nil)) (k_reprE xk Tp.z_repr (ca_cons (c_var 2) ca_nil)) (nomark _)) (cw_or1 (ct_cmp (o_neW xk.hu) s_neW (k_reprE xk Tp.z_repr (ca_cons (c_callK0 (ok_is_ratio P w Tp hin hns) xk tk rfl Tp.g_is_ratio Tp.F_is_ratio.kp (kb_is_ratio_0 Tp) rfl (ck_cons (c_var 0) ck_nil) (by intro vs h; match vs, h with | [_], _ => rfl)) ca_nil)) (k_reprE xk Tp.z_repr (ca_cons (c_ix (c_var 2) c_int) ca_nil)) (nomark _))))) (cb_one (cs_ret c_bl)) cb_nil)
    (cb_cons (cs_if (ct_w (cw_and (ct_tru (c_ix (c_var 2) c_int)) (cw_and1 (ct_cmp (o_neW xk.hu) s_neW (c_call (ok_parse_ratio P w Tp hin hns) xk tk rfl Tp.g_parse_ratio Tp.F_parse_ratio.kp (bi_parse_ratio Tp) (ca_cons (c_call (ok_ratio_text P w Tp hin hns) xk tk rfl Tp.g_ratio_text Tp.F_ratio_text.kp (bi_ratio_text Tp) (ca_cons (c_var 0) ca_nil) (len_cons len_nil) rfl) ca_nil) (len_cons len_nil) rfl) (c_var 0) (nomark _))))) (cb_one (cs_ret c_bl)) cb_nil)
    (cb_one (cs_ret (c_cmp (o_eqW xk.hu) s_eqW (k_reprE xk Tp.z_repr (ca_cons (c_var 0) ca_nil)) (c_var 1) (nomark _)))))))
include Tp hin hns in
theorem ok_law : FnG P w K mg base 6 Tp.a_law Tp.d_law ["_law_script"] (spM (tab0 (tabL Tp)) K 1 m_law) :=
  fn_g (N := ["_law_script", "_law_pot_here", "_law_values", "_law_turn", "_law_pair", "_law_row", "_law_more", "_law_number", "_law_under", "_law_value"]) (b := b_law) Tp.F_law sc_law fun cd A outer s H E xk tk po => (cb_cons (cs_set 1 sc_law.nd (c_call (ok__law_pot P w Tp hin hns) xk tk rfl Tp.g__law_pot Tp.F__law_pot.kp (bi__law_pot Tp) (ca_cons (c_var 0) (ca_cons c_int ca_nil)) (len_cons (len_cons len_nil)) rfl))
    (cb_cons (cs_set 2 sc_law.nd (c_loc (ca_cons c_non (ca_cons c_int (ca_cons c_bl (ca_cons c_str (ca_cons (c_lst ca_nil) (ca_cons (c_tup ca_nil) (ca_cons c_emp (ca_cons (c_lst (ca_cons c_int (ca_cons c_int ca_nil))) (ca_cons (c_tup (ca_cons c_int (ca_cons c_int ca_nil))) (ca_cons (c_tup (ca_cons c_int (ca_cons c_int ca_nil))) (ca_cons (c_tup (ca_cons c_int (ca_cons c_int ca_nil))) (ca_cons (c_tup (ca_cons c_int (ca_cons (c_un un_neg s_neg c_int) ca_nil))) (ca_cons (c_tup (ca_cons c_bl (ca_cons c_int ca_nil))) (ca_cons (c_tup (ca_cons c_int (ca_cons c_bl ca_nil))) (ca_cons (c_op o_mul s_mul (c_tup (ca_cons c_int ca_nil)) c_int) (ca_cons (c_op o_mul s_mul (c_tup (ca_cons c_int ca_nil)) c_int) ca_nil))))))))))))))))))
    (cb_cons (cs_set 2 sc_law.nd (c_op o_add s_addC (c_var 2) (c_lst (ca_cons (c_tup (ca_cons (c_op op_pow s_pow c_int c_int) (ca_cons c_int ca_nil))) (ca_cons (c_tup (ca_cons (c_op op_pow s_pow c_int c_int) (ca_cons (c_op op_pow s_pow c_int c_int) ca_nil))) (ca_cons (c_tup (ca_cons (c_un un_neg s_neg (c_op op_pow s_pow c_int c_int)) (ca_cons c_int ca_nil))) (ca_cons (c_tup (ca_cons c_int (ca_cons c_int ca_nil))) (ca_cons (c_tup (ca_cons c_int (ca_cons c_int (ca_cons c_int ca_nil)))) ca_nil))))))))
    (cb_cons (cs_for po rfl (ci_range1 rfl Tp.z_range (ca_cons c_int ca_nil)) (cg_name 3 sc_law.nd) (cb_cons (cs_par 7 8 rfl sc_law.nd (ca_cons (c_op op_sub s_sub (c_call (ok__law_draw P w Tp hin hns) xk tk rfl Tp.g__law_draw Tp.F__law_draw.kp (bi__law_draw Tp) (ca_cons (c_var 1) (ca_cons c_int ca_nil)) (len_cons (len_cons len_nil)) rfl) c_int) (ca_cons (c_call (ok__law_draw P w Tp hin hns) xk tk rfl Tp.g__law_draw Tp.F__law_draw.kp (bi__law_draw Tp) (ca_cons (c_var 1) (ca_cons c_int ca_nil)) (len_cons (len_cons len_nil)) rfl) ca_nil)))
    (cb_cons (cs_set 4 sc_law.nd (c_tup (ca_cons (c_var 7) (ca_cons (c_var 8) ca_nil))))
    (cb_cons (cs_set 5 sc_law.nd (c_tup ca_nil))
    (cb_cons (cs_for po rfl (ci_range1 rfl Tp.z_range (ca_cons (c_op o_add s_add c_int (c_call (ok__law_draw P w Tp hin hns) xk tk rfl Tp.g__law_draw Tp.F__law_draw.kp (bi__law_draw Tp) (ca_cons (c_var 1) (ca_cons c_int ca_nil)) (len_cons (len_cons len_nil)) rfl)) ca_nil)) (cg_name 6 sc_law.nd) (cb_one (cs_set 5 sc_law.nd (c_op o_add s_add (c_var 5) (c_tup (ca_cons (c_op op_sub s_sub (c_call (ok__law_draw P w Tp hin hns) xk tk rfl Tp.g__law_draw Tp.F__law_draw.kp (bi__law_draw Tp) (ca_cons (c_var 1) (ca_cons c_int ca_nil)) (len_cons (len_cons len_nil)) rfl) c_int) ca_nil))))))
    (cb_one (cs_expr (k_extend (c_var 2) (ca_cons (c_lst (ca_cons (c_var 4) (ca_cons (c_call (ok__law_bent P w Tp hin hns) xk tk rfl Tp.g__law_bent Tp.F__law_bent.kp (bi__law_bent Tp) (ca_cons (c_var 1) (ca_cons (c_var 4) ca_nil)) (len_cons (len_cons len_nil)) rfl) (ca_cons (c_var 5) (ca_cons (c_call (ok__law_bent P w Tp hin hns) xk tk rfl Tp.g__law_bent Tp.F__law_bent.kp (bi__law_bent Tp) (ca_cons (c_var 1) (ca_cons (c_var 5) ca_nil)) (len_cons (len_cons len_nil)) rfl) ca_nil))))) ca_nil)))))))))
    (cb_frz 2 (cb_one (cs_ret (c_cmp (o_eqW xk.hu) s_eqW (c_lc (own := [("_law_value", 9)]) fin_lst rfl sc_law.nd (ci_seq (c_var 2)) (show blkC ["_law_script", "_law_pot_here", "_law_values", "_law_turn", "_law_pair", "_law_row", "_law_more", "_law_number", "_law_under", "_law_value"] (defScope t_law) _ _ = true by decide +kernel) (by decide) (fun _ _ _ _ _ => (cg_name 9 sc_law.nd)) (fun _ _ _ _ _ => (cts_one (ct_not (ct_tru (c_call (ok__law_right P w Tp hin hns) (blk_ok xk) calls0 rfl Tp.g__law_right Tp.F__law_right.kp (bi__law_right Tp) (ca_cons (c_var 9) ca_nil) (len_cons len_nil) rfl))))) (fun _ _ _ _ _ => c_int)) (c_lst ca_nil) (nomark _)))))))))
end
end Law
set_option maxHeartbeats 4000000
namespace Law
open PySem PySem.Spec PyProof.Rows L2 Mn Rt TL PySem.NumText
theorem e_slM {ma : M Val} {ml mh : M (Option Int)} {l : Mn.Loc} {s : Sto} : slM ma ml mh l s = (ma l s).bd fun v s1 => (ml l s1).bd fun lo s2 => (mh l s2).bd fun hi s3 => slV v lo hi s3 := rfl
theorem e_noP {l : Mn.Loc} {s : Sto} : noP l s = .ok none s := rfl
def toP (v : Val) (s : Sto) : R (Option Int) := match v with
  | .int i => .ok (some i) s
  | _ => .bad
theorem e_toP {i : Int} {s : Sto} : toP (.int i) s = .ok (some i) s := rfl
theorem e_someP {m : M Val} {l : Mn.Loc} {s : Sto} : someP m l s = (m l s).bd toP := rfl
theorem pk_2 {x y : Nat} {l : Mn.Loc} {a b : Val} {s : Sto} : parK x y l [a, b] s = .nx ((l.set x (some a)).set y (some b)) s := rfl
local macro_rules | `(tactic| walk_at "ev") => `(tactic| try simp only [bd_ok, bd_ex, bd_bad, rb_ok, rb_ex, rb_bad, noex_ok, getO_some, tn_nx, tn_rt, tn_ex, tn_bk, tn_ct, tn_bad, fn_nx, fn_rt, fn_ex, fn_bad, toB_bl, notK_bl, andK_b, orK_b, parK_2, lk_0, lk_s, atI_0, atI_1, atI_2, atI_3, e_bin, e_una, e_cst, e_sq, e_asg, e_ret, e_drop, e_ifB, e_pass, e_retN, e_bad, e_name, e_consM, e_nilM, e_callU, e_callG, e_g1, e_g2, e_asB, e_tru, e_ifV, e_andM, e_orM, e_notM, e_add, e_sub, e_mul, e_fdiv, e_mod, e_pow, e_neg, e_cmp, e_eqI, e_neI, e_eqT2, e_neT2, e_ixT, e_ixL, e_ixS, e_abs, e_max, e_intI, e_intB, e_gcd, e_dm, e_lenT, e_lenL, e_lenS, e_tup, e_lst, e_loc, e_truB, e_isi, e_tupT, e_consT, e_nilT, e_sub_, e_run, e_par, e_chn, e_callK, e_andV, e_orV, e_notV, e_isB, e_notB, e_lcM, lcL_nil, lcL_cons, wipeL_nil, wipeL_cons, e_yes, e_finL, e_walk, walkK_t, walkK_l, walkK_s, e_allL, e_anyL, e_sumL, boolsOf, intsOf, e_tupleT, e_tupleL, e_listT, e_listL, List.map_cons, List.map_nil, List.replicate, List.length_cons, List.length_nil, List.cons_append, List.nil_append, List.append_nil, List.getElem?_cons_zero, List.getElem?_cons_succ, List.getElem?_nil, List.set_cons_zero, List.set_cons_succ, Nat.reduceAdd, Nat.reduceSub, Nat.reduceLeDiff, Nat.reduceEqDiff, nc_0, nc_1, nc_2, nc_3, nc_4, nc_5, nc_6, nc_7, nc_8, nc_9, Int.reduceEq, Int.reduceBEq, Int.reduceNeg, if_true, if_false, Bool.false_eq_true, reduceIte, isa, Bool.not_true, Bool.not_false, pick, List.filterMap_cons, List.filterMap_nil, decide_eq_true_eq, Bool.and_true, Bool.true_and, Bool.not_eq_true', beq_iff_eq, and_self, Nat.zero_add, List.all_cons, List.all_nil, id_eq, Bool.and_self, Bool.true_eq_false, beq_self_eq_true, lv_non, lv_bl, lv_int, lv_str, lv_tup, lv_lst, lv_scr, e_isi2, e_addT, e_par3, e_revT, e_revL, e_frzT, e_frzL, e_for, e_zip, zipK_t, zipK_l, Bool.or_true, Bool.true_or, Bool.or_false, Bool.false_or, decide_true, e_finC, e_try, ty_nx, ty_rt, ty_bk, ty_ct, wr_nx, wr_rt, e_rai, raiK_1, e_exf, e_strI, e_strS, e_slM, e_noP, e_someP, e_toP, pk_2, e_eqWI, e_neWI, e_eqWB, e_neWB, e_eqWT, e_neWT, e_eqWL, e_neWL, e_eqWN, e_neWN, e_eqWC, e_neWC])
theorem isint_ev (a : Int) (s : Sto) : m_is_integer [.int a] s = .ok (.bl true) s := by
  unfold m_is_integer b_is_integer
  walk_at "ev"
theorem lowest_ev (a b : Int) (s : Sto) (hb : b ≠ 0) (ha : Sm 4000 a) (hb2 : Sm 4000 b) : m_lowest [.int a, .int b] s = .ok (.tup [.int (lowP a b), .int (lowQ a b)]) s := by
  have h1 : ∀ i : Int, Sm 4000 i → (1 : Int).natAbs.log2 + i.natAbs.log2 < 1000000 := fun i hi => Sm.mulc (k := 1) (j := 4000) (by decide) hi (by decide)
  have h2 : ∀ i : Int, Sm 4000 i → (-1 : Int).natAbs.log2 + i.natAbs.log2 < 1000000 := fun i hi => Sm.mulc (k := 1) (j := 4000) (by decide) hi (by decide)
  have hg := gcd_pos (a := a) hb
  have hgl : Nat.gcd a.natAbs b.natAbs ≤ b.natAbs := Nat.gcd_le_right _ (by omega)
  have hd : ((Nat.gcd a.natAbs b.natAbs : Nat) : Int) ≠ 0 ∧ ((Nat.gcd a.natAbs b.natAbs : Nat) : Int).natAbs.log2 < 9000 := by
    refine ⟨by omega, Nat.lt_of_le_of_lt (Sm.lg (k := 4000) ?_) (by decide)⟩
    exact Sm.le hb2 (by rw [Int.natAbs_natCast]; exact hgl)
  have hf : ∀ i : Int, i.fdiv ((Nat.gcd a.natAbs b.natAbs : Nat) : Int) = i / ((Nat.gcd a.natAbs b.natAbs : Nat) : Int) := fun i => Int.fdiv_eq_ediv_of_nonneg i (by omega)
  unfold m_lowest b_lowest lowP lowQ
  walk_at "ev"
  by_cases h : 0 < b
  · simp only [if_pos h]
    walk_at "ev"
    rw [if_pos (h1 a ha)]
    walk_at "ev"
    rw [if_pos hd]
    walk_at "ev"
    rw [if_pos (h1 b hb2)]
    walk_at "ev"
    rw [if_pos hd]
    walk_at "ev"
    rw [hf, hf, Int.one_mul, Int.one_mul]
  · simp only [if_neg h]
    walk_at "ev"
    rw [if_pos (h2 a ha)]
    walk_at "ev"
    rw [if_pos hd]
    walk_at "ev"
    rw [if_pos (h2 b hb2)]
    walk_at "ev"
    rw [if_pos hd]
    walk_at "ev"
    rw [hf, hf, Int.neg_one_mul, Int.neg_one_mul]

/-! ### the law's own numbers -/
theorem common_loop : ∀ (n : Nat) (a b : Int) (s : Sto), b.natAbs < n → Sm 4000 a → Sm 4000 b →
    ∃ g : Int, g.natAbs = Nat.gcd a.natAbs b.natAbs ∧ whL (asB (Mn.bin (lk 1) (cst (.int 0)) Mn.neW)) (parB 0 1 (consM (lk 1) (consM (Mn.bin (lk 0) (Mn.bin (Mn.bin (lk 0) (lk 1) fdivV) (lk 1) mulV) subV) nilM))) n [some (.int a), some (.int b)] s = .nx [some (.int g), some (.int 0)] s
  | 0, _, _, _, h, _, _ => absurd h (Nat.not_lt_zero _)
  | n + 1, a, b, s, h, ha, hb => by
    by_cases hz : b = 0
    · subst hz
      refine ⟨a, by simp, ?_⟩
      unfold whL
      walk_at "ev"
    · have h1 : (a.fdiv b).natAbs.log2 + b.natAbs.log2 < 1000000 := by
        refine Sm.mulc (k := 4001) (j := 4000) ?_ hb (by decide)
        have h3 := fdiv_abs a b
        unfold Sm at *
        have h4 : (2 : Nat) ^ 4001 = 2 ^ 4000 * 2 := Nat.pow_succ 2 4000
        have h5 : 0 < (2 : Nat) ^ 4000 := Nat.pow_pos (by decide)
        generalize (2 : Nat) ^ 4000 = z at *
        omega
      have h2 : b ≠ 0 ∧ b.natAbs.log2 < 9000 := ⟨hz, Nat.lt_of_le_of_lt hb.lg (by decide)⟩
      have hl := fmod_lt (a := a) hz
      obtain ⟨g, hg, he⟩ := common_loop n b (a - a.fdiv b * b) s (by omega) hb (Sm.le hb (Nat.le_of_lt hl))
      refine ⟨g, by rw [hg]; exact (gcd_step rfl).symm, ?_⟩
      unfold whL
      walk_at "ev"
      have hbz : (b == 0) = false := by simpa using hz
      simp only [hbz, Bool.not_false, if_true]
      walk_at "ev"
      rw [if_pos h2]
      walk_at "ev"
      rw [if_pos h1]
      walk_at "ev"
      exact he
theorem common_ev (a b : Int) (s : Sto) (ha : Sm 4000 a) (hb : Sm 4000 b) : m__law_common [.int a, .int b] s = .ok (.int ((Nat.gcd a.natAbs b.natAbs : Nat) : Int)) s := by
  unfold m__law_common b__law_common
  walk_at "ev"
  obtain ⟨g, hg, he⟩ := common_loop (b.natAbs + 1) a b s (Nat.lt_succ_self _) ha hb
  have hw : whB (fuelAt 1) (asB (Mn.bin (lk 1) (cst (.int 0)) Mn.neW)) (parB 0 1 (consM (lk 1) (consM (Mn.bin (lk 0) (Mn.bin (Mn.bin (lk 0) (lk 1) fdivV) (lk 1) mulV) subV) nilM))) [some (.int a), some (.int b)] s = .nx [some (.int g), some (.int 0)] s := he
  rw [hw]
  walk_at "ev"
  have e : (if g < 0 then -g else g) = ((Nat.gcd a.natAbs b.natAbs : Nat) : Int) := by
    rw [← hg]
    split <;> omega
  rw [e]
/-- a ratio in lowest terms -/
structure Ra (k : Nat) (a b : Int) : Prop where
  pos : 0 < b
  cop : Nat.gcd a.natAbs b.natAbs = 1
  sa : Sm k a
  sb : Sm k b
theorem Ra.up {k j : Nat} {a b : Int} (h : Ra k a b) (hj : k ≤ j) : Ra j a b := ⟨h.pos, h.cop, h.sa.up hj, h.sb.up hj⟩
theorem ra_low {k : Nat} {n u : Int} (hu : u ≠ 0) (hn : Sm k n) (hu2 : Sm k u) : Ra k (lowP n u) (lowQ n u) :=
  ⟨(low_of hu).pos, (low_of hu).cop, Sm.le hn (lowP_le n u), Sm.le hu2 (lowQ_le n u)⟩
theorem isr_ev (a b : Int) (s : Sto) (r : Ra 4000 a b) : m_is_ratio_value [.tup [.int a, .int b]] s = .ok (.bl true) s := by
  unfold m_is_ratio_value b_is_ratio_value
  walk_at "ev"
  simp only [isint_ev]
  walk_at "ev"
  rw [if_pos (show 1 ≤ b from r.pos), r.cop]
  walk_at "ev"

end Law
set_option maxHeartbeats 4000000
namespace Law
open PySem PySem.Spec PyProof.Rows L2 Mn Rt TL PySem.NumText
local macro_rules | `(tactic| walk_at "ev") => `(tactic| try simp only [bd_ok, bd_ex, bd_bad, rb_ok, rb_ex, rb_bad, noex_ok, getO_some, tn_nx, tn_rt, tn_ex, tn_bk, tn_ct, tn_bad, fn_nx, fn_rt, fn_ex, fn_bad, toB_bl, notK_bl, andK_b, orK_b, parK_2, lk_0, lk_s, atI_0, atI_1, atI_2, atI_3, e_bin, e_una, e_cst, e_sq, e_asg, e_ret, e_drop, e_ifB, e_pass, e_retN, e_bad, e_name, e_consM, e_nilM, e_callU, e_callG, e_g1, e_g2, e_asB, e_tru, e_ifV, e_andM, e_orM, e_notM, e_add, e_sub, e_mul, e_fdiv, e_mod, e_pow, e_neg, e_cmp, e_eqI, e_neI, e_eqT2, e_neT2, e_ixT, e_ixL, e_ixS, e_abs, e_max, e_intI, e_intB, e_gcd, e_dm, e_lenT, e_lenL, e_lenS, e_tup, e_lst, e_loc, e_truB, e_isi, e_tupT, e_consT, e_nilT, e_sub_, e_run, e_par, e_chn, e_callK, e_andV, e_orV, e_notV, e_isB, e_notB, e_lcM, lcL_nil, lcL_cons, wipeL_nil, wipeL_cons, e_yes, e_finL, e_walk, walkK_t, walkK_l, walkK_s, e_allL, e_anyL, e_sumL, boolsOf, intsOf, e_tupleT, e_tupleL, e_listT, e_listL, List.map_cons, List.map_nil, List.replicate, List.length_cons, List.length_nil, List.cons_append, List.nil_append, List.append_nil, List.getElem?_cons_zero, List.getElem?_cons_succ, List.getElem?_nil, List.set_cons_zero, List.set_cons_succ, Nat.reduceAdd, Nat.reduceSub, Nat.reduceLeDiff, Nat.reduceEqDiff, nc_0, nc_1, nc_2, nc_3, nc_4, nc_5, nc_6, nc_7, nc_8, nc_9, Int.reduceEq, Int.reduceBEq, Int.reduceNeg, if_true, if_false, Bool.false_eq_true, reduceIte, isa, Bool.not_true, Bool.not_false, pick, List.filterMap_cons, List.filterMap_nil, decide_eq_true_eq, Bool.and_true, Bool.true_and, Bool.not_eq_true', beq_iff_eq, and_self, Nat.zero_add, List.all_cons, List.all_nil, id_eq, Bool.and_self, Bool.true_eq_false, beq_self_eq_true, lv_non, lv_bl, lv_int, lv_str, lv_tup, lv_lst, lv_scr, e_isi2, e_addT, e_par3, e_revT, e_revL, e_frzT, e_frzL, e_for, e_zip, zipK_t, zipK_l, Bool.or_true, Bool.true_or, Bool.or_false, Bool.false_or, decide_true, e_finC, e_try, ty_nx, ty_rt, ty_bk, ty_ct, wr_nx, wr_rt, e_rai, raiK_1, e_exf, e_strI, e_strS, e_slM, e_noP, e_someP, e_toP, pk_2, e_eqWI, e_neWI, e_eqWB, e_neWB, e_eqWT, e_neWT, e_eqWL, e_neWL, e_eqWN, e_neWN, e_eqWC, e_neWC])
/-- the pot at place 0 -/
def PotAt (s : Sto) : Prop := ∃ x y : Int, s[0]? = some (.lst [.int x, .int y]) ∧ Sm 40 y
theorem PotAt.app {s : Sto} (h : PotAt s) (t : Sto) : PotAt (s ++ t) := by
  obtain ⟨x, y, e, hy⟩ := h
  exact ⟨x, y, by rw [List.getElem?_append_left (List.getElem?_eq_some_iff.mp e).1]; exact e, hy⟩
theorem set_at {s : Sto} {x y : SO} (h : s[0]? = some x) : (s.set 0 y)[0]? = some y := by
  cases s with
  | nil => exact nomatch h
  | cons a t => rfl
theorem draw_at {s : Sto} (z : Int) (hp : PotAt s) (hz : 0 < z) (hz2 : z < 1000) :
    ∃ (d x y : Int), m__law_draw [.loc 0, .int z] s = .ok (.int d) (s.set 0 (.lst [.int x, .int y])) ∧ 0 ≤ d ∧ d < z ∧ Sm 40 y := by
  obtain ⟨x, y, h, hy⟩ := hp
  have a0 : ixV (.loc 0) (.int 0) s = .ok (.int x) s := by rw [e_ixC h]; rfl
  have a1 : ixV (.loc 0) (.int 1) s = .ok (.int y) s := by rw [e_ixC h]; rfl
  by_cases hx : 0 < x
  · have hd : 0 < z ∧ z.natAbs < 1073741824 := ⟨hz, by omega⟩
    refine ⟨x % z, x / z, y, ?_, Int.emod_nonneg _ (by omega), Int.emod_lt_of_pos _ hz, hy⟩
    have pu : putV (.loc 0) (.int 0) (.int (x / z)) s = .ok () (s.set 0 (.lst [.int (x / z), .int y])) := by rw [e_put h (ixN_0 (n := 2) (by decide))]; rfl
    unfold m__law_draw b__law_draw
    walk_at "ev"
    repeat (simp only [a0, a1, hx, if_pos hd, pu]; walk_at "ev")
  · have w1 : (y * 41131 + 31607).fmod 2147483587 = (y * 41131 + 31607) % 2147483587 := Int.fmod_eq_emod_of_nonneg _ (by decide)
    obtain ⟨v, hv⟩ : ∃ v, v = (y * 41131 + 31607) % 2147483587 := ⟨_, rfl⟩
    have v0 : 0 ≤ v := by rw [hv]; exact Int.emod_nonneg _ (by decide)
    have v1 : v < 2147483587 := by rw [hv]; exact Int.emod_lt_of_pos _ (by decide)
    have sv : Sm 40 v := by unfold Sm; omega
    have w2 : (v * v).fmod 2147483529 = (v * v) % 2147483529 := Int.fmod_eq_emod_of_nonneg _ (by decide)
    have w3 : ((v * v) % 2147483529).fdiv 23 = ((v * v) % 2147483529) / 23 := Int.fdiv_eq_ediv_of_nonneg _ (by decide)
    have w4 : (((v * v) % 2147483529) / 23).fmod z = (((v * v) % 2147483529) / 23) % z := Int.fmod_eq_emod_of_nonneg _ (by omega)
    have m1 : y.natAbs.log2 + (41131 : Int).natAbs.log2 < 1000000 := hy.mulc (show Sm 20 41131 by decide) (by decide)
    have m2 := sv.mulc sv (by decide)
    have m3 : (23 : Int) ≠ 0 ∧ (23 : Int).natAbs.log2 < 9000 := by decide
    have m4 : (2147483587 : Int) ≠ 0 := by decide
    have m5 : (2147483529 : Int) ≠ 0 := by decide
    have m6 : z ≠ 0 := by omega
    have b1 : ixV (.loc 0) (.int 1) (s.set 0 (.lst [.int x, .int v])) = .ok (.int v) (s.set 0 (.lst [.int x, .int v])) := by rw [e_ixC (set_at h)]; rfl
    refine ⟨(((v * v) % 2147483529) / 23) % z, x, v, ?_, Int.emod_nonneg _ (by omega), Int.emod_lt_of_pos _ hz, sv⟩
    have pu : putV (.loc 0) (.int 1) (.int v) s = .ok () (s.set 0 (.lst [.int x, .int v])) := by rw [e_put h (ixN_1 (n := 2) (by decide))]; rfl
    unfold m__law_draw b__law_draw
    walk_at "ev"
    repeat (simp only [a0, a1, hx, if_pos m1, if_pos m2, if_pos m3, if_pos m4, if_pos m5, if_pos m6, w1, w2, w3, w4, ← hv, b1, pu]; walk_at "ev")
/-- all but the pot is as it was -/
def Keep (s t : Sto) : Prop := t.length = s.length ∧ (∀ n : Nat, 0 < n → t[n]? = s[n]?) ∧ PotAt t
theorem Keep.trans {s t u : Sto} (h : Keep s t) (k : Keep t u) : Keep s u := ⟨k.1.trans h.1, fun n hn => (k.2.1 n hn).trans (h.2.1 n hn), k.2.2⟩
theorem Keep.refl {s : Sto} (h : PotAt s) : Keep s s := ⟨rfl, fun _ _ => rfl, h⟩
theorem keep_set {s : Sto} {x y : Int} (hp : PotAt s) (hy : Sm 40 y) : Keep s (s.set 0 (.lst [.int x, .int y])) := by
  obtain ⟨_, _, h, _⟩ := hp
  exact ⟨by rw [List.length_set], fun n hn => List.getElem?_set_ne (by omega), x, y, set_at h, hy⟩
theorem draw_ok {s : Sto} (z : Int) (hp : PotAt s) (hz : 0 < z) (hz2 : z < 1000) :
    ∃ (d : Int) (t : Sto), m__law_draw [.loc 0, .int z] s = .ok (.int d) t ∧ 0 ≤ d ∧ d < z ∧ Keep s t := by
  obtain ⟨d, x, y, h, d0, d1, hy⟩ := draw_at z hp hz hz2
  exact ⟨d, _, h, d0, d1, keep_set hp hy⟩
theorem pick_ok {s : Sto} (xs : List Val) (hp : PotAt s) (h0 : 0 < xs.length) (h1 : xs.length < 1000) :
    ∃ (v : Val) (t : Sto), m__law_pick [.loc 0, .lst xs] s = .ok v t ∧ v ∈ xs ∧ Keep s t := by
  obtain ⟨d, t, hd, d0, d1, ht⟩ := draw_ok (xs.length : Int) hp (by omega) (by omega)
  obtain ⟨k, rfl⟩ : ∃ k : Nat, d = k := ⟨d.toNat, by omega⟩
  have hk : k < xs.length := by omega
  have ha : atI xs (k : Int) = some xs[k] := by
    unfold atI
    have e : L2.ixN xs.length (k : Int) = some k := by
      unfold L2.ixN
      rw [if_pos (by omega), if_pos (by omega), Int.toNat_natCast]
    rw [e]
    exact List.getElem?_eq_getElem hk
  refine ⟨xs[k], t, ?_, List.getElem_mem hk, ht⟩
  unfold m__law_pick b__law_pick
  walk_at "ev"
  repeat (simp only [hd, ha]; walk_at "ev")
theorem pot_ok (ns : List Int) : ∃ t, m__law_pot [.scr ns, .int 0] [] = .ok (.loc 0) t ∧ PotAt t := by
  have main : ∀ c : Int, ∃ v, Sm 40 v ∧ (c.fmod 2147483529 * 41771 + 7369 * 0 + 983).fmod 2147483587 + 1 = v ∧ (c.fmod 2147483529).natAbs.log2 + (41771 : Int).natAbs.log2 < 1000000 := by
    intro c
    have w1 : c.fmod 2147483529 = c % 2147483529 := Int.fmod_eq_emod_of_nonneg _ (by decide)
    have v0 : 0 ≤ c % 2147483529 := Int.emod_nonneg _ (by decide)
    have v1 : c % 2147483529 < 2147483529 := Int.emod_lt_of_pos _ (by decide)
    have sv : Sm 40 (c % 2147483529) := by unfold Sm; omega
    refine ⟨_, ?_, rfl, by rw [w1]; exact sv.mulc (show Sm 20 41771 by decide) (by decide)⟩
    rw [Int.fmod_eq_emod_of_nonneg _ (show (0 : Int) ≤ 2147483587 by decide)]
    have u0 := Int.emod_nonneg (c.fmod 2147483529 * 41771 + 7369 * 0 + 983) (show (2147483587 : Int) ≠ 0 by decide)
    have u1 := Int.emod_lt_of_pos (c.fmod 2147483529 * 41771 + 7369 * 0 + 983) (show (0 : Int) < 2147483587 by decide)
    unfold Sm
    omega
  have m2 : (0 : Int) ≤ 18 ∧ (18 : Int).natAbs ≤ 1000000 ∧ (10 : Int).natAbs < 18446744073709551616 := by decide
  have m3 : (2147483529 : Int) ≠ 0 := by decide
  have m4 : (2147483587 : Int) ≠ 0 := by decide
  have m5 : (7369 : Int).natAbs.log2 + (0 : Int).natAbs.log2 < 1000000 := by decide
  cases ns with
  | nil =>
    obtain ⟨v, sv, hv, hm⟩ := main 997
    refine ⟨[.lst [.int 0, .int v]], ?_, 0, v, rfl, sv⟩
    rw [← hv]
    rfl
  | cons c r =>
    obtain ⟨v, sv, hv, hm⟩ := main (if c < 0 then -c else c)
    obtain ⟨z, hz⟩ : ∃ z, z = (if c < 0 then -c else c) := ⟨_, rfl⟩
    rw [← hz] at hv hm
    refine ⟨[.lst [.int (if z - 10 ^ 18 > 0 then z - 10 ^ 18 else 0), .int v]], ?_, _, v, rfl, sv⟩
    unfold m__law_pot b__law_pot
    walk_at "ev"
    have hl2 : (0 : Int) < (((List.map Val.int r).length + 1 : Nat) : Int) := by omega
    repeat (simp only [if_pos hl2, ← hz, hv, if_pos hm, if_pos m2, if_pos m3, if_pos m4, if_pos m5]; walk_at "ev")
    rfl

end Law
set_option maxHeartbeats 4000000
namespace Law
open PySem PySem.Spec PyProof.Rows L2 Mn Rt TL PySem.NumText
local macro_rules | `(tactic| walk_at "ev") => `(tactic| try simp only [bd_ok, bd_ex, bd_bad, rb_ok, rb_ex, rb_bad, noex_ok, getO_some, tn_nx, tn_rt, tn_ex, tn_bk, tn_ct, tn_bad, fn_nx, fn_rt, fn_ex, fn_bad, toB_bl, notK_bl, andK_b, orK_b, parK_2, lk_0, lk_s, atI_0, atI_1, atI_2, atI_3, e_bin, e_una, e_cst, e_sq, e_asg, e_ret, e_drop, e_ifB, e_pass, e_retN, e_bad, e_name, e_consM, e_nilM, e_callU, e_callG, e_g1, e_g2, e_asB, e_tru, e_ifV, e_andM, e_orM, e_notM, e_add, e_sub, e_mul, e_fdiv, e_mod, e_pow, e_neg, e_cmp, e_eqI, e_neI, e_eqT2, e_neT2, e_ixT, e_ixL, e_ixS, e_abs, e_max, e_intI, e_intB, e_gcd, e_dm, e_lenT, e_lenL, e_lenS, e_tup, e_lst, e_loc, e_truB, e_isi, e_tupT, e_consT, e_nilT, e_sub_, e_run, e_par, e_chn, e_callK, e_andV, e_orV, e_notV, e_isB, e_notB, e_lcM, lcL_nil, lcL_cons, wipeL_nil, wipeL_cons, e_yes, e_finL, e_walk, walkK_t, walkK_l, walkK_s, e_allL, e_anyL, e_sumL, boolsOf, intsOf, e_tupleT, e_tupleL, e_listT, e_listL, List.map_cons, List.map_nil, List.replicate, List.length_cons, List.length_nil, List.cons_append, List.nil_append, List.append_nil, List.getElem?_cons_zero, List.getElem?_cons_succ, List.getElem?_nil, List.set_cons_zero, List.set_cons_succ, Nat.reduceAdd, Nat.reduceSub, Nat.reduceLeDiff, Nat.reduceEqDiff, nc_0, nc_1, nc_2, nc_3, nc_4, nc_5, nc_6, nc_7, nc_8, nc_9, Int.reduceEq, Int.reduceBEq, Int.reduceNeg, if_true, if_false, Bool.false_eq_true, reduceIte, isa, Bool.not_true, Bool.not_false, pick, List.filterMap_cons, List.filterMap_nil, decide_eq_true_eq, Bool.and_true, Bool.true_and, Bool.not_eq_true', beq_iff_eq, and_self, Nat.zero_add, List.all_cons, List.all_nil, id_eq, Bool.and_self, Bool.true_eq_false, beq_self_eq_true, lv_non, lv_bl, lv_int, lv_str, lv_tup, lv_lst, lv_scr, e_isi2, e_addT, e_par3, e_revT, e_revL, e_frzT, e_frzL, e_for, e_zip, zipK_t, zipK_l, Bool.or_true, Bool.true_or, Bool.or_false, Bool.false_or, decide_true, e_finC, e_try, ty_nx, ty_rt, ty_bk, ty_ct, wr_nx, wr_rt, e_rai, raiK_1, e_exf, e_strI, e_strS, e_slM, e_noP, e_someP, e_toP, pk_2, e_eqWI, e_neWI, e_eqWB, e_neWB, e_eqWT, e_neWT, e_eqWL, e_neWL, e_eqWN, e_neWN, e_eqWC, e_neWC])
theorem e_eqWT2 {x y : Str} {s : Sto} : eqW (.str x) (.str y) s = .ok (.bl (decide (tl x = tl y))) s := by
  rw [e_eqWS]
  have e : (x = y) ↔ tl x = tl y := ⟨fun h => by rw [h], ext_tl⟩
  simp only [e]
theorem run_at {cs : List Nat} {e c : Nat} (h : cs[e]? = some c) (hd : dg c = true) : run (cs.drop e) = 1 + run (cs.drop (e + 1)) := by
  obtain ⟨hl, hc⟩ := List.getElem?_eq_some_iff.mp h
  rw [List.drop_eq_getElem_cons hl, hc, run_cons hd]
theorem run_at_no {cs : List Nat} {e c : Nat} (h : cs[e]? = some c) (hd : dg c = false) : run (cs.drop e) = 0 := by
  obtain ⟨hl, hc⟩ := List.getElem?_eq_some_iff.mp h
  rw [List.drop_eq_getElem_cons hl, hc, run_no hd]
theorem run_end {cs : List Nat} {e : Nat} (h : cs.length ≤ e) : run (cs.drop e) = 0 := by
  rw [List.drop_of_length_le h]; rfl
theorem tl0 : tl (Str.ofString "0") = [48] := by decide +kernel
theorem so0 : PyData.strOk (Str.ofString "0") = true := by decide +kernel
section
variable {z : Str} {s : Sto}
theorem in_dig {c : Nat} : inV (.str (sg c)) (.str (Str.ofString "0123456789")) s = .ok (.bl (dg c)) s := by
  show inT false (.str (sg c)) (.str (Str.ofString "0123456789")) s = _
  rw [e_inStr]
  have e : decide (c ∈ tl (Str.ofString "0123456789")) = dg c := by
    rw [Bool.eq_iff_iff, decide_eq_true_eq]; exact mem_dig c
  rw [e]
theorem ne0 {c : Nat} (h : PyData.strOk (sg c) = true) : Mn.neW (.str (sg c)) (.str (Str.ofString "0")) s = .ok (.bl (!decide (c = 48))) s := by
  have e : (sg c = Str.ofString "0") ↔ c = 48 := ⟨fun h => by have := congrArg tl h; rw [tl_sg, tl0] at this; simpa using this, fun h => ext_tl (by rw [tl_sg, tl0, h])⟩
  rw [e_neWS]
  simp only [e]
theorem dcut0 : tl (cutS (Str.ofString "0123456789") (some 0) none) = [48, 49, 50, 51, 52, 53, 54, 55, 56, 57] := by decide +kernel
theorem dcut1 : tl (cutS (Str.ofString "0123456789") (some 1) none) = [49, 50, 51, 52, 53, 54, 55, 56, 57] := by decide +kernel
theorem nin0 {c : Nat} : ninV (.str (sg c)) (.str (cutS (Str.ofString "0123456789") (some 0) none)) s = .ok (.bl (!dg c)) s := by
  show inT true (.str (sg c)) (.str (cutS (Str.ofString "0123456789") (some 0) none)) s = _
  rw [e_ninStr]
  have e : decide (c ∈ tl (cutS (Str.ofString "0123456789") (some 0) none)) = dg c := by
    rw [Bool.eq_iff_iff, decide_eq_true_eq, dcut0]
    unfold dg
    rw [Bool.and_eq_true, decide_eq_true_eq, decide_eq_true_eq]
    simp only [List.mem_cons, List.not_mem_nil, or_false]
    omega
  rw [e]
theorem nin1 {c : Nat} : ninV (.str (sg c)) (.str (cutS (Str.ofString "0123456789") (some 1) none)) s = .ok (.bl (!(dg c && !decide (c = 48)))) s := by
  show inT true (.str (sg c)) (.str (cutS (Str.ofString "0123456789") (some 1) none)) s = _
  rw [e_ninStr]
  have e : decide (c ∈ tl (cutS (Str.ofString "0123456789") (some 1) none)) = (dg c && !decide (c = 48)) := by
    rw [Bool.eq_iff_iff, decide_eq_true_eq, dcut1]
    unfold dg
    rw [Bool.and_eq_true, Bool.and_eq_true, decide_eq_true_eq, decide_eq_true_eq, Bool.not_eq_true', decide_eq_false_iff_not]
    simp only [List.mem_cons, List.not_mem_nil, or_false]
    omega
  rw [e]
theorem dsl {lo : Int} : slV (.str (Str.ofString "0123456789")) (some lo) none s = .ok (.str (cutS (Str.ofString "0123456789") (some lo) none)) s :=
  e_slStr (k := 10) ⟨by decide +kernel, by decide +kernel⟩ (by decide)
/-- where digits that begin at a place end -/
def de (cs : List Nat) (a lt : Nat) : Option Nat := match cs[a]? with
  | none => none
  | some c => if dg c = true ∧ ¬ (lt = 1 ∧ c = 48) then (if c = 48 then some (a + 1) else some (a + run (cs.drop a))) else none
theorem end_loop (h : OkT 600 z) {a ca : Nat} (hca : (tl z)[a]? = some ca) (h48 : ca ≠ 48) (lt : Val) : ∀ (n e : Nat), e ≤ (tl z).length → (tl z).length < n + e →
    whL (andM (asB (Mn.bin (Mn.bin (lk 0) (lk 1) ixV) (cst (.str (PySem.Str.ofString "0"))) Mn.neW)) (andM (asB (Mn.bin (lk 3) (callG (consM (lk 0) nilM) (g1 lenV)) ltV)) (asB (Mn.bin (Mn.bin (lk 0) (lk 3) ixV) (cst (.str (PySem.Str.ofString "0123456789"))) inV)))) (asgB (Mn.bin (lk 3) (cst (.int 1)) addV) (nameT 3)) n [some (.str z), some (.int (a : Nat)), some lt, some (.int (e : Nat))] s
      = .nx [some (.str z), some (.int (a : Nat)), some lt, some (.int ((e + run ((tl z).drop e) : Nat) : Int))] s
  | 0, e, h1, h2 => by omega
  | n + 1, e, h1, h2 => by
    have ix := e_ixStr (s := s) h (by decide) hca
    have sa := h.sg (List.mem_of_getElem? hca)
    have ln := e_lenStr (s := s) h (by decide)
    have n0 := ne0 (s := s) sa
    unfold whL
    walk_at "ev"
    simp only [ix]
    walk_at "ev"
    simp only [n0, decide_eq_false h48]
    walk_at "ev"
    simp only [ln]
    walk_at "ev"
    by_cases hl : e < (tl z).length
    · obtain ⟨c, hc⟩ : ∃ c, (tl z)[e]? = some c := ⟨_, List.getElem?_eq_getElem hl⟩
      have ixe := e_ixStr (s := s) h (by decide) hc
      simp only [Int.ofNat_lt, hl, decide_true]
      walk_at "ev"
      simp only [ixe]
      walk_at "ev"
      simp only [in_dig]
      walk_at "ev"
      cases hd : dg c with
      | true =>
        walk_at "ev"
        rw [show ((e : Nat) : Int) + 1 = ((e + 1 : Nat) : Int) from rfl, end_loop h hca h48 lt n (e + 1) hl (by omega), run_at hc hd, ← Nat.add_assoc]
      | false =>
        walk_at "ev"
        rw [run_at_no hc hd, Nat.add_zero]
    · simp only [Int.ofNat_lt, hl, decide_false]
      walk_at "ev"
      rw [run_end (by omega), Nat.add_zero]
end

section
variable {z w : Str} {s : Sto}
theorem whF {c : M Bool} {b : B} {l : Mn.Loc} {s : Sto} (h : l[0]? = some (some (.str z))) : whB (fuelLen 0) c b l s = whL c b ((tl z).length + 1) l s := by
  unfold whB fuelLen
  rw [h, ← len_tl]
theorem de_ev (h : OkT 600 z) (a lt : Nat) (ha : a ≤ (tl z).length) (hl : lt = 0 ∨ lt = 1) :
    m_digits_end [.str z, .int (a : Nat), .int (lt : Nat)] s = match de (tl z) a lt with | some e => .ok (.int (e : Nat)) s | none => .bad := by
  have ln := e_lenStr (s := s) h (by decide)
  unfold m_digits_end b_digits_end de
  walk_at "ev"
  simp only [ln]
  walk_at "ev"
  by_cases hx : a = (tl z).length
  · have e0 : (tl z)[a]? = none := List.getElem?_eq_none (by omega)
    have e1 : ((a : Nat) : Int) = (((tl z).length : Nat) : Int) := by rw [hx]
    simp only [e0, if_pos e1]
    walk_at "ev"
    all_goals rfl
  · have e1 : ¬ ((a : Nat) : Int) = (((tl z).length : Nat) : Int) := by omega
    obtain ⟨c, hc⟩ : ∃ c, (tl z)[a]? = some c := ⟨_, List.getElem?_eq_getElem (show a < (tl z).length by omega)⟩
    have ix := e_ixStr (s := s) h (by decide) hc
    have sa := h.sg (List.mem_of_getElem? hc)
    have n0 := ne0 (s := s) sa
    obtain ⟨q, hq⟩ : ∃ q : Bool, q = decide (dg c = true ∧ ¬ (lt = 1 ∧ c = 48)) := ⟨_, rfl⟩
    have nn : (slV (.str (Str.ofString "0123456789")) (some ((lt : Nat) : Int)) none s).bd (fun v s1 => ninV (.str (sg c)) v s1) = .ok (.bl (!q)) s := by
      rw [dsl, hq]
      rcases hl with rfl | rfl
      · exact nin0.trans (by cases dg c <;> simp)
      · exact nin1.trans (by cases dg c <;> by_cases h2 : c = 48 <;> simp [h2])
    simp only [if_neg e1, hc]
    walk_at "ev"
    simp only [ix]
    walk_at "ev"
    rw [dsl] at nn ⊢
    simp only [bd_ok] at nn ⊢
    simp only [nn]
    walk_at "ev"
    by_cases hd : dg c = true ∧ ¬ (lt = 1 ∧ c = 48)
    · rw [if_pos hd]
      rw [decide_eq_true hd] at hq
      subst hq
      walk_at "ev"
      rw [show ((a : Nat) : Int) + 1 = ((a + 1 : Nat) : Int) from rfl, whF (z := z) rfl]
      by_cases h48 : c = 48
      · rw [if_pos h48]
        unfold whL
        walk_at "ev"
        simp only [ix]
        walk_at "ev"
        simp only [n0, decide_eq_true h48]
        walk_at "ev"
      · rw [if_neg h48, end_loop h hc h48 _ _ _ (by omega) (by omega)]
        walk_at "ev"
        rw [run_at hc hd.1, ← Nat.add_assoc]
    · rw [if_neg hd]
      rw [decide_eq_false hd] at hq
      subst hq
      walk_at "ev"
      all_goals rfl
end

section
variable {z w : Str} {s : Sto}
theorem take1 {cs : List Nat} {b d : Nat} : (cs.drop b).take 1 = [d] ↔ cs[b]? = some d := by
  rw [show cs[b]? = (cs.drop b)[0]? by rw [List.getElem?_drop]; rfl]
  cases cs.drop b with
  | nil => simp
  | cons x r => simp
theorem sl1 (h : OkT 600 z) (b : Nat) : slV (.str z) (some ((b : Nat) : Int)) (some (((b : Nat) : Int) + 1)) s = .ok (.str (cutS z (some ((b : Nat) : Int)) (some (((b : Nat) : Int) + 1)))) s := e_slStr h (by decide)
theorem eq1 {d : Nat} (h : OkT 600 z) (b : Nat) (hw : tl w = [d]) (sw : PyData.strOk w = true) : eqW (.str (cutS z (some ((b : Nat) : Int)) (some (((b : Nat) : Int) + 1)))) (.str w) s = .ok (.bl (decide ((tl z)[b]? = some d))) s := by
  rw [e_eqWT2, show ((b : Nat) : Int) + 1 = ((b + 1 : Nat) : Int) from rfl, tl_cut2 b (b + 1) (Nat.le_succ b), hw, Nat.add_sub_cancel_left]
  simp only [take1]
theorem eqH {d : Nat} (h : OkT 600 z) (hw : tl w = [d]) (sw : PyData.strOk w = true) : eqW (.str (cutS z none (some 1))) (.str w) s = .ok (.bl (decide ((tl z)[0]? = some d))) s := by
  rw [e_eqWT2, show (1 : Int) = ((1 : Nat) : Int) from rfl, tl_cutL 1, hw]
  simp only [← take1, List.drop_zero]
theorem slH (h : OkT 600 z) : slV (.str z) none (some 1) s = .ok (.str (cutS z none (some 1))) s := e_slStr h (by decide)
end
theorem de_some {cs : List Nat} {a lt e : Nat} (h : de cs a lt = some e) : a < e ∧ e ≤ cs.length ∧ AllDigits ((cs.drop a).take (e - a)) ∧ (lt = 1 → 1 ≤ digitsVal ((cs.drop a).take (e - a))) := by
  unfold de at h
  cases hc : cs[a]? with
  | none => rw [hc] at h; exact nomatch h
  | some c =>
    rw [hc] at h
    obtain ⟨hl, hcc⟩ := List.getElem?_eq_some_iff.mp hc
    have hdr : cs.drop a = c :: cs.drop (a + 1) := by rw [List.drop_eq_getElem_cons hl, hcc]
    by_cases hd : dg c = true ∧ ¬ (lt = 1 ∧ c = 48)
    · simp only [if_pos hd] at h
      by_cases h48 : c = 48
      · simp only [if_pos h48] at h
        cases h
        refine ⟨by omega, by omega, ?_, fun h1 => absurd ⟨h1, h48⟩ hd.2⟩
        rw [Nat.add_sub_cancel_left, hdr, h48]
        intro x hx
        rw [List.take_succ_cons, List.take_zero, List.mem_singleton] at hx
        rw [hx]; decide
      · simp only [if_neg h48] at h
        cases h
        have hr := run_at hc hd.1
        have hle := run_le (cs.drop a)
        rw [List.length_drop] at hle
        refine ⟨by omega, by omega, ?_, fun _ => ?_⟩
        · rw [Nat.add_sub_cancel_left]; exact run_take _
        · rw [Nat.add_sub_cancel_left, hr, hdr, Nat.add_comm, List.take_succ_cons]
          have h1 := hd.1
          unfold dg at h1
          rw [Bool.and_eq_true, decide_eq_true_eq, decide_eq_true_eq] at h1
          exact val_pos (by omega)
    · simp only [if_neg hd] at h
      exact nomatch h
def bg (cs : List Nat) : Nat := if cs[0]? = some 45 then 1 else 0
/-- the number that stands between two places -/
def nm (cs : List Nat) (a e : Nat) : Nat := digitsVal ((cs.drop a).take (e - a))
def sgn (b : Nat) (n : Nat) : Int := if b = 1 then -(n : Int) else (n : Int)
/-- what a text is read as: the wrong place, or a ratio -/
def rd (cs : List Nat) : Nat ⊕ (Int × Int) := match de cs (bg cs) 0 with
  | none => .inl (bg cs)
  | some e => if cs[e]? = some 47 then (match de cs (e + 1) 1 with
      | none => .inl (e + 1)
      | some e2 => if e2 < cs.length then .inl e2 else .inr (lowP (sgn (bg cs) (nm cs (bg cs) e)) (nm cs (e + 1) e2 : Nat), lowQ (sgn (bg cs) (nm cs (bg cs) e)) (nm cs (e + 1) e2 : Nat)))
    else if e < cs.length then .inl e else .inr (sgn (bg cs) (nm cs (bg cs) e), 1)
theorem low_1 (n : Int) : lowP n 1 = n ∧ lowQ n 1 = 1 := by
  have e : Nat.gcd n.natAbs (1 : Int).natAbs = 1 := Nat.gcd_one_right _
  unfold lowP lowQ
  rw [e]
  exact ⟨by simp, by simp⟩
section
variable {z : Str} {s : Sto}
theorem bg_le {cs : List Nat} : bg cs ≤ cs.length := by
  unfold bg
  split
  · rename_i h
    exact (List.getElem?_eq_some_iff.mp h).1
  · exact Nat.zero_le _
theorem sl2 (h : OkT 600 z) (a e : Nat) : slV (.str z) (some ((a : Nat) : Int)) (some ((e : Nat) : Int)) s = .ok (.str (cutS z (some ((a : Nat) : Int)) (some ((e : Nat) : Int)))) s := e_slStr h (by decide)
theorem slR (h : OkT 600 z) (a : Nat) : slV (.str z) (some ((a : Nat) : Int)) none s = .ok (.str (cutS z (some ((a : Nat) : Int)) none)) s := e_slStr h (by decide)
theorem int2 (h : OkT 600 z) {a e : Nat} (hae : a < e) (he : e ≤ (tl z).length) (hd : AllDigits (((tl z).drop a).take (e - a))) :
    intV (.str (cutS z (some ((a : Nat) : Int)) (some ((e : Nat) : Int)))) s = .ok (.int ((nm (tl z) a e : Nat) : Int)) s := by
  have ec := tl_cut2 (z := z) a e (Nat.le_of_lt hae)
  have hl : (((tl z).drop a).take (e - a)).length = e - a := by rw [List.length_take, List.length_drop]; omega
  have hf := h.few
  have := e_intStr (z := cutS z (some ((a : Nat) : Int)) (some ((e : Nat) : Int))) (s := s) (by rw [ec]; exact hd) (by rw [ec]; intro h0; rw [h0] at hl; simp at hl; omega) (by rw [ec, hl]; omega)
  rw [this, ec]
  all_goals rfl
theorem intR (h : OkT 600 z) {a e : Nat} (hae : a < e) (he : e = (tl z).length) (hd : AllDigits (((tl z).drop a).take (e - a))) :
    intV (.str (cutS z (some ((a : Nat) : Int)) none)) s = .ok (.int ((nm (tl z) a e : Nat) : Int)) s := by
  have ec := tl_cutR (z := z) a
  have et : ((tl z).drop a).take (e - a) = (tl z).drop a := List.take_of_length_le (by rw [List.length_drop]; omega)
  unfold nm
  rw [et] at hd ⊢
  have hl : ((tl z).drop a).length = e - a := by rw [List.length_drop]; omega
  have hf := h.few
  have := e_intStr (z := cutS z (some ((a : Nat) : Int)) none) (s := s) (by rw [ec]; exact hd) (by rw [ec]; intro h0; rw [h0] at hl; simp at hl; omega) (by rw [ec, hl]; omega)
  rw [this, ec]
theorem nm_sm (h : OkT 600 z) {a e : Nat} (he : e ≤ (tl z).length) (hd : AllDigits (((tl z).drop a).take (e - a))) : Sm 4000 ((nm (tl z) a e : Nat) : Int) := by
  have hf := h.few
  exact (val_sm hd (by rw [List.length_take, List.length_drop]; omega)).up (by decide)
theorem sgn_sm {b n : Nat} (h : Sm 4000 ((n : Nat) : Int)) : Sm 4000 (sgn b n) := by
  unfold sgn
  split
  · unfold Sm at *; rw [Int.natAbs_neg]; exact h
  · exact h
theorem tlM : tl (Str.ofString "-") = [45] := by decide +kernel
theorem soM : PyData.strOk (Str.ofString "-") = true := by decide +kernel
theorem tlS : tl (Str.ofString "/") = [47] := by decide +kernel
theorem soS : PyData.strOk (Str.ofString "/") = true := by decide +kernel
theorem rr_ev (h : OkT 600 z) : m_read_ratio [.str z] s = match rd (tl z) with | .inl p => .bad | .inr (a, b) => .ok (.tup [.int a, .int b]) s := by
  have ln := e_lenStr (s := s) h (by decide)
  have hif : (if (tl z)[0]? = some 45 then (R.ok (.int 1) s : R Val) else R.ok (.int 0) s) = R.ok (.int ((bg (tl z) : Nat) : Int)) s := by
    unfold bg; split <;> rfl
  have d1 : m_digits_end [.str z, .int ((bg (tl z) : Nat) : Int), .int 0] s = _ := de_ev h (bg (tl z)) 0 bg_le (.inl rfl)
  unfold m_read_ratio b_read_ratio rd
  walk_at "ev"
  simp only [slH h]
  walk_at "ev"
  simp only [eqH h tlM soM]
  walk_at "ev"
  simp only [hif]
  walk_at "ev"
  simp only [d1]
  cases he : de (tl z) (bg (tl z)) 0 with
  | none =>
    simp only []
    walk_at "ev"
  | some e =>
    obtain ⟨g1, g2, g3, _⟩ := de_some he
    have e1 : ((e : Nat) : Int) + 1 = ((e + 1 : Nat) : Int) := rfl
    have sm := nm_sm h g2 g3
    simp only []
    walk_at "ev"
    simp only [sl2 h]
    walk_at "ev"
    simp only [int2 h g1 g2 g3]
    walk_at "ev"
    simp only [sl1 h]
    walk_at "ev"
    simp only [eq1 h e tlS soS]
    walk_at "ev"
    have hneg : (if ((bg (tl z) : Nat) : Int) = 1 then (R.ok (.int (-((nm (tl z) (bg (tl z)) e : Nat) : Int))) s : R Val) else R.ok (.int ((nm (tl z) (bg (tl z)) e : Nat) : Int)) s) = R.ok (.int (sgn (bg (tl z)) (nm (tl z) (bg (tl z)) e))) s := by
      unfold sgn
      by_cases hb : bg (tl z) = 1
      · rw [if_pos (by omega), if_pos hb]
      · rw [if_neg (by omega), if_neg hb]
    by_cases h47 : (tl z)[e]? = some 47
    · have hel : e < (tl z).length := (List.getElem?_eq_some_iff.mp h47).1
      have d2 : m_digits_end [.str z, .int (((e : Nat) : Int) + 1), .int 1] s = _ := de_ev h (e + 1) 1 hel (.inr rfl)
      simp only [if_pos h47]
      walk_at "ev"
      simp only [d2]
      cases he2 : de (tl z) (e + 1) 1 with
      | none =>
        simp only []
        walk_at "ev"
      | some e2 =>
        obtain ⟨k1, k2, k3, k4⟩ := de_some he2
        have k5 := k4 rfl
        have sm2 := nm_sm h k2 k3
        simp only []
        walk_at "ev"
        simp only [e1, sl2 h]
        walk_at "ev"
        simp only [int2 h k1 k2 k3]
        walk_at "ev"
        simp only [ln]
        walk_at "ev"
        by_cases hl : e2 < (tl z).length
        · simp only [Int.ofNat_lt, if_pos hl]
          walk_at "ev"
          all_goals rfl
        · simp only [Int.ofNat_lt, if_neg hl]
          walk_at "ev"
          simp only [hneg]
          walk_at "ev"
          rw [lowest_ev _ _ _ (by unfold nm; omega) (sgn_sm sm) sm2]
          walk_at "ev"
    · simp only [if_neg h47]
      walk_at "ev"
      simp only [ln]
      walk_at "ev"
      by_cases hl : e < (tl z).length
      · simp only [Int.ofNat_lt, if_pos hl]
        walk_at "ev"
        all_goals rfl
      · simp only [Int.ofNat_lt, if_neg hl]
        walk_at "ev"
        simp only [hneg]
        walk_at "ev"
        rw [lowest_ev _ _ _ (by decide) (sgn_sm sm) (by unfold Sm; decide +kernel), (low_1 _).1, (low_1 _).2]
        walk_at "ev"
end

section
variable {z w : Str} {s : Sto}
theorem pr_ev (h : OkT 600 z) : m_parse_ratio [.str z] s = match rd (tl z) with | .inl p => .bad | .inr (a, b) => .ok (.tup [.int a, .int b]) s := by
  have hw : m_want_text [.str z] s = .ok (.str z) s := by
    unfold m_want_text b_want_text
    walk_at "ev"
  unfold m_parse_ratio b_parse_ratio
  walk_at "ev"
  simp only [hw]
  walk_at "ev"
  rw [rr_ev h]
  cases rd (tl z) with
  | inl p => rfl
  | inr q => rfl
end

end Law
set_option maxHeartbeats 4000000
namespace Law
open PySem PySem.Spec PyProof.Rows L2 Mn Rt TL PySem.NumText
local macro_rules | `(tactic| walk_at "ev") => `(tactic| try simp only [bd_ok, bd_ex, bd_bad, rb_ok, rb_ex, rb_bad, noex_ok, getO_some, tn_nx, tn_rt, tn_ex, tn_bk, tn_ct, tn_bad, fn_nx, fn_rt, fn_ex, fn_bad, toB_bl, notK_bl, andK_b, orK_b, parK_2, lk_0, lk_s, atI_0, atI_1, atI_2, atI_3, e_bin, e_una, e_cst, e_sq, e_asg, e_ret, e_drop, e_ifB, e_pass, e_retN, e_bad, e_name, e_consM, e_nilM, e_callU, e_callG, e_g1, e_g2, e_asB, e_tru, e_ifV, e_andM, e_orM, e_notM, e_add, e_sub, e_mul, e_fdiv, e_mod, e_pow, e_neg, e_cmp, e_eqI, e_neI, e_eqT2, e_neT2, e_ixT, e_ixL, e_ixS, e_abs, e_max, e_intI, e_intB, e_gcd, e_dm, e_lenT, e_lenL, e_lenS, e_tup, e_lst, e_loc, e_truB, e_isi, e_tupT, e_consT, e_nilT, e_sub_, e_run, e_par, e_chn, e_callK, e_andV, e_orV, e_notV, e_isB, e_notB, e_lcM, lcL_nil, lcL_cons, wipeL_nil, wipeL_cons, e_yes, e_finL, e_walk, walkK_t, walkK_l, walkK_s, e_allL, e_anyL, e_sumL, boolsOf, intsOf, e_tupleT, e_tupleL, e_listT, e_listL, List.map_cons, List.map_nil, List.replicate, List.length_cons, List.length_nil, List.cons_append, List.nil_append, List.append_nil, List.getElem?_cons_zero, List.getElem?_cons_succ, List.getElem?_nil, List.set_cons_zero, List.set_cons_succ, Nat.reduceAdd, Nat.reduceSub, Nat.reduceLeDiff, Nat.reduceEqDiff, nc_0, nc_1, nc_2, nc_3, nc_4, nc_5, nc_6, nc_7, nc_8, nc_9, Int.reduceEq, Int.reduceBEq, Int.reduceNeg, if_true, if_false, Bool.false_eq_true, reduceIte, isa, Bool.not_true, Bool.not_false, pick, List.filterMap_cons, List.filterMap_nil, decide_eq_true_eq, Bool.and_true, Bool.true_and, Bool.not_eq_true', beq_iff_eq, and_self, Nat.zero_add, List.all_cons, List.all_nil, id_eq, Bool.and_self, Bool.true_eq_false, beq_self_eq_true, lv_non, lv_bl, lv_int, lv_str, lv_tup, lv_lst, lv_scr, e_isi2, e_addT, e_par3, e_revT, e_revL, e_frzT, e_frzL, e_for, e_zip, zipK_t, zipK_l, Bool.or_true, Bool.true_or, Bool.or_false, Bool.false_or, decide_true, e_finC, e_try, ty_nx, ty_rt, ty_bk, ty_ct, wr_nx, wr_rt, e_rai, raiK_1, e_exf, e_strI, e_strS, e_slM, e_noP, e_someP, e_toP, pk_2, e_eqWI, e_neWI, e_eqWB, e_neWB, e_eqWT, e_neWT, e_eqWL, e_neWL, e_eqWN, e_neWN, e_eqWC, e_neWC])
abbrev nl (n : Nat) : List Nat := TL.numL n
theorem tl_negS (m : Nat) : tl (Str.ofString (toString (Int.negSucc m))) = 45 :: nl (m + 1) := by
  have e : toString (Int.negSucc m) = "-" ++ toString (((m + 1 : Nat) : Nat) : Int) := rfl
  have h : ∀ t : String, tl (Str.ofString ("-" ++ t)) = 45 :: tl (Str.ofString t) := fun t => by
    show (Str.ofString ("-" ++ t)).cps.toList = 45 :: (Str.ofString t).cps.toList
    rw [signs_ofString, signs_ofString, String.toList_append, List.map_append]
    rfl
  rw [e, h, tl_num]
/-- the signs of an integer -/
def intL (i : Int) : List Nat := (if i < 0 then [45] else []) ++ nl i.natAbs
theorem tl_int (i : Int) : tl (Str.ofString (toString i)) = intL i := by
  cases i with
  | ofNat n => exact (tl_num n).trans (by unfold intL; rw [if_neg (show ¬ Int.ofNat n < 0 from Int.not_lt.mpr (Int.natCast_nonneg n))]; rfl)
  | negSucc m => exact (tl_negS m).trans (by unfold intL; rw [if_pos (Int.negSucc_lt_zero m)]; rfl)
theorem nl_lead : ∀ n : Nat, 1 ≤ n → ∃ c ds, nl n = c :: ds ∧ c ≠ 48 := fun n => by
  induction n using Nat.strongRecOn with
  | _ n ih =>
    intro h1
    by_cases h : n < 10
    · exact ⟨48 + n, [], numL_lt h, by omega⟩
    · obtain ⟨c, ds, e, hc⟩ := ih (n / 10) (by omega) (by omega)
      exact ⟨c, ds ++ [48 + n % 10], by show TL.numL n = _; rw [numL_step (by omega), show TL.numL (n / 10) = c :: ds from e]; rfl, hc⟩
theorem de_num {cs p r : List Nat} {n lt a : Nat} (hcs : cs = p ++ (nl n ++ r)) (ha : a = p.length) (hr : ∀ c ∈ r.head?, dg c = false) (hn : lt = 1 → 1 ≤ n) : de cs a lt = some (a + (nl n).length) := by
  have hd := numL_digits n
  have hdr : cs.drop a = nl n ++ r := by rw [hcs, ha, List.drop_left]
  have h0 : cs[a]? = (nl n ++ r)[0]? := by rw [← hdr, List.getElem?_drop]; rfl
  unfold de
  rw [h0]
  by_cases hz : n = 0
  · have e0 : nl n = [48] := by rw [hz]; exact numL_lt (by decide)
    rw [e0]
    show (if dg 48 = true ∧ ¬ (lt = 1 ∧ 48 = 48) then _ else _) = _
    rw [if_pos ⟨rfl, fun x => by have := hn x.1; omega⟩]
    rfl
  · obtain ⟨c, ds, e, hc⟩ := nl_lead n (by omega)
    have hdc : dg c = true := by
      have := hd c (by rw [show TL.numL n = c :: ds from e]; exact List.mem_cons_self)
      unfold dg
      rw [decide_eq_true this.1, decide_eq_true this.2]; rfl
    have hr2 : run (cs.drop a) = (nl n).length := by rw [hdr]; exact run_all hd hr
    rw [hr2]
    have h1 : (nl n ++ r)[0]? = some c := by rw [e]; rfl
    rw [h1]
    show (if dg c = true ∧ ¬ (lt = 1 ∧ c = 48) then _ else _) = _
    rw [if_pos ⟨hdc, fun x => hc x.2⟩, if_neg hc]
theorem nm_num {cs p r : List Nat} {n a e : Nat} (hcs : cs = p ++ (nl n ++ r)) (ha : a = p.length) (he : e = a + (nl n).length) : nm cs a e = n := by
  unfold nm
  rw [hcs, ha, List.drop_left, he, ha, Nat.add_sub_cancel_left, List.take_left]
  exact numL_val n
/-- the text of a ratio is read as the ratio -/
def ratL (a b : Int) : List Nat := intL a ++ if b = 1 then [] else 47 :: nl b.natAbs
theorem rd_rat {k : Nat} {a b : Int} (r : Ra k a b) : rd (ratL a b) = .inr (a, b) := by
  have hb := r.pos
  obtain ⟨p, hp, hbg, hs⟩ : ∃ p : List Nat, (∀ t, intL a ++ t = p ++ (nl a.natAbs ++ t)) ∧ (∀ t, bg (intL a ++ t) = p.length) ∧ sgn p.length a.natAbs = a := by
    by_cases h : a < 0
    · refine ⟨[45], fun t => by unfold intL; rw [if_pos h, List.append_assoc], fun t => by unfold intL bg; rw [if_pos h]; rfl, ?_⟩
      show -((a.natAbs : Nat) : Int) = a
      omega
    · refine ⟨[], fun t => by unfold intL; rw [if_neg h, List.append_assoc], fun t => ?_, ?_⟩
      · unfold intL bg
        rw [if_neg h, List.nil_append]
        refine if_neg fun x => ?_
        have hd := numL_digits a.natAbs
        cases hn : nl a.natAbs with
        | nil => exact absurd hn (numL_ne _)
        | cons c ds =>
          rw [hn] at x
          have hc : c = 45 := Option.some.inj x
          have := hd c (by rw [show TL.numL a.natAbs = c :: ds from hn]; exact List.mem_cons_self)
          omega
      · show ((a.natAbs : Nat) : Int) = a
        omega
  unfold rd
  have hcs := hp (if b = 1 then [] else 47 :: nl b.natAbs)
  have hbg := hbg (if b = 1 then [] else 47 :: nl b.natAbs)
  change ratL a b = _ at hcs
  change bg (ratL a b) = _ at hbg
  have hr : ∀ c ∈ (if b = 1 then [] else 47 :: nl b.natAbs : List Nat).head?, dg c = false := by
    intro c hc
    split at hc
    · exact nomatch hc
    · cases hc; rfl
  have h1 := de_num (lt := 0) hcs rfl hr (fun x => nomatch x)
  have h2 := nm_num hcs rfl rfl
  rw [hbg, h1]
  simp only []
  rw [h2, hs]
  have hlen : (ratL a b).length = p.length + (nl a.natAbs).length + (if b = 1 then [] else 47 :: nl b.natAbs : List Nat).length := by rw [hcs, List.length_append, List.length_append, Nat.add_assoc]
  have hat : (ratL a b)[p.length + (nl a.natAbs).length]? = (if b = 1 then [] else 47 :: nl b.natAbs : List Nat)[0]? := by
    rw [hcs, ← List.append_assoc, List.getElem?_append_right (by rw [List.length_append]; exact Nat.le_refl _), List.length_append, Nat.sub_self]
  by_cases h : b = 1
  · rw [if_pos h] at hlen hat
    rw [hat, if_neg (fun x => nomatch x), if_neg (by rw [hlen]; simp), h]
  · rw [if_neg h] at hlen hat hcs
    rw [hat, if_pos (show (47 :: nl b.natAbs)[0]? = some 47 from rfl)]
    have hcs2 : ratL a b = (p ++ nl a.natAbs ++ [47]) ++ (nl b.natAbs ++ []) := by rw [hcs]; simp
    have hl2 : p.length + (nl a.natAbs).length + 1 = (p ++ nl a.natAbs ++ [47]).length := by rw [List.length_append, List.length_append]; rfl
    have h3 := de_num (lt := 1) hcs2 hl2 (fun c hc => nomatch hc) (fun _ => by omega)
    have h4 := nm_num hcs2 hl2 rfl
    rw [h3]
    simp only []
    rw [h4, if_neg (by rw [hlen, List.length_cons]; omega), show ((b.natAbs : Nat) : Int) = b by omega]
    have hlow := low_is (by omega) (Low.of_self hb r.cop)
    rw [← hlow.1, ← hlow.2]

section
variable {z w x y : Str} {s : Sto}
theorem cat_ok {j k : Nat} (hx : OkT j x) (hy : OkT k y) : OkT (j + k) (x ++ y) := by
  refine ⟨by rw [tl_append, List.length_append]; exact Nat.add_le_add hx.few hy.few, fun c hc => ?_⟩
  rw [tl_append] at hc
  rcases List.mem_append.mp hc with h | h
  · exact hx.ok c h
  · exact hy.ok c h
theorem cat_ev {j k : Nat} (hx : OkT j x) (hy : OkT k y) (hjk : j + k ≤ 16777216) : addV (.str x) (.str y) s = .ok (.str (x ++ y)) s := by
  have e : addV (.str x) (.str y) s = if x.length + y.length ≤ 16777216 then .ok (.str (x ++ y)) s else .bad := rfl
  rw [e, len_tl, len_tl, if_pos (Nat.le_trans (Nat.add_le_add hx.few hy.few) hjk)]
theorem nl_few {n : Nat} (h : n < 2 ^ 200) : (nl n).length ≤ 61 := numL_len (by decide) (Nat.lt_of_lt_of_le h (by decide +kernel))
theorem int_okt {i : Int} (h : Sm 200 i) : OkT 62 (Str.ofString (toString i)) := by
  refine ⟨?_, fun c hc => ?_⟩
  · rw [tl_int]
    unfold intL
    have := nl_few h
    rw [List.length_append]
    split
    · show 1 + _ ≤ _; omega
    · show 0 + _ ≤ _; omega
  · rw [tl_int] at hc
    unfold intL at hc
    rcases List.mem_append.mp hc with h | h
    · split at h
      · rw [List.mem_singleton.mp h]; decide
      · exact nomatch h
    · have := numL_digits _ c h
      omega
theorem str_ev {i : Int} (h : Sm 200 i) : strV (.int i) s = .ok (.str (Str.ofString (toString i))) s := by
  rw [e_strI, if_pos (Nat.lt_of_le_of_lt (Sm.lg h) (by decide))]
theorem okS : OkT 1 (Str.ofString "/") := ⟨by decide +kernel, by decide +kernel⟩
def frT (a b : Int) : Str := Str.ofString (toString a) ++ Str.ofString "/" ++ Str.ofString (toString b)
theorem fr_ok {a b : Int} (ha : Sm 200 a) (hb : Sm 200 b) : OkT 125 (frT a b) := cat_ok (cat_ok (int_okt ha) okS) (int_okt hb)
def ratT (a b : Int) : Str := if b = 1 then Str.ofString (toString a) else frT a b
theorem tl_ratT {a b : Int} (hb : 0 < b) : tl (ratT a b) = ratL a b := by
  unfold ratT ratL
  by_cases h : b = 1
  · rw [if_pos h, if_pos h, tl_int, List.append_nil]
  · rw [if_neg h, if_neg h]
    unfold frT
    rw [tl_append, tl_append, tl_int, tl_int, tlS, List.append_assoc]
    congr 1
    unfold intL
    rw [if_neg (by omega)]
    rfl
theorem rat_ok {a b : Int} (ha : Sm 200 a) (hb : Sm 200 b) : OkT 125 (ratT a b) := by
  unfold ratT
  split
  · exact (int_okt ha).up (by decide)
  · exact fr_ok ha hb
theorem lt_ev {a b : Int} (r : Ra 200 a b) : m_text_of_ratio [.tup [.int a, .int b]] s = .ok (.str (ratT a b)) s := by
  unfold m_text_of_ratio b_text_of_ratio ratT
  walk_at "ev"
  by_cases h : b = 1
  · simp only [if_pos h]
    walk_at "ev"
    rw [if_pos (Nat.lt_of_le_of_lt (Sm.lg r.sa) (by decide))]
    walk_at "ev"
  · simp only [if_neg h]
    walk_at "ev"
    rw [if_pos (Nat.lt_of_le_of_lt (Sm.lg r.sa) (by decide))]
    walk_at "ev"
    rw [cat_ev (int_okt r.sa) okS (by decide)]
    walk_at "ev"
    rw [if_pos (Nat.lt_of_le_of_lt (Sm.lg r.sb) (by decide))]
    walk_at "ev"
    rw [cat_ev (cat_ok (int_okt r.sa) okS) (int_okt r.sb) (by decide)]
    rfl
theorem rt_ev {a b : Int} (r : Ra 200 a b) : m_ratio_text [.tup [.int a, .int b]] s = .ok (.str (ratT a b)) s := by
  have hw : m_want_ratio [.tup [.int a, .int b]] s = .ok (.tup [.int a, .int b]) s := by
    unfold m_want_ratio b_want_ratio
    walk_at "ev"
    simp only [isr_ev a b _ (r.up (by decide))]
    walk_at "ev"
  unfold m_ratio_text b_ratio_text
  walk_at "ev"
  simp only [hw]
  walk_at "ev"
  rw [lt_ev r]
  rfl
theorem pp_ev {a b : Int} (r : Ra 200 a b) : m_parse_ratio [.str (ratT a b)] s = .ok (.tup [.int a, .int b]) s := by
  rw [pr_ev ((rat_ok r.sa r.sb).up (by decide)), tl_ratT r.pos, rd_rat r]
end

end Law
set_option maxHeartbeats 4000000
namespace Law
open PySem PySem.Spec PyProof.Rows L2 Mn Rt TL PySem.NumText
local macro_rules | `(tactic| walk_at "ev") => `(tactic| try simp only [bd_ok, bd_ex, bd_bad, rb_ok, rb_ex, rb_bad, noex_ok, getO_some, tn_nx, tn_rt, tn_ex, tn_bk, tn_ct, tn_bad, fn_nx, fn_rt, fn_ex, fn_bad, toB_bl, notK_bl, andK_b, orK_b, parK_2, lk_0, lk_s, atI_0, atI_1, atI_2, atI_3, e_bin, e_una, e_cst, e_sq, e_asg, e_ret, e_drop, e_ifB, e_pass, e_retN, e_bad, e_name, e_consM, e_nilM, e_callU, e_callG, e_g1, e_g2, e_asB, e_tru, e_ifV, e_andM, e_orM, e_notM, e_add, e_sub, e_mul, e_fdiv, e_mod, e_pow, e_neg, e_cmp, e_eqI, e_neI, e_eqT2, e_neT2, e_ixT, e_ixL, e_ixS, e_abs, e_max, e_intI, e_intB, e_gcd, e_dm, e_lenT, e_lenL, e_lenS, e_tup, e_lst, e_loc, e_truB, e_isi, e_tupT, e_consT, e_nilT, e_sub_, e_run, e_par, e_chn, e_callK, e_andV, e_orV, e_notV, e_isB, e_notB, e_lcM, lcL_nil, lcL_cons, wipeL_nil, wipeL_cons, e_yes, e_finL, e_walk, walkK_t, walkK_l, walkK_s, e_allL, e_anyL, e_sumL, boolsOf, intsOf, e_tupleT, e_tupleL, e_listT, e_listL, List.map_cons, List.map_nil, List.replicate, List.length_cons, List.length_nil, List.cons_append, List.nil_append, List.append_nil, List.getElem?_cons_zero, List.getElem?_cons_succ, List.getElem?_nil, List.set_cons_zero, List.set_cons_succ, Nat.reduceAdd, Nat.reduceSub, Nat.reduceLeDiff, Nat.reduceEqDiff, nc_0, nc_1, nc_2, nc_3, nc_4, nc_5, nc_6, nc_7, nc_8, nc_9, Int.reduceEq, Int.reduceBEq, Int.reduceNeg, if_true, if_false, Bool.false_eq_true, reduceIte, isa, Bool.not_true, Bool.not_false, pick, List.filterMap_cons, List.filterMap_nil, decide_eq_true_eq, Bool.and_true, Bool.true_and, Bool.not_eq_true', beq_iff_eq, and_self, Nat.zero_add, List.all_cons, List.all_nil, id_eq, Bool.and_self, Bool.true_eq_false, beq_self_eq_true, lv_non, lv_bl, lv_int, lv_str, lv_tup, lv_lst, lv_scr, e_isi2, e_addT, e_par3, e_revT, e_revL, e_frzT, e_frzL, e_for, e_zip, zipK_t, zipK_l, Bool.or_true, Bool.true_or, Bool.or_false, Bool.false_or, decide_true, e_finC, e_try, ty_nx, ty_rt, ty_bk, ty_ct, wr_nx, wr_rt, e_rai, raiK_1, e_exf, e_strI, e_strS, e_slM, e_noP, e_someP, e_toP, pk_2, e_eqWI, e_neWI, e_eqWB, e_neWB, e_eqWT, e_neWT, e_eqWL, e_neWL, e_eqWN, e_neWN, e_eqWC, e_neWC])
/-- as whole numbers are seen -/
def isI : Val → Bool
  | .int _ => true
  | _ => false
/-- no place -/
def NL (v : Val) : Prop := ∀ s : Sto, live s v = true
theorem NL.of {v : Val} (h : okV v = true) : NL v := fun s => by
  cases v with
  | loc n => exact absurd h (by simp only [okV]; exact Bool.false_ne_true)
  | _ => rfl
theorem okVs_mem : ∀ {xs : List Val}, okVs xs = true → ∀ x ∈ xs, okV x = true
  | [], _, x, hx => nomatch hx
  | y :: ys, h, x, hx => by
    simp only [okVs, Bool.and_eq_true] at h
    rcases List.mem_cons.mp hx with e | e
    · rw [e]; exact h.1
    · exact okVs_mem h.2 x e
section
variable {s : Sto} {v a b : Val} {xs : List Val}
theorem isint_v (h : NL v) : m_is_integer [v] s = .ok (.bl (isI v)) s := by
  have h := h s
  cases v with
  | loc n => unfold m_is_integer b_is_integer; walk_at "ev"; simp only [h]; walk_at "ev"; all_goals rfl
  | _ => unfold m_is_integer b_is_integer; walk_at "ev"; try rfl
theorem lwhole_v (h : NL v) : m__law_is_whole [v] s = .ok (.bl (isI v)) s := by
  have h := h s
  cases v with
  | loc n => unfold m__law_is_whole b__law_is_whole; walk_at "ev"; simp only [h]; walk_at "ev"; all_goals rfl
  | _ => unfold m__law_is_whole b__law_is_whole; walk_at "ev"; try rfl
theorem all_v {f : Fn} (hf : ∀ x ∈ xs, f [x] s = .ok (.bl (isI x)) s) (w : Val) : lcL (nameT 1) yesM (callU (consM (lk 1) nilM) f) [some w, none] xs s = .ok (xs.map fun x => Val.bl (isI x)) s :=
  lcL_map (fun x => [some w, some x]) (fun x => Val.bl (isI x)) xs fun x hx => ⟨rfl, by walk_at "ev"; simp only [hf x hx]⟩
theorem bools_v : ∀ xs : List Val, boolsOf (xs.map fun x => Val.bl (isI x)) = some (xs.map isI)
  | [] => rfl
  | x :: xs => by
    have ih := bools_v xs
    simp only [List.map_cons, boolsOf, ih]
theorem gcdb {g : Nat} : (((g : Nat) : Int) == 1) = (g == 1) := by
  rw [Bool.eq_iff_iff, beq_iff_eq, beq_iff_eq]; omega
/-- as ratios, as rows are seen -/
def isR : Val → Bool
  | .tup [.int a, .int b] => decide (1 ≤ b) && (Nat.gcd a.natAbs b.natAbs == 1)
  | _ => false
def isW : Val → Bool
  | .tup xs => decide (1 ≤ xs.length ∧ xs.length ≤ 40) && xs.all isI
  | _ => false
theorem allI (xs : List Val) : ((xs.map isI).all fun x => x) = xs.all isI := by
  rw [List.all_map]; rfl
theorem isrow_v (h : okV v = true ∨ v = .emp) (hl : ∀ xs, v = .tup xs → xs.length ≤ 16777216) : m_is_row_value [v] s = .ok (.bl (isW v)) s := by
  rcases h with h | h
  · cases v with
    | tup xs =>
      have hx : ∀ x ∈ xs, NL x := fun x hx => NL.of (okVs_mem (by simpa only [okV] using h) x hx)
      have hl := hl xs rfl
      have hf := all_v (s := s) (xs := xs) (f := m_is_integer) (fun x h => isint_v (hx x h)) (.tup xs)
      unfold m_is_row_value b_is_row_value isW
      walk_at "ev"
      by_cases h1 : 1 ≤ xs.length
      · have c1 : ((1 : Int) ≤ ((xs.length : Nat) : Int)) = True := eq_true (by omega)
        by_cases h2 : xs.length ≤ 40
        · have c2 : (((xs.length : Nat) : Int) ≤ (40 : Int)) = True := eq_true (by omega)
          have c3 : (1 ≤ xs.length ∧ xs.length ≤ 40) = True := eq_true ⟨h1, h2⟩
          repeat (simp only [c1, c2, c3, hf, if_pos hl, bools_v, decide_true, Bool.true_and]; walk_at "ev")
          simp only [List.all_map, Function.comp_def, id_eq]
        · have c2 : (((xs.length : Nat) : Int) ≤ (40 : Int)) = False := eq_false (by omega)
          have c3 : (1 ≤ xs.length ∧ xs.length ≤ 40) = False := eq_false fun h => h2 h.2
          repeat (simp only [c1, c2, c3, decide_true, decide_false, if_false, Bool.false_and]; walk_at "ev")
      · have c1 : ((1 : Int) ≤ ((xs.length : Nat) : Int)) = False := eq_false (by omega)
        have c3 : (1 ≤ xs.length ∧ xs.length ≤ 40) = False := eq_false fun h => h1 h.1
        repeat (simp only [c1, c3, decide_true, decide_false, if_false, Bool.false_and]; walk_at "ev")
    | loc n => exact absurd h (by simp only [okV]; exact Bool.false_ne_true)
    | _ => unfold m_is_row_value b_is_row_value; walk_at "ev"; all_goals rfl
  · subst h
    unfold m_is_row_value b_is_row_value; walk_at "ev"; all_goals rfl
theorem lrow_v (h : okV v = true ∨ v = .emp) (hl : ∀ xs, v = .tup xs → xs.length ≤ 16777216) : m__law_is_row [v] s = .ok (.bl (isW v)) s := by
  rcases h with h | h
  · cases v with
    | tup xs =>
      have hx : ∀ x ∈ xs, NL x := fun x hx => NL.of (okVs_mem (by simpa only [okV] using h) x hx)
      have hl := hl xs rfl
      have hf := all_v (s := s) (xs := xs) (f := m__law_is_whole) (fun x h => lwhole_v (hx x h)) (.tup xs)
      unfold m__law_is_row b__law_is_row isW
      walk_at "ev"
      by_cases h1 : 1 ≤ xs.length
      · have c1 : ((1 : Int) ≤ ((xs.length : Nat) : Int)) = True := eq_true (by omega)
        by_cases h2 : xs.length ≤ 40
        · have c2 : (((xs.length : Nat) : Int) ≤ (40 : Int)) = True := eq_true (by omega)
          have c3 : (1 ≤ xs.length ∧ xs.length ≤ 40) = True := eq_true ⟨h1, h2⟩
          repeat (simp only [c1, c2, c3, hf, if_pos hl, bools_v, decide_true, Bool.true_and]; walk_at "ev")
          simp only [List.all_map, Function.comp_def, id_eq]
        · have c2 : (((xs.length : Nat) : Int) ≤ (40 : Int)) = False := eq_false (by omega)
          have c3 : (1 ≤ xs.length ∧ xs.length ≤ 40) = False := eq_false fun h => h2 h.2
          repeat (simp only [c1, c2, c3, decide_true, decide_false, if_false, Bool.false_and]; walk_at "ev")
      · have c1 : ((1 : Int) ≤ ((xs.length : Nat) : Int)) = False := eq_false (by omega)
        have c3 : (1 ≤ xs.length ∧ xs.length ≤ 40) = False := eq_false fun h => h1 h.1
        repeat (simp only [c1, c3, decide_true, decide_false, if_false, Bool.false_and]; walk_at "ev")
    | loc n => exact absurd h (by simp only [okV]; exact Bool.false_ne_true)
    | _ => unfold m__law_is_row b__law_is_row; walk_at "ev"; all_goals rfl
  · subst h
    unfold m__law_is_row b__law_is_row; walk_at "ev"; all_goals rfl
theorem isr_v (h : okV v = true ∨ v = .emp) (hs : ∀ a b, v = .tup [.int a, .int b] → Sm 4000 a ∧ Sm 4000 b) : m_is_ratio_value [v] s = .ok (.bl (isR v)) s := by
  rcases h with h | h
  · cases v with
    | tup xs =>
      have hx : ∀ x ∈ xs, NL x := fun x hx => NL.of (okVs_mem (by simpa only [okV] using h) x hx)
      match xs, hx, hs with
      | [], _, _ => unfold m_is_ratio_value b_is_ratio_value; walk_at "ev"; all_goals rfl
      | [a], hx, _ => rw [show isR (.tup [a]) = false from by cases a <;> rfl]; unfold m_is_ratio_value b_is_ratio_value; walk_at "ev"; all_goals rfl
      | a :: b :: c :: r, hx, _ =>
        have c1 : ((((r.length + 1 + 1 + 1 : Nat) : Int) == 2) = false) = True := eq_true (by rw [beq_eq_false_iff_ne]; omega)
        rw [show isR (.tup (a :: b :: c :: r)) = false from by cases a <;> cases b <;> rfl]
        unfold m_is_ratio_value b_is_ratio_value
        walk_at "ev"
        repeat (simp only [c1, decide_false, if_false]; walk_at "ev")
        all_goals rfl
      | [a, b], hx, hs =>
        have ha := isint_v (s := s) (hx a List.mem_cons_self)
        have hb := isint_v (s := s) (hx b (List.mem_cons_of_mem _ List.mem_cons_self))
        unfold m_is_ratio_value b_is_ratio_value
        walk_at "ev"
        repeat (simp only [ha, hb]; walk_at "ev")
        cases a with
        | int i =>
          cases b with
          | int j =>
            have s1 := (hs i j rfl).1
            have s2 := (hs i j rfl).2
            simp only [isI, isR]
            walk_at "ev"
            by_cases h1 : 1 ≤ j
            · repeat (simp only [h1, decide_true, Bool.true_and, bd_ok]; walk_at "ev")
              try simp only [show ((Nat.gcd i.natAbs j.natAbs : Nat) : Int) = 1 ↔ Nat.gcd i.natAbs j.natAbs = 1 by omega]
              try rw [gcdb]
            · repeat (simp only [h1, decide_false, Bool.false_and]; walk_at "ev")
          | _ => simp only [isI, isR]; walk_at "ev"; all_goals rfl
        | _ => cases b <;> (simp only [isI, isR]; walk_at "ev"; all_goals rfl)
    | loc n => exact absurd h (by simp only [okV]; exact Bool.false_ne_true)
    | _ => unfold m_is_ratio_value b_is_ratio_value; walk_at "ev"; all_goals rfl
  · subst h
    unfold m_is_ratio_value b_is_ratio_value; walk_at "ev"; all_goals rfl
theorem lrat_v (h : okV v = true ∨ v = .emp) (hs : ∀ a b, v = .tup [.int a, .int b] → Sm 4000 a ∧ Sm 4000 b) : m__law_is_ratio [v] s = .ok (.bl (isR v)) s := by
  rcases h with h | h
  · cases v with
    | tup xs =>
      have hx : ∀ x ∈ xs, NL x := fun x hx => NL.of (okVs_mem (by simpa only [okV] using h) x hx)
      match xs, hx, hs with
      | [], _, _ => unfold m__law_is_ratio b__law_is_ratio; walk_at "ev"; all_goals rfl
      | [a], hx, _ => rw [show isR (.tup [a]) = false from by cases a <;> rfl]; unfold m__law_is_ratio b__law_is_ratio; walk_at "ev"; all_goals rfl
      | a :: b :: c :: r, hx, _ =>
        have c1 : ((((r.length + 1 + 1 + 1 : Nat) : Int) == 2) = false) = True := eq_true (by rw [beq_eq_false_iff_ne]; omega)
        rw [show isR (.tup (a :: b :: c :: r)) = false from by cases a <;> cases b <;> rfl]
        unfold m__law_is_ratio b__law_is_ratio
        walk_at "ev"
        repeat (simp only [c1, decide_false, if_false]; walk_at "ev")
        all_goals rfl
      | [a, b], hx, hs =>
        have ha := lwhole_v (s := s) (hx a List.mem_cons_self)
        have hb := lwhole_v (s := s) (hx b (List.mem_cons_of_mem _ List.mem_cons_self))
        unfold m__law_is_ratio b__law_is_ratio
        walk_at "ev"
        repeat (simp only [ha, hb]; walk_at "ev")
        cases a with
        | int i =>
          cases b with
          | int j =>
            have s1 := (hs i j rfl).1
            have s2 := (hs i j rfl).2
            simp only [isI, isR]
            walk_at "ev"
            have hc := common_ev i j s s1 s2
            have h0 : (0 < j) = (1 ≤ j) := propext ⟨fun h => h, fun h => h⟩
            by_cases h1 : 1 ≤ j
            · repeat (simp only [h0, h1, hc, decide_true, Bool.true_and, bd_ok]; walk_at "ev")
              try simp only [show ((Nat.gcd i.natAbs j.natAbs : Nat) : Int) = 1 ↔ Nat.gcd i.natAbs j.natAbs = 1 by omega]
              try rw [gcdb]
            · repeat (simp only [h0, h1, hc, decide_false, Bool.false_and]; walk_at "ev")
          | _ => simp only [isI, isR]; walk_at "ev"; all_goals rfl
        | _ => cases b <;> (simp only [isI, isR]; walk_at "ev"; all_goals rfl)
    | loc n => exact absurd h (by simp only [okV]; exact Bool.false_ne_true)
    | _ => unfold m__law_is_ratio b__law_is_ratio; walk_at "ev"; all_goals rfl
  · subst h
    unfold m__law_is_ratio b__law_is_ratio; walk_at "ev"; all_goals rfl
end

end Law
set_option maxHeartbeats 4000000
namespace Law
open PySem PySem.Spec PyProof.Rows L2 Mn Rt TL PySem.NumText
local macro_rules | `(tactic| walk_at "ev") => `(tactic| try simp only [bd_ok, bd_ex, bd_bad, rb_ok, rb_ex, rb_bad, noex_ok, getO_some, tn_nx, tn_rt, tn_ex, tn_bk, tn_ct, tn_bad, fn_nx, fn_rt, fn_ex, fn_bad, toB_bl, notK_bl, andK_b, orK_b, parK_2, lk_0, lk_s, atI_0, atI_1, atI_2, atI_3, e_bin, e_una, e_cst, e_sq, e_asg, e_ret, e_drop, e_ifB, e_pass, e_retN, e_bad, e_name, e_consM, e_nilM, e_callU, e_callG, e_g1, e_g2, e_asB, e_tru, e_ifV, e_andM, e_orM, e_notM, e_add, e_sub, e_mul, e_fdiv, e_mod, e_pow, e_neg, e_cmp, e_eqI, e_neI, e_eqT2, e_neT2, e_ixT, e_ixL, e_ixS, e_abs, e_max, e_intI, e_intB, e_gcd, e_dm, e_lenT, e_lenL, e_lenS, e_tup, e_lst, e_loc, e_truB, e_isi, e_tupT, e_consT, e_nilT, e_sub_, e_run, e_par, e_chn, e_callK, e_andV, e_orV, e_notV, e_isB, e_notB, e_lcM, lcL_nil, lcL_cons, wipeL_nil, wipeL_cons, e_yes, e_finL, e_walk, walkK_t, walkK_l, walkK_s, e_allL, e_anyL, e_sumL, boolsOf, intsOf, e_tupleT, e_tupleL, e_listT, e_listL, List.map_cons, List.map_nil, List.replicate, List.length_cons, List.length_nil, List.cons_append, List.nil_append, List.append_nil, List.getElem?_cons_zero, List.getElem?_cons_succ, List.getElem?_nil, List.set_cons_zero, List.set_cons_succ, Nat.reduceAdd, Nat.reduceSub, Nat.reduceLeDiff, Nat.reduceEqDiff, nc_0, nc_1, nc_2, nc_3, nc_4, nc_5, nc_6, nc_7, nc_8, nc_9, Int.reduceEq, Int.reduceBEq, Int.reduceNeg, if_true, if_false, Bool.false_eq_true, reduceIte, isa, Bool.not_true, Bool.not_false, pick, List.filterMap_cons, List.filterMap_nil, decide_eq_true_eq, Bool.and_true, Bool.true_and, Bool.not_eq_true', beq_iff_eq, and_self, Nat.zero_add, List.all_cons, List.all_nil, id_eq, Bool.and_self, Bool.true_eq_false, beq_self_eq_true, lv_non, lv_bl, lv_int, lv_str, lv_tup, lv_lst, lv_scr, e_isi2, e_addT, e_par3, e_revT, e_revL, e_frzT, e_frzL, e_for, e_zip, zipK_t, zipK_l, Bool.or_true, Bool.true_or, Bool.or_false, Bool.false_or, decide_true, e_finC, e_try, ty_nx, ty_rt, ty_bk, ty_ct, wr_nx, wr_rt, e_rai, raiK_1, e_exf, e_strI, e_strS, e_slM, e_noP, e_someP, e_toP, pk_2, e_eqWI, e_neWI, e_eqWB, e_neWB, e_eqWT, e_neWT, e_eqWL, e_neWL, e_eqWN, e_neWN, e_eqWC, e_neWC])
structure GV (v : Val) : Prop where
  ok : okV v = true ∨ v = .emp
  len : ∀ xs, v = .tup xs → xs.length ≤ 16777216
  sm : ∀ a b, v = .tup [.int a, .int b] → Sm 200 a ∧ Sm 200 b
  rep : ∃ z, ∀ s : Sto, reprE v s = .ok (.str z) s
theorem rep_bb : ∀ a b : Bool, ∃ z, ∀ s : Sto, reprE (.lst [.bl a, .bl b]) s = .ok (.str z) s := fun a b => ⟨_, fun s => by
  have e : reprE (.lst [.bl a, .bl b]) s = getO (some (PyData.list [.bool a, .bool b])) fun d => if (d.showable && d.canLay0 && decide (d.depth ≤ 60)) = true ∧ d.shown.length ≤ 16777216 then .ok (.str d.shown) s else .bad := rfl
  rw [e, getO_some, if_pos (by cases a <;> cases b <;> decide +kernel)]⟩
theorem rep_b : ∀ a : Bool, ∃ z, ∀ s : Sto, reprE (.bl a) s = .ok (.str z) s := fun a => ⟨_, fun s => by
  have e : reprE (.bl a) s = getO (some (PyData.bool a)) fun d => if (d.showable && d.canLay0 && decide (d.depth ≤ 60)) = true ∧ d.shown.length ≤ 16777216 then .ok (.str d.shown) s else .bad := rfl
  rw [e, getO_some, if_pos (by cases a <;> decide +kernel)]⟩
theorem isR_true {v : Val} (h : isR v = true) : ∃ a b : Int, v = .tup [.int a, .int b] ∧ 0 < b ∧ Nat.gcd a.natAbs b.natAbs = 1 := by
  unfold isR at h
  split at h
  · rename_i a b
    rw [Bool.and_eq_true, decide_eq_true_eq, beq_iff_eq] at h
    exact ⟨a, b, rfl, h.1, h.2⟩
  · exact nomatch h
section
variable {s : Sto} {v : Val}
theorem right_ev (g : GV v) : m__law_right [v] s = .ok (.bl true) s := by
  obtain ⟨z, hz⟩ := g.rep
  obtain ⟨y, hy⟩ := rep_bb (isR v) (isW v)
  obtain ⟨x, hx⟩ := rep_b (isR v)
  have sm : ∀ a b, v = .tup [.int a, .int b] → Sm 4000 a ∧ Sm 4000 b := fun a b h => ⟨(g.sm a b h).1.up (by decide), (g.sm a b h).2.up (by decide)⟩
  have h1 : m_is_ratio [v] s = .ok (.bl (isR v)) s := by unfold m_is_ratio b_is_ratio; walk_at "ev"; simp only [isr_v g.ok sm]; walk_at "ev"
  have h2 : m_is_row [v] s = .ok (.bl (isW v)) s := by unfold m_is_row b_is_row; walk_at "ev"; simp only [isrow_v g.ok g.len]; walk_at "ev"
  have h3 := lrat_v (s := s) g.ok sm
  have h4 := lrow_v (s := s) g.ok g.len
  have hrt : isR v = true → ∃ t, m_ratio_text [v] s = .ok t s ∧ m_parse_ratio [t] s = .ok v s ∧ neW v v s = .ok (.bl false) s := fun h => by
    obtain ⟨a, b, rfl, hb, hg⟩ := isR_true h
    obtain ⟨sa, sb⟩ := g.sm a b rfl
    have r : Ra 200 a b := ⟨hb, hg, sa, sb⟩
    exact ⟨_, rt_ev r, pp_ev r, by rw [e_neWT, e_neT2]; simp⟩
  unfold m__law_right b__law_right
  walk_at "ev"
  repeat (simp only [hz, hy, hx, h1, h2, h3, h4, e_neWS, e_eqWS]; walk_at "ev")
  cases hr : isR v with
  | false => walk_at "ev"; repeat (simp only [hz, e_eqWS]; walk_at "ev")
  | true =>
    obtain ⟨t, k1, k2, k3⟩ := hrt hr
    walk_at "ev"
    repeat (simp only [hz, e_eqWS, k1, k2, k3]; walk_at "ev")
end
/-- short data -/
structure Gd (k w : Nat) (v : Val) : Prop where
  ok : okV v = true
  dp : (pd v).depth ≤ k
  lf : (pd v).leavesShort 400 = true
  sw : (pd v).showable = true
  wt : (pd v).weight ≤ w
theorem rep_gd {k w : Nat} {v : Val} (g : Gd k w v) (hk : k ≤ 60) (hw : w ≤ 40000) : ∃ z, ∀ s : Sto, reprE v s = .ok (.str z) s := ⟨_, fun s => by
  have hne : v ≠ .emp := fun h => by
    have := g.ok
    rw [h] at this
    simp only [okV] at this
    exact nomatch this
  have hd := data_pd (f := derefD s 4) v g.ok
  have hs := PyData.shown_le 400 (by decide) (pd v) g.lf
  have hw := g.wt
  have hdp := g.dp
  rw [e_reprE hne]
  unfold reprV data
  rw [hd.1, getO_some, g.sw, hd.2, decide_eq_true (show (pd v).depth ≤ 60 by omega), if_pos ⟨rfl, by omega⟩]⟩
theorem shown_int {i : Int} (h : Sm 200 i) : (PyData.shown (.int i)).length ≤ 62 := by
  have e : PyData.shown (.int i) = Str.ofString (toString i) := by simp only [PyData.shown]
  rw [e]
  have := (int_okt h).few
  rw [len_tl]
  exact this
theorem gd_int {k w : Nat} {i : Int} (h : Sm 200 i) (hw : 201 ≤ w) : Gd k w (.int i) := ⟨by simp only [okV], by simp only [pd, PyData.depth]; exact Nat.zero_le _, by
    simp only [pd, PyData.leavesShort]
    exact decide_eq_true (Nat.le_trans (shown_int h) (by decide)), by
    simp only [pd, PyData.showable]
    exact decide_eq_true (Nat.lt_of_le_of_lt (Sm.lg h) (by decide)), by
    have := h.lg
    simp only [pd, PyData.weight]
    split <;> omega⟩
theorem gd_all {k w : Nat} : ∀ {xs : List Val}, (∀ x ∈ xs, Gd k w x) → okVs xs = true ∧ PyData.depthAll (pds xs) ≤ k ∧ PyData.leavesShortAll 400 (pds xs) = true ∧ PyData.showableAll (pds xs) = true ∧ PyData.weightAll (pds xs) ≤ xs.length * (w + 1)
  | [], _ => ⟨by simp only [okVs], by simp only [pds, PyData.depthAll]; exact Nat.zero_le _, by simp only [pds, PyData.leavesShortAll], by simp only [pds, PyData.showableAll], by simp only [pds, PyData.weightAll]; exact Nat.zero_le _⟩
  | x :: xs, h => by
    have h1 := h x List.mem_cons_self
    obtain ⟨a, b, c, d, e⟩ := gd_all (xs := xs) fun y hy => h y (List.mem_cons_of_mem _ hy)
    have h5 := h1.wt
    refine ⟨by simp only [okVs, h1.ok, a, Bool.and_self], by simp only [pds, PyData.depthAll]; exact Nat.max_le.mpr ⟨h1.dp, b⟩, by simp only [pds, PyData.leavesShortAll, h1.lf, c, Bool.and_self], by simp only [pds, PyData.showableAll, h1.sw, d, Bool.and_self], ?_⟩
    simp only [pds, PyData.weightAll, List.length_cons]
    rw [Nat.add_mul, Nat.one_mul]
    omega
theorem gd_tup {k w n : Nat} {xs : List Val} (h : ∀ x ∈ xs, Gd k w x) (hn : xs.length ≤ n) : Gd (k + 1) (n * (w + 1)) (.tup xs) := by
  obtain ⟨a, b, c, d, e⟩ := gd_all h
  exact ⟨by simp only [okV]; exact a, by simp only [pd, PyData.depth]; omega, by simp only [pd, PyData.leavesShort]; exact c, by simp only [pd, PyData.showable]; exact d, by simp only [pd, PyData.weight]; exact Nat.le_trans e (Nat.mul_le_mul_right _ hn)⟩
theorem gd_lst {k w n : Nat} {xs : List Val} (h : ∀ x ∈ xs, Gd k w x) (hn : xs.length ≤ n) : Gd (k + 1) (n * (w + 1)) (.lst xs) := by
  obtain ⟨a, b, c, d, e⟩ := gd_all h
  exact ⟨by simp only [okV]; exact a, by simp only [pd, PyData.depth]; omega, by simp only [pd, PyData.leavesShort]; exact c, by simp only [pd, PyData.showable]; exact d, by simp only [pd, PyData.weight]; exact Nat.le_trans e (Nat.mul_le_mul_right _ hn)⟩
/-- tuples of short things -/
theorem gv_tup {xs : List Val} (h : ∀ x ∈ xs, Gd 5 900 x ∧ ∀ i, x = .int i → Sm 200 i) (hn : xs.length ≤ 41) : GV (.tup xs) := by
  have g : Gd 6 (41 * 901) (.tup xs) := gd_tup (fun x hx => (h x hx).1) hn
  refine ⟨.inl g.ok, fun ys e => ?_, fun a b e => ?_, rep_gd g (by decide) (by decide)⟩
  · cases e; omega
  · cases e
    exact ⟨(h _ List.mem_cons_self).2 a rfl, (h _ (List.mem_cons_of_mem _ List.mem_cons_self)).2 b rfl⟩
theorem gv_flat {v : Val} (h : Gd 6 1000 v) (hv : ∀ xs, v ≠ .tup xs) : GV v := ⟨.inl h.ok, fun xs e => absurd e (hv xs), fun a b e => absurd e (hv _), rep_gd h (by decide) (by decide)⟩
theorem gv_emp : GV .emp := ⟨.inr rfl, (fun _ e => nomatch e), (fun _ _ e => nomatch e), ⟨_, fun s => e_reprEE⟩⟩
theorem cut_mem {α : Type} {xs : List α} {lo hi : Option Int} : (∀ x ∈ cutL xs lo hi, x ∈ xs) ∧ (cutL xs lo hi).length ≤ xs.length := by
  unfold cutL
  refine ⟨fun x hx => List.mem_of_mem_drop (List.mem_of_mem_take hx), ?_⟩
  rw [List.length_take, List.length_drop]
  omega

end Law
set_option maxHeartbeats 4000000
namespace Law
open PySem PySem.Spec PyProof.Rows L2 Mn Rt TL PySem.NumText
local macro_rules | `(tactic| walk_at "ev") => `(tactic| try simp only [bd_ok, bd_ex, bd_bad, rb_ok, rb_ex, rb_bad, noex_ok, getO_some, tn_nx, tn_rt, tn_ex, tn_bk, tn_ct, tn_bad, fn_nx, fn_rt, fn_ex, fn_bad, toB_bl, notK_bl, andK_b, orK_b, parK_2, lk_0, lk_s, atI_0, atI_1, atI_2, atI_3, e_bin, e_una, e_cst, e_sq, e_asg, e_ret, e_drop, e_ifB, e_pass, e_retN, e_bad, e_name, e_consM, e_nilM, e_callU, e_callG, e_g1, e_g2, e_asB, e_tru, e_ifV, e_andM, e_orM, e_notM, e_add, e_sub, e_mul, e_fdiv, e_mod, e_pow, e_neg, e_cmp, e_eqI, e_neI, e_eqT2, e_neT2, e_ixT, e_ixL, e_ixS, e_abs, e_max, e_intI, e_intB, e_gcd, e_dm, e_lenT, e_lenL, e_lenS, e_tup, e_lst, e_loc, e_truB, e_isi, e_tupT, e_consT, e_nilT, e_sub_, e_run, e_par, e_chn, e_callK, e_andV, e_orV, e_notV, e_isB, e_notB, e_lcM, lcL_nil, lcL_cons, wipeL_nil, wipeL_cons, e_yes, e_finL, e_walk, walkK_t, walkK_l, walkK_s, e_allL, e_anyL, e_sumL, boolsOf, intsOf, e_tupleT, e_tupleL, e_listT, e_listL, List.map_cons, List.map_nil, List.replicate, List.length_cons, List.length_nil, List.cons_append, List.nil_append, List.append_nil, List.getElem?_cons_zero, List.getElem?_cons_succ, List.getElem?_nil, List.set_cons_zero, List.set_cons_succ, Nat.reduceAdd, Nat.reduceSub, Nat.reduceLeDiff, Nat.reduceEqDiff, nc_0, nc_1, nc_2, nc_3, nc_4, nc_5, nc_6, nc_7, nc_8, nc_9, Int.reduceEq, Int.reduceBEq, Int.reduceNeg, if_true, if_false, Bool.false_eq_true, reduceIte, isa, Bool.not_true, Bool.not_false, pick, List.filterMap_cons, List.filterMap_nil, decide_eq_true_eq, Bool.and_true, Bool.true_and, Bool.not_eq_true', beq_iff_eq, and_self, Nat.zero_add, List.all_cons, List.all_nil, id_eq, Bool.and_self, Bool.true_eq_false, beq_self_eq_true, lv_non, lv_bl, lv_int, lv_str, lv_tup, lv_lst, lv_scr, e_isi2, e_addT, e_par3, e_revT, e_revL, e_frzT, e_frzL, e_for, e_zip, zipK_t, zipK_l, Bool.or_true, Bool.true_or, Bool.or_false, Bool.false_or, decide_true, e_finC, e_try, ty_nx, ty_rt, ty_bk, ty_ct, wr_nx, wr_rt, e_rai, raiK_1, e_exf, e_strI, e_strS, e_slM, e_noP, e_someP, e_toP, pk_2, e_eqWI, e_neWI, e_eqWB, e_neWB, e_eqWT, e_neWT, e_eqWL, e_neWL, e_eqWN, e_neWN, e_eqWC, e_neWC])
def EL (x : Val) : Prop := Gd 5 900 x ∧ ∀ i, x = .int i → Sm 200 i
theorem el_int {i : Int} (h : Sm 200 i) : EL (.int i) := ⟨gd_int h (by decide), fun j e => by cases e; exact h⟩
theorem e_slT {xs : List Val} {lo hi : Option Int} {s : Sto} : slV (.tup xs) lo hi s = .ok (.tup (cutL xs lo hi)) s := rfl
theorem add_t {as bs : List Val} {s : Sto} (h : as.length + bs.length ≤ 16777216) : addV (.tup as) (.tup bs) s = .ok (.tup (as ++ bs)) s := by rw [e_addT, if_pos h]
theorem eq_niL {xs : List Val} {s : Sto} (h : Okd 5 (.lst xs)) (hn : xs ≠ []) : eqW (.lst xs) (.lst []) s = .ok (.bl false) s := by
  have h2 : Okd 2 (.lst []) := okd_lst fun v hv => nomatch hv
  rw [e_eqWL, eq_okd h h2 (by decide) (by decide)]
  cases xs with
  | nil => exact absurd rfl hn
  | cons y ys => rfl
def odds : List Val := [.bl true, .bl false, .non, .str (PySem.Str.ofString "1"), .int (-1), .int 0, .int 1, .int 2, .int 6, .tup [.int 1], .lst [.int 1], .int (10 ^ Int.toNat 39)]
theorem odds_ok : ∀ v ∈ odds, EL v := by
  intro v hv
  simp only [odds, List.mem_cons, List.not_mem_nil, or_false] at hv
  rcases hv with rfl | rfl | rfl | rfl | rfl | rfl | rfl | rfl | rfl | rfl | rfl | rfl
  all_goals first
    | exact el_int (by unfold Sm; decide +kernel)
    | exact ⟨⟨by decide +kernel, by decide +kernel, by decide +kernel, by decide +kernel, by decide +kernel⟩, fun i e => nomatch e⟩
theorem gd_c {v : Val} (h : (okV v && decide ((pd v).depth ≤ 6) && (pd v).leavesShort 400 && (pd v).showable && decide ((pd v).weight ≤ 1000)) = true) : Gd 6 1000 v := by
  simp only [Bool.and_eq_true, decide_eq_true_eq] at h
  exact ⟨h.1.1.1.1, h.1.1.1.2, h.1.1.2, h.1.2, h.2⟩
theorem bent_ok {s : Sto} {xs : List Val} (h1 : 1 ≤ xs.length) (h2 : xs.length ≤ 4) (hx : ∀ x ∈ xs, ∃ i, x = .int i ∧ Sm 200 i) (hp : PotAt s) :
    ∃ (w : Val) (t : Sto), m__law_bent [.loc 0, .tup xs] s = .ok w t ∧ GV w ∧ Keep s t := by
  have he : ∀ x ∈ xs, EL x := fun x h => by
    obtain ⟨i, rfl, hi⟩ := hx x h
    exact el_int hi
  have hok : Okd 5 (.lst xs) := okd_lst fun x h => by
    obtain ⟨i, rfl, hi⟩ := hx x h
    exact okd_int
  have hn : xs ≠ [] := fun e => by rw [e] at h1; exact nomatch h1
  have hcut : ∀ lo hi, (∀ x ∈ cutL xs lo hi, EL x) ∧ (cutL xs lo hi).length ≤ 4 := fun lo hi => ⟨fun x h => he x (cut_mem.1 x h), Nat.le_trans cut_mem.2 h2⟩
  have gcat : ∀ {as bs : List Val}, (∀ x ∈ as, EL x) → (∀ x ∈ bs, EL x) → as.length ≤ 20 → bs.length ≤ 20 → GV (.tup (as ++ bs)) := fun {as bs} ha hb la lb => gv_tup (fun x h => (List.mem_append.mp h).elim (ha x) (hb x)) (by rw [List.length_append]; omega)
  obtain ⟨d, t1, k1, d0, d1, K1⟩ := draw_ok 6 hp (by decide) (by decide)
  obtain ⟨e, t2, k2, e0, e1, K2⟩ := draw_ok 60 K1.2.2 (by decide) (by decide)
  have K12 := K1.trans K2
  have hm : ((if ((xs.length : Nat) : Int) > 1 then ((xs.length : Nat) : Int) else 1) ≠ 0) := by split <;> omega
  obtain ⟨q, hq⟩ : ∃ q : Int, q = e.fmod (if ((xs.length : Nat) : Int) > 1 then ((xs.length : Nat) : Int) else 1) := ⟨_, rfl⟩
  have m3 : (0 : Int) ≤ 39 ∧ (39 : Int).natAbs ≤ 1000000 ∧ (10 : Int).natAbs < 18446744073709551616 := by decide
  have en : ∀ u, Mn.eqV (.lst xs) (.lst []) u = .ok (.bl false) u := fun u => (e_eqWL ▸ eq_niL hok hn : Mn.eqV (.lst xs) (.lst []) u = .ok (.bl false) u)
  have a0 : (xs.length ≤ 16777215) = True := eq_true (by omega)
  have a1 : ∀ u, addV (.tup xs) (.tup [.int 1]) u = .ok (.tup (xs ++ [.int 1])) u := fun u => add_t (by show xs.length + 1 ≤ _; omega)
  unfold m__law_bent b__law_bent
  by_cases w0 : d = 0
  · subst w0
    obtain ⟨v, t3, k3, hv, K3⟩ := pick_ok [.lst xs, .non, .emp, .str (PySem.Str.ofString ""), .tup (xs ++ [.int 1]), .tup (cutL xs none (some (-1))), .tup [.tup xs], .int 7] K12.2.2 (by simp) (by simp)
    refine ⟨v, t3, ?_, ?_, K12.trans K3⟩
    · walk_at "ev"
      repeat (simp only [k1, k2, if_pos hm, ← hq, k3, a0, if_true, e_slT]; walk_at "ev")
    · have gx : Gd 2 808 (.tup xs) := gd_tup (k := 1) (w := 201) (n := 4) (fun x h => by obtain ⟨i, rfl, hi⟩ := hx x h; exact gd_int hi (by decide)) h2
      simp only [List.mem_cons, List.not_mem_nil, or_false] at hv
      rcases hv with rfl | rfl | rfl | rfl | rfl | rfl | rfl | rfl
      · exact gv_flat (by
          have g := gd_lst (k := 1) (w := 201) (n := 4) (xs := xs) (fun x h => by obtain ⟨i, rfl, hi⟩ := hx x h; exact gd_int hi (by decide)) h2
          exact ⟨g.ok, Nat.le_trans g.dp (by decide), g.lf, g.sw, Nat.le_trans g.wt (by decide)⟩) (fun ys h => nomatch h)
      · exact gv_flat (gd_c (by decide +kernel)) (fun ys h => nomatch h)
      · exact gv_emp
      · exact gv_flat (gd_c (by decide +kernel)) (fun ys h => nomatch h)
      · exact gcat he (fun x h => by rw [List.mem_singleton.mp h]; exact el_int (by unfold Sm; decide)) (by omega) (by decide)
      · have := gcat (hcut none (some (-1))).1 (bs := []) (fun x h => nomatch h) (by have := (hcut none (some (-1))).2; omega) (by decide)
        rw [List.append_nil] at this; exact this
      · exact gv_tup (fun x h => by rw [List.mem_singleton.mp h]; exact ⟨⟨gx.ok, Nat.le_trans gx.dp (by decide), gx.lf, gx.sw, Nat.le_trans gx.wt (by decide)⟩, fun i e => nomatch e⟩) (by simp)
      · exact gv_flat (gd_c (by decide +kernel)) (fun ys h => nomatch h)
  · by_cases w1 : d = 1
    · subst w1
      refine ⟨.tup (cutL xs none (some q) ++ cutL xs (some (q + 1)) none), t2, ?_, gcat (hcut _ _).1 (hcut _ _).1 (by have := (hcut none (some q)).2; omega) (by have := (hcut (some (q + 1)) none).2; omega), K12⟩
      have l1 := (hcut none (some q)).2
      have l2 := (hcut (some (q + 1)) none).2
      have c2 : ((cutL xs none (some q)).length + (cutL xs (some (q + 1)) none).length ≤ 16777216) = True := eq_true (by omega)
      walk_at "ev"
      repeat (simp only [k1, k2, if_pos hm, ← hq, en, c2, if_true, e_slT]; walk_at "ev")
    · by_cases w2 : d = 2
      · subst w2
        refine ⟨.tup xs.reverse, t2, ?_, ?_, K12⟩
        · walk_at "ev"
          repeat (simp only [k1, k2, if_pos hm, ← hq, en]; walk_at "ev")
        · have := gcat (as := xs.reverse) (bs := []) (fun x h => he x (List.mem_reverse.mp h)) (fun x h => nomatch h) (by rw [List.length_reverse]; omega) (by decide)
          rw [List.append_nil] at this; exact this
      · obtain ⟨o, t3, k3, ho, K3⟩ := pick_ok odds K12.2.2 (by decide) (by decide)
        have oe := odds_ok o ho
        have o1 : ∀ x ∈ [o], EL x := fun x h => by rw [List.mem_singleton.mp h]; exact oe
        have l1 := (hcut none (some q)).2
        have l2 := (hcut (some (q + 1)) none).2
        have c3 : ((cutL xs none (some q)).length ≤ 16777215) = True := eq_true (by omega)
        have c4 : ((cutL xs none (some q) ++ [o]).length + (cutL xs (some (q + 1)) none).length ≤ 16777216) = True := eq_true (by rw [List.length_append]; show _ + 1 + _ ≤ _; omega)
        refine ⟨_, t3, ?_, gcat (as := cutL xs none (some q) ++ [o]) (bs := cutL xs (some (q + 1)) none) (fun x h => (List.mem_append.mp h).elim ((hcut _ _).1 x) (o1 x)) (hcut _ _).1 (by rw [List.length_append]; show _ + 1 ≤ _; omega) (by omega), K12.trans K3⟩
        unfold odds at k3
        walk_at "ev"
        repeat (simp only [k1, k2, if_pos hm, ← hq, en, if_neg w0, if_neg w1, if_neg w2, if_pos m3, k3, c3, c4, if_true, e_slT]; walk_at "ev")

end Law
set_option maxHeartbeats 4000000
namespace Law
open PySem PySem.Spec PyProof.Rows L2 Mn Rt TL PySem.NumText
local macro_rules | `(tactic| walk_at "ev") => `(tactic| try simp only [bd_ok, bd_ex, bd_bad, rb_ok, rb_ex, rb_bad, noex_ok, getO_some, tn_nx, tn_rt, tn_ex, tn_bk, tn_ct, tn_bad, fn_nx, fn_rt, fn_ex, fn_bad, toB_bl, notK_bl, andK_b, orK_b, parK_2, lk_0, lk_s, atI_0, atI_1, atI_2, atI_3, e_bin, e_una, e_cst, e_sq, e_asg, e_ret, e_drop, e_ifB, e_pass, e_retN, e_bad, e_name, e_consM, e_nilM, e_callU, e_callG, e_g1, e_g2, e_asB, e_tru, e_ifV, e_andM, e_orM, e_notM, e_add, e_sub, e_mul, e_fdiv, e_mod, e_pow, e_neg, e_cmp, e_eqI, e_neI, e_eqT2, e_neT2, e_ixT, e_ixL, e_ixS, e_abs, e_max, e_intI, e_intB, e_gcd, e_dm, e_lenT, e_lenL, e_lenS, e_tup, e_lst, e_loc, e_truB, e_isi, e_tupT, e_consT, e_nilT, e_sub_, e_run, e_par, e_chn, e_callK, e_andV, e_orV, e_notV, e_isB, e_notB, e_lcM, lcL_nil, lcL_cons, wipeL_nil, wipeL_cons, e_yes, e_finL, e_walk, walkK_t, walkK_l, walkK_s, e_allL, e_anyL, e_sumL, boolsOf, intsOf, e_tupleT, e_tupleL, e_listT, e_listL, List.map_cons, List.map_nil, List.replicate, List.length_cons, List.length_nil, List.cons_append, List.nil_append, List.append_nil, List.getElem?_cons_zero, List.getElem?_cons_succ, List.getElem?_nil, List.set_cons_zero, List.set_cons_succ, Nat.reduceAdd, Nat.reduceSub, Nat.reduceLeDiff, Nat.reduceEqDiff, nc_0, nc_1, nc_2, nc_3, nc_4, nc_5, nc_6, nc_7, nc_8, nc_9, Int.reduceEq, Int.reduceBEq, Int.reduceNeg, if_true, if_false, Bool.false_eq_true, reduceIte, isa, Bool.not_true, Bool.not_false, pick, List.filterMap_cons, List.filterMap_nil, decide_eq_true_eq, Bool.and_true, Bool.true_and, Bool.not_eq_true', beq_iff_eq, and_self, Nat.zero_add, List.all_cons, List.all_nil, id_eq, Bool.and_self, Bool.true_eq_false, beq_self_eq_true, lv_non, lv_bl, lv_int, lv_str, lv_tup, lv_lst, lv_scr, e_isi2, e_addT, e_par3, e_revT, e_revL, e_frzT, e_frzL, e_for, e_zip, zipK_t, zipK_l, Bool.or_true, Bool.true_or, Bool.or_false, Bool.false_or, decide_true, e_finC, e_try, ty_nx, ty_rt, ty_bk, ty_ct, wr_nx, wr_rt, e_rai, raiK_1, e_exf, e_strI, e_strS, e_slM, e_noP, e_someP, e_toP, pk_2, e_eqWI, e_neWI, e_eqWB, e_neWB, e_eqWT, e_neWT, e_eqWL, e_neWL, e_eqWN, e_neWN, e_eqWC, e_neWC])
def lwT1 : B := (asgB (locM (consM (cst .non) (consM (cst (.int 0)) (consM (cst (.bl true)) (consM (cst (.str (PySem.Str.ofString "1/2"))) (consM (lstM nilM) (consM (tupM nilM) (consM (cst .emp) (consM (lstM (consM (cst (.int 1)) (consM (cst (.int 2)) nilM))) (consM (tupM (consM (cst (.int 0)) (consM (cst (.int 1)) nilM))) (consM (tupM (consM (cst (.int 0)) (consM (cst (.int 2)) nilM))) (consM (tupM (consM (cst (.int 1)) (consM (cst (.int 0)) nilM))) (consM (tupM (consM (cst (.int 1)) (consM (una (cst (.int 1)) negV) nilM))) (consM (tupM (consM (cst (.bl true)) (consM (cst (.int 1)) nilM))) (consM (tupM (consM (cst (.int 1)) (consM (cst (.bl true)) nilM))) (consM (Mn.bin (tupM (consM (cst (.int 0)) nilM)) (cst (.int 40)) mulV) (consM (Mn.bin (tupM (consM (cst (.int 0)) nilM)) (cst (.int 41)) mulV) nilM))))))))))))))))) (nameT 2))
def lwT2 : B := (asgB (Mn.bin (lk 2) (lstM (consM (tupM (consM (Mn.bin (cst (.int 10)) (cst (.int 39)) powV) (consM (cst (.int 1)) nilM))) (consM (tupM (consM (Mn.bin (cst (.int 10)) (cst (.int 39)) powV) (consM (Mn.bin (cst (.int 10)) (cst (.int 38)) powV) nilM))) (consM (tupM (consM (una (Mn.bin (cst (.int 10)) (cst (.int 39)) powV) negV) (consM (cst (.int 3)) nilM))) (consM (tupM (consM (cst (.int 3)) (consM (cst (.int 3)) nilM))) (consM (tupM (consM (cst (.int 7)) (consM (cst (.int 7)) (consM (cst (.int 7)) nilM)))) nilM)))))) addC) (nameT 2))
def lwR : B := (asgB (Mn.bin (lk 5) (tupM (consM (Mn.bin (callU (consM (lk 1) (consM (cst (.int 21)) nilM)) m__law_draw) (cst (.int 10)) subV) nilM)) addV) (nameT 5))
def lwB : B := (sq (parB 7 8 (consM (Mn.bin (callU (consM (lk 1) (consM (cst (.int 41)) nilM)) m__law_draw) (cst (.int 20)) subV) (consM (callU (consM (lk 1) (consM (cst (.int 13)) nilM)) m__law_draw) nilM)))
    (sq (asgB (tupM (consM (lk 7) (consM (lk 8) nilM))) (nameT 4))
    (sq (asgB (tupM nilM) (nameT 5))
    (sq (forB (range1M (consM (Mn.bin (cst (.int 1)) (callU (consM (lk 1) (consM (cst (.int 4)) nilM)) m__law_draw) addV) nilM)) (nameT 6) lwR)
    (dropB (methL (lk 2) (consM (lstM (consM (lk 4) (consM (callU (consM (lk 1) (consM (lk 4) nilM)) m__law_bent) (consM (lk 5) (consM (callU (consM (lk 1) (consM (lk 5) nilM)) m__law_bent) nilM))))) nilM) extV))))))
theorem law_split : b_law = sq (asgB (callU (consM (lk 0) (consM (cst (.int 0)) nilM)) m__law_pot) (nameT 1)) (sq lwT1 (sq lwT2 (sq (forB (range1M (consM (cst (.int 6)) nilM)) (nameT 3) lwB) (sq (frzB 2) (retB (Mn.bin (lcM (walkV (lk 2)) (nameT 9) (Mn.notM (tru (callU (consM (lk 9) nilM) m__law_right))) (cst (.int 1)) [9] finL) (lstM nilM) eqW)))))) := rfl
theorem e_extC {s : Sto} {k : Nat} {xs ys : List Val} (h : s[k]? = some (.lst xs)) (hl : xs.length + ys.length ≤ 16777216) : extV (.loc k) [.lst ys] s = .ok .non (s.set k (.lst (xs ++ ys))) := by
  unfold extV
  simp only [h]
  show (if xs.length + ys.length ≤ 16777216 then _ else _) = _
  rw [if_pos hl]
theorem methK_loc {n : M (List Val)} {l : Mn.Loc} {f : Val → List Val → Sto → R Val} {k : Nat} {u : Sto} {xs : List Val} (h : u[k]? = some (.lst xs)) : methK n l f (.loc k) u = (n l u).bd fun vs s2 => f (.loc k) vs s2 := by
  unfold methK
  rw [deref_loc h]
def toldV : List Val := [.non, .int 0, .bl true, .str (PySem.Str.ofString "1/2"), .lst [], .tup [], .emp, .lst [.int 1, .int 2], .tup [.int 0, .int 1], .tup [.int 0, .int 2], .tup [.int 1, .int 0], .tup [.int 1, .int (-1)], .tup [.bl true, .int 1], .tup [.int 1, .bl true], .tup (List.replicate 40 [Val.int 0]).flatten, .tup (List.replicate 41 [Val.int 0]).flatten]
def toldW : List Val := [.tup [.int (10 ^ 39), .int 1], .tup [.int (10 ^ 39), .int (10 ^ 38)], .tup [.int (-(10 ^ 39)), .int 3], .tup [.int 3, .int 3], .tup [.int 7, .int 7, .int 7]]
theorem gv_c {xs : List Val} (h : xs.all (fun x => (okV x && decide ((pd x).depth ≤ 5) && (pd x).leavesShort 400 && (pd x).showable && decide ((pd x).weight ≤ 900)) && (match x with | .int i => decide (i.natAbs < 2 ^ 200) | _ => true)) = true) (hn : xs.length ≤ 41) : GV (.tup xs) := gv_tup (fun x hx => by
  have h1 := List.all_eq_true.mp h x hx
  simp only [Bool.and_eq_true, decide_eq_true_eq] at h1
  refine ⟨⟨h1.1.1.1.1.1, h1.1.1.1.1.2, h1.1.1.1.2, h1.1.1.2, h1.1.2⟩, fun i e => ?_⟩
  subst e
  exact of_decide_eq_true h1.2) hn
theorem told_gv : ∀ v ∈ toldV ++ toldW, GV v := by
  intro v hv
  simp only [toldV, toldW, List.mem_cons, List.cons_append, List.nil_append, List.not_mem_nil, or_false] at hv
  rcases hv with rfl | rfl | rfl | rfl | rfl | rfl | rfl | rfl | rfl | rfl | rfl | rfl | rfl | rfl | rfl | rfl | rfl | rfl | rfl | rfl | rfl
  all_goals first
    | exact gv_emp
    | exact gv_c (by decide +kernel) (by decide +kernel)
    | exact gv_flat (gd_c (by decide +kernel)) (fun ys h => nomatch h)
theorem row_ok {s : Sto} {q0 q2 q3 q4 q7 q8 q9 w6 : Option Val} (n : Nat) (hn : n ≤ 4) (hp : PotAt s) : ∃ (ns : List Val) (w : Option Val) (t : Sto), forL (nameT 6) lwR (rngL 0 n) [q0, some (.loc 0), q2, q3, q4, some (.tup []), w6, q7, q8, q9] s = .nx [q0, some (.loc 0), q2, q3, q4, some (.tup ns), w, q7, q8, q9] t ∧ ns.length = n ∧ (∀ x ∈ ns, ∃ i, x = .int i ∧ Sm 200 i) ∧ Keep s t := by
  obtain ⟨l2, t, e, ns, w, rfl, h1, h2, h3⟩ := forL_all (t := nameT 6) (b := lwR) (fun i : Nat => Val.int (0 + (i : Nat))) (fun ys l u => ∃ (ns : List Val) (w : Option Val), l = [q0, some (.loc 0), q2, q3, q4, some (.tup ns), w, q7, q8, q9] ∧ ns.length = ys.length ∧ (∀ x ∈ ns, ∃ i, x = .int i ∧ Sm 200 i) ∧ Keep s u) (List.range n)
    (fun ys x zs l u hall ⟨ns, w, hl, h1, h2, h3⟩ => by
      subst hl
      have hyl : ys.length < 4 := by
        have := congrArg List.length hall
        rw [List.length_range, List.length_append, List.length_cons] at this
        omega
      obtain ⟨d, u2, hd, d0, d1, k2⟩ := draw_ok 21 h3.2.2 (by decide) (by decide)
      have c1 : (ns.length ≤ 16777215) = True := eq_true (by omega)
      refine ⟨_, _, [q0, some (.loc 0), q2, q3, q4, some (.tup (ns ++ [.int (d - 10)])), some (.int (0 + (x : Nat))), q7, q8, q9], u2, rfl, ?_, ns ++ [.int (d - 10)], _, rfl, by rw [List.length_append, List.length_append, h1]; rfl, ?_, h3.trans k2⟩
      · unfold lwR
        walk_at "ev"
        repeat (simp only [hd, c1, if_true]; walk_at "ev")
      · intro y hy
        rcases List.mem_append.mp hy with hy | hy
        · exact h2 y hy
        · exact ⟨_, List.mem_singleton.mp hy, by
            have : (2 : Nat) ^ 200 > 100 := by decide +kernel
            unfold Sm
            omega⟩) (List.range n) [] _ s rfl ⟨[], w6, rfl, rfl, fun x hx => (nomatch hx), Keep.refl hp⟩
  rw [List.length_range] at h1
  exact ⟨ns, w, t, by rw [rngL_map]; exact e, h1, h2, h3⟩
theorem turn_ok {s : Sto} {q0 q3 q4 q5 q6 q7 q8 q9 : Option Val} {k : Nat} {vs : List Val} (hk : 0 < k) (hv : s[k]? = some (.lst vs)) (hl : vs.length ≤ 1000) (hp : PotAt s) :
    ∃ (w3 w4 w5 w6 w7 w8 : Option Val) (t : Sto) (ws : List Val), lwB [q0, some (.loc 0), some (.loc k), q3, q4, q5, q6, q7, q8, q9] s = .nx [q0, some (.loc 0), some (.loc k), w3, w4, w5, w6, w7, w8, q9] t ∧ t[k]? = some (.lst (vs ++ ws)) ∧ ws.length = 4 ∧ (∀ v ∈ ws, GV v) ∧ PotAt t := by
  obtain ⟨d, t1, h1, d0, d1, k1⟩ := draw_ok 41 hp (by decide) (by decide)
  obtain ⟨e, t2, h2, e0, e1, k2⟩ := draw_ok 13 k1.2.2 (by decide) (by decide)
  obtain ⟨f, t3, h3, f0, f1, k3⟩ := draw_ok 4 k2.2.2 (by decide) (by decide)
  have h200 : (2 : Nat) ^ 200 > 100 := by decide +kernel
  obtain ⟨ns, w, t4, h4, l4, n4, k4⟩ := row_ok (q0 := q0) (q2 := some (.loc k)) (q3 := q3) (q4 := some (.tup [.int (d - 20), .int e])) (q7 := some (.int (d - 20))) (q8 := some (.int e)) (q9 := q9) (w6 := q6) (1 + f).toNat (by omega) k3.2.2
  have px : ∀ x ∈ [Val.int (d - 20), Val.int e], ∃ i, x = .int i ∧ Sm 200 i := fun x hx => by
    rcases List.mem_cons.mp hx with rfl | hx
    · exact ⟨_, rfl, by unfold Sm; omega⟩
    · exact ⟨_, List.mem_singleton.mp hx, by unfold Sm; omega⟩
  obtain ⟨a, t5, h5, ga, k5⟩ := bent_ok (xs := [.int (d - 20), .int e]) (by simp) (by simp) px k4.2.2
  obtain ⟨b, t6, h6, gb, k6⟩ := bent_ok (xs := ns) (by omega) (by omega) n4 k5.2.2
  have K := ((((k1.trans k2).trans k3).trans k4).trans k5).trans k6
  have at6 : t6[k]? = some (.lst vs) := by rw [K.2.1 k hk]; exact hv
  have at5 : t4[k]? = some (.lst vs) := by rw [(((k1.trans k2).trans k3).trans k4).2.1 k hk]; exact hv
  have hx := e_extC (ys := [.tup [.int (d - 20), .int e], a, .tup ns, b]) at6 (by simp; omega)
  have hr : rng1K [.int (1 + f)] t3 = .ok (rngL 0 (1 + f).toNat) t3 := rng1K_i (by omega)
  refine ⟨q3, some (.tup [.int (d - 20), .int e]), some (.tup ns), w, some (.int (d - 20)), some (.int e), t6.set k (.lst (vs ++ [.tup [.int (d - 20), .int e], a, .tup ns, b])), [.tup [.int (d - 20), .int e], a, .tup ns, b], ?_, ?_, rfl, ?_, ?_⟩
  · unfold lwB
    walk_at "ev"
    repeat (simp only [h1, h2, h3, e_rng1, hr, h4, e_meth, methK_loc at5, h5, h6, hx]; walk_at "ev")
  · exact List.getElem?_set_self (List.getElem?_eq_some_iff.mp at6).1
  · intro v hv
    simp only [List.mem_cons, List.not_mem_nil, or_false] at hv
    rcases hv with rfl | rfl | rfl | rfl
    · exact gv_tup (fun x h => by obtain ⟨i, rfl, hi⟩ := px x h; exact el_int hi) (by simp)
    · exact ga
    · exact gv_tup (fun x h => by obtain ⟨i, rfl, hi⟩ := n4 x h; exact el_int hi) (by omega)
    · exact gb
  · obtain ⟨x, y, e, hy⟩ := K.2.2
    exact ⟨x, y, by rw [List.getElem?_set_ne (by omega)]; exact e, hy⟩

end Law
set_option maxHeartbeats 4000000
namespace Law
open PySem PySem.Spec PyProof.Rows L2 Mn Rt TL PySem.NumText
local macro_rules | `(tactic| walk_at "ev") => `(tactic| try simp only [bd_ok, bd_ex, bd_bad, rb_ok, rb_ex, rb_bad, noex_ok, getO_some, tn_nx, tn_rt, tn_ex, tn_bk, tn_ct, tn_bad, fn_nx, fn_rt, fn_ex, fn_bad, toB_bl, notK_bl, andK_b, orK_b, parK_2, lk_0, lk_s, atI_0, atI_1, atI_2, atI_3, e_bin, e_una, e_cst, e_sq, e_asg, e_ret, e_drop, e_ifB, e_pass, e_retN, e_bad, e_name, e_consM, e_nilM, e_callU, e_callG, e_g1, e_g2, e_asB, e_tru, e_ifV, e_andM, e_orM, e_notM, e_add, e_sub, e_mul, e_fdiv, e_mod, e_pow, e_neg, e_cmp, e_eqI, e_neI, e_eqT2, e_neT2, e_ixT, e_ixL, e_ixS, e_abs, e_max, e_intI, e_intB, e_gcd, e_dm, e_lenT, e_lenL, e_lenS, e_tup, e_lst, e_loc, e_truB, e_isi, e_tupT, e_consT, e_nilT, e_sub_, e_run, e_par, e_chn, e_callK, e_andV, e_orV, e_notV, e_isB, e_notB, e_lcM, lcL_nil, lcL_cons, wipeL_nil, wipeL_cons, e_yes, e_finL, e_walk, walkK_t, walkK_l, walkK_s, e_allL, e_anyL, e_sumL, boolsOf, intsOf, e_tupleT, e_tupleL, e_listT, e_listL, List.map_cons, List.map_nil, List.replicate, List.length_cons, List.length_nil, List.cons_append, List.nil_append, List.append_nil, List.getElem?_cons_zero, List.getElem?_cons_succ, List.getElem?_nil, List.set_cons_zero, List.set_cons_succ, Nat.reduceAdd, Nat.reduceSub, Nat.reduceLeDiff, Nat.reduceEqDiff, nc_0, nc_1, nc_2, nc_3, nc_4, nc_5, nc_6, nc_7, nc_8, nc_9, Int.reduceEq, Int.reduceBEq, Int.reduceNeg, if_true, if_false, Bool.false_eq_true, reduceIte, isa, Bool.not_true, Bool.not_false, pick, List.filterMap_cons, List.filterMap_nil, decide_eq_true_eq, Bool.and_true, Bool.true_and, Bool.not_eq_true', beq_iff_eq, and_self, Nat.zero_add, List.all_cons, List.all_nil, id_eq, Bool.and_self, Bool.true_eq_false, beq_self_eq_true, lv_non, lv_bl, lv_int, lv_str, lv_tup, lv_lst, lv_scr, e_isi2, e_addT, e_par3, e_revT, e_revL, e_frzT, e_frzL, e_for, e_zip, zipK_t, zipK_l, Bool.or_true, Bool.true_or, Bool.or_false, Bool.false_or, decide_true, e_finC, e_try, ty_nx, ty_rt, ty_bk, ty_ct, wr_nx, wr_rt, e_rai, raiK_1, e_exf, e_strI, e_strS, e_slM, e_noP, e_someP, e_toP, pk_2, e_eqWI, e_neWI, e_eqWB, e_neWB, e_eqWT, e_neWT, e_eqWL, e_neWL, e_eqWN, e_neWN, e_eqWC, e_neWC])
theorem law_true (ns : List Int) : ∃ s', m_law [.scr ns] [] = .ok (.bl true) s' := by
  obtain ⟨t, ht, hp⟩ := pot_ok ns
  have hs : 0 < t.length := by
    obtain ⟨_, _, e, _⟩ := hp
    exact (List.getElem?_eq_some_iff.mp e).1
  have a1 : lwT1 [some (.scr ns), some (.loc 0), none, none, none, none, none, none, none, none] t = .nx [some (.scr ns), some (.loc 0), some (.loc t.length), none, none, none, none, none, none, none] (t ++ [.lst toldV]) := rfl
  have h0 : (t ++ [SO.lst toldV])[t.length]? = some (.lst toldV) := by rw [List.getElem?_append_right (Nat.le_refl _)]; simp
  have a2 : lwT2 [some (.scr ns), some (.loc 0), some (.loc t.length), none, none, none, none, none, none, none] (t ++ [.lst toldV]) = .nx [some (.scr ns), some (.loc 0), some (.loc (t.length + 1)), none, none, none, none, none, none, none] (t ++ [.lst toldV] ++ [.lst (toldV ++ toldW)]) := by
    have h := e_addC (ys := toldW) h0 (by decide)
    have e : lwT2 [some (.scr ns), some (.loc 0), some (.loc t.length), none, none, none, none, none, none, none] (t ++ [.lst toldV]) = (addC (.loc t.length) (.lst toldW) (t ++ [.lst toldV])).rb [some (.scr ns), some (.loc 0), some (.loc t.length), none, none, none, none, none, none, none] fun v s1 => .nx [some (.scr ns), some (.loc 0), some v, none, none, none, none, none, none, none] s1 := rfl
    rw [e, h, List.length_append]
    rfl
  have h1 : (t ++ [SO.lst toldV] ++ [SO.lst (toldV ++ toldW)])[t.length + 1]? = some (.lst (toldV ++ toldW)) := by
    rw [List.getElem?_append_right (by rw [List.length_append]; exact Nat.le_refl _), List.length_append]
    simp
  obtain ⟨l2, u, e, vs, w3, w4, w5, w6, w7, w8, rfl, g1, g2, g3, g4⟩ := forL_all (t := nameT 3) (b := lwB) (fun i : Nat => Val.int (0 + (i : Nat)))
    (fun ys l u => ∃ (vs : List Val) (w3 w4 w5 w6 w7 w8 : Option Val), l = [some (.scr ns), some (.loc 0), some (.loc (t.length + 1)), w3, w4, w5, w6, w7, w8, none] ∧ u[t.length + 1]? = some (.lst vs) ∧ vs.length ≤ 21 + 4 * ys.length ∧ (∀ v ∈ vs, GV v) ∧ PotAt u) (List.range 6)
    (fun ys x zs l u hall ⟨vs, w3, w4, w5, w6, w7, w8, hl, g1, g2, g3, g4⟩ => by
      subst hl
      have hyl : ys.length < 6 := by
        have := congrArg List.length hall
        rw [List.length_range, List.length_append, List.length_cons] at this
        omega
      obtain ⟨x3, x4, x5, x6, x7, x8, u2, ws, k1, k2, k3, k4, k5⟩ := turn_ok (q0 := some (.scr ns)) (q3 := some (.int (0 + (x : Nat)))) (q4 := w4) (q5 := w5) (q6 := w6) (q7 := w7) (q8 := w8) (q9 := none) (Nat.succ_pos _) g1 (by omega) g4
      exact ⟨_, _, _, _, rfl, k1, vs ++ ws, _, _, _, _, _, _, rfl, k2, by rw [List.length_append, List.length_append, k3]; show _ ≤ 21 + 4 * (ys.length + 1); omega, fun v hv => (List.mem_append.mp hv).elim (g3 v) (k4 v), k5⟩)
    (List.range 6) [] [some (.scr ns), some (.loc 0), some (.loc (t.length + 1)), none, none, none, none, none, none, none] (t ++ [.lst toldV] ++ [.lst (toldV ++ toldW)]) rfl ⟨toldV ++ toldW, none, none, none, none, none, none, rfl, h1, by decide, told_gv, (hp.app _).app _⟩
  rw [List.length_range] at g2
  have hf : forL (nameT 3) lwB (rngL 0 6) [some (.scr ns), some (.loc 0), some (.loc (t.length + 1)), none, none, none, none, none, none, none] (t ++ [.lst toldV] ++ [.lst (toldV ++ toldW)]) = .nx [some (.scr ns), some (.loc 0), some (.loc (t.length + 1)), w3, w4, w5, w6, w7, w8, none] u := e
  have hr : ∀ l s, range1M (consM (cst (.int 6)) nilM) l s = .ok (rngL 0 6) s := fun l s => rfl
  have hz : frzB 2 [some (.scr ns), some (.loc 0), some (.loc (t.length + 1)), w3, w4, w5, w6, w7, w8, none] u = .nx [some (.scr ns), some (.loc 0), some (.lst vs), w3, w4, w5, w6, w7, w8, none] (u.set (t.length + 1) .gone) := by
    have e0 : frzB 2 [some (.scr ns), some (.loc 0), some (.loc (t.length + 1)), w3, w4, w5, w6, w7, w8, none] u = (frzV (.loc (t.length + 1)) u).rb [some (.scr ns), some (.loc 0), some (.loc (t.length + 1)), w3, w4, w5, w6, w7, w8, none] fun v s1 => .nx [some (.scr ns), some (.loc 0), some v, w3, w4, w5, w6, w7, w8, none] s1 := rfl
    rw [e0, e_frzC g1]
    rfl
  have hc : lcL (nameT 9) (Mn.notM (tru (callU (consM (lk 9) nilM) m__law_right))) (cst (.int 1)) [some (.scr ns), some (.loc 0), some (.lst vs), w3, w4, w5, w6, w7, w8, none] vs (u.set (t.length + 1) .gone) = .ok [] (u.set (t.length + 1) .gone) := by
    have := lcL_filter (t := nameT 9) (c := Mn.notM (tru (callU (consM (lk 9) nilM) m__law_right))) (e := cst (.int 1)) (l0 := [some (.scr ns), some (.loc 0), some (.lst vs), w3, w4, w5, w6, w7, w8, none]) (s := u.set (t.length + 1) .gone) (fun x => [some (.scr ns), some (.loc 0), some (.lst vs), w3, w4, w5, w6, w7, w8, some x]) (fun _ => false) (fun _ => .int 1) vs (fun x hx => ⟨rfl, by
      walk_at "ev"
      simp only [right_ev (g3 x hx)]
      walk_at "ev", fun h => nomatch h⟩)
    rw [this]
    simp
  have c1 : (vs.length ≤ 16777216) = True := eq_true (by omega)
  refine ⟨u.set (t.length + 1) .gone, ?_⟩
  unfold m_law
  rw [law_split]
  walk_at "ev"
  repeat (simp only [ht, a1, a2, hr, hf, hz, hc, c1, if_true]; walk_at "ev")
  all_goals rfl

end Law
namespace Law
open PySem PySem.Spec PyProof.Rows L2 Mn
theorem top_mk {l : PySem.W.OpenLaw} {w : World} {K : PySem.W.Frag} {h : Heap} {mg : Str → Option Value} {fa : Addr} (X : K.In h) (G : h.Ns mainGlobals mg) (hfa : mg "law" = some (.ref fa))
    (z_abs : PySem.W.nsIn K mainGlobals "abs" = some none)
    (z_all : PySem.W.nsIn K mainGlobals "all" = some none)
    (z_bool : PySem.W.nsIn K mainGlobals "bool" = some none)
    (z_divmod : PySem.W.nsIn K mainGlobals "divmod" = some none)
    (z_int : PySem.W.nsIn K mainGlobals "int" = some none)
    (z_isinstance : PySem.W.nsIn K mainGlobals "isinstance" = some none)
    (z_len : PySem.W.nsIn K mainGlobals "len" = some none)
    (z_list : PySem.W.nsIn K mainGlobals "list" = some none)
    (z_max : PySem.W.nsIn K mainGlobals "max" = some none)
    (z_range : PySem.W.nsIn K mainGlobals "range" = some none)
    (z_repr : PySem.W.nsIn K mainGlobals "repr" = some none)
    (z_str : PySem.W.nsIn K mainGlobals "str" = some none)
    (z_tuple : PySem.W.nsIn K mainGlobals "tuple" = some none)
    (i_gcd : PySem.W.nsIn K mainGlobals "gcd" = some (some (.builtin "math.gcd")))
    {t_DIGITS : Tok} (v_DIGITS : PySem.W.nsIn K mainGlobals "DIGITS" = some (some (.str (PySem.Str.ofString "0123456789") t_DIGITS)))
    {t_MOST_IN_ROW : Tok} (v_MOST_IN_ROW : PySem.W.nsIn K mainGlobals "MOST_IN_ROW" = some (some (.int 40 t_MOST_IN_ROW)))
    {f__law_pot : Addr} {oc__law_pot kV__law_pot dc__law_pot pm__law_pot cd__law_pot ct__law_pot : Value} {od__law_pot an__law_pot : Option Addr} {sl__law_pot : Array (Option Value)}
    (a__law_pot : PySem.W.nsIn K mainGlobals "_law_pot" = some (some (.ref f__law_pot))) (l__law_pot : K.lookup f__law_pot = some ⟨oc__law_pot, od__law_pot, .func (PySem.W.fnOf "_law_pot" "_law_pot" (defArgs t__law_pot) (defBody t__law_pot) (defScope t__law_pot) .none kV__law_pot dc__law_pot pm__law_pot an__law_pot cd__law_pot ct__law_pot), sl__law_pot⟩) (c__law_pot : PySem.W.codeIn K cd__law_pot "_law_pot" = true) (k__law_pot : PySem.W.keepIn K (.ref f__law_pot) = true)
    {f__law_draw : Addr} {oc__law_draw kV__law_draw dc__law_draw pm__law_draw cd__law_draw ct__law_draw : Value} {od__law_draw an__law_draw : Option Addr} {sl__law_draw : Array (Option Value)}
    (a__law_draw : PySem.W.nsIn K mainGlobals "_law_draw" = some (some (.ref f__law_draw))) (l__law_draw : K.lookup f__law_draw = some ⟨oc__law_draw, od__law_draw, .func (PySem.W.fnOf "_law_draw" "_law_draw" (defArgs t__law_draw) (defBody t__law_draw) (defScope t__law_draw) .none kV__law_draw dc__law_draw pm__law_draw an__law_draw cd__law_draw ct__law_draw), sl__law_draw⟩) (c__law_draw : PySem.W.codeIn K cd__law_draw "_law_draw" = true) (k__law_draw : PySem.W.keepIn K (.ref f__law_draw) = true)
    {f__law_pick : Addr} {oc__law_pick kV__law_pick dc__law_pick pm__law_pick cd__law_pick ct__law_pick : Value} {od__law_pick an__law_pick : Option Addr} {sl__law_pick : Array (Option Value)}
    (a__law_pick : PySem.W.nsIn K mainGlobals "_law_pick" = some (some (.ref f__law_pick))) (l__law_pick : K.lookup f__law_pick = some ⟨oc__law_pick, od__law_pick, .func (PySem.W.fnOf "_law_pick" "_law_pick" (defArgs t__law_pick) (defBody t__law_pick) (defScope t__law_pick) .none kV__law_pick dc__law_pick pm__law_pick an__law_pick cd__law_pick ct__law_pick), sl__law_pick⟩) (c__law_pick : PySem.W.codeIn K cd__law_pick "_law_pick" = true) (k__law_pick : PySem.W.keepIn K (.ref f__law_pick) = true)
    {f__law_bent : Addr} {oc__law_bent kV__law_bent dc__law_bent pm__law_bent cd__law_bent ct__law_bent : Value} {od__law_bent an__law_bent : Option Addr} {sl__law_bent : Array (Option Value)}
    (a__law_bent : PySem.W.nsIn K mainGlobals "_law_bent" = some (some (.ref f__law_bent))) (l__law_bent : K.lookup f__law_bent = some ⟨oc__law_bent, od__law_bent, .func (PySem.W.fnOf "_law_bent" "_law_bent" (defArgs t__law_bent) (defBody t__law_bent) (defScope t__law_bent) .none kV__law_bent dc__law_bent pm__law_bent an__law_bent cd__law_bent ct__law_bent), sl__law_bent⟩) (c__law_bent : PySem.W.codeIn K cd__law_bent "_law_bent" = true) (k__law_bent : PySem.W.keepIn K (.ref f__law_bent) = true)
    {f__law_common : Addr} {oc__law_common kV__law_common dc__law_common pm__law_common cd__law_common ct__law_common : Value} {od__law_common an__law_common : Option Addr} {sl__law_common : Array (Option Value)}
    (a__law_common : PySem.W.nsIn K mainGlobals "_law_common" = some (some (.ref f__law_common))) (l__law_common : K.lookup f__law_common = some ⟨oc__law_common, od__law_common, .func (PySem.W.fnOf "_law_common" "_law_common" (defArgs t__law_common) (defBody t__law_common) (defScope t__law_common) .none kV__law_common dc__law_common pm__law_common an__law_common cd__law_common ct__law_common), sl__law_common⟩) (c__law_common : PySem.W.codeIn K cd__law_common "_law_common" = true) (k__law_common : PySem.W.keepIn K (.ref f__law_common) = true)
    {f__law_is_whole : Addr} {oc__law_is_whole kV__law_is_whole dc__law_is_whole pm__law_is_whole cd__law_is_whole ct__law_is_whole : Value} {od__law_is_whole an__law_is_whole : Option Addr} {sl__law_is_whole : Array (Option Value)}
    (a__law_is_whole : PySem.W.nsIn K mainGlobals "_law_is_whole" = some (some (.ref f__law_is_whole))) (l__law_is_whole : K.lookup f__law_is_whole = some ⟨oc__law_is_whole, od__law_is_whole, .func (PySem.W.fnOf "_law_is_whole" "_law_is_whole" (defArgs t__law_is_whole) (defBody t__law_is_whole) (defScope t__law_is_whole) .none kV__law_is_whole dc__law_is_whole pm__law_is_whole an__law_is_whole cd__law_is_whole ct__law_is_whole), sl__law_is_whole⟩) (c__law_is_whole : PySem.W.codeIn K cd__law_is_whole "_law_is_whole" = true) (k__law_is_whole : PySem.W.keepIn K (.ref f__law_is_whole) = true)
    {f__law_is_ratio : Addr} {oc__law_is_ratio kV__law_is_ratio dc__law_is_ratio pm__law_is_ratio cd__law_is_ratio ct__law_is_ratio : Value} {od__law_is_ratio an__law_is_ratio : Option Addr} {sl__law_is_ratio : Array (Option Value)}
    (a__law_is_ratio : PySem.W.nsIn K mainGlobals "_law_is_ratio" = some (some (.ref f__law_is_ratio))) (l__law_is_ratio : K.lookup f__law_is_ratio = some ⟨oc__law_is_ratio, od__law_is_ratio, .func (PySem.W.fnOf "_law_is_ratio" "_law_is_ratio" (defArgs t__law_is_ratio) (defBody t__law_is_ratio) (defScope t__law_is_ratio) .none kV__law_is_ratio dc__law_is_ratio pm__law_is_ratio an__law_is_ratio cd__law_is_ratio ct__law_is_ratio), sl__law_is_ratio⟩) (c__law_is_ratio : PySem.W.codeIn K cd__law_is_ratio "_law_is_ratio" = true) (k__law_is_ratio : PySem.W.keepIn K (.ref f__law_is_ratio) = true)
    {f__law_is_row : Addr} {oc__law_is_row kV__law_is_row dc__law_is_row pm__law_is_row cd__law_is_row ct__law_is_row : Value} {od__law_is_row an__law_is_row : Option Addr} {sl__law_is_row : Array (Option Value)}
    (a__law_is_row : PySem.W.nsIn K mainGlobals "_law_is_row" = some (some (.ref f__law_is_row))) (l__law_is_row : K.lookup f__law_is_row = some ⟨oc__law_is_row, od__law_is_row, .func (PySem.W.fnOf "_law_is_row" "_law_is_row" (defArgs t__law_is_row) (defBody t__law_is_row) (defScope t__law_is_row) .none kV__law_is_row dc__law_is_row pm__law_is_row an__law_is_row cd__law_is_row ct__law_is_row), sl__law_is_row⟩) (c__law_is_row : PySem.W.codeIn K cd__law_is_row "_law_is_row" = true) (k__law_is_row : PySem.W.keepIn K (.ref f__law_is_row) = true)
    {f_lowest : Addr} {oc_lowest kV_lowest dc_lowest pm_lowest cd_lowest ct_lowest : Value} {od_lowest an_lowest : Option Addr} {sl_lowest : Array (Option Value)}
    (a_lowest : PySem.W.nsIn K mainGlobals "lowest" = some (some (.ref f_lowest))) (l_lowest : K.lookup f_lowest = some ⟨oc_lowest, od_lowest, .func (PySem.W.fnOf "lowest" "lowest" (defArgs t_lowest) (defBody t_lowest) (defScope t_lowest) .none kV_lowest dc_lowest pm_lowest an_lowest cd_lowest ct_lowest), sl_lowest⟩) (c_lowest : PySem.W.codeIn K cd_lowest "lowest" = true) (k_lowest : PySem.W.keepIn K (.ref f_lowest) = true)
    {f_digits_end : Addr} {oc_digits_end kV_digits_end dc_digits_end pm_digits_end cd_digits_end ct_digits_end : Value} {od_digits_end an_digits_end : Option Addr} {sl_digits_end : Array (Option Value)}
    (a_digits_end : PySem.W.nsIn K mainGlobals "digits_end" = some (some (.ref f_digits_end))) (l_digits_end : K.lookup f_digits_end = some ⟨oc_digits_end, od_digits_end, .func (PySem.W.fnOf "digits_end" "digits_end" (defArgs t_digits_end) (defBody t_digits_end) (defScope t_digits_end) .none kV_digits_end dc_digits_end pm_digits_end an_digits_end cd_digits_end ct_digits_end), sl_digits_end⟩) (c_digits_end : PySem.W.codeIn K cd_digits_end "digits_end" = true) (k_digits_end : PySem.W.keepIn K (.ref f_digits_end) = true)
    {f_read_ratio : Addr} {oc_read_ratio kV_read_ratio dc_read_ratio pm_read_ratio cd_read_ratio ct_read_ratio : Value} {od_read_ratio an_read_ratio : Option Addr} {sl_read_ratio : Array (Option Value)}
    (a_read_ratio : PySem.W.nsIn K mainGlobals "read_ratio" = some (some (.ref f_read_ratio))) (l_read_ratio : K.lookup f_read_ratio = some ⟨oc_read_ratio, od_read_ratio, .func (PySem.W.fnOf "read_ratio" "read_ratio" (defArgs t_read_ratio) (defBody t_read_ratio) (defScope t_read_ratio) .none kV_read_ratio dc_read_ratio pm_read_ratio an_read_ratio cd_read_ratio ct_read_ratio), sl_read_ratio⟩) (c_read_ratio : PySem.W.codeIn K cd_read_ratio "read_ratio" = true) (k_read_ratio : PySem.W.keepIn K (.ref f_read_ratio) = true)
    {f_want_text : Addr} {oc_want_text kV_want_text dc_want_text pm_want_text cd_want_text ct_want_text : Value} {od_want_text an_want_text : Option Addr} {sl_want_text : Array (Option Value)}
    (a_want_text : PySem.W.nsIn K mainGlobals "want_text" = some (some (.ref f_want_text))) (l_want_text : K.lookup f_want_text = some ⟨oc_want_text, od_want_text, .func (PySem.W.fnOf "want_text" "want_text" (defArgs t_want_text) (defBody t_want_text) (defScope t_want_text) .none kV_want_text dc_want_text pm_want_text an_want_text cd_want_text ct_want_text), sl_want_text⟩) (c_want_text : PySem.W.codeIn K cd_want_text "want_text" = true) (k_want_text : PySem.W.keepIn K (.ref f_want_text) = true)
    {f_parse_ratio : Addr} {oc_parse_ratio kV_parse_ratio dc_parse_ratio pm_parse_ratio cd_parse_ratio ct_parse_ratio : Value} {od_parse_ratio an_parse_ratio : Option Addr} {sl_parse_ratio : Array (Option Value)}
    (a_parse_ratio : PySem.W.nsIn K mainGlobals "parse_ratio" = some (some (.ref f_parse_ratio))) (l_parse_ratio : K.lookup f_parse_ratio = some ⟨oc_parse_ratio, od_parse_ratio, .func (PySem.W.fnOf "parse_ratio" "parse_ratio" (defArgs t_parse_ratio) (defBody t_parse_ratio) (defScope t_parse_ratio) .none kV_parse_ratio dc_parse_ratio pm_parse_ratio an_parse_ratio cd_parse_ratio ct_parse_ratio), sl_parse_ratio⟩) (c_parse_ratio : PySem.W.codeIn K cd_parse_ratio "parse_ratio" = true) (k_parse_ratio : PySem.W.keepIn K (.ref f_parse_ratio) = true)
    {f_is_integer : Addr} {oc_is_integer kV_is_integer dc_is_integer pm_is_integer cd_is_integer ct_is_integer : Value} {od_is_integer an_is_integer : Option Addr} {sl_is_integer : Array (Option Value)}
    (a_is_integer : PySem.W.nsIn K mainGlobals "is_integer" = some (some (.ref f_is_integer))) (l_is_integer : K.lookup f_is_integer = some ⟨oc_is_integer, od_is_integer, .func (PySem.W.fnOf "is_integer" "is_integer" (defArgs t_is_integer) (defBody t_is_integer) (defScope t_is_integer) .none kV_is_integer dc_is_integer pm_is_integer an_is_integer cd_is_integer ct_is_integer), sl_is_integer⟩) (c_is_integer : PySem.W.codeIn K cd_is_integer "is_integer" = true) (k_is_integer : PySem.W.keepIn K (.ref f_is_integer) = true)
    {f_is_ratio_value : Addr} {oc_is_ratio_value kV_is_ratio_value dc_is_ratio_value pm_is_ratio_value cd_is_ratio_value ct_is_ratio_value : Value} {od_is_ratio_value an_is_ratio_value : Option Addr} {sl_is_ratio_value : Array (Option Value)}
    (a_is_ratio_value : PySem.W.nsIn K mainGlobals "is_ratio_value" = some (some (.ref f_is_ratio_value))) (l_is_ratio_value : K.lookup f_is_ratio_value = some ⟨oc_is_ratio_value, od_is_ratio_value, .func (PySem.W.fnOf "is_ratio_value" "is_ratio_value" (defArgs t_is_ratio_value) (defBody t_is_ratio_value) (defScope t_is_ratio_value) .none kV_is_ratio_value dc_is_ratio_value pm_is_ratio_value an_is_ratio_value cd_is_ratio_value ct_is_ratio_value), sl_is_ratio_value⟩) (c_is_ratio_value : PySem.W.codeIn K cd_is_ratio_value "is_ratio_value" = true) (k_is_ratio_value : PySem.W.keepIn K (.ref f_is_ratio_value) = true)
    {f_is_ratio : Addr} {oc_is_ratio kV_is_ratio dc_is_ratio pm_is_ratio cd_is_ratio ct_is_ratio : Value} {od_is_ratio an_is_ratio : Option Addr} {sl_is_ratio : Array (Option Value)}
    (a_is_ratio : PySem.W.nsIn K mainGlobals "is_ratio" = some (some (.ref f_is_ratio))) (l_is_ratio : K.lookup f_is_ratio = some ⟨oc_is_ratio, od_is_ratio, .func (PySem.W.fnOf "is_ratio" "is_ratio" (defArgs t_is_ratio) (defBody t_is_ratio) (defScope t_is_ratio) .none kV_is_ratio dc_is_ratio pm_is_ratio an_is_ratio cd_is_ratio ct_is_ratio), sl_is_ratio⟩) (c_is_ratio : PySem.W.codeIn K cd_is_ratio "is_ratio" = true) (k_is_ratio : PySem.W.keepIn K (.ref f_is_ratio) = true)
    {f_text_of_ratio : Addr} {oc_text_of_ratio kV_text_of_ratio dc_text_of_ratio pm_text_of_ratio cd_text_of_ratio ct_text_of_ratio : Value} {od_text_of_ratio an_text_of_ratio : Option Addr} {sl_text_of_ratio : Array (Option Value)}
    (a_text_of_ratio : PySem.W.nsIn K mainGlobals "text_of_ratio" = some (some (.ref f_text_of_ratio))) (l_text_of_ratio : K.lookup f_text_of_ratio = some ⟨oc_text_of_ratio, od_text_of_ratio, .func (PySem.W.fnOf "text_of_ratio" "text_of_ratio" (defArgs t_text_of_ratio) (defBody t_text_of_ratio) (defScope t_text_of_ratio) .none kV_text_of_ratio dc_text_of_ratio pm_text_of_ratio an_text_of_ratio cd_text_of_ratio ct_text_of_ratio), sl_text_of_ratio⟩) (c_text_of_ratio : PySem.W.codeIn K cd_text_of_ratio "text_of_ratio" = true) (k_text_of_ratio : PySem.W.keepIn K (.ref f_text_of_ratio) = true)
    {f_want_ratio : Addr} {oc_want_ratio kV_want_ratio dc_want_ratio pm_want_ratio cd_want_ratio ct_want_ratio : Value} {od_want_ratio an_want_ratio : Option Addr} {sl_want_ratio : Array (Option Value)}
    (a_want_ratio : PySem.W.nsIn K mainGlobals "want_ratio" = some (some (.ref f_want_ratio))) (l_want_ratio : K.lookup f_want_ratio = some ⟨oc_want_ratio, od_want_ratio, .func (PySem.W.fnOf "want_ratio" "want_ratio" (defArgs t_want_ratio) (defBody t_want_ratio) (defScope t_want_ratio) .none kV_want_ratio dc_want_ratio pm_want_ratio an_want_ratio cd_want_ratio ct_want_ratio), sl_want_ratio⟩) (c_want_ratio : PySem.W.codeIn K cd_want_ratio "want_ratio" = true) (k_want_ratio : PySem.W.keepIn K (.ref f_want_ratio) = true)
    {f_ratio_text : Addr} {oc_ratio_text kV_ratio_text dc_ratio_text pm_ratio_text cd_ratio_text ct_ratio_text : Value} {od_ratio_text an_ratio_text : Option Addr} {sl_ratio_text : Array (Option Value)}
    (a_ratio_text : PySem.W.nsIn K mainGlobals "ratio_text" = some (some (.ref f_ratio_text))) (l_ratio_text : K.lookup f_ratio_text = some ⟨oc_ratio_text, od_ratio_text, .func (PySem.W.fnOf "ratio_text" "ratio_text" (defArgs t_ratio_text) (defBody t_ratio_text) (defScope t_ratio_text) .none kV_ratio_text dc_ratio_text pm_ratio_text an_ratio_text cd_ratio_text ct_ratio_text), sl_ratio_text⟩) (c_ratio_text : PySem.W.codeIn K cd_ratio_text "ratio_text" = true) (k_ratio_text : PySem.W.keepIn K (.ref f_ratio_text) = true)
    {f_is_row_value : Addr} {oc_is_row_value kV_is_row_value dc_is_row_value pm_is_row_value cd_is_row_value ct_is_row_value : Value} {od_is_row_value an_is_row_value : Option Addr} {sl_is_row_value : Array (Option Value)}
    (a_is_row_value : PySem.W.nsIn K mainGlobals "is_row_value" = some (some (.ref f_is_row_value))) (l_is_row_value : K.lookup f_is_row_value = some ⟨oc_is_row_value, od_is_row_value, .func (PySem.W.fnOf "is_row_value" "is_row_value" (defArgs t_is_row_value) (defBody t_is_row_value) (defScope t_is_row_value) .none kV_is_row_value dc_is_row_value pm_is_row_value an_is_row_value cd_is_row_value ct_is_row_value), sl_is_row_value⟩) (c_is_row_value : PySem.W.codeIn K cd_is_row_value "is_row_value" = true) (k_is_row_value : PySem.W.keepIn K (.ref f_is_row_value) = true)
    {f_is_row : Addr} {oc_is_row kV_is_row dc_is_row pm_is_row cd_is_row ct_is_row : Value} {od_is_row an_is_row : Option Addr} {sl_is_row : Array (Option Value)}
    (a_is_row : PySem.W.nsIn K mainGlobals "is_row" = some (some (.ref f_is_row))) (l_is_row : K.lookup f_is_row = some ⟨oc_is_row, od_is_row, .func (PySem.W.fnOf "is_row" "is_row" (defArgs t_is_row) (defBody t_is_row) (defScope t_is_row) .none kV_is_row dc_is_row pm_is_row an_is_row cd_is_row ct_is_row), sl_is_row⟩) (c_is_row : PySem.W.codeIn K cd_is_row "is_row" = true) (k_is_row : PySem.W.keepIn K (.ref f_is_row) = true)
    {f__law_right : Addr} {oc__law_right kV__law_right dc__law_right pm__law_right cd__law_right ct__law_right : Value} {od__law_right an__law_right : Option Addr} {sl__law_right : Array (Option Value)}
    (a__law_right : PySem.W.nsIn K mainGlobals "_law_right" = some (some (.ref f__law_right))) (l__law_right : K.lookup f__law_right = some ⟨oc__law_right, od__law_right, .func (PySem.W.fnOf "_law_right" "_law_right" (defArgs t__law_right) (defBody t__law_right) (defScope t__law_right) .none kV__law_right dc__law_right pm__law_right an__law_right cd__law_right ct__law_right), sl__law_right⟩) (c__law_right : PySem.W.codeIn K cd__law_right "_law_right" = true) (k__law_right : PySem.W.keepIn K (.ref f__law_right) = true)
    {f_law : Addr} {oc_law kV_law dc_law pm_law cd_law ct_law : Value} {od_law an_law : Option Addr} {sl_law : Array (Option Value)}
    (a_law : PySem.W.nsIn K mainGlobals "law" = some (some (.ref f_law))) (l_law : K.lookup f_law = some ⟨oc_law, od_law, .func (PySem.W.fnOf "law" "law" (defArgs t_law) (defBody t_law) (defScope t_law) .none kV_law dc_law pm_law an_law cd_law ct_law), sl_law⟩) (c_law : PySem.W.codeIn K cd_law "law" = true) (k_law : PySem.W.keepIn K (.ref f_law) = true) :
    ∃ (fd : FuncData) (T : Tab), (∀ (s : Shared) (v : Value), BindsTo s fd ⟨[v], []⟩ [("_law_script", v)]) ∧ ∀ base : Heap, K.In base → base.Ns mainGlobals mg → FnG l.prog w K mg base 6 fa fd ["_law_script"] (spM T K 1 m_law) := by
  have e : f_law = fa := by
    have h := hfa.symm.trans (PySem.W.mg_of X G a_law)
    cases h
    rfl
  subst e
  let Tp : Top K mg := {
    z_abs := PySem.W.mg_none_of X G z_abs,
    z_all := PySem.W.mg_none_of X G z_all,
    z_bool := PySem.W.mg_none_of X G z_bool,
    z_divmod := PySem.W.mg_none_of X G z_divmod,
    z_int := PySem.W.mg_none_of X G z_int,
    z_isinstance := PySem.W.mg_none_of X G z_isinstance,
    z_len := PySem.W.mg_none_of X G z_len,
    z_list := PySem.W.mg_none_of X G z_list,
    z_max := PySem.W.mg_none_of X G z_max,
    z_range := PySem.W.mg_none_of X G z_range,
    z_repr := PySem.W.mg_none_of X G z_repr,
    z_str := PySem.W.mg_none_of X G z_str,
    z_tuple := PySem.W.mg_none_of X G z_tuple,
    i_gcd := PySem.W.mg_of X G i_gcd,
    v_DIGITS := ⟨_, PySem.W.mg_of X G v_DIGITS⟩,
    v_MOST_IN_ROW := ⟨_, PySem.W.mg_of X G v_MOST_IN_ROW⟩,
    a__law_pot := f__law_pot,
    d__law_pot := _,
    g__law_pot := PySem.W.mg_of X G a__law_pot,
    F__law_pot := fun_mk (st := t__law_pot) l__law_pot c__law_pot k__law_pot,
    a__law_draw := f__law_draw,
    d__law_draw := _,
    g__law_draw := PySem.W.mg_of X G a__law_draw,
    F__law_draw := fun_mk (st := t__law_draw) l__law_draw c__law_draw k__law_draw,
    a__law_pick := f__law_pick,
    d__law_pick := _,
    g__law_pick := PySem.W.mg_of X G a__law_pick,
    F__law_pick := fun_mk (st := t__law_pick) l__law_pick c__law_pick k__law_pick,
    a__law_bent := f__law_bent,
    d__law_bent := _,
    g__law_bent := PySem.W.mg_of X G a__law_bent,
    F__law_bent := fun_mk (st := t__law_bent) l__law_bent c__law_bent k__law_bent,
    a__law_common := f__law_common,
    d__law_common := _,
    g__law_common := PySem.W.mg_of X G a__law_common,
    F__law_common := fun_mk (st := t__law_common) l__law_common c__law_common k__law_common,
    a__law_is_whole := f__law_is_whole,
    d__law_is_whole := _,
    g__law_is_whole := PySem.W.mg_of X G a__law_is_whole,
    F__law_is_whole := fun_mk (st := t__law_is_whole) l__law_is_whole c__law_is_whole k__law_is_whole,
    a__law_is_ratio := f__law_is_ratio,
    d__law_is_ratio := _,
    g__law_is_ratio := PySem.W.mg_of X G a__law_is_ratio,
    F__law_is_ratio := fun_mk (st := t__law_is_ratio) l__law_is_ratio c__law_is_ratio k__law_is_ratio,
    a__law_is_row := f__law_is_row,
    d__law_is_row := _,
    g__law_is_row := PySem.W.mg_of X G a__law_is_row,
    F__law_is_row := fun_mk (st := t__law_is_row) l__law_is_row c__law_is_row k__law_is_row,
    a_lowest := f_lowest,
    d_lowest := _,
    g_lowest := PySem.W.mg_of X G a_lowest,
    F_lowest := fun_mk (st := t_lowest) l_lowest c_lowest k_lowest,
    a_digits_end := f_digits_end,
    d_digits_end := _,
    g_digits_end := PySem.W.mg_of X G a_digits_end,
    F_digits_end := fun_mk (st := t_digits_end) l_digits_end c_digits_end k_digits_end,
    a_read_ratio := f_read_ratio,
    d_read_ratio := _,
    g_read_ratio := PySem.W.mg_of X G a_read_ratio,
    F_read_ratio := fun_mk (st := t_read_ratio) l_read_ratio c_read_ratio k_read_ratio,
    a_want_text := f_want_text,
    d_want_text := _,
    g_want_text := PySem.W.mg_of X G a_want_text,
    F_want_text := fun_mk (st := t_want_text) l_want_text c_want_text k_want_text,
    a_parse_ratio := f_parse_ratio,
    d_parse_ratio := _,
    g_parse_ratio := PySem.W.mg_of X G a_parse_ratio,
    F_parse_ratio := fun_mk (st := t_parse_ratio) l_parse_ratio c_parse_ratio k_parse_ratio,
    a_is_integer := f_is_integer,
    d_is_integer := _,
    g_is_integer := PySem.W.mg_of X G a_is_integer,
    F_is_integer := fun_mk (st := t_is_integer) l_is_integer c_is_integer k_is_integer,
    a_is_ratio_value := f_is_ratio_value,
    d_is_ratio_value := _,
    g_is_ratio_value := PySem.W.mg_of X G a_is_ratio_value,
    F_is_ratio_value := fun_mk (st := t_is_ratio_value) l_is_ratio_value c_is_ratio_value k_is_ratio_value,
    a_is_ratio := f_is_ratio,
    d_is_ratio := _,
    g_is_ratio := PySem.W.mg_of X G a_is_ratio,
    F_is_ratio := fun_mk (st := t_is_ratio) l_is_ratio c_is_ratio k_is_ratio,
    a_text_of_ratio := f_text_of_ratio,
    d_text_of_ratio := _,
    g_text_of_ratio := PySem.W.mg_of X G a_text_of_ratio,
    F_text_of_ratio := fun_mk (st := t_text_of_ratio) l_text_of_ratio c_text_of_ratio k_text_of_ratio,
    a_want_ratio := f_want_ratio,
    d_want_ratio := _,
    g_want_ratio := PySem.W.mg_of X G a_want_ratio,
    F_want_ratio := fun_mk (st := t_want_ratio) l_want_ratio c_want_ratio k_want_ratio,
    a_ratio_text := f_ratio_text,
    d_ratio_text := _,
    g_ratio_text := PySem.W.mg_of X G a_ratio_text,
    F_ratio_text := fun_mk (st := t_ratio_text) l_ratio_text c_ratio_text k_ratio_text,
    a_is_row_value := f_is_row_value,
    d_is_row_value := _,
    g_is_row_value := PySem.W.mg_of X G a_is_row_value,
    F_is_row_value := fun_mk (st := t_is_row_value) l_is_row_value c_is_row_value k_is_row_value,
    a_is_row := f_is_row,
    d_is_row := _,
    g_is_row := PySem.W.mg_of X G a_is_row,
    F_is_row := fun_mk (st := t_is_row) l_is_row c_is_row k_is_row,
    a__law_right := f__law_right,
    d__law_right := _,
    g__law_right := PySem.W.mg_of X G a__law_right,
    F__law_right := fun_mk (st := t__law_right) l__law_right c__law_right k__law_right,
    a_law := f_law,
    d_law := _,
    g_law := PySem.W.mg_of X G a_law,
    F_law := fun_mk (st := t_law) l_law c_law k_law }
  exact ⟨Tp.d_law, tab0 (tabL Tp), fun s v => .of_eq rfl, fun base hin hns => ok_law l.prog w Tp hin hns⟩
end Law
open PySem PySem.W PyProof.Rows
set_option maxRecDepth 100000 in
set_option maxHeartbeats 0 in
theorem PySem.Challenge.cw_wishways_k11_any_value_as_ratio_or_row_holds : PySem.Challenge.rw_wishways_k11_any_value_as_ratio_or_row.Holds := by
  w_on; o_law; k_head; (case hw => w_witness2)
  k_fill
  refine Mn.walk_g (l := PySem.Challenge.rw_wishways_k11_any_value_as_ratio_or_row) (n := 63) (k := 6) (x := "_law_script") (f := Law.m_law) rfl (by decide) rfl ⟨rfl, by decide, by decide⟩ (fun w h Y => PySem.W.kIn_of Y) ?F (fun ns _ => Law.law_true ns)
  case F =>
    intro w mg fa h KX G hmg
    refine' Law.top_mk KX G hmg ?z_abs ?z_all ?z_bool ?z_divmod ?z_int ?z_isinstance ?z_len ?z_list ?z_max ?z_range ?z_repr ?z_str ?z_tuple ?i_gcd ?v_DIGITS ?v_MOST_IN_ROW ?a__law_pot ?l__law_pot ?c__law_pot ?k__law_pot ?a__law_draw ?l__law_draw ?c__law_draw ?k__law_draw ?a__law_pick ?l__law_pick ?c__law_pick ?k__law_pick ?a__law_bent ?l__law_bent ?c__law_bent ?k__law_bent ?a__law_common ?l__law_common ?c__law_common ?k__law_common ?a__law_is_whole ?l__law_is_whole ?c__law_is_whole ?k__law_is_whole ?a__law_is_ratio ?l__law_is_ratio ?c__law_is_ratio ?k__law_is_ratio ?a__law_is_row ?l__law_is_row ?c__law_is_row ?k__law_is_row ?a_lowest ?l_lowest ?c_lowest ?k_lowest ?a_digits_end ?l_digits_end ?c_digits_end ?k_digits_end ?a_read_ratio ?l_read_ratio ?c_read_ratio ?k_read_ratio ?a_want_text ?l_want_text ?c_want_text ?k_want_text ?a_parse_ratio ?l_parse_ratio ?c_parse_ratio ?k_parse_ratio ?a_is_integer ?l_is_integer ?c_is_integer ?k_is_integer ?a_is_ratio_value ?l_is_ratio_value ?c_is_ratio_value ?k_is_ratio_value ?a_is_ratio ?l_is_ratio ?c_is_ratio ?k_is_ratio ?a_text_of_ratio ?l_text_of_ratio ?c_text_of_ratio ?k_text_of_ratio ?a_want_ratio ?l_want_ratio ?c_want_ratio ?k_want_ratio ?a_ratio_text ?l_ratio_text ?c_ratio_text ?k_ratio_text ?a_is_row_value ?l_is_row_value ?c_is_row_value ?k_is_row_value ?a_is_row ?l_is_row ?c_is_row ?k_is_row ?a__law_right ?l__law_right ?c__law_right ?k__law_right ?a_law ?l_law ?c_law ?k_law
    (case z_abs => k_is)
    (case z_all => k_is)
    (case z_bool => k_is)
    (case z_divmod => k_is)
    (case z_int => k_is)
    (case z_isinstance => k_is)
    (case z_len => k_is)
    (case z_list => k_is)
    (case z_max => k_is)
    (case z_range => k_is)
    (case z_repr => k_is)
    (case z_str => k_is)
    (case z_tuple => k_is)
    (case i_gcd => k_is)
    (case v_DIGITS => k_is)
    (case v_MOST_IN_ROW => k_is)
    (case a__law_pot => k_is)
    (case l__law_pot => k_is)
    (case c__law_pot => k_is)
    (case k__law_pot => k_is)
    (case a__law_draw => k_is)
    (case l__law_draw => k_is)
    (case c__law_draw => k_is)
    (case k__law_draw => k_is)
    (case a__law_pick => k_is)
    (case l__law_pick => k_is)
    (case c__law_pick => k_is)
    (case k__law_pick => k_is)
    (case a__law_bent => k_is)
    (case l__law_bent => k_is)
    (case c__law_bent => k_is)
    (case k__law_bent => k_is)
    (case a__law_common => k_is)
    (case l__law_common => k_is)
    (case c__law_common => k_is)
    (case k__law_common => k_is)
    (case a__law_is_whole => k_is)
    (case l__law_is_whole => k_is)
    (case c__law_is_whole => k_is)
    (case k__law_is_whole => k_is)
    (case a__law_is_ratio => k_is)
    (case l__law_is_ratio => k_is)
    (case c__law_is_ratio => k_is)
    (case k__law_is_ratio => k_is)
    (case a__law_is_row => k_is)
    (case l__law_is_row => k_is)
    (case c__law_is_row => k_is)
    (case k__law_is_row => k_is)
    (case a_lowest => k_is)
    (case l_lowest => k_is)
    (case c_lowest => k_is)
    (case k_lowest => k_is)
    (case a_digits_end => k_is)
    (case l_digits_end => k_is)
    (case c_digits_end => k_is)
    (case k_digits_end => k_is)
    (case a_read_ratio => k_is)
    (case l_read_ratio => k_is)
    (case c_read_ratio => k_is)
    (case k_read_ratio => k_is)
    (case a_want_text => k_is)
    (case l_want_text => k_is)
    (case c_want_text => k_is)
    (case k_want_text => k_is)
    (case a_parse_ratio => k_is)
    (case l_parse_ratio => k_is)
    (case c_parse_ratio => k_is)
    (case k_parse_ratio => k_is)
    (case a_is_integer => k_is)
    (case l_is_integer => k_is)
    (case c_is_integer => k_is)
    (case k_is_integer => k_is)
    (case a_is_ratio_value => k_is)
    (case l_is_ratio_value => k_is)
    (case c_is_ratio_value => k_is)
    (case k_is_ratio_value => k_is)
    (case a_is_ratio => k_is)
    (case l_is_ratio => k_is)
    (case c_is_ratio => k_is)
    (case k_is_ratio => k_is)
    (case a_text_of_ratio => k_is)
    (case l_text_of_ratio => k_is)
    (case c_text_of_ratio => k_is)
    (case k_text_of_ratio => k_is)
    (case a_want_ratio => k_is)
    (case l_want_ratio => k_is)
    (case c_want_ratio => k_is)
    (case k_want_ratio => k_is)
    (case a_ratio_text => k_is)
    (case l_ratio_text => k_is)
    (case c_ratio_text => k_is)
    (case k_ratio_text => k_is)
    (case a_is_row_value => k_is)
    (case l_is_row_value => k_is)
    (case c_is_row_value => k_is)
    (case k_is_row_value => k_is)
    (case a_is_row => k_is)
    (case l_is_row => k_is)
    (case c_is_row => k_is)
    (case k_is_row => k_is)
    (case a__law_right => k_is)
    (case l__law_right => k_is)
    (case c__law_right => k_is)
    (case k__law_right => k_is)
    (case a_law => k_is)
    (case l_law => k_is)
    (case c_law => k_is)
    (case k_law => k_is)
