import PyProof.Rows.All
import Wide.All
import OpenK.AllK
import Wide.FinOn
import HandS.ForMost
import HandS.Exc
import HandS.ExcOwn
import HandS.WordsExc
import HandS.TryMany
import HandS.Wide
import HandS.WideBits
import HandS.Gcd
import HandS.IsInst
import HandS.Style
import HandS.CallSlots
import HandS.Conv
import HandS.TupAny
import HandS.TupMul
import PySem.Challenge.RW_wishways_k12_whole_ratios_reckoned
set_option Elab.async false
set_option linter.all false
set_option maxRecDepth 100000
/-! Mini1: own values, own store, what they stand for in the heap; the judgements. -/
namespace Mn
open PySem PySem.Spec PyProof.Rows L2

inductive Val where
  | non | bl (b : Bool) | int (i : Int) | str (x : Str) | tup (xs : List Val) | lst (xs : List Val) | scr (ns : List Int) | loc (n : Nat)
/-- what stands at a place of the store: what may change -/
inductive SO where
  | lst (xs : List Val)
abbrev Sto := List SO
abbrev Loc := List (Option Val)
structure Exn where
  cls : Str
  fs : List (Str × Val)
inductive R (α : Type) where
  | ok (a : α) (s : Sto) | ex (e : Exn) (s : Sto) | bad
abbrev M (α : Type) := Loc → Sto → R α
def R.bd {α β : Type} (r : R α) (f : α → Sto → R β) : R β := match r with
  | .ok a s => f a s
  | .ex e s => .ex e s
  | .bad => .bad
/-- what a block comes to -/
inductive RB where
  | nx (l : Loc) (s : Sto) | rt (v : Val) (s : Sto) | bk (l : Loc) (s : Sto) | ct (l : Loc) (s : Sto) | ex (e : Exn) (l : Loc) (s : Sto) | bad
abbrev B := Loc → Sto → RB
abbrev Fn := List Val → Sto → R Val
abbrev Tg := Val → M Loc

/-! ### what they stand for -/
/-- the places of the store; rs: what is kept for a list that a comprehension makes just now -/
structure Pl where
  pl : List Addr
  rs : List Addr
def Pl.has (p : Pl) (a : Addr) : Prop := a ∈ p.pl ∨ a ∈ p.rs
abbrev KTup (K : PySem.W.Frag) (a : Addr) (xs : List V) : Prop := ∃ (o : Obj) (its : Array Value) (n : Nat), K.lookup a = some o ∧ o.cls = .type "tuple" ∧ o.data = .seq its n ∧ its.size ≤ sizeLine ∧ Vals xs its.toList
abbrev KLst (K : PySem.W.Frag) (a : Addr) (xs : List V) : Prop := ∃ (o : Obj) (its : Array Value) (n : Nat), K.lookup a = some o ∧ o.cls = .type "list" ∧ o.dict = none ∧ o.data = .seq its n ∧ its.size ≤ sizeLine ∧ Vals xs its.toList
mutual
inductive RepV (K : PySem.W.Frag) (p : Pl) (H : Hp) : Val → V → Prop
  | non : RepV K p H .non .non
  | bl (b : Bool) : RepV K p H (.bl b) (.bl b)
  | int (i : Int) : RepV K p H (.int i) (.int i)
  | str (x : Str) : RepV K p H (.str x) (.str x)
  | tup {a : Addr} {ys : List V} {xs : List Val} : Rd H a (.tup ys) → ¬ p.has a → RepVs K p H xs ys → RepV K p H (.tup xs) (.ref a)
  | ktup {a : Addr} {ys : List V} {xs : List Val} : KTup K a ys → RepVs K p H xs ys → RepV K p H (.tup xs) (.ref a)
  | lst {a : Addr} {ys : List V} {xs : List Val} : H a = some (.lst ys) → ¬ p.has a → RepVs K p H xs ys → RepV K p H (.lst xs) (.ref a)
  | scr {a : Addr} {ns : List Int} : Rd H a (.lst (ns.map V.int)) → ¬ p.has a → RepV K p H (.scr ns) (.ref a)
  | kscr {a : Addr} {ns : List Int} : KLst K a (ns.map V.int) → RepV K p H (.scr ns) (.ref a)
  | loc {n : Nat} {a : Addr} : p.pl[n]? = some a → RepV K p H (.loc n) (.ref a)
inductive RepVs (K : PySem.W.Frag) (p : Pl) (H : Hp) : List Val → List V → Prop
  | nil : RepVs K p H [] []
  | cons {v : Val} {x : V} {vs : List Val} {xs : List V} : RepV K p H v x → RepVs K p H vs xs → RepVs K p H (v :: vs) (x :: xs)
end
/-- from (p, H) on: new places; all that is neither a place nor kept apart stays -/
structure ExtW (p : Pl) (H : Hp) (p' : Pl) (H' : Hp) : Prop where
  pre : ∃ t, p'.pl = p.pl ++ t ∧ ∀ a ∈ t, H a = none ∨ a ∈ p.rs
  rsv : ∀ a ∈ p'.rs, a ∈ p.rs ∨ H a = none
  keep : ∀ b o, H b = some o → ¬ p.has b → H' b = some o
  dom : ∀ b, H' b = none → H b = none
/-- .. all that is no place stays -/
structure Ext (p : Pl) (H : Hp) (p' : Pl) (H' : Hp) : Prop where
  pre : ∃ t, p'.pl = p.pl ++ t ∧ ∀ a ∈ t, H a = none
  rsv : p'.rs = p.rs
  keep : ∀ b o, H b = some o → b ∉ p.pl → H' b = some o
  dom : ∀ b, H' b = none → H b = none
theorem Ext.w {p p' : Pl} {H H' : Hp} (E : Ext p H p' H') : ExtW p H p' H' := ⟨let ⟨t, e, ht⟩ := E.pre; ⟨t, e, fun a ha => .inl (ht a ha)⟩, fun a h => .inl (by rw [← E.rsv]; exact h), fun b o h n => E.keep b o h fun z => n (.inl z), E.dom⟩
def RepO (K : PySem.W.Frag) (p : Pl) (H : Hp) : SO → Option HO → Prop
  | .lst xs, u => ∃ ys, u = some (.lst ys) ∧ RepVs K p H xs ys
structure RepSt (K : PySem.W.Frag) (p : Pl) (st : Sto) (H : Hp) : Prop where
  len : p.pl.length = st.length
  nd : p.pl.Nodup
  rv : ∀ a ∈ p.rs, ∃ o, H a = some o
  ap : ∀ a ∈ p.rs, a ∉ p.pl
  at_ : ∀ (n : Nat) (a : Addr) (o : SO), p.pl[n]? = some a → st[n]? = some o → RepO K p H o (H a)
structure RepL (K : PySem.W.Frag) (p : Pl) (H : Hp) (l : Loc) (σ : L2.St) : Prop where
  len : l.length = σ.length
  at_ : ∀ (i : Nat) (v : Val), l[i]? = some (some v) → ∃ x, σ[i]? = some (some x) ∧ RepV K p H v x

section
variable {K : PySem.W.Frag} {p p' p'' : Pl} {H H' H'' : Hp} {st : Sto} {l : Loc} {σ : L2.St}
theorem Ext.refl : Ext p H p H := ⟨⟨[], by simp, by simp⟩, rfl, fun _ _ h _ => h, fun _ h => h⟩
theorem ExtW.notin (E : ExtW p H p' H') {a : Addr} {o : HO} (h : H a = some o) (n : ¬ p.has a) : ¬ p'.has a := by
  obtain ⟨t, e, ht⟩ := E.pre
  rintro (hm | hm)
  · rw [e] at hm
    rcases List.mem_append.mp hm with hm | hm
    · exact n (.inl hm)
    · rcases ht a hm with z | z
      · rw [z] at h; cases h
      · exact n (.inr z)
  · rcases E.rsv a hm with z | z
    · exact n (.inr z)
    · rw [z] at h; cases h
theorem Ext.noPl (E : Ext p H p' H') {a : Addr} {o : HO} (h : H a = some o) (n : a ∉ p.pl) : a ∉ p'.pl := by
  obtain ⟨t, e, ht⟩ := E.pre
  intro hm
  rw [e] at hm
  rcases List.mem_append.mp hm with hm | hm
  · exact n hm
  · rw [ht a hm] at h; cases h
theorem ExtW.trans (E : ExtW p H p' H') (F : ExtW p' H' p'' H'') : ExtW p H p'' H'' := by
  refine ⟨?_, fun a ha => ?_, fun b o h n => F.keep b o (E.keep b o h n) (E.notin h n), fun b h => E.dom b (F.dom b h)⟩
  · obtain ⟨t, e1, ht⟩ := E.pre
    obtain ⟨u, e2, hu⟩ := F.pre
    refine ⟨t ++ u, by rw [e2, e1, List.append_assoc], fun a ha => ?_⟩
    rcases List.mem_append.mp ha with ha | ha
    · exact ht a ha
    · rcases hu a ha with z | z
      · exact .inl (E.dom a z)
      · exact (E.rsv a z).symm
  · rcases F.rsv a ha with z | z
    · exact E.rsv a z
    · exact .inr (E.dom a z)
theorem Ext.trans (E : Ext p H p' H') (F : Ext p' H' p'' H'') : Ext p H p'' H'' :=
  ⟨by
    obtain ⟨t, e1, ht⟩ := E.pre
    obtain ⟨u, e2, hu⟩ := F.pre
    refine ⟨t ++ u, by rw [e2, e1, List.append_assoc], fun a ha => ?_⟩
    rcases List.mem_append.mp ha with ha | ha
    · exact ht a ha
    · exact E.dom a (hu a ha), F.rsv.trans E.rsv, fun b o h n => F.keep b o (E.keep b o h n) (E.noPl h n), fun b h => E.dom b (F.dom b h)⟩
theorem ExtW.at_ (E : ExtW p H p' H') {n : Nat} {a : Addr} (h : p.pl[n]? = some a) : p'.pl[n]? = some a := by
  obtain ⟨t, e, _⟩ := E.pre
  have hl := (List.getElem?_eq_some_iff.mp h).1
  rw [e, List.getElem?_append_left hl]; exact h
theorem ExtW.rd (E : ExtW p H p' H') {a : Addr} {u : HO} (h : Rd H a u) (n : ¬ p.has a) : Rd H' a u ∧ ¬ p'.has a := by
  rcases h with h | ⟨o, h⟩
  · exact ⟨.inl (E.keep _ _ h n), E.notin h n⟩
  · exact ⟨.inr ⟨o, E.keep _ _ h n⟩, E.notin h n⟩
mutual
theorem RepV.monoW (E : ExtW p H p' H') : ∀ (v : Val) (x : V), RepV K p H v x → RepV K p' H' v x
  | .non, _, h => by cases h; exact .non
  | .bl b, _, h => by cases h; exact .bl b
  | .int i, _, h => by cases h; exact .int i
  | .str x, _, h => by cases h; exact .str x
  | .tup xs, _, h => by
    cases h with
    | tup h1 h2 h3 => exact .tup (E.rd h1 h2).1 (E.rd h1 h2).2 (RepVs.monoW E xs _ h3)
    | ktup h1 h3 => exact .ktup h1 (RepVs.monoW E xs _ h3)
  | .lst xs, _, h => by
    cases h with
    | lst h1 h2 h3 => exact .lst (E.keep _ _ h1 h2) (E.notin h1 h2) (RepVs.monoW E xs _ h3)
  | .scr ns, _, h => by
    cases h with
    | scr h1 h2 => exact .scr (E.rd h1 h2).1 (E.rd h1 h2).2
    | kscr h1 => exact .kscr h1
  | .loc n, _, h => by cases h with | loc h => exact .loc (E.at_ h)
theorem RepVs.monoW (E : ExtW p H p' H') : ∀ (vs : List Val) (xs : List V), RepVs K p H vs xs → RepVs K p' H' vs xs
  | [], _, h => by cases h; exact .nil
  | v :: vs, _, h => by
    cases h with
    | cons h1 h2 => exact .cons (RepV.monoW E v _ h1) (RepVs.monoW E vs _ h2)
end
theorem RepV.mono (E : Ext p H p' H') {v : Val} {x : V} (h : RepV K p H v x) : RepV K p' H' v x := RepV.monoW E.w v x h
theorem RepVs.mono (E : Ext p H p' H') {v : List Val} {x : List V} (h : RepVs K p H v x) : RepVs K p' H' v x := RepVs.monoW E.w v x h
theorem RepVs.len : ∀ {vs : List Val} {xs : List V}, RepVs K p H vs xs → vs.length = xs.length
  | [], _, h => by cases h; rfl
  | v :: vs, _, h => by cases h with | cons _ h => rw [List.length_cons, List.length_cons, h.len]
theorem RepVs.at_ : ∀ {vs : List Val} {xs : List V} {i : Nat} {v : Val}, RepVs K p H vs xs → vs[i]? = some v → ∃ x, xs[i]? = some x ∧ RepV K p H v x
  | [], _, _, _, _, e => by simp at e
  | w :: vs, _, 0, v, h, e => by
    cases h with
    | cons h1 h2 => simp at e; subst e; exact ⟨_, rfl, h1⟩
  | w :: vs, _, i + 1, v, h, e => by
    cases h with
    | cons h1 h2 => obtain ⟨x, a, b⟩ := h2.at_ (i := i) (by simpa using e); exact ⟨x, by simpa using a, b⟩
theorem RepVs.back : ∀ {vs : List Val} {xs : List V} {i : Nat} {x : V}, RepVs K p H vs xs → xs[i]? = some x → ∃ v, vs[i]? = some v ∧ RepV K p H v x
  | [], _, _, _, h, e => by cases h; simp at e
  | w :: vs, _, 0, v, h, e => by
    cases h with
    | cons h1 h2 => simp at e; subst e; exact ⟨_, rfl, h1⟩
  | w :: vs, _, i + 1, v, h, e => by
    cases h with
    | cons h1 h2 => obtain ⟨x, a, b⟩ := h2.back (i := i) (by simpa using e); exact ⟨x, by simpa using a, b⟩
theorem RepVs.app : ∀ {vs ws : List Val} {xs ys : List V}, RepVs K p H vs xs → RepVs K p H ws ys → RepVs K p H (vs ++ ws) (xs ++ ys)
  | [], _, _, _, h, g => by cases h; exact g
  | v :: vs, _, _, _, h, g => by cases h with | cons h1 h2 => exact .cons h1 (h2.app g)
theorem RepVs.take : ∀ {vs : List Val} {xs : List V} (n : Nat), RepVs K p H vs xs → RepVs K p H (vs.take n) (xs.take n)
  | _, _, 0, _ => by rw [List.take_zero, List.take_zero]; exact .nil
  | [], _, n + 1, h => by cases h; exact .nil
  | v :: vs, _, n + 1, h => by cases h with | cons h1 h2 => exact .cons h1 (h2.take n)
theorem RepVs.drop : ∀ {vs : List Val} {xs : List V} (n : Nat), RepVs K p H vs xs → RepVs K p H (vs.drop n) (xs.drop n)
  | _, _, 0, h => h
  | [], _, n + 1, h => by cases h; exact .nil
  | v :: vs, _, n + 1, h => by cases h with | cons h1 h2 => exact h2.drop n
theorem RepVs.set {v : Val} {x : V} (r : RepV K p H v x) : ∀ {vs : List Val} {xs : List V} (n : Nat), RepVs K p H vs xs → RepVs K p H (vs.set n v) (xs.set n x)
  | [], _, _, h => by cases h; exact .nil
  | w :: vs, _, 0, h => by cases h with | cons h1 h2 => exact .cons r h2
  | w :: vs, _, n + 1, h => by cases h with | cons h1 h2 => exact .cons h1 (h2.set r n)
theorem RepVs.ints : ∀ {ns : List Int} {xs : List V}, RepVs K p H (ns.map Val.int) xs → xs = ns.map V.int
  | [], _, h => by cases h; rfl
  | n :: ns, _, h => by
    cases h with
    | cons h1 h2 => cases h1; rw [h2.ints]; rfl
theorem RepVs.ofInts : ∀ (ns : List Int), RepVs K p H (ns.map Val.int) (ns.map V.int)
  | [] => .nil
  | n :: ns => .cons (.int n) (ofInts ns)
theorem RepVs.bools : ∀ {ns : List Bool} {xs : List V}, RepVs K p H (ns.map Val.bl) xs → xs = ns.map V.bl
  | [], _, h => by cases h; rfl
  | n :: ns, _, h => by
    cases h with
    | cons h1 h2 => cases h1; rw [h2.bools]; rfl
theorem RepL.monoW (E : ExtW p H p' H') (L : RepL K p H l σ) : RepL K p' H' l σ := ⟨L.len, fun i v h => let ⟨x, a, b⟩ := L.at_ i v h; ⟨x, a, RepV.monoW E _ _ b⟩⟩
theorem RepL.mono (E : Ext p H p' H') (L : RepL K p H l σ) : RepL K p' H' l σ := ⟨L.len, fun i v h => let ⟨x, a, b⟩ := L.at_ i v h; ⟨x, a, b.mono E⟩⟩
theorem RepL.set {i : Nat} {v : Val} {x : V} (L : RepL K p H l σ) (r : RepV K p H v x) : RepL K p H (l.set i (some v)) (σ.set i (some x)) := by
  refine ⟨by rw [List.length_set, List.length_set]; exact L.len, fun j w h => ?_⟩
  by_cases hj : i = j
  · subst hj
    have hl : i < l.length := by
      have := (List.getElem?_eq_some_iff.mp h).1
      simpa using this
    rw [List.getElem?_set_self hl] at h
    cases h
    exact ⟨x, List.getElem?_set_self (by rw [← L.len]; exact hl), r⟩
  · rw [List.getElem?_set_ne hj] at h ⊢
    exact L.at_ j w h
theorem RepSt.some_ (S : RepSt K p st H) {a : Addr} (h : a ∈ p.pl) : ∃ u, H a = some u := by
  obtain ⟨n, hn⟩ := List.getElem?_of_mem h
  have hl : n < st.length := by rw [← S.len]; exact (List.getElem?_eq_some_iff.mp hn).1
  have r := S.at_ n a st[n] hn (List.getElem?_eq_getElem hl)
  cases q : st[n] with
  | lst xs => rw [q] at r; obtain ⟨ys, e, _⟩ := r; exact ⟨_, e⟩
theorem RepSt.fresh (S : RepSt K p st H) {a : Addr} (h : H a = none) : a ∉ p.pl := fun hm => by
  obtain ⟨u, e⟩ := S.some_ hm
  rw [h] at e; cases e
theorem RepSt.nohas (S : RepSt K p st H) {a : Addr} (h : H a = none) : ¬ p.has a := by
  rintro (z | z)
  · exact S.fresh h z
  · obtain ⟨o, e⟩ := S.rv a z
    rw [h] at e; cases e
theorem some_upd {a b : Addr} {o : HO} (h : ∃ u, H b = some u) : ∃ u, upd H a o b = some u := by
  by_cases e : b = a
  · exact ⟨o, by rw [e, upd_same]⟩
  · rw [upd_ne e]; exact h
theorem RepO.monoW (E : ExtW p H p' H') {o : SO} {u : Option HO} (r : RepO K p H o u) : RepO K p' H' o u := by
  cases o with
  | lst xs => obtain ⟨ys, e, r⟩ := r; exact ⟨ys, e, RepVs.monoW E _ _ r⟩
theorem RepO.mono (E : Ext p H p' H') {o : SO} {u : Option HO} (r : RepO K p H o u) : RepO K p' H' o u := r.monoW E.w
theorem Ext.alloc {a : Addr} {o : HO} (h : H a = none) : Ext p H p (upd H a o) :=
  ⟨⟨[], by simp, by simp⟩, rfl, fun b u e _ => by rw [upd_ne (ne_of_none e h)]; exact e, fun b e => by
    by_cases hb : b = a
    · rw [hb]; exact h
    · rw [upd_ne hb] at e; exact e⟩
/-- a new place -/
abbrev Pl.add (p : Pl) (a : Addr) : Pl := ⟨p.pl ++ [a], p.rs⟩
theorem Ext.push {a : Addr} {o : HO} (h : H a = none) : Ext p H (p.add a) (upd H a o) :=
  ⟨⟨[a], rfl, by simpa using h⟩, rfl, (Ext.alloc (p := p) (o := o) h).keep, (Ext.alloc (p := p) (o := o) h).dom⟩
theorem Ext.write {a : Addr} {o : HO} (h : a ∈ p.pl) : Ext p H p (upd H a o) :=
  ⟨⟨[], by simp, by simp⟩, rfl, fun b u e n => by rw [upd_ne (show b ≠ a from fun z => n (by rw [z]; exact h))]; exact e, fun b e => by
    by_cases hb : b = a
    · rw [hb, upd_same] at e; cases e
    · rw [upd_ne hb] at e; exact e⟩
/-- what is kept apart is written -/
theorem ExtW.rsvd {a : Addr} {o : HO} (h : a ∈ p.rs) : ExtW p H p (upd H a o) :=
  ⟨⟨[], by simp, by simp⟩, fun _ h => .inl h, fun b u e n => by rw [upd_ne (show b ≠ a from fun z => n (by rw [z]; exact .inr h))]; exact e, fun b e => by
    by_cases hb : b = a
    · rw [hb, upd_same] at e; cases e
    · rw [upd_ne hb] at e; exact e⟩
theorem RepSt.alloc (S : RepSt K p st H) {a : Addr} {o : HO} (h : H a = none) : RepSt K p st (upd H a o) :=
  ⟨S.len, S.nd, fun b hb => some_upd (S.rv b hb), S.ap, fun n b u h1 h2 => by
    have hb : b ≠ a := fun z => S.fresh h (z ▸ List.mem_of_getElem? h1)
    rw [upd_ne hb]; exact (S.at_ n b u h1 h2).mono (.alloc h)⟩
theorem RepSt.push (S : RepSt K p st H) {a : Addr} {u : HO} {o : SO} (h : H a = none) (r : RepO K p H o (some u)) : RepSt K (p.add a) (st ++ [o]) (upd H a u) := by
  refine ⟨by show (p.pl ++ [a]).length = _; rw [List.length_append, List.length_append, S.len]; rfl, ?_, fun b hb => some_upd (S.rv b hb), fun b hb => ?_, fun n b v h1 h2 => ?_⟩
  · show (p.pl ++ [a]).Nodup
    rw [List.nodup_append]
    refine ⟨S.nd, by simp, fun x hx y hy => ?_⟩
    rw [List.mem_singleton] at hy
    subst hy
    exact fun z => S.fresh h (z ▸ hx)
  · show b ∉ p.pl ++ [a]
    rw [List.mem_append, List.mem_singleton]
    rintro (z | z)
    · exact S.ap b hb z
    · obtain ⟨o, e⟩ := S.rv b hb
      rw [z, h] at e; cases e
  · have h1 : (p.pl ++ [a])[n]? = some b := h1
    by_cases hn : n < p.pl.length
    · rw [List.getElem?_append_left hn] at h1
      rw [List.getElem?_append_left (by rw [← S.len]; exact hn)] at h2
      have hb : b ≠ a := fun z => S.fresh h (z ▸ List.mem_of_getElem? h1)
      rw [upd_ne hb]
      exact (S.at_ n b v h1 h2).mono (.push h)
    · have e : n = p.pl.length := by
        have := (List.getElem?_eq_some_iff.mp h1).1
        rw [List.length_append] at this
        simp at this
        omega
      subst e
      rw [List.getElem?_append_right (Nat.le_refl _)] at h1
      rw [List.getElem?_append_right (by rw [S.len]; exact Nat.le_refl _)] at h2
      simp at h1
      rw [S.len] at h2
      simp at h2
      subst h1 h2
      rw [upd_same]
      exact r.mono (.push h)
/-- what is not of the store changes, kept apart -/
theorem RepSt.rsvd (S : RepSt K p st H) {a : Addr} {o : HO} (h : a ∈ p.rs) : RepSt K p st (upd H a o) :=
  ⟨S.len, S.nd, fun b hb => some_upd (S.rv b hb), S.ap, fun n b u h1 h2 => by
    have hb : b ≠ a := fun z => S.ap a h (z ▸ List.mem_of_getElem? h1)
    rw [upd_ne hb]; exact (S.at_ n b u h1 h2).monoW (.rsvd h)⟩
theorem RepSt.write (S : RepSt K p st H) {n : Nat} {a : Addr} {u : HO} {o : SO} (hn : p.pl[n]? = some a) (r : RepO K p H o (some u)) : RepSt K p (st.set n o) (upd H a u) := by
  have hm := List.mem_of_getElem? hn
  refine ⟨by rw [List.length_set]; exact S.len, S.nd, fun b hb => some_upd (S.rv b hb), S.ap, fun m b v h1 h2 => ?_⟩
  by_cases e : n = m
  · subst e
    rw [hn] at h1; cases h1
    have hl : n < st.length := by
      have := (List.getElem?_eq_some_iff.mp h2).1
      simpa using this
    rw [List.getElem?_set_self hl] at h2
    cases h2
    rw [upd_same]
    exact r.mono (.write hm)
  · have hb : b ≠ a := fun z => by
      subst z
      obtain ⟨q1, e1⟩ := List.getElem?_eq_some_iff.mp h1
      obtain ⟨q2, e2⟩ := List.getElem?_eq_some_iff.mp hn
      exact e ((List.getElem_inj S.nd).mp (e2.trans e1.symm))
    rw [upd_ne hb]
    rw [List.getElem?_set_ne e] at h2
    exact (S.at_ m b v h1 h2).mono (.write hm)
theorem ExtW.less {r : List Addr} (h : ∀ a ∈ r, a ∈ p.rs) : ExtW p H ⟨p.pl, r⟩ H := ⟨⟨[], by simp, by simp⟩, fun a ha => .inl (h a ha), fun _ _ h _ => h, fun _ h => h⟩
theorem RepSt.less {r : List Addr} (S : RepSt K p st H) (h : ∀ a ∈ r, a ∈ p.rs) : RepSt K ⟨p.pl, r⟩ st H :=
  ⟨S.len, S.nd, fun a ha => S.rv a (h a ha), fun a ha => S.ap a (h a ha), fun n a o h1 h2 => (S.at_ n a o h1 h2).monoW (.less h)⟩
/-- what was kept apart becomes a place -/
theorem ExtW.place {q r : List Addr} {a : Addr} : ExtW ⟨q, a :: r⟩ H ⟨q ++ [a], r⟩ H :=
  ⟨⟨[a], rfl, fun b hb => .inr (by rw [List.mem_singleton.mp hb]; exact List.mem_cons_self)⟩, fun b hb => .inl (List.mem_cons_of_mem _ hb), fun _ _ h _ => h, fun _ h => h⟩
theorem RepSt.place {q r : List Addr} {a : Addr} {xs : List Val} {ys : List V} (S : RepSt K ⟨q, a :: r⟩ st H) (hr : a ∉ r) (h : H a = some (.lst ys)) (rv : RepVs K ⟨q, a :: r⟩ H xs ys) : RepSt K ⟨q ++ [a], r⟩ (st ++ [.lst xs]) H := by
  have hq : a ∉ q := S.ap a List.mem_cons_self
  have hlen : q.length = st.length := S.len
  refine ⟨by show (q ++ [a]).length = _; rw [List.length_append, List.length_append, hlen]; rfl, ?_, fun b hb => S.rv b (List.mem_cons_of_mem _ hb), fun b hb => ?_, fun n b o h1 h2 => ?_⟩
  · show (q ++ [a]).Nodup
    rw [List.nodup_append]
    refine ⟨S.nd, by simp, fun x hx y hy => ?_⟩
    rw [List.mem_singleton] at hy
    subst hy
    exact fun z => hq (z ▸ hx)
  · show b ∉ q ++ [a]
    rw [List.mem_append, List.mem_singleton]
    rintro (z | z)
    · exact S.ap b (List.mem_cons_of_mem _ hb) z
    · exact hr (z ▸ hb)
  · have h1 : (q ++ [a])[n]? = some b := h1
    by_cases hn : n < q.length
    · rw [List.getElem?_append_left hn] at h1
      rw [List.getElem?_append_left (by rw [← hlen]; exact hn)] at h2
      exact (S.at_ n b o h1 h2).monoW .place
    · have e : n = q.length := by
        have := (List.getElem?_eq_some_iff.mp h1).1
        rw [List.length_append] at this
        simp at this
        omega
      subst e
      rw [List.getElem?_append_right (Nat.le_refl _)] at h1
      rw [List.getElem?_append_right (by rw [hlen]; exact Nat.le_refl _)] at h2
      simp at h1
      rw [hlen] at h2
      simp at h2
      subst h1 h2
      exact ⟨ys, h, RepVs.monoW .place _ _ rv⟩
theorem RepSt.lst (S : RepSt K p st H) {n : Nat} {a : Addr} {xs : List Val} (hn : p.pl[n]? = some a) (h : st[n]? = some (.lst xs)) : ∃ ys, H a = some (.lst ys) ∧ RepVs K p H xs ys := S.at_ n a _ hn h
end

/-! ### exceptions -/
/-- T: where the own classes of errors stand -/
abbrev Tab := Str → Option Addr
def RepX (T : Tab) (K : PySem.W.Frag) (p : Pl) (H : Hp) (e : Exn) (c : Value) (d : Option Addr) : Prop :=
  ∃ C, T e.cls = some C ∧ c = .ref C ∧ ((e.fs = [] ∧ d = none) ∨ ∃ dd ys, d = some dd ∧ ¬ p.has dd ∧ H dd = some (.xd ((e.fs.map (·.1)).zip ys)) ∧ RepVs K p H (e.fs.map (·.2)) ys)

/-! ### the judgements -/
abbrev Rel (α β : Type) := Pl → Hp → α → β → Prop
def post {α β : Type} (T : Tab) (K : PySem.W.Frag) (W : WX) (rep : Rel α β) (p : Pl) (H : Hp) (σ : L2.St) (r : R α) (Q : β → Hp → Prop) : Prop := match r with
  | .ok v s => ∀ p' H' x, Ext p H p' H' → RepSt K p' s H' → rep p' H' v x → Q x H'
  | .ex e s => ∀ p' H' c d, Ext p H p' H' → RepSt K p' s H' → RepX T K p' H' e c d → W c d σ H'
  | .bad => False
def tG {α β : Type} (T : Tab) (K : PySem.W.Frag) (W : WX) (rep : Rel α β) (m : M α) : L2.St → Hp → (β → Hp → Prop) → Prop := fun σ H Q =>
  ∃ p l s, RepSt K p s H ∧ RepL K p H l σ ∧ post T K W rep p H σ (m l s) Q
section
variable {α β γ δ : Type} {T : Tab} {K : PySem.W.Frag} {W : WX} {rep : Rel α β} {rep' : Rel γ δ} {p p' : Pl} {H H' : Hp} {σ : L2.St} {Q : β → Hp → Prop} {Q' : δ → Hp → Prop} {r : R α} {f : α → Sto → R γ}
theorem post.ext (E : Ext p H p' H') (h : post T K W rep p H σ r Q) : post T K W rep p' H' σ r Q := by
  cases r with
  | ok v s => exact fun p2 H2 x E2 => h p2 H2 x (E.trans E2)
  | ex e s => exact fun p2 H2 c d E2 => h p2 H2 c d (E.trans E2)
  | bad => exact h
theorem post.bd (h : post T K W rep' p H σ (r.bd f) Q') : post T K W rep p H σ r fun x H1 => ∃ p1 v s1, r = .ok v s1 ∧ Ext p H p1 H1 ∧ RepSt K p1 s1 H1 ∧ rep p1 H1 v x ∧ post T K W rep' p1 H1 σ (f v s1) Q' := by
  cases r with
  | ok v s => exact fun p' H' x E S q => ⟨p', v, s, rfl, E, S, q, h.ext E⟩
  | ex e s => exact h
  | bad => exact h
end
end Mn
set_option maxHeartbeats 4000000
/-! Mini2: expressions. -/
namespace Mn
open PySem PySem.Spec PyProof.Rows L2

theorem PEw {X : Cx} {e : Expr} {t t' : TE} (h : PE X e t) (w : ∀ σ H Q, t' σ H Q → t σ H Q) : PE X e t' := ⟨fun pins s σ H Q I q => h.run pins s σ H Q I (w _ _ _ q)⟩
theorem PTw {X : Cx} {e : Expr} {t t' : TT} (h : PT X e t) (w : ∀ σ H Q, t' σ H Q → t σ H Q) : PT X e t' := ⟨fun pins s σ H Q I q => h.run pins s σ H Q I (w _ _ _ q)⟩
theorem PWw {X : Cx} {e : Expr} {t t' : TT} (h : PW X e t) (w : ∀ σ H Q, t' σ H Q → t σ H Q) : PW X e t' := ⟨fun wh pins s σ H Q I q => h.run wh pins s σ H Q I (w _ _ _ q)⟩
theorem PAw {X : Cx} {es : List Expr} {t t' : TA} (h : PA X es t) (w : ∀ σ H Q, t' σ H Q → t σ H Q) : PA X es t' := ⟨fun pos pins s σ H Q I q => h.run pos pins s σ H Q I (w _ _ _ q)⟩

abbrev rB : Rel Bool Bool := fun _ _ a b => b = a
def CE (T : Tab) (W : WX) (X : Cx) (e : Expr) (m : M Val) : Prop := PE X e (tG T X.K W (RepV X.K) m)
def CA (T : Tab) (W : WX) (X : Cx) (es : List Expr) (m : M (List Val)) : Prop := PA X es (tG T X.K W (RepVs X.K) m)
def CT (T : Tab) (W : WX) (X : Cx) (e : Expr) (m : M Bool) : Prop := PT X e (tG T X.K W rB m)
def CW (T : Tab) (W : WX) (X : Cx) (e : Expr) (m : M Bool) : Prop := PW X e (tG T X.K W rB m)

theorem post.imp {α β : Type} {T : Tab} {K : PySem.W.Frag} {W : WX} {rep : Rel α β} {p : Pl} {H : Hp} {σ : L2.St} {r : R α} {Q Q' : β → Hp → Prop} (h : post T K W rep p H σ r Q) (k : ∀ x H1, Q x H1 → Q' x H1) : post T K W rep p H σ r Q' := by
  cases r with
  | ok v s => exact fun p' H' x E S q => k _ _ (h p' H' x E S q)
  | ex e s => exact h
  | bad => exact h
section
variable {T : Tab} {K : PySem.W.Frag} {W : WX} {p : Pl} {H : Hp} {σ : L2.St} {s : Sto} {Q : VK}
theorem post.pure {α β : Type} {rep : Rel α β} {Q : β → Hp → Prop} {v : α} {x : β} (h : post T K W rep p H σ (.ok v s) Q) (S : RepSt K p s H) (r : rep p H v x) : Q x H := h p H x .refl S r
theorem post.tup {vs : List Val} {xs : List V} (h : post T K W (RepV K) p H σ (.ok (.tup vs) s) Q) (S : RepSt K p s H) (r : RepVs K p H vs xs) (a : Addr) (ha : H a = none) : Q (.ref a) (upd H a (.tup xs)) :=
  h p _ _ (.alloc ha) (S.alloc ha) (.tup (.inl upd_same) (S.nohas ha) (r.mono (.alloc ha)))
theorem post.lst {vs : List Val} {xs : List V} (h : post T K W (RepV K) p H σ (.ok (.lst vs) s) Q) (S : RepSt K p s H) (r : RepVs K p H vs xs) (a : Addr) (ha : H a = none) : Q (.ref a) (upd H a (.lst xs)) :=
  h p _ _ (.alloc ha) (S.alloc ha) (.lst upd_same (S.nohas ha) (r.mono (.alloc ha)))
theorem post.loc {vs : List Val} {xs : List V} (h : post T K W (RepV K) p H σ (.ok (.loc s.length) (s ++ [.lst vs])) Q) (S : RepSt K p s H) (r : RepVs K p H vs xs) (a : Addr) (ha : H a = none) : Q (.ref a) (upd H a (.lst xs)) :=
  h _ _ _ (.push ha) (S.push ha ⟨xs, rfl, r⟩) (.loc (by show (p.pl ++ [a])[s.length]? = some a; rw [← S.len, List.getElem?_append_right (Nat.le_refl _)]; simp))
end

/-! ### sequences in the store -/
def deref (s : Sto) : Val → Option (List Val)
  | .lst xs => some xs
  | .scr ns => some (ns.map .int)
  | .loc n => match s[n]? with
    | some (.lst xs) => some xs
    | none => none
  | _ => none
def items (s : Sto) : Val → Option (List Val)
  | .tup xs => some xs
  | v => deref s v
section
variable {K : PySem.W.Frag} {p : Pl} {H : Hp} {s : Sto}
theorem RepV.asTup {xs : List Val} {x : V} (r : RepV K p H (.tup xs) x) : ∃ a ys, x = .ref a ∧ SqT K H a ys ∧ RepVs K p H xs ys := by
  cases r with
  | tup h1 h2 h3 => exact ⟨_, _, rfl, .inl h1, h3⟩
  | ktup h1 h3 => exact ⟨_, _, rfl, .inr h1, h3⟩
theorem RepV.asLst {v : Val} {x : V} {xs : List Val} (S : RepSt K p s H) (r : RepV K p H v x) (h : deref s v = some xs) : ∃ a ys, x = .ref a ∧ SqL K H a ys ∧ RepVs K p H xs ys := by
  cases r with
  | lst h1 h2 h3 => cases h; exact ⟨_, _, rfl, SqL.of h1, h3⟩
  | scr h1 h2 => cases h; exact ⟨_, _, rfl, .inl h1, .ofInts _⟩
  | kscr h1 => cases h; exact ⟨_, _, rfl, .inr h1, .ofInts _⟩
  | @loc n a hn =>
    have h' : (match s[n]? with | some (.lst xs) => some xs | none => none) = some xs := h
    split at h'
    · rename_i ws e
      cases h'
      obtain ⟨ys, e1, r⟩ := S.lst hn e
      exact ⟨_, _, rfl, SqL.of e1, r⟩
    · cases h'
  | _ => cases h
/-- tracked lists alone (no list from outside) -/
def derefH (s : Sto) : Val → Option (List Val)
  | .scr _ => none
  | v => deref s v
theorem RepV.asLstH {v : Val} {x : V} {xs : List Val} (S : RepSt K p s H) (r : RepV K p H v x) (h : derefH s v = some xs) : ∃ a ys, x = .ref a ∧ H a = some (.lst ys) ∧ RepVs K p H xs ys := by
  cases r with
  | lst h1 h2 h3 => cases h; exact ⟨_, _, rfl, h1, h3⟩
  | scr h1 h2 => cases h
  | kscr h1 => cases h
  | @loc n a hn =>
    have h' : (match s[n]? with | some (.lst xs) => some xs | none => none) = some xs := h
    split at h'
    · rename_i ws e
      cases h'
      obtain ⟨ys, e1, r⟩ := S.lst hn e
      exact ⟨_, _, rfl, e1, r⟩
    · cases h'
  | _ => cases h
theorem RepVs.atI {vs : List Val} {xs : List V} {i : Int} {v : Val} (r : RepVs K p H vs xs) (h : atI vs i = some v) : ∃ x, L2.atI xs i = some x ∧ RepV K p H v x := by
  unfold L2.atI at h ⊢
  rw [← r.len]
  cases e : ixN vs.length i with
  | none => rw [e] at h; cases h
  | some j =>
    rw [e] at h
    exact r.at_ (i := j) h
end

/-! ### data: for ==, repr -/
mutual
def dataW (f : Nat → Option PyData) : Val → Option PyData
  | .non => some .none
  | .bl b => some (.bool b)
  | .int i => some (.int i)
  | .str x => some (.str x)
  | .tup xs => match datasW f xs with
    | some ds => some (.tuple ds)
    | none => none
  | .lst xs => match datasW f xs with
    | some ds => some (.list ds)
    | none => none
  | .scr ns => some (.list (ns.map .int))
  | .loc n => f n
def datasW (f : Nat → Option PyData) : List Val → Option (List PyData)
  | [] => some []
  | v :: vs => match dataW f v, datasW f vs with
    | some d, some ds => some (d :: ds)
    | _, _ => none
end
def derefD (s : Sto) : Nat → Nat → Option PyData
  | 0, _ => none
  | k + 1, n => match s[n]? with
    | some (.lst xs) => match datasW (derefD s k) xs with
      | some ds => some (.list ds)
      | none => none
    | none => none
def data (s : Sto) (v : Val) : Option PyData := dataW (derefD s 4) v
section
variable {K : PySem.W.Frag} {p : Pl} {H : Hp} {s : Sto} {f : Nat → Option PyData}
theorem dp_ints : ∀ (ns : List Int), DpAll K H (ns.map V.int) (ns.map PyData.int)
  | [] => .nil
  | n :: ns => .cons (.int n) (dp_ints ns)
mutual
theorem dpW (hf : ∀ (n : Nat) (d : PyData) (a : Addr), f n = some d → p.pl[n]? = some a → Dp K H (.ref a) d) : ∀ (v : Val) (x : V) (d : PyData), RepV K p H v x → dataW f v = some d → Dp K H x d
  | .non, _, _, r, h => by cases r; simp only [dataW] at h; cases h; exact .non
  | .bl b, _, _, r, h => by cases r; simp only [dataW] at h; cases h; exact .bl b
  | .int i, _, _, r, h => by cases r; simp only [dataW] at h; cases h; exact .int i
  | .str z, _, _, r, h => by cases r; simp only [dataW] at h; cases h; exact .str z
  | .tup xs, _, d, r, h => by
    obtain ⟨a, ys, rfl, sq, rs⟩ := r.asTup
    simp only [dataW] at h
    split at h
    · rename_i ds e
      cases h
      exact .tup sq (dpsW hf xs ys ds rs e)
    · cases h
  | .lst xs, _, d, r, h => by
    simp only [dataW] at h
    cases r with
    | lst h1 h2 rs =>
      split at h
      · rename_i ds e
        cases h
        exact .lst (SqL.of h1) (dpsW hf xs _ ds rs e)
      · cases h
  | .scr ns, _, d, r, h => by
    simp only [dataW] at h
    cases h
    cases r with
    | scr h1 h2 => exact .lst (.inl h1) (dp_ints ns)
    | kscr h1 => exact .lst (.inr h1) (dp_ints ns)
  | .loc n, _, d, r, h => by
    simp only [dataW] at h
    cases r with
    | loc hn => exact hf n d _ h hn
theorem dpsW (hf : ∀ (n : Nat) (d : PyData) (a : Addr), f n = some d → p.pl[n]? = some a → Dp K H (.ref a) d) : ∀ (vs : List Val) (xs : List V) (ds : List PyData), RepVs K p H vs xs → datasW f vs = some ds → DpAll K H xs ds
  | [], _, _, r, h => by cases r; simp only [datasW] at h; cases h; exact .nil
  | v :: vs, _, ds, r, h => by
    cases r with
    | cons r1 r2 =>
      simp only [datasW] at h
      split at h
      · rename_i d ds' e1 e2
        cases h
        exact .cons (dpW hf v _ d r1 e1) (dpsW hf vs _ ds' r2 e2)
      · cases h
end
theorem dpD (S : RepSt K p s H) : ∀ (k n : Nat) (d : PyData) (a : Addr), derefD s k n = some d → p.pl[n]? = some a → Dp K H (.ref a) d
  | 0, _, _, _, h, _ => by simp only [derefD] at h; cases h
  | k + 1, n, d, a, h, hn => by
    simp only [derefD] at h
    split at h
    · rename_i xs e
      split at h
      · rename_i ds e2
        cases h
        obtain ⟨ys, e1, r⟩ := S.lst hn e
        exact .lst (SqL.of e1) (dpsW (dpD S k) xs ys ds r e2)
      · cases h
    · cases h
theorem RepV.dp (S : RepSt K p s H) {v : Val} {x : V} {d : PyData} (r : RepV K p H v x) (h : data s v = some d) : Dp K H x d := dpW (dpD S 4) v x d r h
end

/-! ### names, constants -/
def lk (i : Nat) : M Val := fun l s => match l[i]? with
  | some (some v) => .ok v s
  | _ => .bad
def cst (v : Val) : M Val := fun _ s => .ok v s
section
variable {T : Tab} {W : WX} {X : Cx}
theorem c_var (i : Nat) {x : Str} {pos : Pos} (hN : X.N[i]? = some x := by rfl) (hv : Vis X.env.scope x := by first | exact Or.inl rfl | exact Or.inr (Or.inl rfl) | exact Or.inr (Or.inr rfl)) (hd : (x == ("__debug__" : Str)) = false := by decide)
    (hcd : (x == ("__classdict__" : Str)) = false := by decide) : CE T W X (.Name x pos) (lk i) := by
  refine PEw (pe_var hN hv hd hcd) fun σ H Q h => ?_
  obtain ⟨p, l, s, S, L, q⟩ := h
  unfold lk at q
  split at q
  · rename_i v e
    obtain ⟨y, e1, r⟩ := L.at_ i v e
    exact ⟨y, e1, q.pure S r⟩
  · exact q.elim
theorem c_cst {e : Expr} {v : Val} {x : V} (h : PE X e (tC x)) (r : ∀ (p : Pl) (H : Hp), RepV X.K p H v x) : CE T W X e (cst v) :=
  PEw h fun σ H Q ⟨p, l, s, S, L, q⟩ => q.pure S (r p H)
theorem c_int {i j pos} : CE T W X (.Constant (.int i) j pos) (cst (.int i)) := c_cst pe_int fun _ _ => .int i
theorem c_bl {b j pos} : CE T W X (.Constant (.bool b) j pos) (cst (.bl b)) := c_cst pe_bl fun _ _ => .bl b
theorem c_non {j pos} : CE T W X (.Constant .none j pos) (cst .non) := c_cst pe_non fun _ _ => .non
theorem c_str {x j pos} : CE T W X (.Constant (.str x) j pos) (cst (.str x)) := c_cst pe_str fun _ _ => .str x
end

/-! ### two-place operations -/
def bin (ma mb : M Val) (g : Val → Val → Sto → R Val) : M Val := fun l s => (ma l s).bd fun v s1 => (mb l s1).bd fun w s2 => g v w s2
def una (ma : M Val) (g : Val → Sto → R Val) : M Val := fun l s => (ma l s).bd g
/-- the reading r is met where g gives a value -/
def Snd2 (T : Tab) (X : Cx) (W : WX) (r : R2) (g : Val → Val → Sto → R Val) : Prop := ∀ (p : Pl) (s : Sto) (H : Hp) (σ : L2.St) (v w : Val) (x y : V) (Q : VK),
  RepSt X.K p s H → RepV X.K p H v x → RepV X.K p H w y → post T X.K W (RepV X.K) p H σ (g v w s) Q → r x y H Q
def Snd1 (T : Tab) (X : Cx) (W : WX) (r : V → Hp → VK → Prop) (g : Val → Sto → R Val) : Prop := ∀ (p : Pl) (s : Sto) (H : Hp) (σ : L2.St) (v : Val) (x : V) (Q : VK),
  RepSt X.K p s H → RepV X.K p H v x → post T X.K W (RepV X.K) p H σ (g v s) Q → r x H Q
section
variable {T : Tab} {W : WX} {X : Cx} {a b c : Expr} {ma mb mc : M Val} {pos : Pos}
theorem t2 {r : R2} {g : Val → Val → Sto → R Val} (sd : Snd2 T X W r g) {σ : L2.St} {H : Hp} {Q : VK} (h : tG T X.K W (RepV X.K) (bin ma mb g) σ H Q) :
    tOp r (tG T X.K W (RepV X.K) ma) (tG T X.K W (RepV X.K) mb) σ H Q := by
  obtain ⟨p, l, s, S, L, q⟩ := h
  refine ⟨p, l, s, S, L, ?_⟩
  have q1 := post.bd (rep := RepV X.K) q
  refine q1.imp fun x H1 ⟨p1, v, s1, e1, E1, S1, r1, q1⟩ => ?_
  refine ⟨p1, l, s1, S1, L.mono E1, ?_⟩
  refine (post.bd (rep := RepV X.K) q1).imp fun y H2 ⟨p2, w, s2, e2, E2, S2, r2, q2⟩ => ?_
  exact sd p2 s2 H2 σ v w x y Q S2 (r1.mono E2) r2 q2
end
section
variable {T : Tab} {W : WX} {X : Cx} {a b c : Expr} {ma mb mc : M Val} {pos : Pos}
theorem t1 {r : V → Hp → VK → Prop} {g : Val → Sto → R Val} (sd : Snd1 T X W r g) {σ : L2.St} {H : Hp} {Q : VK} (h : tG T X.K W (RepV X.K) (una ma g) σ H Q) : tUn r (tG T X.K W (RepV X.K) ma) σ H Q := by
  obtain ⟨p, l, s, S, L, q⟩ := h
  refine ⟨p, l, s, S, L, ?_⟩
  exact (post.bd (rep := RepV X.K) q).imp fun x H1 ⟨p1, v, s1, e1, E1, S1, r1, q1⟩ => sd p1 s1 H1 σ v x Q S1 r1 q1
theorem c_op {op : Operator} {r : R2} {g : Val → Val → Sto → R Val} (ho : OpR X (binaryOp op) r) (sd : Snd2 T X W r g) (ha : CE T W X a ma) (hb : CE T W X b mb) : CE T W X (.BinOp a op b pos) (bin ma mb g) :=
  PEw (pe_op ho ha hb) fun _ _ _ h => t2 sd h
theorem c_un {op : UnaryOp} {r : V → Hp → VK → Prop} {g : Val → Sto → R Val} (ho : UnR X (unaryOp op) r) (sd : Snd1 T X W r g) (ha : CE T W X a ma) : CE T W X (.UnaryOp op a pos) (una ma g) :=
  PEw (pe_un ho ha) fun _ _ _ h => t1 sd h
theorem c_cmp {op : CmpOp} {r : R2} {g : Val → Val → Sto → R Val} (ho : OpR X (compareOp op) r) (sd : Snd2 T X W r g) (ha : CE T W X a ma) (hb : CE T W X b mb) (hm : behindInMarks op b = false) : CE T W X (.Compare a [op] [b] pos) (bin ma mb g) :=
  PEw (pe_cmpR ho ha hb hm) fun _ _ _ h => t2 sd h
/-- a value that must be a bool -/
def asB (m : M Val) : M Bool := fun l s => (m l s).bd fun v s1 => match v with
  | .bl b => .ok b s1
  | _ => .bad
theorem tB_of {σ : L2.St} {H : Hp} {Q : Bool → Hp → Prop} {m : M Val} (h : tG T X.K W rB (asB m) σ H Q) : tG T X.K W (RepV X.K) m σ H fun x H1 => ∃ c, x = .bl c ∧ Q c H1 := by
  obtain ⟨p, l, s, S, L, q⟩ := h
  refine ⟨p, l, s, S, L, ?_⟩
  refine (post.bd (rep := RepV X.K) q).imp fun x H1 ⟨p1, v, s1, e1, E1, S1, r1, q1⟩ => ?_
  cases v with
  | bl b => cases r1; exact ⟨b, rfl, q1.pure S1 rfl⟩
  | _ => exact q1.elim
theorem ct_cmp {op : CmpOp} {r : R2} {g : Val → Val → Sto → R Val} (ho : OpR X (compareOp op) r) (sd : Snd2 T X W r g) (ha : CE T W X a ma) (hb : CE T W X b mb) (hm : behindInMarks op b = false) : CT T W X (.Compare a [op] [b] pos) (asB (bin ma mb g)) := by
  refine PTw (pt_cmpR ho ha hb hm) fun σ H Q h => ?_
  exact t2 sd (tB_of h)
/-- an expression whose value is a bool, as a test -/
theorem ct_val (ha : CE T W X a ma) (he : ∀ whole, isTrue a X.env whole = (do let v ← whole; standAt a.pos; holding [v] (truthy v)) := by intro _; rfl) : CT T W X a (asB ma) :=
  PTw (pt_val ha he) fun σ H Q h => tB_of h
/-- any value's truth -/
def truV (v : Val) (s : Sto) : R Bool := match v with
  | .non => .ok false s
  | .bl b => .ok b s
  | .int i => .ok (i != 0) s
  | .str y => if y.length ≤ 16777216 then .ok ((y.length : Int) != 0) s else .bad
  | .tup xs => .ok (!xs.isEmpty) s
  | v => match deref s v with
    | some xs => .ok (!xs.isEmpty) s
    | none => .bad
def tru (m : M Val) : M Bool := fun l s => (m l s).bd truV
theorem RepVs.emp {K : PySem.W.Frag} {p : Pl} {H : Hp} {xs : List Val} {ys : List V} (r : RepVs K p H xs ys) : ys.isEmpty = xs.isEmpty := by
  cases r <;> rfl
theorem tru_of {p : Pl} {s : Sto} {H : Hp} {σ : L2.St} {v : Val} {x : V} {Q : Bool → Hp → Prop} (S : RepSt X.K p s H) (r : RepV X.K p H v x) (q : post T X.K W rB p H σ (truV v s) Q) : ∃ k, TruV X.K x H k ∧ Q k H := by
  have sq : ∀ {xs : List Val}, deref s v = some xs → post T X.K W rB p H σ (.ok (!xs.isEmpty) s) Q → ∃ k, TruV X.K x H k ∧ Q k H := fun {xs} e q => by
    obtain ⟨a, ys, rfl, sq, rs⟩ := r.asLst S e
    exact ⟨_, .inl ⟨ys, sq, rfl⟩, by rw [rs.emp]; exact q.pure S rfl⟩
  cases v with
  | non => cases r; exact ⟨_, rfl, q.pure S rfl⟩
  | bl b => cases r; exact ⟨_, rfl, q.pure S rfl⟩
  | int i => cases r; exact ⟨_, rfl, q.pure S rfl⟩
  | str y =>
    cases r
    have q' : post T X.K W rB p H σ (if y.length ≤ 16777216 then .ok ((y.length : Int) != 0) s else .bad) Q := q
    split at q'
    · rename_i hz
      exact ⟨_, ⟨by rw [sizeLine_eq]; exact hz, rfl⟩, q'.pure S rfl⟩
    · exact q'.elim
  | tup xs =>
    obtain ⟨a, ys, rfl, sq, rs⟩ := r.asTup
    exact ⟨_, .inr (.inl ⟨ys, sq, rfl⟩), by rw [rs.emp]; exact post.pure (v := !xs.isEmpty) q S rfl⟩
  | lst xs => exact sq rfl q
  | scr ns => exact sq rfl q
  | loc n =>
    have q' : post T X.K W rB p H σ (match deref s (.loc n) with | some xs => .ok (!xs.isEmpty) s | none => .bad) Q := q
    split at q'
    · rename_i xs e
      exact sq e q'
    · exact q'.elim
theorem ct_tru (ha : CE T W X a ma) (he : ∀ whole, isTrue a X.env whole = (do let v ← whole; standAt a.pos; holding [v] (truthy v)) := by intro _; rfl) : CT T W X a (tru ma) := by
  refine PTw (pt_truth ha he) fun σ H Q h => ?_
  obtain ⟨p, l, s, S, L, q⟩ := h
  refine ⟨p, l, s, S, L, ?_⟩
  exact (post.bd (rep := RepV X.K) q).imp fun x H1 ⟨p1, v, s1, e1, E1, S1, r1, q1⟩ => tru_of S1 r1 q1

/-! ### a < b < c -/
def chn (ma mb mc : M Val) (g g' : Val → Val → Sto → R Val) : M Val := fun l s => (ma l s).bd fun v s1 => (mb l s1).bd fun w s2 => (g v w s2).bd fun k s3 => match k with
  | .bl true => (mc l s3).bd fun z s4 => g' w z s4
  | .bl false => .ok (.bl false) s3
  | _ => .bad
theorem t3 {r r' : R2} {g g' : Val → Val → Sto → R Val} (sd : Snd2 T X W r g) (sd' : Snd2 T X W r' g') {σ : L2.St} {H : Hp} {Q : VK} (h : tG T X.K W (RepV X.K) (chn ma mb mc g g') σ H Q) :
    tChain r r' (tG T X.K W (RepV X.K) ma) (tG T X.K W (RepV X.K) mb) (tG T X.K W (RepV X.K) mc) σ H Q := by
  obtain ⟨p, l, s, S, L, q⟩ := h
  refine ⟨p, l, s, S, L, ?_⟩
  refine (post.bd (rep := RepV X.K) q).imp fun x H1 ⟨p1, v, s1, e1, E1, S1, r1, q1⟩ => ?_
  refine ⟨p1, l, s1, S1, L.mono E1, ?_⟩
  refine (post.bd (rep := RepV X.K) q1).imp fun y H2 ⟨p2, w, s2, e2, E2, S2, r2, q2⟩ => ?_
  refine sd p2 s2 H2 σ v w x y _ S2 (r1.mono E2) r2 ((post.bd (rep := RepV X.K) q2).imp fun z H3 ⟨p3, k, s3, e3, E3, S3, r3, q3⟩ => ?_)
  cases k with
  | bl b =>
    cases r3
    refine ⟨b, rfl, ?_⟩
    cases b with
    | true =>
      rw [if_pos rfl]
      refine ⟨p3, l, s3, S3, (L.mono E1).mono (E2.trans E3), ?_⟩
      refine (post.bd (rep := RepV X.K) q3).imp fun u H4 ⟨p4, z, s4, e4, E4, S4, r4, q4⟩ => ?_
      exact sd' p4 s4 H4 σ w z y u Q S4 (r2.mono (E3.trans E4)) r4 q4
    | false =>
      rw [if_neg Bool.false_ne_true]
      exact post.pure q3 S3 (.bl false)
  | _ => exact q3.elim
theorem c_chn {op op' : CmpOp} {r r' : R2} {g g' : Val → Val → Sto → R Val} (ho : OpR X (compareOp op) r) (ho' : OpR X (compareOp op') r') (sd : Snd2 T X W r g) (sd' : Snd2 T X W r' g') (ha : CE T W X a ma) (hb : CE T W X b mb) (hc : CE T W X c mc)
    (hm : lastMarks [op, op'] [b, c] = false := by with_unfolding_all rfl) : CE T W X (.Compare a [op, op'] [b, c] pos) (chn ma mb mc g g') := PEw (pe_chain ho ho' ha hb hc hm) fun _ _ _ h => t3 sd sd' h
theorem ct_chn {op op' : CmpOp} {r r' : R2} {g g' : Val → Val → Sto → R Val} (ho : OpR X (compareOp op) r) (ho' : OpR X (compareOp op') r') (sd : Snd2 T X W r g) (sd' : Snd2 T X W r' g') (ha : CE T W X a ma) (hb : CE T W X b mb) (hc : CE T W X c mc)
    (hm : lastMarks [op, op'] [b, c] = false := by with_unfolding_all rfl) : CT T W X (.Compare a [op, op'] [b, c] pos) (asB (chn ma mb mc g g')) := PTw (pt_chain ho ho' ha hb hc hm) fun _ _ _ h => t3 sd sd' (tB_of h)

/-! ### and, or, not -/
def andM (m n : M Bool) : M Bool := fun l s => (m l s).bd fun b s1 => if b = true then n l s1 else .ok false s1
def orM (m n : M Bool) : M Bool := fun l s => (m l s).bd fun b s1 => if b = true then .ok true s1 else n l s1
def notM (m : M Bool) : M Bool := fun l s => (m l s).bd fun b s1 => .ok (!b) s1
variable {tm tn : M Bool} {rest : List Expr}
theorem cw_and1 (ha : CT T W X a tm) : CW T W X (.BoolOp .And [a] pos) tm := pw_and1 ha
theorem cw_or1 (ha : CT T W X a tm) : CW T W X (.BoolOp .Or [a] pos) tm := pw_or1 ha
theorem cw_and (ha : CT T W X a tm) (hb : CW T W X (.BoolOp .And (b :: rest) pos) tn) : CW T W X (.BoolOp .And (a :: b :: rest) pos) (andM tm tn) := by
  refine PWw (pw_and ha hb) fun σ H Q h => ?_
  obtain ⟨p, l, s, S, L, q⟩ := h
  refine ⟨p, l, s, S, L, ?_⟩
  refine (post.bd (rep := rB) q).imp fun x H1 ⟨p1, v, s1, e1, E1, S1, r1, q1⟩ => ?_
  cases r1
  cases x with
  | true => rw [if_pos rfl] at q1 ⊢; exact ⟨p1, l, s1, S1, L.mono E1, q1⟩
  | false => rw [if_neg Bool.false_ne_true] at q1 ⊢; exact q1.pure S1 rfl
theorem cw_or (ha : CT T W X a tm) (hb : CW T W X (.BoolOp .Or (b :: rest) pos) tn) : CW T W X (.BoolOp .Or (a :: b :: rest) pos) (orM tm tn) := by
  refine PWw (pw_or ha hb) fun σ H Q h => ?_
  obtain ⟨p, l, s, S, L, q⟩ := h
  refine ⟨p, l, s, S, L, ?_⟩
  refine (post.bd (rep := rB) q).imp fun x H1 ⟨p1, v, s1, e1, E1, S1, r1, q1⟩ => ?_
  cases r1
  cases x with
  | false => rw [if_neg Bool.false_ne_true] at q1 ⊢; exact ⟨p1, l, s1, S1, L.mono E1, q1⟩
  | true => rw [if_pos rfl] at q1 ⊢; exact q1.pure S1 rfl
theorem ct_w (h : CW T W X a tm) : CT T W X a tm := PW.pt h
theorem ct_not (ha : CT T W X a tm) : CT T W X (.UnaryOp .Not a pos) (notM tm) := by
  refine PTw (pt_not ha) fun σ H Q h => ?_
  obtain ⟨p, l, s, S, L, q⟩ := h
  refine ⟨p, l, s, S, L, ?_⟩
  refine (post.bd (rep := rB) q).imp fun x H1 ⟨p1, v, s1, e1, E1, S1, r1, q1⟩ => ?_
  cases r1
  exact q1.pure S1 rfl
/-- as values: all bools -/
def andV (m n : M Val) : M Val := fun l s => (m l s).bd fun v s1 => match v with
  | .bl true => n l s1
  | .bl false => .ok (.bl false) s1
  | _ => .bad
def orV (m n : M Val) : M Val := fun l s => (m l s).bd fun v s1 => match v with
  | .bl true => .ok (.bl true) s1
  | .bl false => n l s1
  | _ => .bad
def notV (m : M Val) : M Val := una m fun v s => match v with
  | .bl b => .ok (.bl (!b)) s
  | _ => .bad
theorem c_one {op} (h : CE T W X a ma) : CE T W X (.BoolOp op [a] pos) ma := pe_one h
theorem c_and (ha : CE T W X a ma) (hb : CE T W X (.BoolOp .And (b :: rest) pos) mb) : CE T W X (.BoolOp .And (a :: b :: rest) pos) (andV ma mb) := by
  refine PEw (pe_and ha hb) fun σ H Q h => ?_
  obtain ⟨p, l, s, S, L, q⟩ := h
  refine ⟨p, l, s, S, L, ?_⟩
  refine (post.bd (rep := RepV X.K) q).imp fun x H1 ⟨p1, v, s1, e1, E1, S1, r1, q1⟩ => ?_
  cases v with
  | bl k =>
    cases r1
    refine ⟨k, rfl, ?_⟩
    cases k with
    | true => rw [if_pos rfl]; exact ⟨p1, l, s1, S1, L.mono E1, q1⟩
    | false => rw [if_neg Bool.false_ne_true]; exact post.pure q1 S1 (.bl false)
  | _ => exact q1.elim
theorem c_or (ha : CE T W X a ma) (hb : CE T W X (.BoolOp .Or (b :: rest) pos) mb) : CE T W X (.BoolOp .Or (a :: b :: rest) pos) (orV ma mb) := by
  refine PEw (pe_or ha hb) fun σ H Q h => ?_
  obtain ⟨p, l, s, S, L, q⟩ := h
  refine ⟨p, l, s, S, L, ?_⟩
  refine (post.bd (rep := RepV X.K) q).imp fun x H1 ⟨p1, v, s1, e1, E1, S1, r1, q1⟩ => ?_
  cases v with
  | bl k =>
    cases r1
    refine ⟨k, rfl, ?_⟩
    cases k with
    | false => rw [if_neg Bool.false_ne_true]; exact ⟨p1, l, s1, S1, L.mono E1, q1⟩
    | true => rw [if_pos rfl]; exact post.pure q1 S1 (.bl true)
  | _ => exact q1.elim
theorem c_not (ha : CE T W X a ma) : CE T W X (.UnaryOp .Not a pos) (notV ma) := by
  refine PEw (pe_not ha) fun σ H Q h => ?_
  obtain ⟨p, l, s, S, L, q⟩ := h
  refine ⟨p, l, s, S, L, ?_⟩
  refine (post.bd (rep := RepV X.K) q).imp fun x H1 ⟨p1, v, s1, e1, E1, S1, r1, q1⟩ => ?_
  cases v with
  | bl k => cases r1; exact ⟨k, rfl, post.pure q1 S1 (.bl _)⟩
  | _ => exact q1.elim
def ifV (t : M Bool) (m n : M Val) : M Val := fun l s => (t l s).bd fun b s1 => if b = true then m l s1 else n l s1
theorem c_if (hc : CT T W X c tm) (ha : CE T W X a ma) (hb : CE T W X b mb) : CE T W X (.IfExp c a b pos) (ifV tm ma mb) := by
  refine PEw (pe_ifExp hc ha hb) fun σ H Q h => ?_
  obtain ⟨p, l, s, S, L, q⟩ := h
  refine ⟨p, l, s, S, L, ?_⟩
  refine (post.bd (rep := rB) q).imp fun x H1 ⟨p1, v, s1, e1, E1, S1, r1, q1⟩ => ?_
  cases r1
  cases x with
  | true => rw [if_pos rfl] at q1 ⊢; exact ⟨p1, l, s1, S1, L.mono E1, q1⟩
  | false => rw [if_neg Bool.false_ne_true] at q1 ⊢; exact ⟨p1, l, s1, S1, L.mono E1, q1⟩
end

/-! ### lists of expressions, displays -/
def nilM : M (List Val) := fun _ s => .ok [] s
def consM (m : M Val) (n : M (List Val)) : M (List Val) := fun l s => (m l s).bd fun v s1 => (n l s1).bd fun vs s2 => .ok (v :: vs) s2
def tupM (n : M (List Val)) : M Val := fun l s => (n l s).bd fun vs s1 => if vs.length ≤ 16777216 then .ok (.tup vs) s1 else .bad
def lstM (n : M (List Val)) : M Val := fun l s => (n l s).bd fun vs s1 => if vs.length ≤ 16777216 then .ok (.lst vs) s1 else .bad
/-- a list that will change -/
def locM (n : M (List Val)) : M Val := fun l s => (n l s).bd fun vs s1 => if vs.length ≤ 16777216 then .ok (.loc s1.length) (s1 ++ [.lst vs]) else .bad
section
variable {T : Tab} {W : WX} {X : Cx} {e : Expr} {es : List Expr} {m : M Val} {n : M (List Val)} {pos : Pos}
theorem ca_nil : CA T W X [] nilM := PAw pa_nil fun σ H Q ⟨p, l, s, S, L, q⟩ => q.pure S .nil
theorem ca_cons (ha : CE T W X e m) (hr : CA T W X es n) (hs : starEach (e :: es) X.env = (false, eval e X.env) :: starEach es X.env := by rfl) : CA T W X (e :: es) (consM m n) := by
  refine PAw (pa_cons ha hr hs) fun σ H Q h => ?_
  obtain ⟨p, l, s, S, L, q⟩ := h
  refine ⟨p, l, s, S, L, ?_⟩
  refine (post.bd (rep := RepV X.K) q).imp fun x H1 ⟨p1, v, s1, e1, E1, S1, r1, q1⟩ => ?_
  refine ⟨p1, l, s1, S1, L.mono E1, ?_⟩
  refine (post.bd (rep := RepVs X.K) q1).imp fun xs H2 ⟨p2, vs, s2, e2, E2, S2, r2, q2⟩ => ?_
  exact q2.pure S2 (.cons (r1.mono E2) r2)
theorem c_tup {x1} (h : CA T W X es n) : CE T W X (.Tuple es x1 pos) (tupM n) := by
  refine PEw (pe_tup h) fun σ H Q h => ?_
  obtain ⟨p, l, s, S, L, q⟩ := h
  refine ⟨p, l, s, S, L, ?_⟩
  refine (post.bd (rep := RepVs X.K) q).imp fun xs H1 ⟨p1, vs, s1, e1, E1, S1, r1, q1⟩ => ?_
  split at q1
  · rename_i hz
    exact ⟨by rw [← r1.len, sizeLine_eq]; exact hz, fun a ha => q1.tup S1 r1 a ha⟩
  · exact q1.elim
theorem c_lst (h : CA T W X es n) : CE T W X (.List es pos) (lstM n) := by
  refine PEw (pe_lst h) fun σ H Q h => ?_
  obtain ⟨p, l, s, S, L, q⟩ := h
  refine ⟨p, l, s, S, L, ?_⟩
  refine (post.bd (rep := RepVs X.K) q).imp fun xs H1 ⟨p1, vs, s1, e1, E1, S1, r1, q1⟩ => ?_
  split at q1
  · rename_i hz
    exact ⟨by rw [← r1.len, sizeLine_eq]; exact hz, fun a ha => q1.lst S1 r1 a ha⟩
  · exact q1.elim
theorem c_loc (h : CA T W X es n) : CE T W X (.List es pos) (locM n) := by
  refine PEw (pe_lst h) fun σ H Q h => ?_
  obtain ⟨p, l, s, S, L, q⟩ := h
  refine ⟨p, l, s, S, L, ?_⟩
  refine (post.bd (rep := RepVs X.K) q).imp fun xs H1 ⟨p1, vs, s1, e1, E1, S1, r1, q1⟩ => ?_
  split at q1
  · rename_i hz
    exact ⟨by rw [← r1.len, sizeLine_eq]; exact hz, fun a ha => q1.loc S1 r1 a ha⟩
  · exact q1.elim
end
end Mn
set_option maxHeartbeats 4000000
/-! Mini3: operators, items, slices, built-in calls. -/
namespace Mn
open PySem PySem.Spec PyProof.Rows L2

/-- room for calls, and no guard is held -/
structure XOk (k : Nat) (X : Cx) : Prop where
  room : Room k X.A
  grd : X.A.guards = some []
theorem XOk.hu {k : Nat} {X : Cx} (h : XOk k X) : X.A.units + 64 < cLine := by have := h.room.un; omega

theorem opOr {X : Cx} {f : Value → Value → Sem Value} {r r' : R2} (h : OpR X f r) (h' : OpR X f r') : OpR X f (fun x y H Q => r x y H Q ∨ r' x y H Q) := by
  intro pins s σ H x y v u Q I rx ry q
  rcases q with q | q
  · exact h pins s σ H x y v u Q I rx ry q
  · exact h' pins s σ H x y v u Q I rx ry q
theorem line_ok {n : Nat} (h : n ≤ 16777216) : n ≤ sizeLine := by rw [sizeLine_eq]; exact h
section
variable {T : Tab} {W : WX} {X : Cx}

/-! ### + -/
def addV (v w : Val) (s : Sto) : R Val := match v with
  | .int i => match w with
    | .int j => .ok (.int (i + j)) s
    | _ => .bad
  | .str x => match w with
    | .str y => if x.length + y.length ≤ 16777216 then .ok (.str (x ++ y)) s else .bad
    | _ => .bad
  | .tup xs => match w with
    | .tup ys => if xs.length + ys.length ≤ 16777216 then .ok (.tup (xs ++ ys)) s else .bad
    | _ => .bad
  | v => match derefH s v, derefH s w with
    | some xs, some ys => if xs.length + ys.length ≤ 16777216 then .ok (.lst (xs ++ ys)) s else .bad
    | _, _ => .bad
def rAdd (K : PySem.W.Frag) : R2 := fun x y H Q => (∃ i j, x = .int i ∧ y = .int j ∧ Q (.int (i + j)) H) ∨ (∃ i j, x = .str i ∧ y = .str j ∧ i.length + j.length ≤ sizeLine ∧ Q (.str (i ++ j)) H) ∨ rCatA K x y H Q ∨ rCat x y H Q
theorem o_add : OpR X (binaryOp .Add) (rAdd X.K) := opOr op_add (opOr op_add_str (opOr op_catA op_cat))
theorem RepVs.nil_iff {K : PySem.W.Frag} {p : Pl} {H : Hp} {xs : List Val} {ys : List V} (r : RepVs K p H xs ys) : ys = [] ↔ xs = [] := by
  cases r <;> simp
theorem s_add : Snd2 T X W (rAdd X.K) addV := by
  intro p s H σ v w x y Q S r1 r2 q
  have hl : ∀ {xs ys : List Val}, derefH s v = some xs → derefH s w = some ys → xs.length + ys.length ≤ 16777216 → post T X.K W (RepV X.K) p H σ (.ok (.lst (xs ++ ys)) s) Q → rAdd X.K x y H Q := fun {xs ys} e1 e2 hz q => by
    obtain ⟨a, us, rfl, h1, rs⟩ := r1.asLstH S e1
    obtain ⟨b, ws, rfl, h2, rt⟩ := r2.asLstH S e2
    exact .inr (.inr (.inr ⟨a, b, us, ws, rfl, rfl, h1, h2, by rw [← rs.len, ← rt.len]; exact line_ok hz, fun c hc => q.lst S (rs.app rt) c hc⟩))
  have gen : post T X.K W (RepV X.K) p H σ (match derefH s v, derefH s w with | some xs, some ys => if xs.length + ys.length ≤ 16777216 then .ok (.lst (xs ++ ys)) s else .bad | _, _ => .bad) Q → rAdd X.K x y H Q := fun q => by
    split at q
    · rename_i xs ys e1 e2
      split at q
      · rename_i hz; exact hl e1 e2 hz q
      · exact q.elim
    · exact q.elim
  cases v with
  | int i =>
    cases w with
    | int j => cases r1; cases r2; exact .inl ⟨i, j, rfl, rfl, q.pure S (.int _)⟩
    | _ => exact q.elim
  | str z =>
    cases w with
    | str u =>
      cases r1; cases r2
      have q' : post T X.K W (RepV X.K) p H σ (if z.length + u.length ≤ 16777216 then .ok (.str (z ++ u)) s else .bad) Q := q
      split at q'
      · rename_i hz; exact .inr (.inl ⟨z, u, rfl, rfl, line_ok hz, q'.pure S (.str _)⟩)
      · exact q'.elim
    | _ => exact q.elim
  | tup xs =>
    cases w with
    | tup ys =>
      have q' : post T X.K W (RepV X.K) p H σ (if xs.length + ys.length ≤ 16777216 then .ok (.tup (xs ++ ys)) s else .bad) Q := q
      split at q'
      · rename_i hz
        obtain ⟨a, us, rfl, h1, rs⟩ := id r1.asTup
        obtain ⟨b, ws, rfl, h2, rt⟩ := id r2.asTup
        refine .inr (.inr (.inl ⟨a, b, us, ws, rfl, rfl, h1, h2, by rw [← rs.len, ← rt.len]; exact line_ok hz, fun e => ?_, fun _ e => ?_, fun _ _ c hc => q'.tup S (rs.app rt) c hc⟩))
        · have e' := rs.nil_iff.mp e
          subst e'
          exact post.pure q' S r2
        · have e' := rt.nil_iff.mp e
          subst e'
          rw [List.append_nil] at q'
          exact post.pure q' S r1
      · exact q'.elim
    | _ => exact q.elim
  | lst xs => exact gen q
  | loc n => exact gen q
  | scr ns => exact gen q
  | non => exact gen q
  | bl b => exact gen q

/-! ### -, *, //, %, ** of ints; k times a list, a tuple -/
def subV (v w : Val) (s : Sto) : R Val := match v with
  | .int i => match w with
    | .int j => .ok (.int (i - j)) s
    | _ => .bad
  | _ => .bad
theorem s_sub : Snd2 T X W (rI0 fun i j => .int (i - j)) subV := by
  intro p s H σ v w x y Q S r1 r2 q
  cases v with
  | int i =>
    cases w with
    | int j => cases r1; cases r2; exact ⟨i, j, rfl, rfl, q.pure S (.int _)⟩
    | _ => exact q.elim
  | _ => exact q.elim
def mulV (v w : Val) (s : Sto) : R Val := match w with
  | .int j => match v with
    | .int i => if i.natAbs.log2 + j.natAbs.log2 < 1000000 then .ok (.int (i * j)) s else .bad
    | .tup xs => if 2 ≤ j ∧ j ≤ 1000 ∧ xs.length ≤ 1000 ∧ xs.isEmpty = false then .ok (.tup (List.replicate j.toNat xs).flatten) s else .bad
    | v => match derefH s v with
      | some xs => if 0 ≤ j ∧ j < 1000000 ∧ xs.length * j.toNat ≤ 16777216 then .ok (.lst (List.replicate j.toNat xs).flatten) s else .bad
      | none => .bad
  | _ => .bad
def rMul (K : PySem.W.Frag) : R2 := fun x y H Q => rI CMulW (fun i j => .int (i * j)) x y H Q ∨ rRepT K x y H Q ∨ rRep x y H Q
theorem o_mul : OpR X (binaryOp .Mult) (rMul X.K) := opOr op_mulW (opOr op_repT op_rep)
theorem RepVs.rep {K : PySem.W.Frag} {p : Pl} {H : Hp} {xs : List Val} {ys : List V} (r : RepVs K p H xs ys) : ∀ n : Nat, RepVs K p H (List.replicate n xs).flatten (List.replicate n ys).flatten
  | 0 => .nil
  | n + 1 => by rw [List.replicate_succ, List.replicate_succ, List.flatten_cons, List.flatten_cons]; exact r.app (rep r n)
theorem s_mul : Snd2 T X W (rMul X.K) mulV := by
  intro p s H σ v w x y Q S r1 r2 q
  cases w with
  | int j =>
    cases r2
    have gen : post T X.K W (RepV X.K) p H σ (match derefH s v with | some xs => if 0 ≤ j ∧ j < 1000000 ∧ xs.length * j.toNat ≤ 16777216 then .ok (.lst (List.replicate j.toNat xs).flatten) s else .bad | none => .bad) Q → rMul X.K x (.int j) H Q := fun q => by
      split at q
      · rename_i xs e1
        split at q
        · rename_i hz
          obtain ⟨a, us, rfl, h1, rs⟩ := r1.asLstH S e1
          exact .inr (.inr ⟨a, j, us, rfl, rfl, h1, by omega, by omega, by rw [← rs.len]; exact line_ok hz.2.2, fun c hc => q.lst S (rs.rep _) c hc⟩)
        · exact q.elim
      · exact q.elim
    cases v with
    | int i =>
      cases r1
      have q' : post T X.K W (RepV X.K) p H σ (if i.natAbs.log2 + j.natAbs.log2 < 1000000 then .ok (.int (i * j)) s else .bad) Q := q
      split at q'
      · rename_i hz; exact .inl ⟨i, j, rfl, rfl, hz, q'.pure S (.int _)⟩
      · exact q'.elim
    | tup xs =>
      have q' : post T X.K W (RepV X.K) p H σ (if 2 ≤ j ∧ j ≤ 1000 ∧ xs.length ≤ 1000 ∧ xs.isEmpty = false then .ok (.tup (List.replicate j.toNat xs).flatten) s else .bad) Q := q
      split at q'
      · rename_i hz
        obtain ⟨a, us, rfl, h1, rs⟩ := r1.asTup
        refine .inr (.inl ⟨a, j, us, rfl, rfl, h1, fun e => ?_, hz.1, hz.2.1, by rw [← rs.len]; exact hz.2.2.1, fun c hc => q'.tup S (rs.rep _) c hc⟩)
        have e' := rs.nil_iff.mp e
        subst e'
        exact absurd hz.2.2.2 (by decide)
      · exact q'.elim
    | lst xs => exact gen q
    | loc n => exact gen q
    | scr ns => exact gen q
    | non => exact gen q
    | bl b => exact gen q
    | str z => exact gen q
  | _ => exact q.elim
/-- // by any number but 0 -/
def CDivZ (_ j : Int) : Prop := j ≠ 0 ∧ j.natAbs.log2 < 9000
theorem o_fdiv : OpR X (binaryOp .FloorDiv) (rI CDivZ fun i j => .int (i.fdiv j)) := opI fun i j _ _ _ _ _ hc q => floordiv_int hc.1 q (.inl (PyProof.noPylong_of_log2 hc.2))
def fdivV (v w : Val) (s : Sto) : R Val := match v with
  | .int i => match w with
    | .int j => if j ≠ 0 ∧ j.natAbs.log2 < 9000 then .ok (.int (i.fdiv j)) s else .bad
    | _ => .bad
  | _ => .bad
theorem s_fdiv : Snd2 T X W (rI CDivZ fun i j => .int (i.fdiv j)) fdivV := by
  intro p s H σ v w x y Q S r1 r2 q
  cases v with
  | int i =>
    cases w with
    | int j =>
      cases r1; cases r2
      have q' : post T X.K W (RepV X.K) p H σ (if j ≠ 0 ∧ j.natAbs.log2 < 9000 then .ok (.int (i.fdiv j)) s else .bad) Q := q
      split at q'
      · rename_i hz; exact ⟨i, j, rfl, rfl, hz, q'.pure S (.int _)⟩
      · exact q'.elim
    | _ => exact q.elim
  | _ => exact q.elim
def modV (v w : Val) (s : Sto) : R Val := match v with
  | .int i => match w with
    | .int j => if j ≠ 0 then .ok (.int (i.fmod j)) s else .bad
    | _ => .bad
  | _ => .bad
theorem s_mod : Snd2 T X W (rI (fun _ j => j ≠ 0) fun i j => .int (i.fmod j)) modV := by
  intro p s H σ v w x y Q S r1 r2 q
  cases v with
  | int i =>
    cases w with
    | int j =>
      cases r1; cases r2
      have q' : post T X.K W (RepV X.K) p H σ (if j ≠ 0 then .ok (.int (i.fmod j)) s else .bad) Q := q
      split at q'
      · rename_i hz; exact ⟨i, j, rfl, rfl, hz, q'.pure S (.int _)⟩
      · exact q'.elim
    | _ => exact q.elim
  | _ => exact q.elim
def powV (v w : Val) (s : Sto) : R Val := match v with
  | .int i => match w with
    | .int j => if 0 ≤ j ∧ j ≤ 1000000 ∧ i.natAbs < 18446744073709551616 then .ok (.int (i ^ j.toNat)) s else .bad
    | _ => .bad
  | _ => .bad
theorem s_pow : Snd2 T X W (rI CPow fun i j => .int (i ^ j.toNat)) powV := by
  intro p s H σ v w x y Q S r1 r2 q
  cases v with
  | int i =>
    cases w with
    | int j =>
      cases r1; cases r2
      have q' : post T X.K W (RepV X.K) p H σ (if 0 ≤ j ∧ j ≤ 1000000 ∧ i.natAbs < 18446744073709551616 then .ok (.int (i ^ j.toNat)) s else .bad) Q := q
      split at q'
      · rename_i hz; exact ⟨i, j, rfl, rfl, hz, q'.pure S (.int _)⟩
      · exact q'.elim
    | _ => exact q.elim
  | _ => exact q.elim
def negV (v : Val) (s : Sto) : R Val := match v with
  | .int i => .ok (.int (-i)) s
  | _ => .bad
theorem s_neg : Snd1 T X W (rU fun i => .int (-i)) negV := by
  intro p s H σ v x Q S r1 q
  cases v with
  | int i => cases r1; exact ⟨i, rfl, q.pure S (.int _)⟩
  | _ => exact q.elim

/-! ### comparisons of ints -/
def cmpV (f : Int → Int → Bool) (v w : Val) (s : Sto) : R Val := match v with
  | .int i => match w with
    | .int j => .ok (.bl (f i j)) s
    | _ => .bad
  | _ => .bad
theorem s_cmp {f : Int → Int → Bool} : Snd2 T X W (rI0 fun i j => .bl (f i j)) (cmpV f) := by
  intro p s H σ v w x y Q S r1 r2 q
  cases v with
  | int i =>
    cases w with
    | int j => cases r1; cases r2; exact ⟨i, j, rfl, rfl, q.pure S (.bl _)⟩
    | _ => exact q.elim
  | _ => exact q.elim
abbrev ltV := cmpV fun i j => decide (i < j)
abbrev leV := cmpV fun i j => decide (i ≤ j)
abbrev gtV := cmpV fun i j => decide (j < i)
abbrev geV := cmpV fun i j => decide (j ≤ i)

/-! ### ==, != of data -/
def eqV (v w : Val) (s : Sto) : R Val := match data s v, data s w with
  | some d, some e => if (SeqAt.shaped d && SeqAt.shaped e) = true then .ok (.bl (PyData.eqv d e)) s else .bad
  | _, _ => .bad
def neV (v w : Val) (s : Sto) : R Val := match data s v, data s w with
  | some d, some e => if (SeqAt.shaped d && SeqAt.shaped e) = true then .ok (.bl (!PyData.eqv d e)) s else .bad
  | _, _ => .bad
theorem s_eq : Snd2 T X W (rEqD X.K) eqV := by
  intro p s H σ v w x y Q S r1 r2 q
  unfold eqV at q
  split at q
  · rename_i d e e1 e2
    split at q
    · rename_i hz
      rw [Bool.and_eq_true] at hz
      exact ⟨d, e, r1.dp S e1, r2.dp S e2, hz.1, hz.2, q.pure S (.bl _)⟩
    · exact q.elim
  · exact q.elim
theorem s_ne : Snd2 T X W (rNeD X.K) neV := by
  intro p s H σ v w x y Q S r1 r2 q
  unfold neV at q
  split at q
  · rename_i d e e1 e2
    split at q
    · rename_i hz
      rw [Bool.and_eq_true] at hz
      exact ⟨d, e, r1.dp S e1, r2.dp S e2, hz.1, hz.2, q.pure S (.bl _)⟩
    · exact q.elim
  · exact q.elim
/-! ### is None, is True -/
def isNon : Val → Bool
  | .non => true
  | _ => false
theorem RepV.isNon {K : PySem.W.Frag} {p : Pl} {H : Hp} {v : Val} {x : V} (r : RepV K p H v x) : decide (x = .non) = Mn.isNon v := by
  cases r <;> simp [Mn.isNon]
def isNV (v w : Val) (s : Sto) : R Val := match w with
  | .non => .ok (.bl (isNon v)) s
  | _ => .bad
def notNV (v w : Val) (s : Sto) : R Val := match w with
  | .non => .ok (.bl (!isNon v)) s
  | _ => .bad
theorem s_isN : Snd2 T X W (fun x y H Q => y = .non ∧ Q (.bl (decide (x = .non))) H) isNV := by
  intro p s H σ v w x y Q S r1 r2 q
  cases w with
  | non => cases r2; exact ⟨rfl, by rw [r1.isNon]; exact q.pure S (.bl _)⟩
  | _ => exact q.elim
theorem s_notN : Snd2 T X W (fun x y H Q => y = .non ∧ Q (.bl (!decide (x = .non))) H) notNV := by
  intro p s H σ v w x y Q S r1 r2 q
  cases w with
  | non => cases r2; exact ⟨rfl, by rw [r1.isNon]; exact q.pure S (.bl _)⟩
  | _ => exact q.elim
def isBV (v w : Val) (s : Sto) : R Val := match v with
  | .bl a => match w with
    | .bl b => .ok (.bl (decide (a = b))) s
    | _ => .bad
  | _ => .bad
def notBV (v w : Val) (s : Sto) : R Val := match v with
  | .bl a => match w with
    | .bl b => .ok (.bl (!decide (a = b))) s
    | _ => .bad
  | _ => .bad
theorem s_isB : Snd2 T X W rIsB isBV := by
  intro p s H σ v w x y Q S r1 r2 q
  cases v with
  | bl a =>
    cases w with
    | bl b => cases r1; cases r2; exact ⟨a, b, rfl, rfl, q.pure S (.bl _)⟩
    | _ => exact q.elim
  | _ => exact q.elim
theorem s_notB : Snd2 T X W rNotB notBV := by
  intro p s H σ v w x y Q S r1 r2 q
  cases v with
  | bl a =>
    cases w with
    | bl b => cases r1; cases r2; exact ⟨a, b, rfl, rfl, q.pure S (.bl _)⟩
    | _ => exact q.elim
  | _ => exact q.elim

/-! ### items, slices -/
def getO {α β : Type} (o : Option α) (f : α → R β) : R β := match o with
  | some a => f a
  | none => .bad
theorem post.getO {α β γ : Type} {T : Tab} {K : PySem.W.Frag} {W : WX} {rep : Rel β γ} {p : Pl} {H : Hp} {σ : L2.St} {o : Option α} {f : α → R β} {Q : γ → Hp → Prop} (h : post T K W rep p H σ (Mn.getO o f) Q) : ∃ a, o = some a ∧ post T K W rep p H σ (f a) Q := by
  cases o with
  | some a => exact ⟨a, rfl, h⟩
  | none => exact h.elim
def ixV (v w : Val) (s : Sto) : R Val := match w with
  | .int i => match v with
    | .tup xs => getO (atI xs i) fun y => .ok y s
    | .str z => if z.length ≤ 16777216 then getO (atI z.cps.toList i) fun c => .ok (.str ⟨#[c]⟩) s else .bad
    | v => getO (deref s v) fun xs => getO (atI xs i) fun y => .ok y s
  | _ => .bad
theorem s_ix : Snd2 T X W (rIx X.K) ixV := by
  intro p s H σ v w x y Q S r1 r2 q
  cases w with
  | int i =>
    cases r2
    have gen : post T X.K W (RepV X.K) p H σ (getO (deref s v) fun xs => getO (atI xs i) fun y => .ok y s) Q → rIx X.K x (.int i) H Q := fun q => by
      obtain ⟨xs, e1, q⟩ := q.getO
      obtain ⟨z, e2, q⟩ := q.getO
      obtain ⟨a, us, rfl, h1, rs⟩ := r1.asLst S e1
      obtain ⟨u, e3, ru⟩ := rs.atI e2
      exact .inl ⟨a, us, i, u, rfl, rfl, h1, e3, q.pure S ru⟩
    cases v with
    | tup xs =>
      obtain ⟨z, e2, q'⟩ := post.getO (f := fun y => R.ok y s) (show post T X.K W (RepV X.K) p H σ (getO (atI xs i) fun y => .ok y s) Q from q)
      obtain ⟨a, us, rfl, h1, rs⟩ := r1.asTup
      obtain ⟨u, e3, ru⟩ := rs.atI e2
      exact .inr (.inl ⟨a, us, i, u, rfl, rfl, h1, e3, q'.pure S ru⟩)
    | str z =>
      cases r1
      have q' : post T X.K W (RepV X.K) p H σ (if z.length ≤ 16777216 then getO (atI z.cps.toList i) fun c => .ok (.str ⟨#[c]⟩) s else .bad) Q := q
      split at q'
      · rename_i hz
        obtain ⟨c, e2, q'⟩ := q'.getO
        exact .inr (.inr ⟨z, i, c, rfl, rfl, line_ok hz, e2, q'.pure S (.str _)⟩)
      · exact q'.elim
    | lst xs => exact gen q
    | loc n => exact gen q
    | scr ns => exact gen q
    | non => exact gen q
    | bl b => exact gen q
    | int i => exact gen q
  | _ => exact q.elim
theorem c_ix {a b : Expr} {ma mb : M Val} {pos : Pos} (ha : CE T W X a ma) (hb : CE T W X b mb) (hs : PlainIx b := by exact fun _ _ => rfl) : CE T W X (.Subscript a b pos) (bin ma mb ixV) :=
  PEw (pe_ix ix_seq ha hb hs) fun _ _ _ h => t2 s_ix h
def cutL {α : Type} (xs : List α) (lo hi : Option Int) : List α := (xs.drop (HT.sIx xs.length 0 lo)).take (HT.sIx xs.length xs.length hi - HT.sIx xs.length 0 lo)
theorem cut_all {α : Type} (xs : List α) (lo hi : Option Int) (h : HT.sIx xs.length 0 lo = 0 ∧ HT.sIx xs.length xs.length hi = xs.length) : cutL xs lo hi = xs := by
  unfold cutL
  rw [h.1, h.2, Nat.sub_zero, List.drop_zero, List.take_length]
theorem RepVs.cut {K : PySem.W.Frag} {p : Pl} {H : Hp} {xs : List Val} {ys : List V} (r : RepVs K p H xs ys) (lo hi : Option Int) : RepVs K p H (cutL xs lo hi) (cutV ys lo hi) := by
  unfold cutL cutV
  rw [r.len]
  exact (r.drop _).take _
def slV (v : Val) (lo hi : Option Int) (s : Sto) : R Val := match v with
  | .tup xs => .ok (.tup (cutL xs lo hi)) s
  | .str z => if z.length ≤ 16777216 then .ok (.str (cutS z lo hi)) s else .bad
  | v => match deref s v with
    | some xs => .ok (.lst (cutL xs lo hi)) s
    | none => .bad
def rSl (K : PySem.W.Frag) : V → Option Int → Option Int → Hp → VK → Prop := fun x lo hi H Q => rSlL K x lo hi H Q ∨ rSlA K x lo hi H Q ∨ rSlS x lo hi H Q
theorem o_sl : SlR X (rSl X.K) := sl_list.or (sl_tupA.or sl_str)
abbrev rEq {α : Type} : Rel α α := fun _ _ a b => b = a
def CO (T : Tab) (W : WX) (X : Cx) (e : Option Expr) (m : M (Option Int)) : Prop := PO X e (tG T X.K W rEq m)
theorem POw {e : Option Expr} {t t' : TO} (h : PO X e t) (w : ∀ σ H Q, t' σ H Q → t σ H Q) : PO X e t' := ⟨fun pins s σ H Q I q => h.run pins s σ H Q I (w _ _ _ q)⟩
def noP : M (Option Int) := fun _ s => .ok none s
def someP (m : M Val) : M (Option Int) := fun l s => (m l s).bd fun v s1 => match v with
  | .int i => .ok (some i) s1
  | _ => .bad
theorem co_none : CO T W X none noP := POw po_none fun σ H Q ⟨p, l, s, S, L, q⟩ => q.pure S rfl
theorem co_some {e : Expr} {m : M Val} (h : CE T W X e m) : CO T W X (some e) (someP m) := by
  refine POw (po_some h) fun σ H Q h => ?_
  obtain ⟨p, l, s, S, L, q⟩ := h
  refine ⟨p, l, s, S, L, ?_⟩
  refine (post.bd (rep := RepV X.K) q).imp fun x H1 ⟨p1, v, s1, e1, E1, S1, r1, q1⟩ => ?_
  cases v with
  | int i => cases r1; exact ⟨i, rfl, q1.pure S1 rfl⟩
  | _ => exact q1.elim
def slM (ma : M Val) (ml mh : M (Option Int)) : M Val := fun l s => (ma l s).bd fun v s1 => (ml l s1).bd fun lo s2 => (mh l s2).bd fun hi s3 => slV v lo hi s3
theorem c_sl {a : Expr} {el eh : Option Expr} {ma : M Val} {ml mh : M (Option Int)} {p2 pos : Pos} (ha : CE T W X a ma) (hl : CO T W X el ml) (hh : CO T W X eh mh) : CE T W X (.Subscript a (.Slice el eh none p2) pos) (slM ma ml mh) := by
  refine PEw (pe_slice o_sl ha hl hh) fun σ H Q h => ?_
  obtain ⟨p, l, s, S, L, q⟩ := h
  refine ⟨p, l, s, S, L, ?_⟩
  refine (post.bd (rep := RepV X.K) q).imp fun x H1 ⟨p1, v, s1, e1, E1, S1, r1, q1⟩ => ?_
  refine ⟨p1, l, s1, S1, L.mono E1, ?_⟩
  refine (post.bd (rep := rEq) q1).imp fun o2 H2 ⟨p2, vlo, s2, e2, E2, S2, r2, q2⟩ => ?_
  cases r2
  refine ⟨p2, l, s2, S2, (L.mono E1).mono E2, ?_⟩
  refine (post.bd (rep := rEq) q2).imp fun o3 H3 ⟨p3, vhi, s3, e3, E3, S3, r3, q3⟩ => ?_
  cases r3
  have r := r1.mono (E2.trans E3)
  have gen : post T X.K W (RepV X.K) p3 H3 σ (match deref s3 v with | some xs => .ok (.lst (cutL xs o2 o3)) s3 | none => .bad) Q → rSl X.K x o2 o3 H3 Q := fun q => by
    split at q
    · rename_i xs e1
      obtain ⟨a, us, rfl, h1, rs⟩ := r.asLst S3 e1
      exact .inl ⟨a, us, rfl, h1, fun c hc => q.lst S3 (rs.cut o2 o3) c hc⟩
    · exact q.elim
  cases v with
  | tup xs =>
    have q' : post T X.K W (RepV X.K) p3 H3 σ (.ok (.tup (cutL xs o2 o3)) s3) Q := q3
    obtain ⟨a, us, rfl, h1, rs⟩ := id r.asTup
    refine .inr (.inl ⟨a, us, rfl, h1, fun hw => ?_, fun _ c hc => q'.tup S3 (rs.cut o2 o3) c hc⟩)
    rw [← rs.len] at hw
    rw [cut_all xs o2 o3 hw] at q'
    exact q'.pure S3 r
  | str z =>
    cases r
    have q' : post T X.K W (RepV X.K) p3 H3 σ (if z.length ≤ 16777216 then .ok (.str (cutS z o2 o3)) s3 else .bad) Q := q3
    split at q'
    · rename_i hz; exact .inr (.inr ⟨z, rfl, line_ok hz, q'.pure S3 (.str _)⟩)
    · exact q'.elim
  | lst xs => exact gen q3
  | loc n => exact gen q3
  | scr ns => exact gen q3
  | non => exact gen q3
  | bl b => exact gen q3
  | int i => exact gen q3

/-! ### built-in calls -/
def SndL (T : Tab) (X : Cx) (W : WX) (r : List V → Hp → VK → Prop) (g : List Val → Sto → R Val) : Prop := ∀ (p : Pl) (s : Sto) (H : Hp) (σ : L2.St) (vs : List Val) (xs : List V) (Q : VK),
  RepSt X.K p s H → RepVs X.K p H vs xs → post T X.K W (RepV X.K) p H σ (g vs s) Q → r xs H Q
def callG (n : M (List Val)) (g : List Val → Sto → R Val) : M Val := fun l s => (n l s).bd g
theorem tL {r : List V → Hp → VK → Prop} {g : List Val → Sto → R Val} {n : M (List Val)} (sd : SndL T X W r g) {σ : L2.St} {H : Hp} {Q : VK} (h : tG T X.K W (RepV X.K) (callG n g) σ H Q) : tCB r (tG T X.K W (RepVs X.K) n) σ H Q := by
  obtain ⟨p, l, s, S, L, q⟩ := h
  refine ⟨p, l, s, S, L, ?_⟩
  exact (post.bd (rep := RepVs X.K) q).imp fun x H1 ⟨p1, v, s1, e1, E1, S1, r1, q1⟩ => sd p1 s1 H1 σ v x Q S1 r1 q1
variable {x : Str} {pf pos : Pos} {e : Expr} {es : List Expr} {n : M (List Val)} {bid tyn : String} {r : List V → Hp → VK → Prop} {g : List Val → Sto → R Val}
theorem c_callB (hc : CallR X (.builtin bid) r) (sd : SndL T X W r g) (hg : Gl X x) (hm : X.mg x = none) (hv : bootBuiltins x = some (.builtin bid)) (ha : CA T W X (e :: es) n) (hn : x ≠ "__name__" := by decide) (hdb : (x == ("__debug__" : Str)) = false := by decide)
    (he : starEach (e :: es) X.env = (false, eval e X.env) :: starEach es X.env := by rfl) (hpl : (backTo pos (starEach es X.env)).any (·.1) = false := by rfl) : CE T W X (.Call (.Name x pf) (e :: es) [] pos) (callG n g) :=
  PEw (pe_callB hc hg hm hv ha hn hdb he hpl) fun _ _ _ h => tL sd h
theorem c_callTy (hc : CallR X (.type tyn) r) (sd : SndL T X W r g) (hg : Gl X x) (hm : X.mg x = none) (hv : bootBuiltins x = some (.type tyn)) (ha : CA T W X (e :: es) n) (hn : x ≠ "__name__" := by decide) (hdb : (x == ("__debug__" : Str)) = false := by decide)
    (he : starEach (e :: es) X.env = (false, eval e X.env) :: starEach es X.env := by rfl) (hpl : (backTo pos (starEach es X.env)).any (·.1) = false := by rfl) : CE T W X (.Call (.Name x pf) (e :: es) [] pos) (callG n g) :=
  PEw (pe_callTy hc hg hm hv ha hn hdb he hpl) fun _ _ _ h => tL sd h
theorem c_callF (hc : CallR X (.builtin bid) r) (sd : SndL T X W r g) (hg : Gl X x) (hm : X.mg x = some (.builtin bid)) (ha : CA T W X (e :: es) n) (hdb : (x == ("__debug__" : Str)) = false := by decide)
    (he : starEach (e :: es) X.env = (false, eval e X.env) :: starEach es X.env := by rfl) (hpl : (backTo pos (starEach es X.env)).any (·.1) = false := by rfl) : CE T W X (.Call (.Name x pf) (e :: es) [] pos) (callG n g) :=
  PEw (pe_callBfun hc hg hm ha hdb he hpl) fun _ _ _ h => tL sd h
/-- by the arguments' count -/
def g1 (f : Val → Sto → R Val) (vs : List Val) (s : Sto) : R Val := match vs with
  | [v] => f v s
  | _ => .bad
def g2 (f : Val → Val → Sto → R Val) (vs : List Val) (s : Sto) : R Val := match vs with
  | [v, w] => f v w s
  | _ => .bad
theorem snd1 {f : Val → Sto → R Val} {r : List V → Hp → VK → Prop} (h : ∀ (p : Pl) (s : Sto) (H : Hp) (σ : L2.St) (v : Val) (x : V) (Q : VK), RepSt X.K p s H → RepV X.K p H v x → post T X.K W (RepV X.K) p H σ (f v s) Q → r [x] H Q) : SndL T X W r (g1 f) := by
  intro p s H σ vs xs Q S rs q
  cases rs with
  | nil => exact q.elim
  | cons r1 rs =>
    cases rs with
    | nil => exact h p s H σ _ _ Q S r1 q
    | cons _ _ => exact q.elim
theorem snd2 {f : Val → Val → Sto → R Val} {r : List V → Hp → VK → Prop} (h : ∀ (p : Pl) (s : Sto) (H : Hp) (σ : L2.St) (v w : Val) (x y : V) (Q : VK), RepSt X.K p s H → RepV X.K p H v x → RepV X.K p H w y → post T X.K W (RepV X.K) p H σ (f v w s) Q → r [x, y] H Q) : SndL T X W r (g2 f) := by
  intro p s H σ vs xs Q S rs q
  cases rs with
  | nil => exact q.elim
  | cons r1 rs =>
    cases rs with
    | nil => exact q.elim
    | cons r2 rs =>
      cases rs with
      | nil => exact h p s H σ _ _ _ _ Q S r1 r2 q
      | cons _ _ => exact q.elim
def absV (v : Val) (s : Sto) : R Val := match v with
  | .int i => .ok (.int (if i < 0 then -i else i)) s
  | _ => .bad
theorem s_abs : SndL T X W (fun xs H Q => ∃ i, xs = [V.int i] ∧ Q (.int (if i < 0 then -i else i)) H) (g1 absV) := snd1 fun p s H σ v x Q S r1 q => by
  cases v with
  | int i => cases r1; exact ⟨i, rfl, q.pure S (.int _)⟩
  | _ => exact q.elim
def maxV (v w : Val) (s : Sto) : R Val := match v with
  | .int i => match w with
    | .int j => .ok (.int (if j > i then j else i)) s
    | _ => .bad
  | _ => .bad
def minV (v w : Val) (s : Sto) : R Val := match v with
  | .int i => match w with
    | .int j => .ok (.int (if j < i then j else i)) s
    | _ => .bad
  | _ => .bad
theorem s_max2 : SndL T X W (fun xs H Q => ∃ i j, xs = [V.int i, V.int j] ∧ Q (.int (if j > i then j else i)) H) (g2 maxV) := snd2 fun p s H σ v w x y Q S r1 r2 q => by
  cases v with
  | int i =>
    cases w with
    | int j => cases r1; cases r2; exact ⟨i, j, rfl, q.pure S (.int _)⟩
    | _ => exact q.elim
  | _ => exact q.elim
theorem s_min2 : SndL T X W (fun xs H Q => ∃ i j, xs = [V.int i, V.int j] ∧ Q (.int (if j < i then j else i)) H) (g2 minV) := snd2 fun p s H σ v w x y Q S r1 r2 q => by
  cases v with
  | int i =>
    cases w with
    | int j => cases r1; cases r2; exact ⟨i, j, rfl, q.pure S (.int _)⟩
    | _ => exact q.elim
  | _ => exact q.elim
def intV (v : Val) (s : Sto) : R Val := match v with
  | .int i => .ok (.int i) s
  | .bl b => .ok (.int (if b then 1 else 0)) s
  | .str z => getO (PySem.intText? z) fun n => if z.length ≤ 640 then .ok (.int n) s else .bad
  | _ => .bad
theorem o_int : CallR X (.type "int") (fun xs H Q => ((∃ i, xs = [V.int i] ∧ Q (.int i) H) ∨ ∃ k : Bool, xs = [V.bl k] ∧ Q (.int (if k then 1 else 0)) H) ∨ ∃ a n, xs = [V.str a] ∧ PySem.intText? a = some n ∧ a.length ≤ 640 ∧ Q (.int n) H) := call_int1.or call_int_str
theorem s_int : SndL T X W (fun xs H Q => ((∃ i, xs = [V.int i] ∧ Q (.int i) H) ∨ ∃ k : Bool, xs = [V.bl k] ∧ Q (.int (if k then 1 else 0)) H) ∨ ∃ a n, xs = [V.str a] ∧ PySem.intText? a = some n ∧ a.length ≤ 640 ∧ Q (.int n) H) (g1 intV) := snd1 fun p s H σ v x Q S r1 q => by
  cases v with
  | int i => cases r1; exact .inl (.inl ⟨i, rfl, q.pure S (.int _)⟩)
  | bl b => cases r1; exact .inl (.inr ⟨b, rfl, q.pure S (.int _)⟩)
  | str z =>
    cases r1
    obtain ⟨n, e, q'⟩ := post.getO (show post T X.K W (RepV X.K) p H σ (getO (PySem.intText? z) fun n => if z.length ≤ 640 then .ok (.int n) s else .bad) Q from q)
    split at q'
    · rename_i hz; exact .inr ⟨z, n, rfl, e, hz, q'.pure S (.int _)⟩
    · exact q'.elim
  | _ => exact q.elim
def lenV (v : Val) (s : Sto) : R Val := match v with
  | .tup xs => .ok (.int xs.length) s
  | .str z => if z.length ≤ 16777216 then .ok (.int z.length) s else .bad
  | v => match deref s v with
    | some xs => .ok (.int xs.length) s
    | none => .bad
theorem s_len : SndL T X W (fun xs H Q => ∃ x n, xs = [x] ∧ LenV X.K x H n ∧ Q (.int n) H) (g1 lenV) := snd1 fun p s H σ v x Q S r1 q => by
  have gen : post T X.K W (RepV X.K) p H σ (match deref s v with | some xs => .ok (.int xs.length) s | none => .bad) Q → ∃ y n, [x] = [y] ∧ LenV X.K y H n ∧ Q (.int n) H := fun q => by
    split at q
    · rename_i xs e
      obtain ⟨a, us, rfl, h1, rs⟩ := r1.asLst S e
      exact ⟨_, xs.length, rfl, .inl ⟨us, h1, rs.len⟩, q.pure S (.int _)⟩
    · exact q.elim
  cases v with
  | tup xs =>
    obtain ⟨a, us, rfl, h1, rs⟩ := r1.asTup
    exact ⟨_, xs.length, rfl, .inr ⟨us, h1, rs.len⟩, post.pure (v := Val.int xs.length) q S (.int _)⟩
  | str z =>
    cases r1
    have q' : post T X.K W (RepV X.K) p H σ (if z.length ≤ 16777216 then .ok (.int z.length) s else .bad) Q := q
    split at q'
    · rename_i hz; exact ⟨_, z.length, rfl, ⟨line_ok hz, rfl⟩, q'.pure S (.int _)⟩
    · exact q'.elim
  | lst xs => exact gen q
  | loc n => exact gen q
  | scr ns => exact gen q
  | non => exact gen q
  | bl b => exact gen q
  | int i => exact gen q
def dmV (v w : Val) (s : Sto) : R Val := match v with
  | .int i => match w with
    | .int j => if 0 < j ∧ j < 1073741824 then .ok (.tup [.int (i / j), .int (i % j)]) s else .bad
    | _ => .bad
  | _ => .bad
theorem s_dm : SndL T X W (fun xs H Q => ∃ i j, xs = [V.int i, V.int j] ∧ CDiv i j ∧ ∀ p, H p = none → Q (.ref p) (upd H p (.tup [.int (i / j), .int (i % j)]))) (g2 dmV) := snd2 fun p s H σ v w x y Q S r1 r2 q => by
  cases v with
  | int i =>
    cases w with
    | int j =>
      cases r1; cases r2
      have q' : post T X.K W (RepV X.K) p H σ (if 0 < j ∧ j < 1073741824 then .ok (.tup [.int (i / j), .int (i % j)]) s else .bad) Q := q
      split at q'
      · rename_i hz; exact ⟨i, j, rfl, hz, fun c hc => q'.tup S (.cons (.int _) (.cons (.int _) .nil)) c hc⟩
      · exact q'.elim
    | _ => exact q.elim
  | _ => exact q.elim
def gcdV (v w : Val) (s : Sto) : R Val := match v with
  | .int i => match w with
    | .int j => .ok (.int ((Nat.gcd i.natAbs j.natAbs : Nat) : Int)) s
    | _ => .bad
  | _ => .bad
theorem s_gcd : SndL T X W rGcd (g2 gcdV) := snd2 fun p s H σ v w x y Q S r1 r2 q => by
  cases v with
  | int i =>
    cases w with
    | int j => cases r1; cases r2; exact ⟨i, j, rfl, q.pure S (.int _)⟩
    | _ => exact q.elim
  | _ => exact q.elim
def boolsOf : List Val → Option (List Bool)
  | [] => some []
  | .bl b :: vs => match boolsOf vs with
    | some bs => some (b :: bs)
    | none => none
  | _ :: _ => none
theorem boolsOf_eq : ∀ {vs : List Val} {bs : List Bool}, boolsOf vs = some bs → vs = bs.map .bl
  | [], _, h => by simp only [boolsOf] at h; cases h; rfl
  | v :: vs, bs, h => by
    cases v with
    | bl b =>
      simp only [boolsOf] at h
      split at h
      · rename_i cs e; cases h; rw [boolsOf_eq e]; rfl
      · cases h
    | _ => simp only [boolsOf] at h; cases h
def intsOf : List Val → Option (List Int)
  | [] => some []
  | .int b :: vs => match intsOf vs with
    | some bs => some (b :: bs)
    | none => none
  | _ :: _ => none
theorem intsOf_eq : ∀ {vs : List Val} {bs : List Int}, intsOf vs = some bs → vs = bs.map .int
  | [], _, h => by simp only [intsOf] at h; cases h; rfl
  | v :: vs, bs, h => by
    cases v with
    | int b =>
      simp only [intsOf] at h
      split at h
      · rename_i cs e; cases h; rw [intsOf_eq e]; rfl
      · cases h
    | _ => simp only [intsOf] at h; cases h
def allV (v : Val) (s : Sto) : R Val := match deref s v with
  | some xs => match boolsOf xs with
    | some bs => .ok (.bl (bs.all id)) s
    | none => .bad
  | none => .bad
def anyV (v : Val) (s : Sto) : R Val := match deref s v with
  | some xs => match boolsOf xs with
    | some bs => .ok (.bl (bs.any id)) s
    | none => .bad
  | none => .bad
def sumV (v : Val) (s : Sto) : R Val := match deref s v with
  | some xs => match intsOf xs with
    | some bs => .ok (.int bs.sum) s
    | none => .bad
  | none => .bad
theorem s_all : SndL T X W (rAll X.K) (g1 allV) := snd1 fun p s H σ v x Q S r1 q => by
  unfold allV at q
  split at q
  · rename_i xs e
    split at q
    · rename_i bs e2
      obtain ⟨a, us, rfl, h1, rs⟩ := r1.asLst S e
      rw [boolsOf_eq e2] at rs
      rw [rs.bools] at h1
      exact ⟨a, bs, rfl, h1, q.pure S (.bl _)⟩
    · exact q.elim
  · exact q.elim
theorem s_any : SndL T X W (rAny X.K) (g1 anyV) := snd1 fun p s H σ v x Q S r1 q => by
  unfold anyV at q
  split at q
  · rename_i xs e
    split at q
    · rename_i bs e2
      obtain ⟨a, us, rfl, h1, rs⟩ := r1.asLst S e
      rw [boolsOf_eq e2] at rs
      rw [rs.bools] at h1
      exact ⟨a, bs, rfl, h1, q.pure S (.bl _)⟩
    · exact q.elim
  · exact q.elim
theorem s_sum : SndL T X W (rSum X.K) (g1 sumV) := snd1 fun p s H σ v x Q S r1 q => by
  unfold sumV at q
  split at q
  · rename_i xs e
    split at q
    · rename_i bs e2
      obtain ⟨a, us, rfl, h1, rs⟩ := r1.asLst S e
      rw [intsOf_eq e2] at rs
      rw [rs.ints] at h1
      exact ⟨a, bs, rfl, h1, q.pure S (.int _)⟩
    · exact q.elim
  · exact q.elim
/-- tuple(list), tuple(tuple) -/
def tupleV (v : Val) (s : Sto) : R Val := match v with
  | .tup xs => .ok (.tup xs) s
  | v => match deref s v with
    | some xs => .ok (.tup xs) s
    | none => .bad
theorem s_tuple : SndL T X W (fun xs H Q => ∃ p ys, xs = [V.ref p] ∧ ((SqL X.K H p ys ∧ ∀ l, H l = none → Q (.ref l) (upd H l (.tup ys))) ∨ (SqT X.K H p ys ∧ Q (.ref p) H))) (g1 tupleV) := snd1 fun p s H σ v x Q S r1 q => by
  have gen : post T X.K W (RepV X.K) p H σ (match deref s v with | some xs => .ok (.tup xs) s | none => .bad) Q → ∃ p ys, [x] = [V.ref p] ∧ ((SqL X.K H p ys ∧ ∀ l, H l = none → Q (.ref l) (upd H l (.tup ys))) ∨ (SqT X.K H p ys ∧ Q (.ref p) H)) := fun q => by
    split at q
    · rename_i xs e
      obtain ⟨a, us, rfl, h1, rs⟩ := r1.asLst S e
      exact ⟨a, us, rfl, .inl ⟨h1, fun c hc => q.tup S rs c hc⟩⟩
    · exact q.elim
  cases v with
  | tup xs =>
    obtain ⟨a, us, rfl, h1, rs⟩ := id r1.asTup
    exact ⟨a, us, rfl, .inr ⟨h1, post.pure (v := Val.tup xs) q S r1⟩⟩
  | lst xs => exact gen q
  | loc n => exact gen q
  | scr ns => exact gen q
  | non => exact gen q
  | bl b => exact gen q
  | int i => exact gen q
  | str i => exact gen q
/-- list(list), list(tuple): a list that won't change; one that will -/
def listV (v : Val) (s : Sto) : R Val := match items s v with
  | some xs => .ok (.lst xs) s
  | none => .bad
def listC (v : Val) (s : Sto) : R Val := match items s v with
  | some xs => .ok (.loc s.length) (s ++ [.lst xs])
  | none => .bad
theorem RepV.asItems {K : PySem.W.Frag} {p : Pl} {H : Hp} {s : Sto} {v : Val} {x : V} {xs : List Val} (S : RepSt K p s H) (r : RepV K p H v x) (h : items s v = some xs) : ∃ a ys, x = .ref a ∧ (SqL K H a ys ∨ SqT K H a ys) ∧ RepVs K p H xs ys := by
  cases v with
  | tup zs =>
    cases h
    obtain ⟨a, us, e, h1, rs⟩ := r.asTup
    exact ⟨a, us, e, .inr h1, rs⟩
  | lst zs => obtain ⟨a, us, e, h1, rs⟩ := r.asLst S h; exact ⟨a, us, e, .inl h1, rs⟩
  | loc n => obtain ⟨a, us, e, h1, rs⟩ := r.asLst S h; exact ⟨a, us, e, .inl h1, rs⟩
  | scr ns => obtain ⟨a, us, e, h1, rs⟩ := r.asLst S h; exact ⟨a, us, e, .inl h1, rs⟩
  | non => cases h
  | bl b => cases h
  | int i => cases h
  | str i => cases h
theorem s_list : SndL T X W (fun xs H Q => ∃ p ys, xs = [V.ref p] ∧ (SqL X.K H p ys ∨ SqT X.K H p ys) ∧ ∀ l, H l = none → Q (.ref l) (upd H l (.lst ys))) (g1 listV) := snd1 fun p s H σ v x Q S r1 q => by
  unfold listV at q
  split at q
  · rename_i xs e
    obtain ⟨a, us, rfl, h1, rs⟩ := r1.asItems S e
    exact ⟨a, us, rfl, h1, fun c hc => q.lst S rs c hc⟩
  · exact q.elim
theorem s_listC : SndL T X W (fun xs H Q => ∃ p ys, xs = [V.ref p] ∧ (SqL X.K H p ys ∨ SqT X.K H p ys) ∧ ∀ l, H l = none → Q (.ref l) (upd H l (.lst ys))) (g1 listC) := snd1 fun p s H σ v x Q S r1 q => by
  unfold listC at q
  split at q
  · rename_i xs e
    obtain ⟨a, us, rfl, h1, rs⟩ := r1.asItems S e
    exact ⟨a, us, rfl, h1, fun c hc => q.loc S rs c hc⟩
  · exact q.elim

/-! ### isinstance -/
inductive Ty where
  | int | bool | str | tup | lst | dict
def Ty.nm : Ty → String
  | .int => "int" | .bool => "bool" | .str => "str" | .tup => "tuple" | .lst => "list" | .dict => "dict"
def isa (t : Ty) (v : Val) : Bool := match v with
  | .int _ => match t with
    | .int => true
    | _ => false
  | .bl _ => match t with
    | .int => true
    | .bool => true
    | _ => false
  | .str _ => match t with
    | .str => true
    | _ => false
  | .tup _ => match t with
    | .tup => true
    | _ => false
  | .lst _ => match t with
    | .lst => true
    | _ => false
  | .scr _ => match t with
    | .lst => true
    | _ => false
  | .loc _ => match t with
    | .lst => true
    | _ => false
  | .non => false
theorem kq_non : ∀ t : Ty, kitB "NoneType" t.nm = some (isa t (.non)) := by intro t; cases t <;> decide +kernel
theorem kq_bool : ∀ t : Ty, kitB "bool" t.nm = some (isa t (.bl true)) := by intro t; cases t <;> decide +kernel
theorem kq_int : ∀ t : Ty, kitB "int" t.nm = some (isa t (.int 0)) := by intro t; cases t <;> decide +kernel
theorem kq_str : ∀ t : Ty, kitB "str" t.nm = some (isa t (.str ⟨#[]⟩)) := by intro t; cases t <;> decide +kernel
theorem kq_tup : ∀ t : Ty, kitB "tuple" t.nm = some (isa t (.tup [])) := by intro t; cases t <;> decide +kernel
theorem kq_lst : ∀ t : Ty, kitB "list" t.nm = some (isa t (.lst [])) := by intro t; cases t <;> decide +kernel
theorem kq_scr : ∀ t : Ty, kitB "list" t.nm = some (isa t (.scr [])) := by intro t; cases t <;> decide +kernel
theorem kq_loc : ∀ t : Ty, kitB "list" t.nm = some (isa t (.loc 0)) := by intro t; cases t <;> decide +kernel
theorem RepV.tyx {K : PySem.W.Frag} {p : Pl} {H : Hp} {s : Sto} {v : Val} {x : V} (S : RepSt K p s H) (r : RepV K p H v x) : ∃ b, TyX K H x (.type b) ∧ ∀ t : Ty, kitB b t.nm = some (isa t v) := by
  cases r with
  | non => exact ⟨_, .base .non, kq_non⟩
  | bl b => exact ⟨_, .base (.bl b), fun t => kq_bool t⟩
  | int i => exact ⟨_, .base (.int i), fun t => kq_int t⟩
  | str z => exact ⟨_, .base (.str z), fun t => kq_str t⟩
  | tup h1 h2 h3 =>
    rcases h1 with h1 | ⟨o, h1⟩
    · exact ⟨_, .base (.tup h1), fun t => kq_tup t⟩
    · exact ⟨_, .fTuple h1, fun t => kq_tup t⟩
  | ktup h1 h3 =>
    obtain ⟨o, its, n, e, c, _⟩ := h1
    exact ⟨_, .kTuple e c, fun t => kq_tup t⟩
  | lst h1 h2 h3 => exact ⟨_, .base (.lst h1), fun t => kq_lst t⟩
  | scr h1 h2 =>
    rcases h1 with h1 | ⟨o, h1⟩
    · exact ⟨_, .base (.lst h1), fun t => kq_scr t⟩
    · exact ⟨_, .base (.frz h1), fun t => kq_scr t⟩
  | kscr h1 =>
    obtain ⟨o, its, n, e, c, _⟩ := h1
    exact ⟨_, .kList e c, fun t => kq_scr t⟩
  | loc hn =>
    obtain ⟨u, hu⟩ := S.some_ (List.mem_of_getElem? hn)
    have hl := (List.getElem?_eq_some_iff.mp hn).1
    rw [S.len] at hl
    have q := S.at_ _ _ _ hn (List.getElem?_eq_getElem hl)
    rename_i n _
    cases hs : s[n] with
    | lst xs =>
      rw [hs] at q
      obtain ⟨ys, e, _⟩ := q
      exact ⟨_, .base (.lst e), fun t => kq_loc t⟩
def isiV (t : Ty) (v : Val) (s : Sto) : R Val := .ok (.bl (isa t v)) s
theorem c_isi {ev : Expr} {m : M Val} {pt : Pos} (t : Ty) {tn : Str} (hg : Gl X "isinstance") (hm : X.mg "isinstance" = none) (hgt : Gl X tn) (hmt : X.mg tn = none) (hvt : bootBuiltins tn = some (.type t.nm)) (ha : CE T W X ev m)
    (hn : tn ≠ "__name__" := by decide) (hdb : (tn == ("__debug__" : Str)) = false := by decide)
    (h1 : starEach [ev, .Name tn pt] X.env = (false, eval ev X.env) :: starEach [.Name tn pt] X.env := by rfl) (h2 : starEach [.Name tn pt] X.env = (false, eval (.Name tn pt) X.env) :: starEach [] X.env := by rfl)
    (hpl : (backTo pos (starEach [.Name tn pt] X.env)).any (·.1) = false := by rfl) :
    CE T W X (.Call (.Name "isinstance" pf) [ev, .Name tn pt] [] pos) (una m (isiV t)) := by
  refine PEw (pe_callB call_isi hg hm (by decide +kernel) (pa_cons ha (pa_cons (pe_bltn (v := .ty t.nm) hgt hmt hvt rfl hn hdb) pa_nil h2) h1) (by decide) (by decide) h1 hpl) fun σ H Q h => ?_
  obtain ⟨p, l, s, S, L, q⟩ := h
  refine ⟨p, l, s, S, L, ?_⟩
  refine (post.bd (rep := RepV X.K) q).imp fun x H1 ⟨p1, v, s1, e1, E1, S1, r1, q1⟩ => ?_
  obtain ⟨b, ty, hk⟩ := r1.tyx S1
  exact ⟨x, .ty t.nm, .type b, .type t.nm, isa t v, rfl, .ty _, ty, kit_ty (hk t), post.pure q1 S1 (.bl _)⟩
end
end Mn
set_option maxHeartbeats 4000000
/-! Mini4: statements, loops, comprehensions, defs and their calls. -/
namespace Mn
open PySem PySem.Spec PyProof.Rows L2

def postS (T : Tab) (K : PySem.W.Frag) (W : WX) (p : Pl) (H : Hp) (r : RB) (D : Ends) : Prop := match r with
  | .nx l s => ∀ p' σ' H', Ext p H p' H' → RepSt K p' s H' → RepL K p' H' l σ' → D.nx σ' H'
  | .bk l s => ∀ p' σ' H', Ext p H p' H' → RepSt K p' s H' → RepL K p' H' l σ' → D.bk σ' H'
  | .ct l s => ∀ p' σ' H', Ext p H p' H' → RepSt K p' s H' → RepL K p' H' l σ' → D.ct σ' H'
  | .rt v s => ∀ p' H' x, Ext p H p' H' → RepSt K p' s H' → RepV K p' H' v x → D.rt x H'
  | .ex e l s => ∀ p' σ' H' c d, Ext p H p' H' → RepSt K p' s H' → RepL K p' H' l σ' → RepX T K p' H' e c d → W c d σ' H'
  | .bad => False
def tS (T : Tab) (K : PySem.W.Frag) (W : WX) (b : B) : TS := fun D σ H => ∃ p l s, RepSt K p s H ∧ RepL K p H l σ ∧ postS T K W p H (b l s) D
def CS (T : Tab) (W : WX) (X : Cx) (st : Stmt) (b : B) : Prop := PS X st (tS T X.K W b)
def CB (T : Tab) (W : WX) (X : Cx) (sts : List Stmt) (b : B) : Prop := PSs X sts (tS T X.K W b)
theorem PSw {X : Cx} {e : Stmt} {t t' : TS} (h : PS X e t) (w : ∀ D σ H, t' D σ H → t D σ H) : PS X e t' := ⟨fun pins s σ H D I q => h.run pins s σ H D I (w _ _ _ q)⟩
theorem PSsw {X : Cx} {e : List Stmt} {t t' : TS} (h : PSs X e t) (w : ∀ D σ H, t' D σ H → t D σ H) : PSs X e t' := ⟨fun pins s σ H D I q => h.run pins s σ H D I (w _ _ _ q)⟩
def R.rb {α : Type} (r : R α) (l : Loc) (f : α → Sto → RB) : RB := match r with
  | .ok a s => f a s
  | .ex e s => .ex e l s
  | .bad => .bad
section
variable {α β : Type} {T : Tab} {K : PySem.W.Frag} {W : WX} {rep : Rel α β} {p p' : Pl} {H H' : Hp} {σ : L2.St} {D : Ends} {r : R α} {xb : RB} {f : α → Sto → RB} {l : Loc}
theorem postS.ext (E : Ext p H p' H') (h : postS T K W p H xb D) : postS T K W p' H' xb D := by
  cases xb with
  | nx l s => exact fun p2 σ2 H2 E2 => h p2 σ2 H2 (E.trans E2)
  | bk l s => exact fun p2 σ2 H2 E2 => h p2 σ2 H2 (E.trans E2)
  | ct l s => exact fun p2 σ2 H2 E2 => h p2 σ2 H2 (E.trans E2)
  | rt l s => exact fun p2 H2 x E2 => h p2 H2 x (E.trans E2)
  | ex e l s => exact fun p2 σ2 H2 c d E2 => h p2 σ2 H2 c d (E.trans E2)
  | bad => exact h
theorem postS.lift (h : postS T K W p H (r.rb l f) D) (L : RepL K p H l σ) : post T K W rep p H σ r fun x H1 => ∃ p1 v s1, r = .ok v s1 ∧ Ext p H p1 H1 ∧ RepSt K p1 s1 H1 ∧ rep p1 H1 v x ∧ postS T K W p1 H1 (f v s1) D := by
  cases r with
  | ok v s => exact fun p' H' x E S q => ⟨p', v, s, rfl, E, S, q, postS.ext E h⟩
  | ex e s => exact fun p' H' c d E S q => h p' σ H' c d E S (L.mono E) q
  | bad => exact h
end

/-! ### small statements, blocks -/
def passB : B := fun l s => .nx l s
def breakB : B := fun l s => .bk l s
def contB : B := fun l s => .ct l s
def sq (a b : B) : B := fun l s => match a l s with
  | .nx l1 s1 => b l1 s1
  | r => r
def dropB (m : M Val) : B := fun l s => (m l s).rb l fun _ s1 => .nx l s1
def retB (m : M Val) : B := fun l s => (m l s).rb l fun v s1 => .rt v s1
def retN : B := fun _ s => .rt .non s
def ifB (c : M Bool) (a b : B) : B := fun l s => (c l s).rb l fun k s1 => if k = true then a l s1 else b l s1
def badB : B := fun _ _ => .bad
section
variable {T : Tab} {W : WX} {X : Cx} {st : Stmt} {rest : List Stmt} {a b : B} {pos : Pos} {e : Expr} {m : M Val} {c : M Bool}
theorem cb_nil : CB T W X [] passB := PSsw pss_nil fun D σ H ⟨p, l, s, S, L, q⟩ => q p σ H .refl S L
theorem cb_cons (h1 : CS T W X st a) (h2 : CB T W X rest b) : CB T W X (st :: rest) (sq a b) := by
  refine PSsw (pss_cons h1 h2) fun D σ H h => ?_
  obtain ⟨p, l, s, S, L, q⟩ := h
  refine ⟨p, l, s, S, L, ?_⟩
  unfold sq at q
  cases e : a l s with
  | nx l1 s1 =>
    rw [e] at q
    exact fun p' σ' H' E S' L' => ⟨p', l1, s1, S', L', postS.ext E q⟩
  | bk l1 s1 => rw [e] at q; exact q
  | ct l1 s1 => rw [e] at q; exact q
  | rt v s1 => rw [e] at q; exact q
  | ex e l1 s1 => rw [e] at q; exact q
  | bad => rw [e] at q; exact q
theorem cb_one (h1 : CS T W X st a) : CB T W X [st] a := pss_one h1
theorem cs_pass : CS T W X (.Pass pos) passB := PSw ps_pass fun D σ H ⟨p, l, s, S, L, q⟩ => q p σ H .refl S L
theorem cs_break : CS T W X (.Break pos) breakB := PSw ps_break fun D σ H ⟨p, l, s, S, L, q⟩ => q p σ H .refl S L
theorem cs_cont : CS T W X (.Continue pos) contB := PSw ps_continue fun D σ H ⟨p, l, s, S, L, q⟩ => q p σ H .refl S L
theorem cs_never : CS T W X st badB := PSw ps_never fun D σ H ⟨p, l, s, S, L, q⟩ => q.elim
theorem cs_expr (he : CE T W X e m) (hs : swapsWith e none pos.line X.env = pure false := by rfl) : CS T W X (.Expr e pos) (dropB m) := by
  refine PSw (ps_expr he hs) fun D σ H h => ?_
  obtain ⟨p, l, s, S, L, q⟩ := h
  refine ⟨p, l, s, S, L, ?_⟩
  exact (postS.lift (rep := RepV X.K) q L).imp fun x H1 ⟨p1, v, s1, e1, E1, S1, r1, q1⟩ => q1 p1 σ H1 .refl S1 (L.mono E1)
theorem cs_ret (he : CE T W X e m) : CS T W X (.Return (some e) pos) (retB m) := by
  refine PSw (ps_ret he) fun D σ H h => ?_
  obtain ⟨p, l, s, S, L, q⟩ := h
  refine ⟨p, l, s, S, L, ?_⟩
  exact (postS.lift (rep := RepV X.K) q L).imp fun x H1 ⟨p1, v, s1, e1, E1, S1, r1, q1⟩ => q1 p1 H1 x .refl S1 r1
theorem cs_retN : CS T W X (.Return none pos) retN := PSw ps_retN fun D σ H ⟨p, l, s, S, L, q⟩ => q p H .non .refl S .non
theorem cs_if {as bs : List Stmt} (hc : CT T W X e c) (ha : CB T W X as a) (hb : CB T W X bs b) : CS T W X (.If e as bs pos) (ifB c a b) := by
  refine PSw (ps_if hc ha hb) fun D σ H h => ?_
  obtain ⟨p, l, s, S, L, q⟩ := h
  refine ⟨p, l, s, S, L, ?_⟩
  refine (postS.lift (rep := rB) q L).imp fun x H1 ⟨p1, v, s1, e1, E1, S1, r1, q1⟩ => ?_
  cases r1
  cases x with
  | true => rw [if_pos rfl] at q1 ⊢; exact ⟨p1, l, s1, S1, L.mono E1, q1⟩
  | false => rw [if_neg Bool.false_ne_true] at q1 ⊢; exact ⟨p1, l, s1, S1, L.mono E1, q1⟩
end

/-! ### targets -/
/-- the slots but those at ss are as they were -/
def SameB (ss : List Nat) (σ σ' : L2.St) : Prop := σ'.length = σ.length ∧ ∀ i : Nat, i ∉ ss → σ'[i]? = σ[i]?
def postT (T : Tab) (K : PySem.W.Frag) (W : WX) (ss : List Nat) (p : Pl) (H : Hp) (σ : L2.St) (r : R Loc) (Q : L2.St → Hp → Prop) : Prop := match r with
  | .ok l s => ∀ p' σ' H', Ext p H p' H' → RepSt K p' s H' → RepL K p' H' l σ' → SameB ss σ σ' → Q σ' H'
  | .ex e s => ∀ p' H' c d, Ext p H p' H' → RepSt K p' s H' → RepX T K p' H' e c d → W c d σ H'
  | .bad => False
def tTg (T : Tab) (K : PySem.W.Frag) (W : WX) (ss : List Nat) (t : Tg) : TG := fun x σ H Q => ∃ p v l s, RepSt K p s H ∧ RepL K p H l σ ∧ RepV K p H v x ∧ postT T K W ss p H σ (t v l s) Q
def tTgs (T : Tab) (K : PySem.W.Frag) (W : WX) (ss : List Nat) (t : List Val → M Loc) : TGs := fun xs σ H Q => ∃ p vs l s, RepSt K p s H ∧ RepL K p H l σ ∧ RepVs K p H vs xs ∧ postT T K W ss p H σ (t vs l s) Q
def CG (T : Tab) (W : WX) (X : Cx) (tg : Expr) (ss : List Nat) (t : Tg) : Prop := PG X tg (tTg T X.K W ss t)
def CGs (T : Tab) (W : WX) (X : Cx) (tg : List Expr) (ss : List Nat) (t : List Val → M Loc) : Prop := PGs X tg (tTgs T X.K W ss t)
theorem PGw {X : Cx} {e : Expr} {t t' : TG} (h : PG X e t) (w : ∀ x σ H Q, t' x σ H Q → t x σ H Q) : PG X e t' := ⟨fun pins s σ H v u Q I r q => h.run pins s σ H v u Q I r (w _ _ _ _ q)⟩
theorem PGsw {X : Cx} {e : List Expr} {t t' : TGs} (h : PGs X e t) (w : ∀ x σ H Q, t' x σ H Q → t x σ H Q) : PGs X e t' := ⟨fun pins s σ H v u Q I r q => h.run pins s σ H v u Q I r (w _ _ _ _ q)⟩
theorem SameB.refl {ss : List Nat} {σ : L2.St} : SameB ss σ σ := ⟨rfl, fun _ _ => rfl⟩
theorem SameB.trans {s1 s2 : List Nat} {σ σ1 σ2 : L2.St} (a : SameB s1 σ σ1) (b : SameB s2 σ1 σ2) : SameB (s1 ++ s2) σ σ2 :=
  ⟨b.1.trans a.1, fun i h => (b.2 i fun z => h (List.mem_append_right _ z)).trans (a.2 i fun z => h (List.mem_append_left _ z))⟩
theorem SameB.set {σ : L2.St} {i : Nat} {x : Option V} : SameB [i] σ (σ.set i x) := ⟨by rw [List.length_set], fun j h => List.getElem?_set_ne (fun z => h (by simp [z]))⟩
section
variable {T : Tab} {W : WX} {X : Cx} {pos : Pos}
def nameT (i : Nat) : Tg := fun v l s => .ok (l.set i (some v)) s
theorem cg_name (i : Nat) {x : Str} (hN : X.N.Nodup) (hi : X.N[i]? = some x := by rfl) (hx : L2.Loc X.env.scope x := by first | exact Or.inl rfl | exact Or.inr rfl) (hf : X.fn x = true ∨ X.env.scope.names.lookup x = some .local := by first | exact .inl rfl | exact .inr rfl | assumption) : CG T W X (.Name x pos) [i] (nameT i) :=
  PGw (pg_name hN hi hx hf) fun x σ H Q ⟨p, v, l, s, S, L, r, q⟩ => q p _ H .refl S (L.set r) .set
def nilT : List Val → M Loc := fun vs l s => match vs with
  | [] => .ok l s
  | _ => .bad
def noex {α : Type} (r : R α) : R α := match r with
  | .ex _ _ => .bad
  | r => r
def consT (t : Tg) (u : List Val → M Loc) : List Val → M Loc := fun vs l s => match vs with
  | v :: r => (t v l s).bd fun l1 s1 => noex (u r l1 s1)
  | [] => .bad
theorem cgs_nil : CGs T W X [] [] nilT := PGsw pgs_nil fun xs σ H Q ⟨p, vs, l, s, S, L, r, q⟩ => by
  cases r with
  | nil => exact ⟨rfl, q p σ H .refl S L .refl⟩
  | cons _ _ => exact q.elim
theorem postT.bd {ss s2 : List Nat} {p : Pl} {H : Hp} {K : PySem.W.Frag} {σ : L2.St} {r : R Loc} {f : Loc → Sto → R Loc} {Q : L2.St → Hp → Prop} (h : postT T K W (ss ++ s2) p H σ (r.bd fun l s => noex (f l s)) Q) :
    postT T K W ss p H σ r fun σ1 H1 => ∃ p1 l1 s1, r = .ok l1 s1 ∧ Ext p H p1 H1 ∧ RepSt K p1 s1 H1 ∧ RepL K p1 H1 l1 σ1 ∧ postT T K W s2 p1 H1 σ1 (f l1 s1) Q := by
  cases r with
  | ok l s =>
    intro p' σ' H' E S L sb
    refine ⟨p', l, s, rfl, E, S, L, ?_⟩
    have h' : postT T K W (ss ++ s2) p H σ (noex (f l s)) Q := h
    cases e : f l s with
    | ok l2 s2' => rw [e] at h'; exact fun p2 σ2 H2 E2 S2 L2 sb2 => h' p2 σ2 H2 (E.trans E2) S2 L2 (sb.trans sb2)
    | ex _ _ => rw [e] at h'; exact h'.elim
    | bad => rw [e] at h'; exact h'.elim
  | ex e s => exact h
  | bad => exact h
theorem postT.imp {ss : List Nat} {p : Pl} {H : Hp} {K : PySem.W.Frag} {σ : L2.St} {r : R Loc} {Q Q' : L2.St → Hp → Prop} (h : postT T K W ss p H σ r Q) (k : ∀ σ H, Q σ H → Q' σ H) : postT T K W ss p H σ r Q' := by
  cases r with
  | ok l s => exact fun p' σ' H' E S L sb => k _ _ (h p' σ' H' E S L sb)
  | ex e s => exact h
  | bad => exact h
theorem cgs_cons {e : Expr} {es : List Expr} {ss s2 : List Nat} {t : Tg} {u : List Val → M Loc} (h1 : CG T W X e ss t) (h2 : CGs T W X es s2 u)
    (hs : (assignEach (e :: es) X.env).map (·.2) = assign e X.env :: (assignEach es X.env).map (·.2) := by rfl) : CGs T W X (e :: es) (ss ++ s2) (consT t u) := by
  refine PGsw (pgs_cons h1 h2 hs) fun xs σ H Q h => ?_
  obtain ⟨p, vs, l, s, S, L, r, q⟩ := h
  cases r with
  | nil => exact q.elim
  | @cons v x vs xs r1 r2 =>
    refine ⟨x, xs, rfl, p, v, l, s, S, L, r1, ?_⟩
    exact (postT.bd q).imp fun σ1 H1 ⟨p1, l1, s1, e1, E1, S1, L1, q1⟩ => ⟨p1, vs, l1, s1, S1, L1, r2.mono E1, q1⟩
def tupT (n : Nat) (u : List Val → M Loc) : Tg := fun v l s => match v with
  | .tup vs => if vs.length = n then u vs l s else .bad
  | _ => .bad
theorem cg_tup {es : List Expr} {k : Nat} {ss : List Nat} {u : List Val → M Loc} (n : Nat) (hc : X.calm = true) (h : CGs T W X es ss u)
    (hn : (assignEach es X.env).length = n := by rfl) (hst : (assignEach es X.env).findIdx? (·.1) = none := by rfl) : CG T W X (.Tuple es k pos) ss (tupT n u) := by
  refine PGw (pg_tup hc h hn hst) fun x σ H Q h => ?_
  obtain ⟨p, v, l, s, S, L, r, q⟩ := h
  cases v with
  | tup vs =>
    obtain ⟨a, ys, rfl, sq, rs⟩ := r.asTup
    have q' : postT T X.K W ss p H σ (if vs.length = n then u vs l s else .bad) Q := q
    split at q'
    · rename_i e
      exact ⟨a, ys, rfl, sq, by rw [← rs.len]; exact e, p, vs, l, s, S, L, rs, q'⟩
    · exact q'.elim
  | _ => exact q.elim
/-- o[i] = v, o a list of the store -/
def putV (o i v : Val) (s : Sto) : R Unit := match o with
  | .loc n => match i with
    | .int k => match s[n]? with
      | some (.lst xs) => match ixN xs.length k with
        | some j => .ok () (s.set n (.lst (xs.set j v)))
        | none => .bad
      | none => .bad
    | _ => .bad
  | _ => .bad
def subT (mo mi : M Val) : Tg := fun v l s => (mo l s).bd fun o s1 => (mi l s1).bd fun i s2 => (putV o i v s2).bd fun _ s3 => .ok l s3
theorem cg_sub {o i : Expr} {mo mi : M Val} (ho : CE T W X o mo) (hi : CE T W X i mi)
    (ha : ∀ v, assign (.Subscript o i pos) X.env v = (do
      let ov ← holding [v] (eval o X.env)
      let iv ← holding [v, ov] (eval i X.env)
      standAt pos
      holding [v, ov, iv] (setItem ov iv v)
      release [v, ov, iv] []) := by intro _; rfl) : CG T W X (.Subscript o i pos) [] (subT mo mi) := by
  refine PGw (pg_sub ho hi set_list ha) fun x σ H Q h => ?_
  obtain ⟨p, v, l, s, S, L, r, q⟩ := h
  refine ⟨p, l, s, S, L, ?_⟩
  have cv : ∀ {p : Pl} {H : Hp} {r : R Loc}, postT T X.K W [] p H σ r Q → post T X.K W (fun p' H' l σ' => RepL X.K p' H' l σ' ∧ SameB [] σ σ') p H σ r (fun σ' H' => Q σ' H') := fun {p H r} h => by
    cases r with
    | ok l s => exact fun p' H' x E S q => h p' x H' E S q.1 q.2
    | ex e s => exact h
    | bad => exact h
  refine (post.bd (rep := RepV X.K) (cv q)).imp fun xo H1 ⟨p1, vo, s1, e1, E1, S1, r1, q1⟩ => ?_
  refine ⟨p1, l, s1, S1, L.mono E1, ?_⟩
  refine (post.bd (rep := RepV X.K) q1).imp fun xi H2 ⟨p2, vi, s2, e2, E2, S2, r2, q2⟩ => ?_
  have ro := r1.mono E2
  have rv := r.mono (E1.trans E2)
  cases vo with
  | loc n =>
    cases vi with
    | int k =>
      cases r2
      cases ro with
      | @loc _ a hn =>
        have q2' : post T X.K W (fun p' H' l σ' => RepL X.K p' H' l σ' ∧ SameB [] σ σ') p2 H2 σ (R.bd (match s2[n]? with | some (.lst xs) => (match ixN xs.length k with | some j => R.ok () (s2.set n (.lst (xs.set j v))) | none => .bad) | none => .bad) fun _ s3 => .ok l s3) (fun σ' H' => Q σ' H') := q2
        split at q2'
        · rename_i xs ex
          split at q2'
          · rename_i j ej
            obtain ⟨ys, ey, rs⟩ := S2.lst hn ex
            have hm := List.mem_of_getElem? hn
            refine ⟨a, ys, k, j, rfl, rfl, ey, by rw [← rs.len]; exact ej, ?_⟩
            have rs' := rs.set rv j
            exact q2' p2 _ σ (.write hm) (S2.write hn ⟨_, rfl, rs'⟩) ⟨((L.mono E1).mono E2).mono (.write hm), .refl⟩
          · exact q2'.elim
        · exact q2'.elim
    | _ => exact q2.elim
  | _ => exact q2.elim

/-! ### assignments -/
def asgB (m : M Val) (t : Tg) : B := fun l s => (m l s).rb l fun v s1 => (t v l s1).rb l fun l1 s2 => .nx l1 s2
theorem t_asg {m : M Val} {t : Tg} {ss : List Nat} {D : Ends} {σ : L2.St} {H : Hp} (h : tS T X.K W (asgB m t) D σ H) : tG T X.K W (RepV X.K) m σ H fun x H1 => tTg T X.K W ss t x σ H1 D.nx := by
  obtain ⟨p, l, s, S, L, q⟩ := h
  refine ⟨p, l, s, S, L, ?_⟩
  refine (postS.lift (rep := RepV X.K) q L).imp fun x H1 ⟨p1, v, s1, e1, E1, S1, r1, q1⟩ => ?_
  refine ⟨p1, v, l, s1, S1, L.mono E1, r1, ?_⟩
  have L1 := L.mono E1
  cases e : t v l s1 with
  | ok l2 s2 => rw [e] at q1; exact fun p' σ' H' E S L _ => q1 p' σ' H' E S L
  | ex e l2 => rw [e] at q1; exact fun p' H' c d E S q => q1 p' σ H' c d E S (L1.mono E) q
  | bad => rw [e] at q1; exact q1
theorem cs_asg {tg e : Expr} {m : M Val} {ss : List Nat} {t : Tg} (he : CE T W X e m) (hg : CG T W X tg ss t) (hs : swapsWithSole [tg] e pos.line X.env = pure false := by rfl) (hw : swappedStores [tg] e X.env = pure none := by rfl)
    (h1 : (assignEach [tg] X.env).map (·.2) = [assign tg X.env] := by rfl) : CS T W X (.Assign [tg] e pos) (asgB m t) := PSw (ps_asg he hg hs hw h1) fun D σ H h => t_asg h
theorem cs_set (i : Nat) {x : Str} {e : Expr} {m : M Val} {pos' : Pos} (hN : X.N.Nodup) (he : CE T W X e m) (hi : X.N[i]? = some x := by rfl) (hx : L2.Loc X.env.scope x := by first | exact Or.inl rfl | exact Or.inr rfl) (hs : swapsWith e (some (.Name x pos')) pos.line X.env = pure false := by rfl)
    (hf : X.fn x = true ∨ X.env.scope.names.lookup x = some .local := by first | exact .inl rfl | exact .inr rfl | assumption) : CS T W X (.Assign [.Name x pos'] e pos) (asgB m (nameT i)) := by
  refine PSw (ps_set hN hi hx he hs hf) fun D σ H h => ?_
  obtain ⟨p, l, s, S, L, q⟩ := h
  refine ⟨p, l, s, S, L, ?_⟩
  exact (postS.lift (rep := RepV X.K) q L).imp fun x H1 ⟨p1, v, s1, e1, E1, S1, r1, q1⟩ => q1 p1 _ H1 .refl S1 ((L.mono E1).set r1)
/-- a, b = x, y -/
def parB (i j : Nat) (n : M (List Val)) : B := fun l s => (n l s).rb l fun vs s1 => match vs with
  | [v, w] => .nx ((l.set i (some v)).set j (some w)) s1
  | _ => .bad
theorem cs_par (i j : Nat) {x y : Str} {a b : Expr} {n : M (List Val)} {px py pt : Pos} {kt k2 pt2} (hc : X.calm = true) (hN : X.N.Nodup) (ha : CA T W X [a, b] n) (hi : X.N[i]? = some x := by rfl) (hj : X.N[j]? = some y := by rfl) (hij : i ≠ j := by decide)
    (hx : X.env.scope.names.lookup x = some .local := by rfl) (hy : X.env.scope.names.lookup y = some .local := by rfl)
    (hw : swappedStores [.Tuple [.Name x px, .Name y py] kt pt] (.Tuple [a, b] k2 pt2) X.env = pure (some [x, y]) := by rfl)
    (hs : swapsWithSole [.Tuple [.Name x px, .Name y py] kt pt] (.Tuple [a, b] k2 pt2) pos.line X.env = pure false := by rfl) :
    CS T W X (.Assign [.Tuple [.Name x px, .Name y py] kt pt] (.Tuple [a, b] k2 pt2) pos) (parB i j n) := by
  refine PSw (ps_par hc hN hi hj hij hx hy ha hw hs) fun D σ H h => ?_
  obtain ⟨p, l, s, S, L, q⟩ := h
  refine ⟨p, l, s, S, L, ?_⟩
  refine (postS.lift (rep := RepVs X.K) q L).imp fun xs H1 ⟨p1, vs, s1, e1, E1, S1, r1, q1⟩ => ?_
  cases r1 with
  | nil => exact q1.elim
  | cons r1 r2 =>
    cases r2 with
    | nil => exact q1.elim
    | cons r2 r3 =>
      cases r3 with
      | nil => exact ⟨_, _, rfl, q1 p1 _ H1 .refl S1 (((L.mono E1).set r1).set r2)⟩
      | cons _ _ => exact q1.elim
end

/-! ### what is walked -/
structure Src (K : PySem.W.Frag) (p0 : Pl) (H0 : Hp) (xs : List Val) (J : It) : Prop where
  go : ∀ (i : Nat) p H, ExtW p0 H0 p H → i < xs.length → J.go i H
  stop : ∀ p H, ExtW p0 H0 p H → J.stop xs.length H
  yld : ∀ (i : Nat) p s H x H' v, ExtW p0 H0 p H → RepSt K p s H → xs[i]? = some v → J.yld i H x H' → Ext p H p H' ∧ RepSt K p s H' ∧ RepV K p H' v x
abbrev rSrc (K : PySem.W.Frag) : Rel (List Val) It := fun p H xs J => Src K p H xs J
def CI (T : Tab) (W : WX) (X : Cx) (tg e : Expr) (m : M (List Val)) : Prop := PI X tg e (tG T X.K W (rSrc X.K) m)
theorem PIw {X : Cx} {tg e : Expr} {t t' : TI} (h : PI X tg e t) (w : ∀ σ H Q, t' σ H Q → t σ H Q) : PI X tg e t' := ⟨fun pins s σ H Q I q => h.run pins s σ H Q I (w _ _ _ q)⟩
section
variable {K : PySem.W.Frag} {p : Pl} {H : Hp} {s : Sto}
theorem src_list2 {a : Addr} {ys : List V} {xs : List Val} (st : ∀ p' H', ExtW p H p' H' → SqL K H' a ys) (rs : RepVs K p H xs ys) : Src K p H xs (Itl K a) where
  go i p' H' E hi := ⟨ys, ys[i]'(by rw [← rs.len]; exact hi), st p' H' E, by simp⟩
  stop p' H' E := ⟨ys, st p' H' E, Nat.le_of_eq rs.len.symm⟩
  yld i p' s' H' x H'' v E S hv y := by
    obtain ⟨e, y⟩ := y
    subst e
    obtain ⟨u, hu, r⟩ := rs.at_ hv
    have e2 := y ys (st _ _ E)
    rw [hu] at e2
    cases e2
    exact ⟨.refl, S, RepV.monoW E _ _ r⟩
theorem src_tup {a : Addr} {ys : List V} {xs : List Val} (st : ∀ p' H', ExtW p H p' H' → SqT K H' a ys) (rs : RepVs K p H xs ys) : Src K p H xs (Itt K a) where
  go i p' H' E hi := ⟨ys, ys[i]'(by rw [← rs.len]; exact hi), st p' H' E, by simp⟩
  stop p' H' E := ⟨ys, st p' H' E, Nat.le_of_eq rs.len.symm⟩
  yld i p' s' H' x H'' v E S hv y := by
    obtain ⟨e, y⟩ := y
    subst e
    obtain ⟨u, hu, r⟩ := rs.at_ hv
    have e2 := y ys (st _ _ E)
    rw [hu] at e2
    cases e2
    exact ⟨.refl, S, RepV.monoW E _ _ r⟩
theorem src_rng {lo : Int} {n : Nat} : Src K p H ((List.range n).map fun i => Val.int (lo + (i : Nat))) (Itr lo n) where
  go i p' H' E hi := by rw [List.length_map, List.length_range] at hi; exact hi
  stop p' H' E := by rw [List.length_map, List.length_range]; exact Nat.le_refl _
  yld i p' s' H' x H'' v E S hv y := by
    obtain ⟨e, y⟩ := y
    subst e y
    rw [List.getElem?_map] at hv
    have hi : i < n := by
      cases h : (List.range n)[i]? with
      | none => rw [h] at hv; cases hv
      | some j => have := (List.getElem?_eq_some_iff.mp h).1; rwa [List.length_range] at this
    rw [List.getElem?_range hi] at hv
    cases hv
    exact ⟨.refl, S, .int _⟩
end
/-- a list that stands still, a tuple -/
def fixed : Val → Option (List Val)
  | .tup xs => some xs
  | .lst xs => some xs
  | .scr ns => some (ns.map .int)
  | _ => none
def walkV (m : M Val) : M (List Val) := fun l s => (m l s).bd fun v s1 => match fixed v with
  | some xs => .ok xs s1
  | none => .bad
section
variable {T : Tab} {W : WX} {X : Cx} {tg e : Expr} {m : M Val}
/-- a list or a tuple, whichever comes -/
def iSeq (K : PySem.W.Frag) (tl : TE) : TI := fun σ H R => tl σ H fun x H1 => ∃ a, x = .ref a ∧ (((∃ xs, SqL K H1 a xs) ∧ R (Itl K a) H1) ∨ ((∃ xs, SqT K H1 a xs) ∧ R (Itt K a) H1))
theorem pi_seq {tl : TE} (hl : PE X e tl) : PI X tg e (iSeq X.K tl) := by
  refine ⟨fun pins s σ H R I h => ?_⟩
  refine thn (hl.run pins s σ H _ I h) fun v s1 ⟨x, H1, I1, r1, q1⟩ => ?_
  obtain ⟨a, ex, q1⟩ := q1
  subst ex
  cases r1
  have new : ∀ {o : Obj} (b : Addr), b ∈ [s1.heap.objs.size] → FpOk X pins H1 b := fun {o} b hb => by
    have e : b = s1.heap.objs.size := by simpa using hb
    subst e
    exact I1.fpOk (Nat.le_refl _) (I1.hok.fresh (Nat.le_refl _))
  rcases q1 with ⟨⟨xs, hq⟩, q⟩ | ⟨⟨xs, hq⟩, q⟩
  · obtain ⟨its, _, pl, _⟩ := I1.list hq
    exact wpAny_pyIter_list pl.isList ⟨_, [s1.heap.objs.size], _, _, H1, rfl, I1.kept (t' := s1.toks) fun b o e => Heap.get?_push_of_some _ e, turn_list a _, ⟨_, Heap.get?_push_size _ rfl, rfl, rfl⟩, new (o := default), q⟩
  · obtain ⟨its, _, pl, _⟩ := I1.tuple hq
    exact wpAny_pyIter_tuple (show s1.heap.IsTuple a its.toArray from pl) ⟨_, [s1.heap.objs.size], _, _, H1, rfl, I1.kept (t' := s1.toks) fun b o e => Heap.get?_push_of_some _ e, turn_tuple a _, ⟨_, Heap.get?_push_size _ rfl, rfl, rfl⟩, new (o := default), q⟩
theorem ci_seq (h : CE T W X e m) : CI T W X tg e (walkV m) := by
  refine PIw (pi_seq h) fun σ H R h => ?_
  obtain ⟨p, l, s, S, L, q⟩ := h
  refine ⟨p, l, s, S, L, ?_⟩
  refine (post.bd (rep := RepV X.K) q).imp fun x H1 ⟨p1, v, s1, e1, E1, S1, r1, q1⟩ => ?_
  have fin : ∀ {xs : List Val} {J : It}, fixed v = some xs → Src X.K p1 H1 xs J → R J H1 := fun {xs J} e k => by
    rw [e] at q1
    exact q1 p1 H1 J .refl S1 k
  cases r1 with
  | @tup a ys xs h1 h2 h3 => exact ⟨a, rfl, .inr ⟨⟨ys, .inl h1⟩, fin rfl (src_tup (fun p' H' E => .inl (E.rd h1 h2).1) h3)⟩⟩
  | @ktup a ys xs h1 h3 => exact ⟨a, rfl, .inr ⟨⟨ys, .inr h1⟩, fin rfl (src_tup (fun p' H' E => .inr h1) h3)⟩⟩
  | @lst a ys xs h1 h2 h3 => exact ⟨a, rfl, .inl ⟨⟨ys, SqL.of h1⟩, fin rfl (src_list2 (fun p' H' E => .inl (.inl (E.keep _ _ h1 h2))) h3)⟩⟩
  | @scr a ns h1 h2 => exact ⟨a, rfl, .inl ⟨⟨_, .inl h1⟩, fin rfl (src_list2 (fun p' H' E => .inl (E.rd h1 h2).1) (.ofInts ns))⟩⟩
  | @kscr a ns h1 => exact ⟨a, rfl, .inl ⟨⟨_, .inr h1⟩, fin rfl (src_list2 (fun p' H' E => .inr h1) (.ofInts ns))⟩⟩
  | _ => exact q1.elim
/-- range(n), range(a, b) -/
def rngL (lo : Int) (n : Nat) : List Val := (List.range n).map fun i => Val.int (lo + (i : Nat))
def range1M (n : M (List Val)) : M (List Val) := fun l s => (n l s).bd fun vs s1 => match vs with
  | [v] => match v with
    | .int j => if -(2 ^ 62) ≤ j ∧ j < 2 ^ 62 then .ok (rngL 0 j.toNat) s1 else .bad
    | _ => .bad
  | _ => .bad
def range2M (n : M (List Val)) : M (List Val) := fun l s => (n l s).bd fun vs s1 => match vs with
  | [v, w] => match v with
    | .int i => match w with
      | .int j => if -(2 ^ 62) ≤ i ∧ i < 2 ^ 62 ∧ -(2 ^ 62) ≤ j ∧ j < 2 ^ 62 then .ok (rngL i (j - i).toNat) s1 else .bad
      | _ => .bad
    | _ => .bad
  | _ => .bad
theorem ci_range1 {a : Expr} {n : M (List Val)} {pf pos : Pos} (hg : Gl X "range") (hm : X.mg "range" = none) (ha : CA T W X [a] n) (hs : starEach [a] X.env = [(false, eval a X.env)] := by rfl) : CI T W X tg (.Call (.Name "range" pf) [a] [] pos) (range1M n) := by
  refine PIw (pi_range1 hg hm ha hs) fun σ H R h => ?_
  obtain ⟨p, l, s, S, L, q⟩ := h
  refine ⟨p, l, s, S, L, ?_⟩
  refine (post.bd (rep := RepVs X.K) q).imp fun xs H1 ⟨p1, vs, s1, e1, E1, S1, r1, q1⟩ => ?_
  cases r1 with
  | nil => exact q1.elim
  | @cons v x vs xs r1 r2 =>
    cases r2 with
    | nil =>
      cases v with
      | int j =>
        cases r1
        have q' : post T X.K W (rSrc X.K) p1 H1 σ (if -(2 ^ 62) ≤ j ∧ j < 2 ^ 62 then .ok (rngL 0 j.toNat) s1 else .bad) R := q1
        split at q'
        · rename_i hz; exact ⟨j, rfl, hz.1, hz.2, q' p1 H1 _ .refl S1 src_rng⟩
        · exact q'.elim
      | _ => exact q1.elim
    | cons _ _ => exact q1.elim
theorem ci_range2 {a b : Expr} {n : M (List Val)} {pf pos : Pos} (hg : Gl X "range") (hm : X.mg "range" = none) (ha : CA T W X [a, b] n) (hs : starEach [a, b] X.env = [(false, eval a X.env), (false, eval b X.env)] := by rfl) (hs2 : starEach [b] X.env = [(false, eval b X.env)] := by rfl) : CI T W X tg (.Call (.Name "range" pf) [a, b] [] pos) (range2M n) := by
  refine PIw (pi_range2 hg hm ha hs hs2) fun σ H R h => ?_
  obtain ⟨p, l, s, S, L, q⟩ := h
  refine ⟨p, l, s, S, L, ?_⟩
  refine (post.bd (rep := RepVs X.K) q).imp fun xs H1 ⟨p1, vs, s1, e1, E1, S1, r1, q1⟩ => ?_
  cases r1 with
  | nil => exact q1.elim
  | @cons v x vs xs r1 r2 =>
    cases r2 with
    | nil => exact q1.elim
    | @cons w y ws ys r2 r3 =>
      cases r3 with
      | nil =>
        cases v with
        | int i =>
          cases w with
          | int j =>
            cases r1
            cases r2
            have q' : post T X.K W (rSrc X.K) p1 H1 σ (if -(2 ^ 62) ≤ i ∧ i < 2 ^ 62 ∧ -(2 ^ 62) ≤ j ∧ j < 2 ^ 62 then .ok (rngL i (j - i).toNat) s1 else .bad) R := q1
            split at q'
            · rename_i hz; exact ⟨i, j, rfl, hz, q' p1 H1 _ .refl S1 src_rng⟩
            · exact q'.elim
          | _ => exact q1.elim
        | _ => exact q1.elim
      | cons _ _ => exact q1.elim
end

/-! ### for, while -/
def forL (t : Tg) (b : B) : List Val → B
  | [] => fun l s => .nx l s
  | x :: r => fun l s => match t x l s with
    | .ok l1 s1 => match b l1 s1 with
      | .nx l2 s2 => forL t b r l2 s2
      | .ct l2 s2 => forL t b r l2 s2
      | .bk l2 s2 => .nx l2 s2
      | .rt v s2 => .rt v s2
      | .ex e l2 s2 => .ex e l2 s2
      | .bad => .bad
    | .ex e s1 => .ex e l s1
    | .bad => .bad
def forB (m : M (List Val)) (t : Tg) (b : B) : B := fun l s => (m l s).rb l fun xs s1 => forL t b xs l s1
def whL (c : M Bool) (b : B) : Nat → B
  | 0 => fun _ _ => .bad
  | n + 1 => fun l s => match c l s with
    | .ok k s1 => if k = true then match b l s1 with
      | .nx l2 s2 => whL c b n l2 s2
      | .ct l2 s2 => whL c b n l2 s2
      | .bk l2 s2 => .nx l2 s2
      | .rt v s2 => .rt v s2
      | .ex e l2 s2 => .ex e l2 s2
      | .bad => .bad
      else .nx l s1
    | .ex e s1 => .ex e l s1
    | .bad => .bad
/-- f: how many turns at most -/
def whB (f : Loc → Sto → Nat) (c : M Bool) (b : B) : B := fun l s => whL c b (f l s) l s
section
variable {T : Tab} {W : WX} {X : Cx} {tg e : Expr} {m : M (List Val)} {t : Tg} {b : B} {body : List Stmt} {pos : Pos} {ss : List Nat} {c : M Bool}
theorem cs_for (hp : PassesOwn (model X.prog X.w) X.A X.env X.xe) (hc : X.calm = true) (hi : CI T W X tg e m) (hg : CG T W X tg ss t) (hb : CB T W X body b)
    (hs : ∀ x, foldedSetIterable e X.env x = pure x := by intro _; rfl) : CS T W X (.For tg e body [] pos) (forB m t b) := by
  refine PSw (ps_for hp hc hi hg hb hs) fun D σ H h => ?_
  obtain ⟨p, l, s, S, L, q⟩ := h
  refine ⟨p, l, s, S, L, ?_⟩
  refine (postS.lift (rep := rSrc X.K) q L).imp fun J H1 ⟨p1, xs, s1, e1, E1, S1, src, q1⟩ => ?_
  refine ⟨fun i n σ H => n = xs.length - i ∧ i ≤ xs.length ∧ ∃ p l s, Ext p1 H1 p H ∧ RepSt X.K p s H ∧ RepL X.K p H l σ ∧ postS T X.K W p H (forL t b (xs.drop i) l s) D, ⟨xs.length, by simp, Nat.zero_le _, p1, l, s1, .refl, S1, L.mono E1, q1⟩, ?_⟩
  rintro i n σ H ⟨rfl, hi, p, l, s, E, S, L, q⟩
  by_cases hlt : i < xs.length
  · refine .inr ⟨src.go i p H E.w hlt, fun σ' H' => ∃ p' l' s', Ext p1 H1 p' H' ∧ RepSt X.K p' s' H' ∧ RepL X.K p' H' l' σ' ∧ postS T X.K W p' H' (forL t b (xs.drop (i + 1)) l' s') D, fun σ' H' w => ⟨xs.length - (i + 1), by omega, rfl, hlt, w⟩, fun x H' y => ?_⟩
    obtain ⟨E2, S2, r2⟩ := src.yld i p s H x H' xs[i] E.w S (List.getElem?_eq_getElem hlt) y
    refine ⟨p, xs[i], l, s, S2, L.mono E2, r2, ?_⟩
    rw [List.drop_eq_getElem_cons hlt] at q
    simp only [forL] at q
    cases et : t xs[i] l s with
    | ok l1 s1 =>
      rw [et] at q
      simp only at q
      intro p3 σ3 H3 E3 S3 L3 _
      refine ⟨p3, l1, s1, S3, L3, ?_⟩
      have E13 := E.trans (E2.trans E3)
      have q3 : postS T X.K W p3 H3 _ D := postS.ext (E2.trans E3) q
      cases eb : b l1 s1 with
      | nx l2 s2 => rw [eb] at q3; exact fun p4 σ4 H4 E4 S4 L4 => ⟨p4, l2, s2, E13.trans E4, S4, L4, postS.ext E4 q3⟩
      | ct l2 s2 => rw [eb] at q3; exact fun p4 σ4 H4 E4 S4 L4 => ⟨p4, l2, s2, E13.trans E4, S4, L4, postS.ext E4 q3⟩
      | bk l2 s2 => rw [eb] at q3; exact q3
      | rt v s2 => rw [eb] at q3; exact q3
      | ex e l2 s2 => rw [eb] at q3; exact q3
      | bad => rw [eb] at q3; exact q3
    | ex e s1 =>
      rw [et] at q
      have L2 := L.mono E2
      exact fun p' H'' c d E' S' q' => q p' σ H'' c d (E2.trans E') S' (L2.mono E') q'
    | bad => rw [et] at q; exact q
  · have e : i = xs.length := by omega
    subst e
    rw [List.drop_length] at q
    exact .inl ⟨src.stop p H E.w, q p σ H .refl S L⟩
theorem cs_while (f : Loc → Sto → Nat) (hp : PassesOwn (model X.prog X.w) X.A X.env X.xe) (hc : CT T W X e c) (hb : CB T W X body b) : CS T W X (.While e body [] pos) (whB f c b) := by
  refine PSw (ps_while hp hc hb) fun D σ H h => ?_
  obtain ⟨p, l, s, S, L, q⟩ := h
  refine ⟨fun n σ H => ∃ p l s, RepSt X.K p s H ∧ RepL X.K p H l σ ∧ postS T X.K W p H (whL c b n l s) D, ⟨_, p, l, s, S, L, q⟩, ?_⟩
  rintro n σ H ⟨p, l, s, S, L, q⟩
  refine ⟨p, l, s, S, L, ?_⟩
  cases n with
  | zero => exact q.elim
  | succ n =>
    simp only [whL] at q
    cases ec : c l s with
    | ok k s1 =>
      rw [ec] at q
      simp only at q
      intro p' H' x E S' r
      cases r
      have L' := L.mono E
      have q2 : postS T X.K W p' H' _ D := postS.ext E q
      cases k with
      | false =>
        rw [if_neg Bool.false_ne_true] at q2 ⊢
        exact q2 p' σ H' .refl S' L'
      | true =>
        rw [if_pos rfl] at q2 ⊢
        refine ⟨fun σ' H' => ∃ p l s, RepSt X.K p s H' ∧ RepL X.K p H' l σ' ∧ postS T X.K W p H' (whL c b n l s) D, fun σ' H' w => ⟨n, Nat.lt_succ_self n, w⟩, p', l, s1, S', L', ?_⟩
        cases eb : b l s1 with
        | nx l2 s2 => rw [eb] at q2; exact fun p4 σ4 H4 E4 S4 L4 => ⟨p4, l2, s2, S4, L4, postS.ext E4 q2⟩
        | ct l2 s2 => rw [eb] at q2; exact fun p4 σ4 H4 E4 S4 L4 => ⟨p4, l2, s2, S4, L4, postS.ext E4 q2⟩
        | bk l2 s2 => rw [eb] at q2; exact q2
        | rt v s2 => rw [eb] at q2; exact q2
        | ex e l2 s2 => rw [eb] at q2; exact q2
        | bad => rw [eb] at q2; exact q2
    | ex e s1 =>
      rw [ec] at q
      exact fun p' H'' c d E' S' q' => q p' σ H'' c d E' S' (L.mono E') q'
    | bad => rw [ec] at q; exact q
end
end Mn
set_option maxHeartbeats 4000000
/-! Mini5: comprehensions, defs and their calls, the law's end. -/
namespace Mn
open PySem PySem.Spec PyProof.Rows L2

/-! ### comprehensions -/
def wipeL (l : Loc) : List Nat → Loc
  | [] => l
  | v :: vs => (wipeL l vs).set v none
def lcL (t : Tg) (c : M Bool) (e : M Val) (l0 : Loc) : List Val → Sto → R (List Val)
  | [], s => .ok [] s
  | x :: r, s => (t x l0 s).bd fun l1 s1 => (c l1 s1).bd fun b s2 => if b = true then (e l1 s2).bd fun y s3 => (lcL t c e l0 r s3).bd fun ys s4 => .ok (y :: ys) s4 else lcL t c e l0 r s2
def finL (ys : List Val) (s : Sto) : R Val := .ok (.lst ys) s
def finC (ys : List Val) (s : Sto) : R Val := .ok (.loc s.length) (s ++ [.lst ys])
def lcM (m : M (List Val)) (t : Tg) (c : M Bool) (e : M Val) (vs : List Nat) (fin : List Val → Sto → R Val) : M Val := fun l s => (m l s).bd fun xs s1 =>
  if xs.length ≤ 16777216 then (noex (lcL t c e (wipeL l vs) xs s1)).bd fin else .bad
def yesM : M Bool := fun _ s => .ok true s
def CTs (T : Tab) (W : WX) (X : Cx) (es : List Expr) (m : M Bool) : Prop := PTs X es (tG T X.K W rB m)
abbrev W0 : WX := fun _ _ _ _ => False
section
variable {T : Tab} {W : WX} {X : Cx} {K : PySem.W.Frag} {p : Pl} {H : Hp}
theorem PTsw {e : List Expr} {t t' : TT} (h : PTs X e t) (w : ∀ σ H Q, t' σ H Q → t σ H Q) : PTs X e t' := ⟨fun pins s σ H Q I q => h.run pins s σ H Q I (w _ _ _ q)⟩
theorem cts_nil : CTs T W X [] yesM := PTsw pts_nil fun σ H Q ⟨p, l, s, S, L, q⟩ => q.pure S rfl
theorem cts_one {e : Expr} {m : M Bool} (h : CT T W X e m) : CTs T W X [e] m := pts_one h
theorem RepL.none {l : Loc} {σ : L2.St} (L : RepL K p H l σ) (i : Nat) : RepL K p H (l.set i none) (σ.set i none) := by
  refine ⟨by rw [List.length_set, List.length_set]; exact L.len, fun j v h => ?_⟩
  by_cases e : i = j
  · subst e
    by_cases hl : i < l.length
    · rw [List.getElem?_set_self hl] at h; cases h
    · rw [List.getElem?_eq_none (by simpa using hl)] at h; cases h
  · rw [List.getElem?_set_ne e] at h ⊢
    exact L.at_ j v h
theorem RepL.wipe {l : Loc} {σ : L2.St} (L : RepL K p H l σ) : ∀ vs : List Nat, RepL K p H (wipeL l vs) (L2.wipe σ vs)
  | [] => L
  | v :: vs => (RepL.wipe L vs).none v
theorem wipe_in {σ : L2.St} {i : Nat} : ∀ {vs : List Nat}, i ∈ vs → (L2.wipe σ vs)[i]? = if i < σ.length then some none else none
  | v :: vs, h => by
    unfold L2.wipe
    by_cases e : v = i
    · subst e
      by_cases hl : v < σ.length
      · rw [if_pos hl, List.getElem?_set_self (by rw [wipe_length]; exact hl)]
      · rw [if_neg hl, List.getElem?_eq_none (by rw [List.length_set, wipe_length]; omega)]
    · rw [List.getElem?_set_ne e]
      rcases List.mem_cons.mp h with z | z
      · exact absurd z.symm e
      · exact wipe_in z
theorem wipe_same {σ σ' : L2.St} {vs ss : List Nat} (hs : ∀ i ∈ ss, i ∈ vs) (h : SameB ss (L2.wipe σ vs) σ') : L2.wipe σ' vs = L2.wipe σ vs := by
  have hl : σ'.length = σ.length := by rw [h.1, wipe_length]
  refine List.ext_getElem? fun i => ?_
  by_cases hi : i ∈ vs
  · rw [wipe_in hi, wipe_in hi, hl]
  · rw [wipe_out hi, wipe_out hi, h.2 i fun z => hi (hs i z), wipe_out hi]

/-- from the own meaning to the layer's reading of a comprehension -/
theorem t_lc {m : M (List Val)} {t : Tg} {c : M Bool} {e : M Val} {ss vs : List Nat} {fin : List Val → Sto → R Val} {σ : L2.St} {H : Hp} {Q : VK}
    (hfin : ∀ {q : List Addr} {s : Sto} {H : Hp} {σ : L2.St} {p1 : Pl} {H1 : Hp} {D : Addr} {acc : List Val} {ys : List V} {Q : VK}, H1 D = none → Ext p1 H1 ⟨q, p1.rs⟩ H → RepSt X.K ⟨q, D :: p1.rs⟩ s H → D ∉ q → D ∉ p1.rs → H D = some (.lst ys) → RepVs X.K ⟨q, D :: p1.rs⟩ H acc ys → post T X.K W (RepV X.K) p1 H1 σ (fin acc s) Q → Q (.ref D) H)
    (hs : ∀ i ∈ ss, i ∈ vs) (h : tG T X.K W (RepV X.K) (lcM m t c e vs fin) σ H Q) :
    tLc (tG T X.K W (rSrc X.K) m) (tTg T X.K W0 ss t) (tG T X.K W0 rB c) (tG T X.K W0 (RepV X.K) e) vs σ H Q := by
  obtain ⟨p, l, s, S, L, q⟩ := h
  refine ⟨p, l, s, S, L, ?_⟩
  refine (post.bd (rep := rSrc X.K) q).imp fun J H1 ⟨p1, xs, s1, e1, E1, S1, src, q1⟩ => ?_
  intro D hD
  split at q1
  rotate_left
  · exact q1.elim
  rename_i hz
  have L1 := (L.mono E1).wipe vs
  have hDp := S1.nohas hD
  have hDr1 : D ∉ p1.rs := fun z => hDp (.inr z)
  have wOf : ∀ {q : List Addr} {H : Hp}, Ext p1 H1 ⟨q, p1.rs⟩ H → ExtW p1 H1 ⟨q, D :: p1.rs⟩ H := fun {q H} E =>
    ⟨E.w.pre, fun a ha => (List.mem_cons.mp ha).elim (fun z => .inr (by rw [z]; exact hD)) .inl, E.w.keep, E.dom⟩
  refine ⟨fun i n H => n = xs.length - i ∧ i ≤ xs.length ∧ ∃ (q : List Addr) (s : Sto) (acc : List Val) (ys : List V), D ∉ q ∧ Ext p1 H1 ⟨q, p1.rs⟩ H ∧ RepSt X.K ⟨q, D :: p1.rs⟩ s H ∧ RepL X.K ⟨q, D :: p1.rs⟩ H (wipeL l vs) (L2.wipe σ vs) ∧ H D = some (.lst ys) ∧ RepVs X.K ⟨q, D :: p1.rs⟩ H acc ys ∧ acc.length ≤ i ∧
    post T X.K W (RepV X.K) p1 H1 σ ((noex (lcL t c e (wipeL l vs) (xs.drop i) s)).bd fun zs s' => fin (acc ++ zs) s') Q, ?_, ?_⟩
  · have E0 : Ext p1 H1 ⟨p1.pl, p1.rs⟩ (upd H1 D (.lst [])) := Ext.alloc (p := p1) hD
    have SA := S1.alloc (o := .lst []) hD
    refine ⟨xs.length, by simp, Nat.zero_le _, p1.pl, s1, [], [], fun z => hDp (.inl z), E0, ?_, L1.monoW (wOf E0), upd_same, .nil, Nat.le_refl _, q1⟩
    refine ⟨SA.len, SA.nd, fun a ha => ?_, fun a ha => ?_, fun n a o h1 h2 => ?_⟩
    · rcases List.mem_cons.mp ha with z | z
      · exact ⟨_, by rw [z, upd_same]⟩
      · exact SA.rv a z
    · rcases List.mem_cons.mp ha with z | z
      · exact fun y => hDp (.inl (by rw [← z]; exact y))
      · exact SA.ap a z
    · have hb : a ≠ D := fun z => hDp (.inl (z ▸ List.mem_of_getElem? h1))
      rw [upd_ne hb]
      exact (S1.at_ n a o h1 h2).monoW (wOf E0)
  · rintro i n H ⟨rfl, hi, q0, s, acc, ys, hDpl, E, S, L, hHD, rs, hal, q⟩
    by_cases hlt : i < xs.length
    · refine .inr ⟨src.go i _ H (wOf E) hlt, fun H' => ∃ (q0 : List Addr) (s : Sto) (acc : List Val) (ys : List V), D ∉ q0 ∧ Ext p1 H1 ⟨q0, p1.rs⟩ H' ∧ RepSt X.K ⟨q0, D :: p1.rs⟩ s H' ∧ RepL X.K ⟨q0, D :: p1.rs⟩ H' (wipeL l vs) (L2.wipe σ vs) ∧ H' D = some (.lst ys) ∧ RepVs X.K ⟨q0, D :: p1.rs⟩ H' acc ys ∧ acc.length ≤ i + 1 ∧
        post T X.K W (RepV X.K) p1 H1 σ ((noex (lcL t c e (wipeL l vs) (xs.drop (i + 1)) s)).bd fun zs s' => fin (acc ++ zs) s') Q, fun H' w => ⟨xs.length - (i + 1), by omega, rfl, hlt, w⟩, fun x H' y => ?_⟩
      obtain ⟨E2, S2, r2⟩ := src.yld i _ s H x H' xs[i] (wOf E) S (List.getElem?_eq_getElem hlt) y
      refine ⟨_, xs[i], wipeL l vs, s, S2, L.mono E2, r2, ?_⟩
      rw [List.drop_eq_getElem_cons hlt] at q
      simp only [lcL] at q
      -- what stands behind some steps of the turn
      have go : ∀ {p' : Pl} {H' : Hp}, Ext ⟨q0, D :: p1.rs⟩ H p' H' → p' = ⟨p'.pl, D :: p1.rs⟩ ∧ D ∉ p'.pl ∧ H' D = some (.lst ys) ∧ Ext p1 H1 ⟨p'.pl, p1.rs⟩ H' := fun {p' H'} F => by
        obtain ⟨pl, rs⟩ := p'
        have er : rs = D :: p1.rs := F.rsv
        subst er
        refine ⟨rfl, F.noPl hHD hDpl, F.keep D _ hHD hDpl, ?_⟩
        obtain ⟨t1, h1, h2⟩ := E.pre
        have h1' : q0 = p1.pl ++ t1 := h1
        exact E.trans ⟨F.pre, rfl, F.keep, F.dom⟩
      cases et : t xs[i] (wipeL l vs) s with
      | ok l1 s2 =>
        rw [et] at q
        intro p3 σ3 H3 E3 S3 L3 sb
        refine ⟨wipe_same hs sb, p3, l1, s2, S3, L3, ?_⟩
        have E13 := E2.trans E3
        cases ec : c l1 s2 with
        | ok b s3 =>
          simp only [R.bd, ec] at q
          intro p4 H4 b' E4 S4 rb
          cases rb
          have E14 := E13.trans E4
          cases b with
          | true =>
            rw [if_pos rfl] at q ⊢
            refine ⟨p4, l1, s3, S4, L3.mono E4, ?_⟩
            cases ee : e l1 s3 with
            | ok z s4 =>
              simp only [ee] at q
              intro p5 H5 zv E5 S5 rz
              have E15 := E14.trans E5
              obtain ⟨ep, hD5p, hD5, E5'⟩ := go E15
              have L5 := L.mono E15
              have rs5 := rs.mono E15
              generalize hq5 : p5.pl = q5 at ep hD5p E5'
              subst ep
              have hDm : D ∈ (⟨q5, D :: p1.rs⟩ : Pl).rs := List.mem_cons_self
              have Ew : ExtW ⟨q5, D :: p1.rs⟩ H5 ⟨q5, D :: p1.rs⟩ (upd H5 D (.lst (ys ++ [zv]))) := .rsvd hDm
              refine ⟨ys, hD5, by rw [← rs.len, sizeLine_eq]; omega, q5, s4, acc ++ [z], ys ++ [zv], hD5p, ?_, S5.rsvd hDm, L5.monoW Ew, upd_same, RepVs.monoW Ew _ _ (rs5.app (.cons rz .nil)), by rw [List.length_append]; exact Nat.add_le_add_right hal 1, ?_⟩
              · refine ⟨E5'.pre, rfl, fun b o hb hn => ?_, fun b hb => ?_⟩
                · rw [upd_ne (ne_of_none hb hD)]; exact E5'.keep b o hb hn
                · by_cases eb : b = D
                  · rw [eb]; exact hD
                  · rw [upd_ne eb] at hb; exact E5'.dom b hb
              · cases er : lcL t c e (wipeL l vs) (xs.drop (i + 1)) s4 with
                | ok zs s5 =>
                  rw [er] at q
                  have q' : post T X.K W (RepV X.K) p1 H1 σ (fin (acc ++ z :: zs) s5) Q := q
                  show post T X.K W (RepV X.K) p1 H1 σ (fin ((acc ++ [z]) ++ zs) s5) Q
                  rw [List.append_assoc]
                  exact q'
                | ex e' s5 => rw [er] at q; exact (show False from q).elim
                | bad => rw [er] at q; exact (show False from q).elim
            | ex e' s4 => simp only [ee] at q; exact (show False from q).elim
            | bad => simp only [ee] at q; exact (show False from q).elim
          | false =>
            rw [if_neg Bool.false_ne_true] at q ⊢
            obtain ⟨ep, hD5p, hD5, E5'⟩ := go E14
            have L5 := L.mono E14
            have rs5 := rs.mono E14
            generalize hq5 : p4.pl = q5 at ep hD5p E5'
            subst ep
            exact ⟨q5, s3, acc, ys, hD5p, E5', S4, L5, hD5, rs5, by omega, q⟩
        | ex e' s3 => simp only [R.bd, ec] at q; exact (show False from q).elim
        | bad => simp only [R.bd, ec] at q; exact (show False from q).elim
      | ex e' s2 => rw [et] at q; exact (show False from q).elim
      | bad => rw [et] at q; exact (show False from q).elim
    · have ei : i = xs.length := by omega
      subst ei
      rw [List.drop_length] at q
      refine .inl ⟨src.stop _ H (wOf E), ?_⟩
      have q' : post T X.K W (RepV X.K) p1 H1 σ (fin (acc ++ []) s) Q := q
      rw [List.append_nil] at q'
      exact hfin hD E S hDpl hDr1 hHD rs q'
theorem fin_lst {q : List Addr} {s : Sto} {H : Hp} {σ : L2.St} {p1 : Pl} {H1 : Hp} {D : Addr} {acc : List Val} {ys : List V} {Q : VK} (hD : H1 D = Option.none) (E : Ext p1 H1 ⟨q, p1.rs⟩ H) (S : RepSt X.K ⟨q, D :: p1.rs⟩ s H) (h1 : D ∉ q) (h2 : D ∉ p1.rs) (h3 : H D = some (.lst ys)) (r : RepVs X.K ⟨q, D :: p1.rs⟩ H acc ys)
    (h : post T X.K W (RepV X.K) p1 H1 σ (finL acc s) Q) : Q (.ref D) H := by
  have hle : ∀ a ∈ p1.rs, a ∈ (⟨q, D :: p1.rs⟩ : Pl).rs := fun a ha => List.mem_cons_of_mem _ ha
  exact h _ _ _ E (S.less hle) (.lst h3 (fun z => z.elim h1 h2) (RepVs.monoW (.less hle) _ _ r))
theorem fin_loc {q : List Addr} {s : Sto} {H : Hp} {σ : L2.St} {p1 : Pl} {H1 : Hp} {D : Addr} {acc : List Val} {ys : List V} {Q : VK} (hD : H1 D = Option.none) (E : Ext p1 H1 ⟨q, p1.rs⟩ H) (S : RepSt X.K ⟨q, D :: p1.rs⟩ s H) (h1 : D ∉ q) (h2 : D ∉ p1.rs) (h3 : H D = some (.lst ys)) (r : RepVs X.K ⟨q, D :: p1.rs⟩ H acc ys)
    (h : post T X.K W (RepV X.K) p1 H1 σ (finC acc s) Q) : Q (.ref D) H := by
  have E2 : Ext p1 H1 ⟨q ++ [D], p1.rs⟩ H := by
    obtain ⟨t, e, ht⟩ := E.pre
    have e' : q = p1.pl ++ t := e
    refine ⟨⟨t ++ [D], by show q ++ [D] = _; rw [e', List.append_assoc], fun a ha => ?_⟩, rfl, E.keep, E.dom⟩
    rcases List.mem_append.mp ha with z | z
    · exact ht a z
    · rw [List.mem_singleton.mp z]; exact hD
  exact h _ _ _ E2 (S.place h2 h3 r) (.loc (by show (q ++ [D])[s.length]? = some D; rw [← S.len]; show (q ++ [D])[q.length]? = some D; rw [List.getElem?_append_right (Nat.le_refl _)]; simp))
theorem c_lc {elt tg iter : Expr} {ifs : List Expr} {scope : Scope} (own : List (Str × Nat)) {pos : Pos} {m : M (List Val)} {t : Tg} {ss : List Nat} {c : M Bool} {e : M Val} {fin : List Val → Sto → R Val}
    (hfin : ∀ {q : List Addr} {s : Sto} {H : Hp} {σ : L2.St} {p1 : Pl} {H1 : Hp} {D : Addr} {acc : List Val} {ys : List V} {Q : VK}, H1 D = Option.none → Ext p1 H1 ⟨q, p1.rs⟩ H → RepSt X.K ⟨q, D :: p1.rs⟩ s H → D ∉ q → D ∉ p1.rs → H D = some (.lst ys) → RepVs X.K ⟨q, D :: p1.rs⟩ H acc ys → post T X.K W (RepV X.K) p1 H1 σ (fin acc s) Q → Q (.ref D) H)
    (hc : X.calm = true) (hN : X.N.Nodup) (hi : CI T W X tg iter m) (ok : blkC X.N X.env.scope scope own = true) (hss : ∀ i ∈ ss, i ∈ own.map (·.2))
    (hg : ∀ (s : Shared) (H : Hp) (C : Addr) (cl : List (Str × Addr)) (fp : List Addr), CG T W0 (X.blk s H scope (compEnvC scope cl C X.env) fp) tg ss t)
    (ht : ∀ (s : Shared) (H : Hp) (C : Addr) (cl : List (Str × Addr)) (fp : List Addr), CTs T W0 (X.blk s H scope (compEnvC scope cl C X.env) fp) ifs c)
    (he : ∀ (s : Shared) (H : Hp) (C : Addr) (cl : List (Str × Addr)) (fp : List Addr), CE T W0 (X.blk s H scope (compEnvC scope cl C X.env) fp) elt e)
    (hs : ∀ x, foldedSetIterable iter X.env x = pure x := by intro _; rfl) : CE T W X (.ListComp elt [⟨tg, iter, ifs, 0⟩] scope pos) (lcM m t c e (own.map (·.2)) fin) :=
  PEw (pe_lc (g := tTg T X.K W0 ss t) (tt := tG T X.K W0 rB c) (te := tG T X.K W0 (RepV X.K) e) hc hN hi (blkOk_by ok) hg ht he hs) fun σ H Q h => t_lc (ss := ss) hfin hss h
/-- name = [..] on one line -/
theorem cs_setLc (i : Nat) {y : Str} {py : Pos} {elt tg iter : Expr} {ifs : List Expr} {scope : Scope} (own : List (Str × Nat)) {pos spos : Pos} {m : M (List Val)} {t : Tg} {ss : List Nat} {c : M Bool} {e : M Val} {fin : List Val → Sto → R Val}
    (hfin : ∀ {q : List Addr} {s : Sto} {H : Hp} {σ : L2.St} {p1 : Pl} {H1 : Hp} {D : Addr} {acc : List Val} {ys : List V} {Q : VK}, H1 D = Option.none → Ext p1 H1 ⟨q, p1.rs⟩ H → RepSt X.K ⟨q, D :: p1.rs⟩ s H → D ∉ q → D ∉ p1.rs → H D = some (.lst ys) → RepVs X.K ⟨q, D :: p1.rs⟩ H acc ys → post T X.K W (RepV X.K) p1 H1 σ (fin acc s) Q → Q (.ref D) H)
    (hc : X.calm = true) (hN : X.N.Nodup) (hi : CI T W X tg iter m) (ok : blkC X.N X.env.scope scope own = true) (hss : ∀ i ∈ ss, i ∈ own.map (·.2))
    (hg : ∀ (s : Shared) (H : Hp) (C : Addr) (cl : List (Str × Addr)) (fp : List Addr), CG T W0 (X.blk s H scope (compEnvC scope cl C X.env) fp) tg ss t)
    (ht : ∀ (s : Shared) (H : Hp) (C : Addr) (cl : List (Str × Addr)) (fp : List Addr), CTs T W0 (X.blk s H scope (compEnvC scope cl C X.env) fp) ifs c)
    (he : ∀ (s : Shared) (H : Hp) (C : Addr) (cl : List (Str × Addr)) (fp : List Addr), CE T W0 (X.blk s H scope (compEnvC scope cl C X.env) fp) elt e)
    (hsw : swapsWith (.ListComp elt [⟨tg, iter, ifs, 0⟩] scope pos) (some (.Name y py)) spos.line X.env = pure true)
    (hy : X.N[i]? = some y := by rfl) (hyl : X.env.scope.names.lookup y = some .local := by rfl) (hs : ∀ x, foldedSetIterable iter X.env x = pure x := by intro _; rfl) :
    CS T W X (.Assign [.Name y py] (.ListComp elt [⟨tg, iter, ifs, 0⟩] scope pos) spos) (asgB (lcM m t c e (own.map (·.2)) fin) (nameT i)) := by
  refine PSw (ps_setLc (g := tTg T X.K W0 ss t) (tt := tG T X.K W0 rB c) (te := tG T X.K W0 (RepV X.K) e) hc hN hy hyl hsw hi (blkOk_by ok) hg ht he hs) fun D σ H h => ?_
  refine t_lc (ss := ss) (fin := fin) hfin hss ?_
  obtain ⟨p, l, s, S, L, q⟩ := t_asg (ss := [i]) h
  exact ⟨p, l, s, S, L, q.imp fun x H1 ⟨p1, v, l1, s1, S1, L1, r1, q1⟩ => q1 p1 _ H1 .refl S1 (L1.set r1) .set⟩
end

/-! ### defs -/
def runFn (nN np : Nat) (b : B) : Fn := fun args s => if args.length = np then match b (args.map some ++ List.replicate (nN - np) none) s with
  | .nx _ s1 => .ok .non s1
  | .rt v s1 => .ok v s1
  | .ex e _ s1 => .ex e s1
  | _ => .bad
  else .bad
/-- a def's promise: it does what f does -/
def spM (T : Tab) (K : PySem.W.Frag) (n : Nat) (f : Fn) : Sp := fun vs H Q E => vs.length = n ∧ ∃ p s args, RepSt K p s H ∧ RepVs K p H args vs ∧ post T K (fun c d _ H => E c d H) (RepV K) p H [] (f args s) Q
/-- FnOk where no guard is held -/
structure FnG (P : Program) (w : World) (K : PySem.W.Frag) (mg : Str → Option Value) (base : Heap) (k : Nat) (f : Addr) (fd : FuncData) (ps : List Str) (sp : Sp) : Prop where
  len : ∀ vs H Q E, sp vs H Q E → vs.length = ps.length
  run : ∀ (A : Around) (outer : List Env) (s : Shared) (H : Hp) (args : Args) (us : List Value) (vs : List V) (Q : VK) (E : XK), Room k A → A.guards = some [] → Env0 P w K mg base A outer s H → BindsTo s fd args (ps.zip us) → Vals vs us → sp vs H Q E →
    codeAny (model P w) A (.call (.ref f) args) (CR (L2.CX P w) outer P w H s Q E) s
theorem FnG.up {P : Program} {w : World} {K : PySem.W.Frag} {mg : Str → Option Value} {base : Heap} {j k : Nat} {f : Addr} {fd : FuncData} {ps : List Str} {sp : Sp} (F : FnG P w K mg base j f fd ps sp) (h : j ≤ k) : FnG P w K mg base k f fd ps sp :=
  ⟨F.len, fun A outer s H args us vs Q E hr => F.run A outer s H args us vs Q E (hr.mono h)⟩
section
variable {P : Program} {w : World} {K : PySem.W.Frag} {mg : Str → Option Value} {base : Heap}
/-- the context of a def's body -/
abbrev cxF (P : Program) (w : World) (K : PySem.W.Frag) (mg : Str → Option Value) (base : Heap) (N : List Str) (qual : Str) (st : Stmt) (f : Addr) (cd : Value) (A : Around) (outer : List Env) (s : Shared) (H : Hp) (E : XK) : Cx :=
  cxOf (L2.CX P w) P w K mg base N qual (defScope st) f cd A outer s H E
theorem fn_g {T : Tab} {x qual : Str} {st : Stmt} {f : Addr} {fd : FuncData} {N ps : List Str} {k : Nat} {b : B} (F : Fun K x qual st f fd) (S : FnScope N ps (defScope st))
    (hb : ∀ (cd : Value) (A : Around) (outer : List Env) (s : Shared) (H : Hp) (E : XK), XOk k (cxF P w K mg base N qual st f cd A outer s H E) → Takes (cxF P w K mg base N qual st f cd A outer s H E) (fun c d _ H => E c d H) →
      PassesOwn (model P w) (A.deeper (envOfC qual (defScope st) s.heap.objs.size f cd)) (envOfC qual (defScope st) s.heap.objs.size f cd) (cxF P w K mg base N qual st f cd A outer s H E).xe →
      CB T (fun c d _ H => E c d H) (cxF P w K mg base N qual st f cd A outer s H E) (defBody st) b) : FnG P w K mg base (k + 1) f fd ps (spM T K ps.length (runFn N.length ps.length b)) := by
  obtain ⟨oc, od, kV, doc, pm, an, cd, ct, osl, rfl, lk, hcd⟩ := F.ex
  refine ⟨fun vs H Q E h => h.1, fun A outer s H args us vs Q E hr hgr e0 hbt r hsp => ?_⟩
  obtain ⟨hl, p, st0, av, SS, RV, q⟩ := hsp
  have inK : K.In s.heap := e0.mod.kin.keeps fun b o e => (e0.bs b o e).1
  have noLim : s.heap.NoLimit := e0.mod.nolimit.keeps fun b o e => (e0.bs b o e).1
  refine codeAny_call_function hr.depth (inK _ _ lk) rfl S.co S.gen rfl (PySem.W.codeRec_of inK hcd) (hbt _ _ _ _ ?_)
  refine wpAny_newFunctionEnv_cells S.kind (fun y hy => ?_) fun env he s1 ic => ?_
  · obtain ⟨n, v⟩ := y
    rcases S.par n (List.of_mem_zip hy).1 with z | z
    · exact Or.inl z
    · exact Or.inr ⟨z, PySem.W.cellsFrom_some _ _ _ (Or.inl z)⟩
  subst he
  refine ⟨noLim.keeps ic.toInCall.keep, codeAny_func ?_⟩
  have I : Inv (cxF P w K mg base N qual st f cd A outer s H E) [] (L2.start N vs) H s1 := inv_start S hr.hd e0 hl r ic
  have xk : XOk k (cxF P w K mg base N qual st f cd A outer s H E) := ⟨hr.deeper _, hgr⟩
  have tk : Takes (cxF P w K mg base N qual st f cd A outer s H E) (fun c d _ H => E c d H) := takes_of rfl rfl rfl rfl
  have po : PassesOwn (model P w) (A.deeper (envOfC qual (defScope st) s.heap.objs.size f cd)) (envOfC qual (defScope st) s.heap.objs.size f cd) (cxF P w K mg base N qual st f cd A outer s H E).xe := passes_of rfl
  have hL : RepL K p H (av.map some ++ List.replicate (N.length - ps.length) none) (L2.start N vs) := by
    unfold L2.start
    refine ⟨by simp [RV.len, hl], fun i v h => ?_⟩
    by_cases hi : i < av.length
    · rw [List.getElem?_append_left (by simpa using hi), List.getElem?_map] at h
      cases e : av[i]? with
      | none => rw [e] at h; cases h
      | some u =>
        rw [e] at h
        cases h
        obtain ⟨y, e1, ry⟩ := RV.at_ e
        refine ⟨y, ?_, ry⟩
        rw [List.getElem?_append_left (by simpa [← RV.len] using hi), List.getElem?_map, e1]
        rfl
    · rw [List.getElem?_append_right (by simpa using hi), List.getElem?_replicate] at h
      split at h <;> cases h
  have hq : postS T K (fun c d _ H => E c d H) p H (b (av.map some ++ List.replicate (N.length - ps.length) none) st0) { nx := fun _ H' => Q .non H', rt := Q } := by
    unfold runFn at q
    rw [if_pos (show av.length = ps.length by rw [RV.len]; exact hl)] at q
    cases e : b (av.map some ++ List.replicate (N.length - ps.length) none) st0 with
    | nx l s1 => rw [e] at q; exact fun p' σ' H' E' S' _ => q p' H' _ E' S' .non
    | rt v s1 => rw [e] at q; exact q
    | ex e' l s1 => rw [e] at q; exact fun p' σ' H' c d E' S' _ rx => q p' H' c d E' S' rx
    | bk l s1 => rw [e] at q; exact q.elim
    | ct l s1 => rw [e] at q; exact q.elim
    | bad => rw [e] at q; exact q.elim
  have body := (hb cd A outer s H E xk tk po).run [] s1 (L2.start N vs) H { nx := fun _ H' => Q .non H', rt := Q } I ⟨p, _, st0, SS, hL, hq⟩
  refine wpAny_mono body (fun fl s' hs => ?_) fun e s' hs => hs
  cases fl with
  | ret u =>
    obtain ⟨v, σ', H', J, rv, q'⟩ := hs
    exact ⟨v, H', J.os, J.bare, J.base, J.hok, rv, q'⟩
  | next =>
    obtain ⟨σ', H', J, q'⟩ := hs
    exact ⟨V.non, H', J.os, J.bare, J.base, J.hok, rfl, q'⟩
  | brk => obtain ⟨_, _, _, q'⟩ := hs; exact False.elim q'
  | cont => obtain ⟨_, _, _, q'⟩ := hs; exact False.elim q'
end

/-! ### calls of defs -/
/-- the arguments by the parameters' order -/
def pick {α : Type} (pm : List Nat) (xs : List α) : List α := pm.filterMap fun i => xs[i]?
theorem pick_cons {α : Type} (i : Nat) (pm : List Nat) (xs : List α) : pick (i :: pm) xs = match xs[i]? with | some y => y :: pick pm xs | none => pick pm xs := by
  unfold pick
  rw [List.filterMap_cons]
  cases xs[i]? <;> rfl
theorem pick_vals {xs : List V} {us : List Value} (r : Vals xs us) : ∀ pm : List Nat, Vals (pick pm xs) (pick pm us)
  | [] => .nil
  | i :: pm => by
    rw [pick_cons, pick_cons]
    cases e : xs[i]? with
    | some y =>
      obtain ⟨u, eu, ru⟩ := r.get e
      rw [eu]
      exact .cons ru (pick_vals r pm)
    | none => rw [Vals.none_of r e]; exact pick_vals r pm
theorem pick_rep {K : PySem.W.Frag} {p : Pl} {H : Hp} {vs : List Val} {xs : List V} (r : RepVs K p H vs xs) : ∀ pm : List Nat, RepVs K p H (pick pm vs) (pick pm xs)
  | [] => .nil
  | i :: pm => by
    rw [pick_cons, pick_cons]
    cases e : vs[i]? with
    | some y =>
      obtain ⟨u, eu, ru⟩ := r.at_ e
      rw [eu]
      exact .cons ru (pick_rep r pm)
    | none =>
      have e2 : xs[i]? = none := by
        rw [List.getElem?_eq_none_iff] at e ⊢
        rw [← r.len]; exact e
      rw [e2]
      exact pick_rep r pm
def KB (K : PySem.W.Frag) (fd : FuncData) (ps ks : List Str) (np : Nat) (pm : List Nat) : Prop := ∀ (s : Shared) (us ws : List Value), K.In s.heap → us.length = np → ws.length = ks.length → BindsTo s fd ⟨us, ks.zip ws⟩ (ps.zip (pick pm (us ++ ws)))
def callU (n : M (List Val)) (f : Fn) : M Val := fun l s => (n l s).bd f
def callK (n nk : M (List Val)) (np nkw : Nat) (pm : List Nat) (f : Fn) : M Val := fun l s => (n l s).bd fun vs s1 => (nk l s1).bd fun ws s2 => if vs.length = np ∧ ws.length = nkw then f (pick pm (vs ++ ws)) s2 else .bad
section
variable {T : Tab} {W : WX} {X : Cx} {k j : Nat} {f : Addr} {fd : FuncData} {ps ks : List Str} {fn : Fn} {x : Str} {pf pos kpos : Pos} {e : Expr} {es : List Expr} {n nk : M (List Val)} {kws : List Keyword} {nm : Option Str} {m : M Val} {na : Nat}
theorem run_g {args : Args} {pins : List (Addr × Obj)} {σ : L2.St} {H : Hp} {s : Shared} {Q : VK} {us : List Value} {vs : List V} {E : XK} {sp : Sp} (F : FnG X.prog X.w X.K X.mg X.base k f fd ps sp) (xk : XOk k X) (hx : PassesAt (L2.CX X.prog X.w) X σ E)
    (I : Inv X pins σ H s) (hb : BindsTo s fd args (ps.zip us)) (r : Vals vs us) (h : sp vs H Q E) : codeAny (model X.prog X.w) X.A (.call (.ref f) args) (fun r s' => match r with | .ok (.ret u) => EP X pins σ Q u s' | .ok _ => False | .error e => X.xe e s') s := by
  refine codeAny_mono (F.run X.A X.stack s H args us vs Q E xk.room xk.grd I.env0 hb r h) fun r s' hq => ?_
  cases r with
  | error e => exact hx pins H s e s' I hq
  | ok fl =>
    cases fl with
    | ret u => exact I.after hq
    | next => exact hq
    | brk => exact hq
    | cont => exact hq
theorem sp_of {p : Pl} {s : Sto} {H : Hp} {σ : L2.St} {vs : List Val} {xs : List V} {Q : VK} (S : RepSt X.K p s H) (r : RepVs X.K p H vs xs) (hl : vs.length = na) (q : post T X.K W (RepV X.K) p H σ (fn vs s) Q) : spM T X.K na fn xs H Q (WE W σ) := by
  refine ⟨by rw [← r.len]; exact hl, p, s, vs, S, r, ?_⟩
  cases e : fn vs s with
  | ok v s1 => rw [e] at q; exact q
  | ex e' s1 => rw [e] at q; exact q
  | bad => rw [e] at q; exact q.elim
theorem c_call (F : FnG X.prog X.w X.K X.mg X.base j f fd ps (spM T X.K na fn)) (xk : XOk k X) (tk : Takes X W) (hg : Gl X x) (hm : X.mg x = some (.ref f)) (hk : PySem.W.keepIn X.K (.ref f) = true) (hb : Binds X.K fd ps [])
    (ha : CA T W X (e :: es) n) (hlen : ∀ l s v s1, n l s = .ok v s1 → v.length = na) (hps : ps.length = na) (hj : j ≤ k := by decide) (hdb : (x == ("__debug__" : Str)) = false := by decide) (he : starEach (e :: es) X.env = (false, eval e X.env) :: starEach es X.env := by rfl) (hpl : (backTo pos (starEach es X.env)).any (·.1) = false := by rfl) :
    CE T W X (.Call (.Name x pf) (e :: es) [] pos) (callU n fn) := by
  refine ⟨fun pins s σ H Q I h => ?_⟩
  obtain ⟨p, l, st, S, L, q⟩ := h
  refine wpAny_Call_Name_kw (ld_glob I hg hm ?_ hdb)
  refine PySem.W.callWith_K (h₀ := X.base) I.ok.mod.kin hk (thn (ha.run pos pins s σ H _ I ⟨p, l, st, S, L, post.bd (rep := RepVs X.K) q⟩) fun us s1 ⟨vs, H1, I1, r, p1, av, s2, e1, E1, S1, r1, q1⟩ => ⟨I1.kIn, ?_⟩) he hpl
  have hl := hlen _ _ _ _ e1
  have hu : us.length = ps.length := by rw [← r.length, ← r1.len, hl, hps]
  have b := hb s1 us I1.kIn (by rw [List.append_nil]; exact hu)
  rw [List.append_nil] at b
  refine wpAny_call (codeAny_mono (run_g (F.up hj) xk (passAt tk σ) I1 b r (sp_of S1 r1 hl q1)) fun r s' hq => ?_)
  cases r with
  | error e => exact hq
  | ok fl => cases fl <;> exact hq
theorem c_call0 (F : FnG X.prog X.w X.K X.mg X.base j f fd ps (spM T X.K na fn)) (xk : XOk k X) (tk : Takes X W) (hg : Gl X x) (hm : X.mg x = some (.ref f)) (hk : PySem.W.keepIn X.K (.ref f) = true) (hb : Binds X.K fd ps []) (hna : na = 0) (hps : ps = [])
    (hj : j ≤ k := by decide) (hdb : (x == ("__debug__" : Str)) = false := by decide) : CE T W X (.Call (.Name x pf) [] [] pos) (callU nilM fn) := by
  refine ⟨fun pins s σ H Q I h => ?_⟩
  obtain ⟨p, l, st, S, L, q⟩ := h
  refine wpAny_Call_Name_kw (ld_glob I hg hm ?_ hdb)
  subst hps hna
  have b := hb s [] I.kIn rfl
  exact PySem.W.callWith_K0 I.kIn hk (wpAny_call (codeAny_mono (run_g (F.up hj) xk (passAt tk σ) I b .nil (sp_of (vs := []) S .nil rfl q)) fun r s' hq => by
    cases r with
    | error e => exact hq
    | ok fl => cases fl <;> exact hq))
def CK (T : Tab) (W : WX) (X : Cx) (kws : List Keyword) (n : M (List Val)) : Prop := PK X kws (tG T X.K W (RepVs X.K) n)
theorem PKw {kws : List Keyword} {t t' : TA} (h : PK X kws t) (w : ∀ σ H Q, t' σ H Q → t σ H Q) : PK X kws t' := ⟨fun pos pins s σ H Q I q => h.run pos pins s σ H Q I (w _ _ _ q)⟩
theorem ck_nil : CK T W X [] nilM := PKw pk_nil fun σ H Q ⟨p, l, s, S, L, q⟩ => q.pure S .nil
theorem ck_cons (ha : CE T W X e m) (hr : CK T W X kws n) : CK T W X (⟨nm, e, kpos⟩ :: kws) (consM m n) := by
  refine PKw (pk_cons ha hr) fun σ H Q h => ?_
  obtain ⟨p, l, s, S, L, q⟩ := h
  refine ⟨p, l, s, S, L, ?_⟩
  refine (post.bd (rep := RepV X.K) q).imp fun x H1 ⟨p1, v, s1, e1, E1, S1, r1, q1⟩ => ?_
  refine ⟨p1, l, s1, S1, L.mono E1, ?_⟩
  refine (post.bd (rep := RepVs X.K) q1).imp fun xs H2 ⟨p2, vs, s2, e2, E2, S2, r2, q2⟩ => ?_
  exact q2.pure S2 (.cons (r1.mono E2) r2)
theorem c_callK {np nkw : Nat} {pm : List Nat} (F : FnG X.prog X.w X.K X.mg X.base j f fd ps (spM T X.K na fn)) (xk : XOk k X) (tk : Takes X W) (hg : Gl X x) (hm : X.mg x = some (.ref f)) (hk : PySem.W.keepIn X.K (.ref f) = true) (hb : KB X.K fd ps ks np pm) (hkl : ks.length = nkw)
    (ha : CA T W X (e :: es) n) (hkw : CK T W X kws nk) (hpm : ∀ vs : List Val, vs.length = np + nkw → (pick pm vs).length = na) (hall : (backToKw pos (keywordEach kws X.env)).all (·.1.isSome) = true := by rfl) (hks : (backToKw pos (keywordEach kws X.env)).filterMap (·.1) = ks := by rfl)
    (hj : j ≤ k := by decide) (hdb : (x == ("__debug__" : Str)) = false := by decide) (he : starEach (e :: es) X.env = (false, eval e X.env) :: starEach es X.env := by rfl)
    (hpl : ((backTo pos (starEach (e :: es) X.env)).any (·.1) || (backToKw pos (keywordEach kws X.env)).any (·.1.isNone)) = false := by rfl) :
    CE T W X (.Call (.Name x pf) (e :: es) kws pos) (callK n nk np nkw pm fn) := by
  refine ⟨fun pins s σ H Q I h => ?_⟩
  obtain ⟨p, l, st, S, L, q⟩ := h
  refine wpAny_Call_Name_kw (ld_glob I hg hm ?_ hdb)
  refine PySem.W.callWith_KW (h₀ := X.base) I.ok.mod.kin hk hall (thn (ha.run pos pins s σ H _ I ⟨p, l, st, S, L, post.bd (rep := RepVs X.K) q⟩) fun us s1 ⟨vs, H1, I1, r, p1, av, s2, e1, E1, S1, r1, q1⟩ => ?_) hpl he
  refine thn (hkw.run pos pins s1 σ H1 _ I1 ⟨p1, l, s2, S1, L.mono E1, post.bd (rep := RepVs X.K) q1⟩) fun ws s3 ⟨zs, H2, I2, rz, p2, aw, s4, e2, E2, S2, r2, q2⟩ => ⟨I2.kIn, ?_⟩
  split at q2
  · rename_i hz
    rw [hks]
    have rr := (r1.mono E2).app r2
    have rv : Vals (vs ++ zs) (us ++ ws) := r.append rz
    have hl : (pick pm (av ++ aw)).length = na := hpm _ (by rw [List.length_append]; omega)
    refine wpAny_call (codeAny_mono (run_g (F.up hj) xk (passAt tk σ) I2 (hb s3 us ws I2.kIn (by rw [← r.length, ← r1.len]; exact hz.1) (by rw [← rz.length, ← r2.len, hkl]; exact hz.2)) (pick_vals rv pm) (sp_of S2 (pick_rep rr pm) hl q2)) fun r s' hq => ?_)
    cases r with
    | error e => exact hq
    | ok fl => cases fl <;> exact hq
  · exact q2.elim
theorem c_callK0 {nkw : Nat} {pm : List Nat} (F : FnG X.prog X.w X.K X.mg X.base j f fd ps (spM T X.K na fn)) (xk : XOk k X) (tk : Takes X W) (hg : Gl X x) (hm : X.mg x = some (.ref f)) (hk : PySem.W.keepIn X.K (.ref f) = true) (hb : KB X.K fd ps ks 0 pm) (hkl : ks.length = nkw)
    (hkw : CK T W X kws nk) (hpm : ∀ vs : List Val, vs.length = nkw → (pick pm vs).length = na) (hall : (backToKw pos (keywordEach kws X.env)).all (·.1.isSome) = true := by rfl) (hks : (backToKw pos (keywordEach kws X.env)).filterMap (·.1) = ks := by rfl)
    (hj : j ≤ k := by decide) (hdb : (x == ("__debug__" : Str)) = false := by decide)
    (hpl : ((backTo pos (starEach [] X.env)).any (·.1) || (backToKw pos (keywordEach kws X.env)).any (·.1.isNone)) = false := by rfl) :
    CE T W X (.Call (.Name x pf) [] kws pos) (callK nilM nk 0 nkw pm fn) := by
  refine ⟨fun pins s σ H Q I h => ?_⟩
  obtain ⟨p, l, st, S, L, q⟩ := h
  refine wpAny_Call_Name_kw (ld_glob I hg hm ?_ hdb)
  have q0 : post T X.K W (RepV X.K) p H σ ((nk l st).bd fun ws s2 => if ([] : List Val).length = 0 ∧ ws.length = nkw then fn (pick pm ([] ++ ws)) s2 else .bad) Q := q
  refine PySem.W.callWith_KW0 (h₀ := X.base) I.ok.mod.kin hk hall (thn (hkw.run pos pins s σ H _ I ⟨p, l, st, S, L, post.bd (rep := RepVs X.K) q0⟩) fun ws s3 ⟨zs, H2, I2, rz, p2, aw, s4, e2, E2, S2, r2, q2⟩ => ⟨I2.kIn, ?_⟩) hpl
  split at q2
  · rename_i hz
    rw [hks]
    have hl : (pick pm aw).length = na := hpm _ hz.2
    have bb := hb s3 [] ws I2.kIn rfl (by rw [← rz.length, ← r2.len, hkl]; exact hz.2)
    rw [List.nil_append] at bb q2
    refine wpAny_call (codeAny_mono (run_g (F.up hj) xk (passAt tk σ) I2 bb (pick_vals rz pm) (sp_of S2 (pick_rep r2 pm) hl q2)) fun r s' hq => ?_)
    cases r with
    | error e => exact hq
    | ok fl => cases fl <;> exact hq
  · exact q2.elim
end
/-- how many values a list of expressions gives -/
theorem len_nil : ∀ l s v s1, nilM l s = .ok v s1 → v.length = 0 := fun l s v s1 h => by
  unfold nilM at h
  cases h; rfl
theorem len_cons {m : M Val} {n : M (List Val)} {k : Nat} (hn : ∀ l s v s1, n l s = .ok v s1 → v.length = k) : ∀ l s v s1, consM m n l s = .ok v s1 → v.length = k + 1 := fun l s v s1 h => by
  unfold consM at h
  cases e : m l s with
  | ok a s2 =>
    rw [e] at h
    simp only [R.bd] at h
    cases e2 : n l s2 with
    | ok b s3 => rw [e2] at h; simp only at h; cases h; rw [List.length_cons, hn _ _ _ _ e2]
    | ex _ _ => rw [e2] at h; simp only at h; cases h
    | bad => rw [e2] at h; simp only at h; cases h
  | ex _ _ => rw [e] at h; simp only [R.bd] at h; cases h
  | bad => rw [e] at h; simp only [R.bd] at h; cases h
end Mn
set_option maxHeartbeats 4000000
/-! Mini6: repr, str; the law's end. -/
namespace Mn
open PySem PySem.Spec PyProof.Rows L2

/-! ### repr of data -/
section
variable {T : Tab} {W : WX} {X : Cx}
def rRepr (K : PySem.W.Frag) : List V → Hp → VK → Prop := fun vs H Q => ∃ x d, vs = [x] ∧ Dp K H x d ∧ d.showable = true ∧ d.canLay0 = true ∧ d.depth ≤ 60 ∧ d.shown.length ≤ sizeLine ∧ Q (.str d.shown) H
theorem o_repr {k : Nat} (xk : XOk k X) : CallR X (.builtin "repr") (rRepr X.K) := by
  intro pins s σ H vs us Q I r h
  obtain ⟨x, d, rfl, hd, h1, h2, h3, h4, q⟩ := h
  obtain ⟨u, rfl, ru⟩ := vals1 r
  obtain ⟨as, rd⟩ := Dp.reads I d x u hd ru
  have hu := xk.hu
  have fin : ∀ (z : Str) (tk : Nat), d.shown = z → EP X pins σ Q (.str z s.toks) { s with toks := tk } := fun z tk e => ⟨.str z, H, I.tok tk, ⟨_, rfl⟩, by rw [← e]; exact q⟩
  cases hd with
  | non => cases (show u = Value.none from ru); exact PySem.P.repr_of_none (fin _ _ rfl)
  | bl b => cases (show u = Value.bool b from ru); exact PySem.P.repr_of_bool (fin _ _ rfl)
  | int i =>
    obtain ⟨t, rfl⟩ := (show ∃ t, u = Value.int i t from ru)
    exact PySem.P.repr_of_int (of_decide_eq_true h1) (fin _ _ rfl)
  | str z =>
    obtain ⟨t, rfl⟩ := (show ∃ t, u = Value.str z t from ru)
    exact PySem.P.repr_of_str (fin _ _ rfl) h4
  | @lst a xs ds hs ha =>
    cases (show u = Value.ref a from ru)
    refine PySem.repr_of_reads' rd h1 (fun z => ?_) xk.grd (by omega) (fun b o e => e) (fun h' u tk hk => ⟨.str _, H, I.kept (t' := tk) hk, ⟨_, rfl⟩, q⟩) h4
    rw [PyData.hasDict_of_canLay _ h2] at z
    cases z
  | @tup a xs ds hs ha =>
    cases (show u = Value.ref a from ru)
    refine PySem.repr_of_reads' rd h1 (fun z => ?_) xk.grd (by omega) (fun b o e => e) (fun h' u tk hk => ⟨.str _, H, I.kept (t' := tk) hk, ⟨_, rfl⟩, q⟩) h4
    rw [PyData.hasDict_of_canLay _ h2] at z
    cases z
def reprV (v : Val) (s : Sto) : R Val := getO (data s v) fun d => if (d.showable && d.canLay0 && decide (d.depth ≤ 60)) = true ∧ d.shown.length ≤ 16777216 then .ok (.str d.shown) s else .bad
theorem s_repr : SndL T X W (rRepr X.K) (g1 reprV) := snd1 fun p s H σ v x Q S r1 q => by
  unfold reprV at q
  obtain ⟨d, e, q⟩ := q.getO
  split at q
  · rename_i hz
    obtain ⟨h1, h2⟩ := hz
    rw [Bool.and_eq_true, Bool.and_eq_true] at h1
    exact ⟨x, d, rfl, r1.dp S e, h1.1.1, h1.1.2, of_decide_eq_true h1.2, line_ok h2, q.pure S (.str _)⟩
  · exact q.elim
end

/-! ### the law's end -/
theorem end_call {P : Program} {w : World} {K : PySem.W.Frag} {mg mb : Str → Option Value} {k : Nat} {fa a : Addr} {fd : FuncData} {x : Str} {T : Tab} {f : Fn} {s1 : Shared} {vs : List Value} {ns : List Int}
    (KX : K.In s1.heap) (hns : s1.heap.Ns mainGlobals mg) (hb : s1.heap.Ns builtinsNs mb) (hbb : ∀ x : Str, x ≠ "__name__" → mb x = bootBuiltins x) (hlim : s1.heap.NoLimit) (hg : s1.gens = #[])
    (ha : s1.heap.get? a = some { cls := .type "list", data := .seq vs.toArray }) (hi : IntsAre vs ns) (hl : ns.length ≤ sizeLine) (hr : Room k callerA)
    (F : ∀ base : Heap, K.In base → base.Ns mainGlobals mg → FnG P w K mg base k fa fd [x] (spM T K 1 f)) (hbind : ∀ (s : Shared) (u : Value), BindsTo s fd ⟨[u], []⟩ [(x, u)])
    (hf : ∃ s', f [.scr ns] [] = .ok (.bl true) s') :
    codeAny (model P w) callerA (.call (.ref fa) ⟨[.ref a], []⟩) (fun r s' => r = .ok (.ret (.bool true)) ∧ OldK s1.heap s'.heap ∧ s'.os = s1.os ∧ AllBare s'.gens) s1 := by
  obtain ⟨sE, hf⟩ := hf
  have hlen := hi.length
  -- the heap is known by H: nothing, or the script locked
  have main : ∀ H : Hp, Only H → HOk P w H s1.heap → (∀ b, H b ≠ none → b = a) → (H a ≠ none → K.lookup a = none) → RepV K ⟨[], []⟩ H (.scr ns) (.ref a) →
      codeAny (model P w) callerA (.call (.ref fa) ⟨[.ref a], []⟩) (fun r s' => r = .ok (.ret (.bool true)) ∧ OldK s1.heap s'.heap ∧ s'.os = s1.os ∧ AllBare s'.gens) s1 := by
    intro H hO hok hA hK hrep
    have free : ∀ {b : Addr} {o : Obj}, s1.heap.get? b = some o → (b = a → False) → (hidT s1.heap H).get? b = some o := fun {b o} e hne => by
      refine hidT_get e ?_
      cases q : H b with
      | none => rfl
      | some u => exact (hne (hA b (by rw [q]; simp))).elim
    have names : ∀ {b : Addr} {m : Str → Option Value}, s1.heap.Ns b m → (hidT s1.heap H).Ns b m := fun {b m} hn => by
      obtain ⟨o, es, ep, e, d, r⟩ := hn
      refine ⟨o, es, ep, free e fun z => ?_, d, r⟩
      subst z
      rw [ha] at e
      cases e
      exact nomatch d
    have kin : K.In (hidT s1.heap H) := fun b o e => by
      have e1 := KX b o e
      cases q : H b with
      | none => exact hidT_get e1 q
      | some u =>
        have hba := hA b (by rw [q]; simp)
        subst hba
        have := hK (by rw [q]; simp)
        rw [this] at e; cases e
    have md : Mod K mg (hidT s1.heap H) := ⟨kin, names hns, ⟨mb, names hb, hbb⟩, by
      obtain ⟨mc, h1, h2⟩ := hlim
      exact ⟨mc, names h1, h2⟩⟩
    have env : Env0 P w K mg (hidT s1.heap H) callerA [] s1 H := ⟨rfl, md, fun b o e => of_hidT e, Nat.le_of_eq (hidT_size _ _), trivial, (fun b hb => nomatch hb), hok, .of_eq hg⟩
    have sp : spM T K 1 f [.ref a] H (fun v _ => v = .bl true) (fun _ _ _ => False) := by
      refine ⟨rfl, ⟨[], []⟩, [], [.scr ns], ⟨rfl, List.nodup_nil, (fun a ha => nomatch ha), (fun a ha => nomatch ha), (fun n a o h1 _ => nomatch h1)⟩, .cons hrep .nil, ?_⟩
      rw [hf]
      intro p' H' x _ _ r
      cases r
      rfl
    refine codeAny_mono ((F _ kin (names hns)).run callerA [] s1 H ⟨[.ref a], []⟩ [.ref a] [.ref a] _ _ hr rfl env (hbind s1 (.ref a)) (.cons rfl .nil) sp) fun r s' h => ?_
    cases r with
    | error e =>
      obtain ⟨_, _, _, _, _, _, _, _, _, _, _, _, z⟩ := h
      exact z.elim
    | ok fl =>
      cases fl with
      | ret u =>
        obtain ⟨v, H', os, bare, un, hok', rv, qv⟩ := h
        have qv' : v = .bl true := qv
        subst qv'
        cases (show u = Value.bool true from rv)
        refine ⟨rfl, OldK.of_keep fun b o e => ?_, os, bare⟩
        cases q : H b with
        | none => exact un.keep b o e q (fun z => nomatch z) (by simp)
        | some u =>
          rcases hO b with z | ⟨ob, xs, z⟩
          · rw [q] at z; cases z
          · have o1 := (hok b _ z).1
            have o2 := (hok' b _ (un.frzs b ob _ z)).1
            rw [e] at o1
            cases o1
            exact o2
      | next => exact False.elim h
      | brk => exact False.elim h
      | cont => exact False.elim h
  cases hk : K.lookup a with
  | some o =>
    have e := KX a o hk
    rw [ha] at e
    cases e
    exact main (fun _ => none) (fun _ => .inl rfl) (fun b u z => nomatch z) (fun b z => absurd rfl z) (fun z => absurd rfl z) (.kscr ⟨_, vs.toArray, _, hk, rfl, rfl, rfl, by rw [List.size_toArray, hlen]; exact hl, by simpa using vals_ints hi⟩)
  | none =>
    have hat : ∀ {u : HO}, (fun b : Addr => if b = a then some u else none) a = some u := fun {u} => if_pos rfl
    have hoff : ∀ {u : HO} {b : Addr}, b ≠ a → (fun b : Addr => if b = a then some u else none) b = none := fun {u b} h => if_neg h
    refine main (fun b => if b = a then some (.frz { cls := .type "list", data := .seq vs.toArray } (.lst (ns.map V.int))) else none) (fun b => ?_) (fun b u z => ?_) (fun b z => ?_) (fun _ => hk) (.scr (.inr ⟨_, hat⟩) fun z => by rcases z with z | z <;> exact nomatch z)
    · by_cases hba : b = a
      · subst hba; exact .inr ⟨_, _, hat⟩
      · exact .inl (hoff hba)
    · by_cases hba : b = a
      · subst hba
        have z' := hat.symm.trans z
        cases z'
        exact ⟨ha, by rw [List.length_map]; exact hl, vs, _, vals_ints hi, ha⟩
      · have z' := (hoff hba).symm.trans z
        cases z'
    · by_cases hba : b = a
      · exact hba
      · exact absurd (hoff hba) z
theorem walk_g {l : PySem.W.OpenLaw} {n k : Nat} {q : Program} {loose : List Str} {XP : (Str → Option Value) → Heap → Prop} {YP : World → Heap → Prop} {d : DefRec} {K : Params → PySem.W.Frag} {x : Str} {f : Fn}
    (hn : l.most = some n) (hn2 : n ≤ sizeLine) (hdf : d.params.defaults = []) (hr : Room k callerA)
    (hY : ∀ (w : World) (h : Heap), YP w h → (K w.params).In h)
    (F : ∀ (w : World) (mg : Str → Option Value) (fa : Addr) (h : Heap), (K w.params).In h → h.Ns mainGlobals mg → mg d.name = some (.ref fa) →
      ∃ (fd : FuncData) (T : Tab), (∀ (s : Shared) (u : Value), BindsTo s fd ⟨[u], []⟩ [(x, u)]) ∧
        ∀ base : Heap, (K w.params).In base → base.Ns mainGlobals mg → FnG l.prog w (K w.params) mg base k fa fd [x] (spM T (K w.params) 1 f))
    (hf : ∀ ns : List Int, ns.length ≤ n → ∃ s', f [.scr ns] [] = .ok (.bl true) s') :
    PySem.W.WalkO q loose XP YP l.row.toRowW d [] (fun f vs => PySem.call f vs) := by
  refine Att.attach_call hn hdf fun w s0 s1 mg mb fa o pm cd doc a vs ns G Y ho hd hcd hmg hobj hints hlen hg => ?_
  have KX := hY w _ Y
  obtain ⟨fd, T, hb, hF⟩ := F w mg fa _ KX G.T.g hmg
  exact end_call KX G.T.g G.T.b G.T.builtins G.T.nolimit hg hobj hints (Nat.le_trans hlen hn2) hr hF hb (hf ns hlen)
end Mn
set_option maxHeartbeats 4000000
/-! Mini7: short rules for the printed derivations. -/
namespace Mn
open PySem PySem.Spec PyProof.Rows L2

/-- as many turns as the int at a slot, and one -/
def fuelAt (i : Nat) : Loc → Sto → Nat := fun l _ => match l[i]? with
  | some (some (Val.int j)) => j.natAbs + 1
  | _ => 0
theorem bt_abs : bootBuiltins "abs" = some (.builtin "abs") := by decide +kernel
theorem bt_max : bootBuiltins "max" = some (.builtin "max") := by decide +kernel
theorem bt_min : bootBuiltins "min" = some (.builtin "min") := by decide +kernel
theorem bt_len : bootBuiltins "len" = some (.builtin "len") := by decide +kernel
theorem bt_divmod : bootBuiltins "divmod" = some (.builtin "divmod") := by decide +kernel
theorem bt_all : bootBuiltins "all" = some (.builtin "all") := by decide +kernel
theorem bt_any : bootBuiltins "any" = some (.builtin "any") := by decide +kernel
theorem bt_sum : bootBuiltins "sum" = some (.builtin "sum") := by decide +kernel
theorem bt_repr : bootBuiltins "repr" = some (.builtin "repr") := by decide +kernel
theorem bt_int : bootBuiltins "int" = some (.type "int") := by decide +kernel
theorem bt_bool : bootBuiltins "bool" = some (.type "bool") := by decide +kernel
theorem bt_str : bootBuiltins "str" = some (.type "str") := by decide +kernel
theorem bt_tuple : bootBuiltins "tuple" = some (.type "tuple") := by decide +kernel
theorem bt_list : bootBuiltins "list" = some (.type "list") := by decide +kernel
theorem bt_dict : bootBuiltins "dict" = some (.type "dict") := by decide +kernel
section
variable {T : Tab} {W : WX} {X : Cx} {k : Nat} {pf pos : Pos} {e e2 : Expr} {n : M (List Val)}
theorem k_abs (hm : X.mg "abs" = none) (ha : CA T W X [e] n) (hg : Gl X "abs" := by rfl) (he : starEach [e] X.env = (false, eval e X.env) :: starEach [] X.env := by rfl) (hpl : (backTo pos (starEach [] X.env)).any (·.1) = false := by rfl) : CE T W X (.Call (.Name "abs" pf) [e] [] pos) (callG n (g1 absV)) := c_callB call_abs s_abs hg hm bt_abs ha (by decide) (by decide) he hpl
theorem k_len (hm : X.mg "len" = none) (ha : CA T W X [e] n) (hg : Gl X "len" := by rfl) (he : starEach [e] X.env = (false, eval e X.env) :: starEach [] X.env := by rfl) (hpl : (backTo pos (starEach [] X.env)).any (·.1) = false := by rfl) : CE T W X (.Call (.Name "len" pf) [e] [] pos) (callG n (g1 lenV)) := c_callB call_len s_len hg hm bt_len ha (by decide) (by decide) he hpl
theorem k_all (hc : X.calm = true) (hm : X.mg "all" = none) (ha : CA T W X [e] n) (hg : Gl X "all" := by rfl) (he : starEach [e] X.env = (false, eval e X.env) :: starEach [] X.env := by rfl) (hpl : (backTo pos (starEach [] X.env)).any (·.1) = false := by rfl) : CE T W X (.Call (.Name "all" pf) [e] [] pos) (callG n (g1 allV)) := c_callB (cr_all hc) s_all hg hm bt_all ha (by decide) (by decide) he hpl
theorem k_any (hc : X.calm = true) (hm : X.mg "any" = none) (ha : CA T W X [e] n) (hg : Gl X "any" := by rfl) (he : starEach [e] X.env = (false, eval e X.env) :: starEach [] X.env := by rfl) (hpl : (backTo pos (starEach [] X.env)).any (·.1) = false := by rfl) : CE T W X (.Call (.Name "any" pf) [e] [] pos) (callG n (g1 anyV)) := c_callB (cr_any hc) s_any hg hm bt_any ha (by decide) (by decide) he hpl
theorem k_sum (hc : X.calm = true) (hm : X.mg "sum" = none) (ha : CA T W X [e] n) (hg : Gl X "sum" := by rfl) (he : starEach [e] X.env = (false, eval e X.env) :: starEach [] X.env := by rfl) (hpl : (backTo pos (starEach [] X.env)).any (·.1) = false := by rfl) : CE T W X (.Call (.Name "sum" pf) [e] [] pos) (callG n (g1 sumV)) := c_callB (cr_sum hc) s_sum hg hm bt_sum ha (by decide) (by decide) he hpl
theorem k_repr (xk : XOk k X) (hm : X.mg "repr" = none) (ha : CA T W X [e] n) (hg : Gl X "repr" := by rfl) (he : starEach [e] X.env = (false, eval e X.env) :: starEach [] X.env := by rfl) (hpl : (backTo pos (starEach [] X.env)).any (·.1) = false := by rfl) : CE T W X (.Call (.Name "repr" pf) [e] [] pos) (callG n (g1 reprV)) := c_callB (o_repr xk) s_repr hg hm bt_repr ha (by decide) (by decide) he hpl
theorem k_max2 (hc : X.calm = true) (hm : X.mg "max" = none) (ha : CA T W X [e, e2] n) (hg : Gl X "max" := by rfl) (he : starEach [e, e2] X.env = (false, eval e X.env) :: starEach [e2] X.env := by rfl) (hpl : (backTo pos (starEach [e2] X.env)).any (·.1) = false := by rfl) : CE T W X (.Call (.Name "max" pf) [e, e2] [] pos) (callG n (g2 maxV)) := c_callB (call_max2 hc) s_max2 hg hm bt_max ha (by decide) (by decide) he hpl
theorem k_min2 (hc : X.calm = true) (hm : X.mg "min" = none) (ha : CA T W X [e, e2] n) (hg : Gl X "min" := by rfl) (he : starEach [e, e2] X.env = (false, eval e X.env) :: starEach [e2] X.env := by rfl) (hpl : (backTo pos (starEach [e2] X.env)).any (·.1) = false := by rfl) : CE T W X (.Call (.Name "min" pf) [e, e2] [] pos) (callG n (g2 minV)) := c_callB (call_min2 hc) s_min2 hg hm bt_min ha (by decide) (by decide) he hpl
theorem k_divmod (hm : X.mg "divmod" = none) (ha : CA T W X [e, e2] n) (hg : Gl X "divmod" := by rfl) (he : starEach [e, e2] X.env = (false, eval e X.env) :: starEach [e2] X.env := by rfl) (hpl : (backTo pos (starEach [e2] X.env)).any (·.1) = false := by rfl) : CE T W X (.Call (.Name "divmod" pf) [e, e2] [] pos) (callG n (g2 dmV)) := c_callB call_divmod s_dm hg hm bt_divmod ha (by decide) (by decide) he hpl
theorem k_gcd (hm : X.mg "gcd" = some (.builtin "math.gcd")) (ha : CA T W X [e, e2] n) (hg : Gl X "gcd" := by rfl) (he : starEach [e, e2] X.env = (false, eval e X.env) :: starEach [e2] X.env := by rfl) (hpl : (backTo pos (starEach [e2] X.env)).any (·.1) = false := by rfl) : CE T W X (.Call (.Name "gcd" pf) [e, e2] [] pos) (callG n (g2 gcdV)) := c_callF cr_gcd s_gcd hg hm ha (by decide) he hpl
theorem k_int (hm : X.mg "int" = none) (ha : CA T W X [e] n) (hg : Gl X "int" := by rfl) (he : starEach [e] X.env = (false, eval e X.env) :: starEach [] X.env := by rfl) (hpl : (backTo pos (starEach [] X.env)).any (·.1) = false := by rfl) : CE T W X (.Call (.Name "int" pf) [e] [] pos) (callG n (g1 intV)) := c_callTy o_int s_int hg hm bt_int ha (by decide) (by decide) he hpl
theorem k_tuple (hm : X.mg "tuple" = none) (ha : CA T W X [e] n) (hg : Gl X "tuple" := by rfl) (he : starEach [e] X.env = (false, eval e X.env) :: starEach [] X.env := by rfl) (hpl : (backTo pos (starEach [] X.env)).any (·.1) = false := by rfl) : CE T W X (.Call (.Name "tuple" pf) [e] [] pos) (callG n (g1 tupleV)) := c_callTy call_tuple_of s_tuple hg hm bt_tuple ha (by decide) (by decide) he hpl
theorem k_list (hm : X.mg "list" = none) (ha : CA T W X [e] n) (hg : Gl X "list" := by rfl) (he : starEach [e] X.env = (false, eval e X.env) :: starEach [] X.env := by rfl) (hpl : (backTo pos (starEach [] X.env)).any (·.1) = false := by rfl) : CE T W X (.Call (.Name "list" pf) [e] [] pos) (callG n (g1 listV)) := c_callTy call_list_of s_list hg hm bt_list ha (by decide) (by decide) he hpl
theorem k_listC (hm : X.mg "list" = none) (ha : CA T W X [e] n) (hg : Gl X "list" := by rfl) (he : starEach [e] X.env = (false, eval e X.env) :: starEach [] X.env := by rfl) (hpl : (backTo pos (starEach [] X.env)).any (·.1) = false := by rfl) : CE T W X (.Call (.Name "list" pf) [e] [] pos) (callG n (g1 listC)) := c_callTy call_list_of s_listC hg hm bt_list ha (by decide) (by decide) he hpl
end
/-- binding by keywords -/
theorem kb_of {K : PySem.W.Frag} {x qual : Str} {st : Stmt} {f : Addr} {fd : FuncData} {ps ks : List Str} {np : Nat} {pm : List Nat} (F : Fun K x qual st f fd)
    (h : ∀ (kV doc pm' : Value) (an : Option Addr) (cdv ct : Value) (us ws : List Value), us.length = np → ws.length = ks.length → bindArgs (PySem.W.fnOf x qual (defArgs st) (defBody st) (defScope st) .none kV doc pm' an cdv ct) ⟨us, ks.zip ws⟩ = pure (ps.zip (pick pm (us ++ ws)))) : KB K fd ps ks np pm := by
  obtain ⟨oc, od, kV, doc, pm', an, cdv, ct, osl, rfl, lk, hcd⟩ := F.ex
  exact fun s us ws _ h1 h2 => .of_eq (h kV doc pm' an cdv ct us ws h1 h2)
theorem calls0 {X : Cx} : Takes X W0 := takes0
theorem blk_ok {k : Nat} {X : Cx} {s : Shared} {H : Hp} {scope : Scope} {cenv : Env} {fp : List Addr} (xk : XOk k X) : XOk k (X.blk s H scope cenv fp) := ⟨xk.room, xk.grd⟩
end Mn
set_option maxHeartbeats 4000000
/-! Mini8: how the own meanings are reckoned with. -/
namespace Mn
open PySem PySem.Spec PyProof.Rows L2
section
variable {α β : Type} {a : α} {s : Sto} {e : Exn} {f : α → Sto → R β} {fb : α → Sto → RB} {l : Loc}
theorem bd_ok : (R.ok a s).bd f = f a s := rfl
theorem bd_ex : (R.ex e s : R α).bd f = .ex e s := rfl
theorem bd_bad : (R.bad : R α).bd f = .bad := rfl
theorem rb_ok : (R.ok a s).rb l fb = fb a s := rfl
theorem rb_ex : (R.ex e s : R α).rb l fb = .ex e l s := rfl
theorem rb_bad : (R.bad : R α).rb l fb = .bad := rfl
theorem noex_ok : noex (R.ok a s) = .ok a s := rfl
theorem getO_some {o : α} {g : α → R β} : getO (some o) g = g o := rfl
end
def RB.tn (r : RB) (c : B) : RB := match r with
  | .nx l1 s1 => c l1 s1
  | r => r
def RB.fn (r : RB) : R Val := match r with
  | .nx _ s1 => .ok .non s1
  | .rt v s1 => .ok v s1
  | .ex e _ s1 => .ex e s1
  | _ => .bad
def toB (v : Val) (s : Sto) : R Bool := match v with
  | .bl b => .ok b s
  | _ => .bad
def notK (v : Val) (s : Sto) : R Val := match v with
  | .bl b => .ok (.bl (!b)) s
  | _ => .bad
def andK (m : M Val) (l : Loc) (v : Val) (s : Sto) : R Val := match v with
  | .bl true => m l s
  | .bl false => .ok (.bl false) s
  | _ => .bad
def orK (m : M Val) (l : Loc) (v : Val) (s : Sto) : R Val := match v with
  | .bl true => .ok (.bl true) s
  | .bl false => m l s
  | _ => .bad
def parK (i j : Nat) (l : Loc) (vs : List Val) (s : Sto) : RB := match vs with
  | [v, w] => .nx ((l.set i (some v)).set j (some w)) s
  | _ => .bad
section
variable {l : Loc} {s : Sto} {c : B} {v w : Val} {e : Exn} {m : M Val} {i j : Nat} {b : Bool}
theorem tn_nx : (RB.nx l s).tn c = c l s := rfl
theorem tn_rt : (RB.rt v s).tn c = .rt v s := rfl
theorem tn_ex : (RB.ex e l s).tn c = .ex e l s := rfl
theorem tn_bk : (RB.bk l s).tn c = .bk l s := rfl
theorem tn_ct : (RB.ct l s).tn c = .ct l s := rfl
theorem tn_bad : RB.bad.tn c = .bad := rfl
theorem fn_nx : (RB.nx l s).fn = .ok .non s := rfl
theorem fn_rt : (RB.rt v s).fn = .ok v s := rfl
theorem fn_ex : (RB.ex e l s).fn = .ex e s := rfl
theorem fn_bad : RB.bad.fn = .bad := rfl
theorem toB_bl : toB (.bl b) s = .ok b s := rfl
theorem notK_bl : notK (.bl b) s = .ok (.bl (!b)) s := rfl
theorem andK_t : andK m l (.bl true) s = m l s := rfl
theorem andK_f : andK m l (.bl false) s = .ok (.bl false) s := rfl
theorem andK_b : andK m l (.bl b) s = if b = true then m l s else .ok (.bl false) s := by cases b <;> rfl
theorem orK_b : orK m l (.bl b) s = if b = true then .ok (.bl true) s else m l s := by cases b <;> rfl
theorem parK_2 : parK i j l [v, w] s = .nx ((l.set i (some v)).set j (some w)) s := rfl
theorem lk_0 : lk 0 (some v :: l) s = .ok v s := rfl
theorem lk_s {x : Option Val} : lk (i + 1) (x :: l) s = lk i l s := rfl
end
section
variable {α : Type} {x y z u w : α} {xs : List α}
theorem atI_0 : L2.atI (x :: xs) 0 = some x := atI_nat (j := 0) rfl
theorem atI_1 : L2.atI (x :: y :: xs) 1 = some y := atI_nat (j := 1) rfl
theorem atI_2 : L2.atI (x :: y :: z :: xs) 2 = some z := atI_nat (j := 2) rfl
theorem atI_3 : L2.atI (x :: y :: z :: u :: xs) 3 = some u := atI_nat (j := 3) rfl
theorem ixN_0 {n : Nat} (h : 0 < n) : L2.ixN n 0 = some 0 := by unfold L2.ixN; rw [if_pos (by decide), if_pos (by omega)]; rfl
theorem ixN_1 {n : Nat} (h : 1 < n) : L2.ixN n 1 = some 1 := by unfold L2.ixN; rw [if_pos (by decide), if_pos (by omega)]; rfl
end
section
variable {s : Sto} {l : Loc} {ma mb mc : M Val} {g g' : Val → Val → Sto → R Val} {h1 : Val → Sto → R Val} {t : M Bool} {b c : B} {tg : Tg} {n nk : M (List Val)} {i j : Int} {vs ws : List Val} {v w : Val}
theorem e_bin : bin ma mb g l s = (ma l s).bd fun v s1 => (mb l s1).bd fun w s2 => g v w s2 := rfl
theorem e_una : una ma h1 l s = (ma l s).bd h1 := rfl
theorem e_cst : cst v l s = .ok v s := rfl
theorem e_sq_nx {l1 : Loc} {s1 : Sto} (h : b l s = .nx l1 s1) : sq b c l s = c l1 s1 := by unfold sq; rw [h]
theorem e_sq : sq b c l s = (b l s).tn c := rfl
theorem e_asg : asgB ma tg l s = (ma l s).rb l fun v s1 => (tg v l s1).rb l fun l1 s2 => .nx l1 s2 := rfl
theorem e_ret : retB ma l s = (ma l s).rb l fun v s1 => .rt v s1 := rfl
theorem e_drop : dropB ma l s = (ma l s).rb l fun _ s1 => .nx l s1 := rfl
theorem e_ifB : ifB t b c l s = (t l s).rb l fun k s1 => if k = true then b l s1 else c l s1 := rfl
theorem e_pass : passB l s = .nx l s := rfl
theorem e_retN : retN l s = .rt .non s := rfl
theorem e_bad : badB l s = .bad := rfl
theorem e_name {k : Nat} : nameT k v l s = .ok (l.set k (some v)) s := rfl
theorem e_consM : consM ma n l s = (ma l s).bd fun v s1 => (n l s1).bd fun vs s2 => .ok (v :: vs) s2 := rfl
theorem e_nilM : nilM l s = .ok [] s := rfl
theorem e_callU {f : Fn} : callU n f l s = (n l s).bd f := rfl
theorem e_callG {f : List Val → Sto → R Val} : callG n f l s = (n l s).bd f := rfl
theorem e_g1 {f : Val → Sto → R Val} : g1 f [v] s = f v s := rfl
theorem e_g2 {f : Val → Val → Sto → R Val} : g2 f [v, w] s = f v w s := rfl
theorem e_asB : asB ma l s = (ma l s).bd toB := rfl
theorem e_tru : tru ma l s = (ma l s).bd truV := rfl
theorem e_ifV : ifV t ma mb l s = (t l s).bd fun b s1 => if b = true then ma l s1 else mb l s1 := rfl
theorem e_andM {u : M Bool} : andM t u l s = (t l s).bd fun b s1 => if b = true then u l s1 else .ok false s1 := rfl
theorem e_orM {u : M Bool} : orM t u l s = (t l s).bd fun b s1 => if b = true then .ok true s1 else u l s1 := rfl
theorem e_notM : notM t l s = (t l s).bd fun b s1 => .ok (!b) s1 := rfl
theorem e_add : addV (.int i) (.int j) s = .ok (.int (i + j)) s := rfl
theorem e_sub : subV (.int i) (.int j) s = .ok (.int (i - j)) s := rfl
theorem e_mul : mulV (.int i) (.int j) s = if i.natAbs.log2 + j.natAbs.log2 < 1000000 then .ok (.int (i * j)) s else .bad := rfl
theorem e_fdiv : fdivV (.int i) (.int j) s = if j ≠ 0 ∧ j.natAbs.log2 < 9000 then .ok (.int (i.fdiv j)) s else .bad := rfl
theorem e_mod : modV (.int i) (.int j) s = if j ≠ 0 then .ok (.int (i.fmod j)) s else .bad := rfl
theorem e_pow : powV (.int i) (.int j) s = if 0 ≤ j ∧ j ≤ 1000000 ∧ i.natAbs < 18446744073709551616 then .ok (.int (i ^ j.toNat)) s else .bad := rfl
theorem e_neg : negV (.int i) s = .ok (.int (-i)) s := rfl
theorem e_cmp {f : Int → Int → Bool} : cmpV f (.int i) (.int j) s = .ok (.bl (f i j)) s := rfl
theorem e_eqI : eqV (.int i) (.int j) s = .ok (.bl (i == j)) s := rfl
theorem e_neI : neV (.int i) (.int j) s = .ok (.bl (!(i == j))) s := rfl
theorem e_eqT2 {a b c d : Int} : eqV (.tup [.int a, .int b]) (.tup [.int c, .int d]) s = .ok (.bl ((a == c) && ((b == d) && true))) s := rfl
theorem e_neT2 {a b c d : Int} : neV (.tup [.int a, .int b]) (.tup [.int c, .int d]) s = .ok (.bl (!((a == c) && ((b == d) && true)))) s := rfl
theorem e_ixT {xs : List Val} : ixV (.tup xs) (.int i) s = getO (atI xs i) fun y => .ok y s := rfl
theorem e_ixL {xs : List Val} : ixV (.lst xs) (.int i) s = getO (atI xs i) fun y => .ok y s := rfl
theorem e_ixS {ns : List Int} : ixV (.scr ns) (.int i) s = getO (atI (ns.map Val.int) i) fun y => .ok y s := rfl
theorem e_lk0 {x : Option Val} {l : Loc} (h : x = some v) : lk 0 (x :: l) s = .ok v s := by subst h; rfl
theorem e_abs : absV (.int i) s = .ok (.int (if i < 0 then -i else i)) s := rfl
theorem e_max : maxV (.int i) (.int j) s = .ok (.int (if j > i then j else i)) s := rfl
theorem e_intI : intV (.int i) s = .ok (.int i) s := rfl
theorem e_intB {b : Bool} : intV (.bl b) s = .ok (.int (if b then 1 else 0)) s := rfl
theorem e_gcd : gcdV (.int i) (.int j) s = .ok (.int ((Nat.gcd i.natAbs j.natAbs : Nat) : Int)) s := rfl
theorem e_dm : dmV (.int i) (.int j) s = if 0 < j ∧ j < 1073741824 then .ok (.tup [.int (i / j), .int (i % j)]) s else .bad := rfl
theorem e_lenT {xs : List Val} : lenV (.tup xs) s = .ok (.int xs.length) s := rfl
theorem e_lenL {xs : List Val} : lenV (.lst xs) s = .ok (.int xs.length) s := rfl
theorem e_lenS {ns : List Int} : lenV (.scr ns) s = .ok (.int (ns.map Val.int).length) s := rfl
theorem e_tup : tupM n l s = (n l s).bd fun vs s1 => if vs.length ≤ 16777216 then .ok (.tup vs) s1 else .bad := rfl
theorem e_lst : lstM n l s = (n l s).bd fun vs s1 => if vs.length ≤ 16777216 then .ok (.lst vs) s1 else .bad := rfl
theorem e_loc : locM n l s = (n l s).bd fun vs s1 => if vs.length ≤ 16777216 then .ok (.loc s1.length) (s1 ++ [.lst vs]) else .bad := rfl
theorem e_truB {b : Bool} : truV (.bl b) s = .ok b s := rfl
theorem e_isi {t : Ty} : isiV t v s = .ok (.bl (isa t v)) s := rfl
theorem e_tupT {k : Nat} {u : List Val → M Loc} : tupT k u (.tup vs) l s = if vs.length = k then u vs l s else .bad := rfl
theorem e_consT {u : List Val → M Loc} : consT tg u (v :: vs) l s = (tg v l s).bd fun l1 s1 => noex (u vs l1 s1) := rfl
theorem e_nilT : nilT [] l s = .ok l s := rfl
theorem e_sub_ : subT ma mb v l s = (ma l s).bd fun o s1 => (mb l s1).bd fun i s2 => (putV o i v s2).bd fun _ s3 => .ok l s3 := rfl
theorem e_run {nN np : Nat} {b : B} : runFn nN np b vs s = if vs.length = np then (b (vs.map some ++ List.replicate (nN - np) none) s).fn else .bad := rfl
theorem e_par {x y : Nat} : parB x y n l s = (n l s).rb l (parK x y l) := rfl
theorem e_chn : chn ma mb mc g g' l s = (ma l s).bd fun v s1 => (mb l s1).bd fun w s2 => (g v w s2).bd (andK (una mc (g' w)) l) := rfl
theorem e_callK {np nkw : Nat} {pm : List Nat} {f : Fn} : callK n nk np nkw pm f l s = (n l s).bd fun vs s1 => (nk l s1).bd fun ws s2 => if vs.length = np ∧ ws.length = nkw then f (pick pm (vs ++ ws)) s2 else .bad := rfl
theorem e_andV : andV ma mb l s = (ma l s).bd (andK mb l) := rfl
theorem e_orV : orV ma mb l s = (ma l s).bd (orK mb l) := rfl
theorem e_notV : notV ma l s = (ma l s).bd notK := rfl
theorem e_isB {a b : Bool} : isBV (.bl a) (.bl b) s = .ok (.bl (decide (a = b))) s := rfl
theorem e_notB {a b : Bool} : notBV (.bl a) (.bl b) s = .ok (.bl (!decide (a = b))) s := rfl
end
section
variable {n : Nat} {s : Sto} {xs : List Val} {i : Int} {v : Val} {j : Nat}
theorem deref_loc (h : s[n]? = some (.lst xs)) : deref s (.loc n) = some xs := by
  show (match s[n]? with | some (.lst xs) => some xs | none => none) = _
  rw [h]
theorem e_ixC (h : s[n]? = some (.lst xs)) : ixV (.loc n) (.int i) s = getO (atI xs i) fun y => .ok y s := by
  show getO (deref s (.loc n)) _ = _
  rw [deref_loc h]; rfl
theorem e_lenC (h : s[n]? = some (.lst xs)) : lenV (.loc n) s = .ok (.int xs.length) s := by
  show (match deref s (.loc n) with | some xs => R.ok (Val.int xs.length) s | none => .bad) = _
  rw [deref_loc h]
theorem e_put (h : s[n]? = some (.lst xs)) (hj : L2.ixN xs.length i = some j) : putV (.loc n) (.int i) v s = .ok () (s.set n (.lst (xs.set j v))) := by
  show (match s[n]? with | some (.lst xs) => (match ixN xs.length i with | some j => R.ok () (s.set n (.lst (xs.set j v))) | none => .bad) | none => .bad) = _
  rw [h]
  simp only
  rw [hj]
end
section
variable {m : M (List Val)} {me mv : M Val} {t : Tg} {c : M Bool} {vs xs : List Val} {x : Val} {os : List Nat} {fin : List Val → Sto → R Val} {l : Loc} {s : Sto} {o : Nat} {ns : List Int}
theorem e_lcM : lcM m t c me os fin l s = (m l s).bd fun xs s1 => if xs.length ≤ 16777216 then (noex (lcL t c me (wipeL l os) xs s1)).bd fin else .bad := rfl
theorem lcL_nil : lcL t c me l [] s = .ok [] s := rfl
theorem lcL_cons : lcL t c me l (x :: xs) s = (t x l s).bd fun l1 s1 => (c l1 s1).bd fun b s2 => if b = true then (me l1 s2).bd fun y s3 => (lcL t c me l xs s3).bd fun ys s4 => .ok (y :: ys) s4 else lcL t c me l xs s2 := rfl
theorem wipeL_nil : wipeL l [] = l := rfl
theorem wipeL_cons : wipeL l (o :: os) = (wipeL l os).set o none := rfl
theorem e_yes : yesM l s = .ok true s := rfl
theorem e_finL : finL vs s = .ok (.lst vs) s := rfl
theorem e_finC : finC vs s = .ok (.loc s.length) (s ++ [.lst vs]) := rfl
def walkK (v : Val) (s : Sto) : R (List Val) := match fixed v with
  | some xs => .ok xs s
  | none => .bad
theorem e_walk : walkV mv l s = (mv l s).bd walkK := rfl
theorem walkK_t : walkK (.tup xs) s = .ok xs s := rfl
theorem walkK_l : walkK (.lst xs) s = .ok xs s := rfl
theorem walkK_s : walkK (.scr ns) s = .ok (ns.map .int) s := rfl
theorem e_allL : allV (.lst xs) s = getO (boolsOf xs) fun bs => .ok (.bl (bs.all id)) s := by
  show (match deref s (.lst xs) with | some xs => (match boolsOf xs with | some bs => R.ok (Val.bl (bs.all id)) s | none => .bad) | none => .bad) = _
  show (match boolsOf xs with | some bs => R.ok (Val.bl (bs.all id)) s | none => .bad) = _
  cases boolsOf xs <;> rfl
theorem e_anyL : anyV (.lst xs) s = getO (boolsOf xs) fun bs => .ok (.bl (bs.any id)) s := by
  show (match boolsOf xs with | some bs => R.ok (Val.bl (bs.any id)) s | none => .bad) = _
  cases boolsOf xs <;> rfl
theorem e_sumL : sumV (.lst xs) s = getO (intsOf xs) fun bs => .ok (.int bs.sum) s := by
  show (match intsOf xs with | some bs => R.ok (Val.int bs.sum) s | none => .bad) = _
  cases intsOf xs <;> rfl
theorem boolsOf_map : ∀ bs : List Bool, boolsOf (bs.map .bl) = some bs
  | [] => rfl
  | b :: bs => by
    show (match boolsOf (bs.map Val.bl) with | some cs => some (b :: cs) | none => none) = _
    rw [boolsOf_map bs]
theorem intsOf_map : ∀ bs : List Int, intsOf (bs.map .int) = some bs
  | [] => rfl
  | b :: bs => by
    show (match intsOf (bs.map Val.int) with | some cs => some (b :: cs) | none => none) = _
    rw [intsOf_map bs]
theorem e_tupleT : tupleV (.tup xs) s = .ok (.tup xs) s := rfl
theorem e_tupleL : tupleV (.lst xs) s = .ok (.tup xs) s := rfl
theorem e_listT : listV (.tup xs) s = .ok (.lst xs) s := rfl
theorem e_listL : listV (.lst xs) s = .ok (.lst xs) s := rfl
end
theorem lg_of {i : Int} {k : Nat} (h : i.natAbs < 2 ^ k) (hk : 0 < k) : i.natAbs.log2 < k := PySem.Flt.log2_lt_of hk h
/-- below 2 ^ k in size -/
def Sm (k : Nat) (i : Int) : Prop := i.natAbs < 2 ^ k
instance {k : Nat} {i : Int} : Decidable (Sm k i) := inferInstanceAs (Decidable (_ < _))
theorem nc_0 : ((0 : Nat) : Int) = 0 := rfl
theorem nc_1 : ((1 : Nat) : Int) = 1 := rfl
theorem nc_2 : ((2 : Nat) : Int) = 2 := rfl
theorem nc_3 : ((3 : Nat) : Int) = 3 := rfl
theorem nc_4 : ((4 : Nat) : Int) = 4 := rfl
theorem nc_5 : ((5 : Nat) : Int) = 5 := rfl
theorem nc_6 : ((6 : Nat) : Int) = 6 := rfl
theorem nc_7 : ((7 : Nat) : Int) = 7 := rfl
theorem nc_8 : ((8 : Nat) : Int) = 8 := rfl
theorem nc_9 : ((9 : Nat) : Int) = 9 := rfl
theorem Sm.up {k j : Nat} {i : Int} (h : Sm k i) (hj : k ≤ j) : Sm j i := Nat.lt_of_lt_of_le h (Nat.pow_le_pow_right (by decide) hj)
theorem Sm.lg {k : Nat} {i : Int} (h : Sm k i) : i.natAbs.log2 ≤ k := by
  by_cases hk : 0 < k
  · exact Nat.le_of_lt (lg_of h hk)
  · have e : k = 0 := by omega
    subst e
    have : i.natAbs < 1 := h
    have e2 : i.natAbs = 0 := by omega
    rw [e2]
    exact Nat.le_of_eq (by decide)
theorem Sm.mulc {k j : Nat} {a b : Int} (ha : Sm k a) (hb : Sm j b) (h : k + j < 1000000) : a.natAbs.log2 + b.natAbs.log2 < 1000000 := by
  have := ha.lg
  have := hb.lg
  omega
theorem Sm.mul {k j : Nat} {a b : Int} (ha : Sm k a) (hb : Sm j b) : Sm (k + j) (a * b) := wide_lt ha hb
theorem Sm.add {k j : Nat} {a b : Int} (ha : Sm k a) (hb : Sm j b) : Sm (max k j + 1) (a + b) := by
  unfold Sm at *
  have h1 : (2 : Nat) ^ k ≤ 2 ^ (max k j) := Nat.pow_le_pow_right (by decide) (Nat.le_max_left _ _)
  have h2 : (2 : Nat) ^ j ≤ 2 ^ (max k j) := Nat.pow_le_pow_right (by decide) (Nat.le_max_right _ _)
  rw [Nat.pow_succ]
  omega
theorem Sm.neg {k : Nat} {a : Int} (ha : Sm k a) : Sm k (-a) := by
  unfold Sm at *
  rw [Int.natAbs_neg]; exact ha
theorem Sm.sub {k j : Nat} {a b : Int} (ha : Sm k a) (hb : Sm j b) : Sm (max k j + 1) (a - b) := by
  rw [Int.sub_eq_add_neg]; exact ha.add hb.neg
theorem Sm.le {k : Nat} {a b : Int} (hb : Sm k b) (h : a.natAbs ≤ b.natAbs) : Sm k a := Nat.lt_of_le_of_lt h hb
end Mn
/-! Rat1: ratios in lowest terms, plain integers. -/
namespace Rt
/-- p / q is a / b in lowest terms -/
structure Low (p q a b : Int) : Prop where
  pos : 0 < q
  cop : Nat.gcd p.natAbs q.natAbs = 1
  eq : p * b = a * q
theorem mul_cancel {a b c : Int} (hc : c ≠ 0) (h : a * c = b * c) : a = b := Int.eq_of_mul_eq_mul_right hc h
theorem cross {p q p' q' a b : Int} (hb : b ≠ 0) (h : p * b = a * q) (h' : p' * b = a * q') : p * q' = p' * q := by
  apply mul_cancel hb
  calc p * q' * b = p * b * q' := by rw [Int.mul_right_comm]
    _ = a * q * q' := by rw [h]
    _ = a * q' * q := by rw [Int.mul_right_comm]
    _ = p' * b * q := by rw [h']
    _ = p' * q * b := by rw [Int.mul_right_comm]
theorem same {p q p' q' : Int} (hq : 0 < q) (hq' : 0 < q') (c : Nat.gcd p.natAbs q.natAbs = 1) (c' : Nat.gcd p'.natAbs q'.natAbs = 1) (h : p * q' = p' * q) : p = p' ∧ q = q' := by
  have hn : p.natAbs * q'.natAbs = p'.natAbs * q.natAbs := by
    have := congrArg Int.natAbs h
    rwa [Int.natAbs_mul, Int.natAbs_mul] at this
  have d1 : q.natAbs ∣ q'.natAbs := by
    have hd : q.natAbs ∣ p.natAbs * q'.natAbs := by rw [hn]; exact Nat.dvd_mul_left _ _
    exact Nat.Coprime.dvd_of_dvd_mul_left (by rw [Nat.Coprime, Nat.gcd_comm]; exact c) hd
  have d2 : q'.natAbs ∣ q.natAbs := by
    have hd : q'.natAbs ∣ p'.natAbs * q.natAbs := by rw [← hn]; exact Nat.dvd_mul_left _ _
    exact Nat.Coprime.dvd_of_dvd_mul_left (by rw [Nat.Coprime, Nat.gcd_comm]; exact c') hd
  have e : q.natAbs = q'.natAbs := Nat.dvd_antisymm d1 d2
  have e2 : q = q' := by omega
  subst e2
  exact ⟨mul_cancel (by omega) h, rfl⟩
theorem Low.uniq {p q p' q' a b : Int} (hb : b ≠ 0) (h : Low p q a b) (h' : Low p' q' a b) : p = p' ∧ q = q' := same h.pos h'.pos h.cop h'.cop (cross hb h.eq h'.eq)
theorem gcd_pos {a b : Int} (hb : b ≠ 0) : 0 < Nat.gcd a.natAbs b.natAbs := Nat.gcd_pos_of_pos_right _ (by omega)
def lowP (a b : Int) : Int := (if 0 < b then a else -a) / ((Nat.gcd a.natAbs b.natAbs : Nat) : Int)
def lowQ (a b : Int) : Int := (if 0 < b then b else -b) / ((Nat.gcd a.natAbs b.natAbs : Nat) : Int)
theorem low_of {a b : Int} (hb : b ≠ 0) : Low (lowP a b) (lowQ a b) a b := by
  have hg := gcd_pos (a := a) hb
  generalize hgd : Nat.gcd a.natAbs b.natAbs = g at hg
  have da : (g : Int) ∣ a := by rw [← Int.natAbs_dvd_natAbs, Int.natAbs_natCast, ← hgd]; exact Nat.gcd_dvd_left _ _
  have db : (g : Int) ∣ b := by rw [← Int.natAbs_dvd_natAbs, Int.natAbs_natCast, ← hgd]; exact Nat.gcd_dvd_right _ _
  obtain ⟨x, hx⟩ := da
  obtain ⟨y, hy⟩ := db
  have hgi : (0 : Int) < (g : Int) := by omega
  have cop : Nat.gcd x.natAbs y.natAbs = 1 := by
    have h1 : Nat.gcd (g * x.natAbs) (g * y.natAbs) = g := by
      have e1 : a.natAbs = g * x.natAbs := by rw [hx, Int.natAbs_mul, Int.natAbs_natCast]
      have e2 : b.natAbs = g * y.natAbs := by rw [hy, Int.natAbs_mul, Int.natAbs_natCast]
      rw [← e1, ← e2]; exact hgd
    rw [Nat.gcd_mul_left] at h1
    exact Nat.eq_of_mul_eq_mul_left hg (by rw [h1, Nat.mul_one])
  have hy0 : y ≠ 0 := fun z => hb (by rw [hy, z, Int.mul_zero])
  unfold lowP lowQ
  rw [hgd]
  by_cases h : 0 < b
  · rw [if_pos h, if_pos h]
    have ea : a / (g : Int) = x := by rw [hx]; exact Int.mul_ediv_cancel_left _ (by omega)
    have eb : b / (g : Int) = y := by rw [hy]; exact Int.mul_ediv_cancel_left _ (by omega)
    rw [ea, eb]
    refine ⟨?_, cop, ?_⟩
    · rw [hy] at h
      exact Int.pos_of_mul_pos_left (by rw [Int.mul_comm]; exact h) hgi
    · rw [hx, hy]
      rw [Int.mul_left_comm, Int.mul_assoc]
  · rw [if_neg h, if_neg h]
    have ea : -a / (g : Int) = -x := by rw [hx, ← Int.mul_neg]; exact Int.mul_ediv_cancel_left _ (by omega)
    have eb : -b / (g : Int) = -y := by rw [hy, ← Int.mul_neg]; exact Int.mul_ediv_cancel_left _ (by omega)
    rw [ea, eb]
    refine ⟨?_, by rw [Int.natAbs_neg, Int.natAbs_neg]; exact cop, ?_⟩
    · have hb' : b < 0 := by omega
      have : 0 < (g : Int) * (-y) := by rw [Int.mul_neg, ← hy]; omega
      exact Int.pos_of_mul_pos_left (by rw [Int.mul_comm]; exact this) hgi
    · rw [hx, hy]
      rw [Int.neg_mul, Int.mul_neg, Int.mul_left_comm, Int.mul_assoc]
theorem ediv_le {a : Int} {g : Nat} : (a / (g : Int)).natAbs ≤ a.natAbs := by
  by_cases hg : g = 0
  · subst hg
    simp
  · have h := Int.natAbs_ediv_le_natAbs a (g : Int)
    exact h
theorem lowP_le (a b : Int) : (lowP a b).natAbs ≤ a.natAbs := by
  unfold lowP
  refine Nat.le_trans ediv_le ?_
  split
  · exact Nat.le_refl _
  · rw [Int.natAbs_neg]; exact Nat.le_refl _
theorem lowQ_le (a b : Int) : (lowQ a b).natAbs ≤ b.natAbs := by
  unfold lowQ
  refine Nat.le_trans ediv_le ?_
  split
  · exact Nat.le_refl _
  · rw [Int.natAbs_neg]; exact Nat.le_refl _
theorem gcd_step {a b q r : Int} (h : r = a - q * b) : Nat.gcd a.natAbs b.natAbs = Nat.gcd b.natAbs r.natAbs := by
  have d : ∀ (g : Nat) (x : Int), g ∣ x.natAbs ↔ (g : Int) ∣ x := fun g x => by rw [← Int.natAbs_dvd_natAbs, Int.natAbs_natCast]
  refine Nat.dvd_antisymm (Nat.dvd_gcd (Nat.gcd_dvd_right _ _) ?_) (Nat.dvd_gcd ?_ (Nat.gcd_dvd_left _ _))
  · rw [d, h]
    exact Int.dvd_sub ((d _ _).mp (Nat.gcd_dvd_left _ _)) (Int.dvd_trans ((d _ _).mp (Nat.gcd_dvd_right _ _)) (Int.dvd_mul_left _ _))
  · rw [d]
    have e : a = r + q * b := by rw [h, Int.sub_add_cancel]
    rw [e]
    refine Int.dvd_add ?_ ?_
    · rw [← d]
      exact Nat.gcd_dvd_right _ _
    · refine Int.dvd_trans ?_ (Int.dvd_mul_left _ _)
      rw [← d]
      exact Nat.gcd_dvd_left _ _
theorem fmod_lt {a b : Int} (hb : b ≠ 0) : (a - a.fdiv b * b).natAbs < b.natAbs := by
  rcases Int.lt_or_gt_of_ne hb with h | h
  · have e1 : a.fdiv b = (-a) / (-b) := by rw [← Int.fdiv_eq_ediv_of_nonneg (-a) (by omega), Int.neg_fdiv_neg]
    rw [e1]
    have h1 := Int.emod_nonneg (-a) (show -b ≠ 0 by omega)
    have h2 := Int.emod_lt_of_pos (-a) (show 0 < -b by omega)
    have h3 := Int.emod_def (-a) (-b)
    rw [Int.neg_mul] at h3
    rw [Int.mul_comm ((-a) / (-b)) b]
    omega
  · have e1 : a.fdiv b = a / b := Int.fdiv_eq_ediv_of_nonneg a (by omega)
    rw [e1]
    have h1 := Int.emod_nonneg a hb
    have h2 := Int.emod_lt_of_pos a h
    have h3 := Int.emod_def a b
    rw [Int.mul_comm (a / b) b]
    omega
theorem fdiv_abs (a b : Int) : (a.fdiv b).natAbs ≤ a.natAbs + 1 := by
  by_cases hb : b = 0
  · subst hb
    simp
  · have h := fmod_lt (a := a) hb
    have e : a.fdiv b * b = a - (a - a.fdiv b * b) := by rw [Int.sub_sub_self]
    have h2 : (a.fdiv b).natAbs * b.natAbs ≤ a.natAbs + b.natAbs := by
      rw [← Int.natAbs_mul, e]
      omega
    have hbp : 0 < b.natAbs := by omega
    by_cases hc : (a.fdiv b).natAbs ≤ a.natAbs + 1
    · exact hc
    · exfalso
      have h3 : a.natAbs + 2 ≤ (a.fdiv b).natAbs := by omega
      have h4 : (a.natAbs + 2) * b.natAbs ≤ (a.fdiv b).natAbs * b.natAbs := Nat.mul_le_mul_right _ h3
      have h5 : (a.natAbs + 2) * b.natAbs = a.natAbs * b.natAbs + 2 * b.natAbs := by rw [Nat.add_mul]
      have h6 : a.natAbs ≤ a.natAbs * b.natAbs := Nat.le_mul_of_pos_right _ hbp
      omega
theorem Low.of_self {a b : Int} (hb : 0 < b) (h : Nat.gcd a.natAbs b.natAbs = 1) : Low a b a b := ⟨hb, h, rfl⟩
/-- what is known to be in lowest terms and worth n / u is what is made of n and u -/
theorem low_is {p q n u : Int} (hu : u ≠ 0) (h : Low p q n u) : p = lowP n u ∧ q = lowQ n u := h.uniq hu (low_of hu)
end Rt
set_option maxHeartbeats 4000000
namespace Law
open PySem PySem.Spec PyProof.Rows L2 Mn
/-! ### the text by places -/
def top (i : Nat) : Stmt := PySem.Challenge.pw_wishways_k12_whole_ratios_reckoned.main.body.getD i (.Pass ⟨0, 0, 0, 0⟩)
abbrev t__law_pot : Stmt := top 31
abbrev t__law_common : Stmt := top 34
abbrev t__law_ratio : Stmt := top 35
abbrev t__law_draw : Stmt := top 32
abbrev t__law_pick : Stmt := top 33
abbrev t__law_number : Stmt := top 38
abbrev t__law_drawn : Stmt := top 39
abbrev t_is_integer : Stmt := top 8
abbrev t_want_integer : Stmt := top 20
abbrev t_lowest : Stmt := top 10
abbrev t_made : Stmt := top 22
abbrev t_floor_ratio : Stmt := top 16
abbrev t_is_ratio_value : Stmt := top 18
abbrev t_want_ratio : Stmt := top 19
abbrev t_floor_of : Stmt := top 28
abbrev t_ceiling_ratio : Stmt := top 17
abbrev t_ceiling_of : Stmt := top 29
abbrev t_is_less : Stmt := top 15
abbrev t_compared : Stmt := top 27
abbrev t_minus_ratio : Stmt := top 12
abbrev t_minus : Stmt := top 24
abbrev t_over_ratio : Stmt := top 14
abbrev t_over : Stmt := top 26
abbrev t__law_is_whole : Stmt := top 36
abbrev t__law_is_ratio : Stmt := top 37
abbrev t__law_is_worth : Stmt := top 40
abbrev t_plus_ratio : Stmt := top 11
abbrev t_plus : Stmt := top 23
abbrev t_times_ratio : Stmt := top 13
abbrev t_times : Stmt := top 25
abbrev t__law_pair_right : Stmt := top 41
abbrev t__law_one_right : Stmt := top 42
abbrev t_is_ratio : Stmt := top 21
abbrev t_law : Stmt := top 43
/-! ### what each def does -/
def b__law_pot : B := (sq (asgB (ifV (asB (bin (lk 1) (callG (consM (lk 0) nilM) (g1 lenV)) ltV)) (callG (consM (bin (lk 0) (lk 1) ixV) nilM) (g1 absV)) (bin (bin (cst (.int 1259)) (lk 1) mulV) (cst (.int 1009)) addV)) (nameT 2))
    (retB (locM (consM (callG (consM (cst (.int 0)) (consM (bin (lk 2) (bin (cst (.int 10)) (cst (.int 18)) powV) subV) nilM)) (g2 maxV)) (consM (bin (bin (callG (consM (bin (bin (bin (bin (callG (consM (lk 2) nilM) (g1 intV)) (cst (.int 2147483477)) modV) (cst (.int 41777)) mulV) (bin (cst (.int 7393)) (lk 1) mulV) addV) (cst (.int 991)) addV) nilM) (g1 intV)) (cst (.int 2147483579)) modV) (cst (.int 1)) addV) nilM)))))
def m__law_pot : Fn := runFn 3 2 b__law_pot
def b__law_common : B := (sq (whB (fuelAt 1) (asB (bin (lk 1) (cst (.int 0)) neV)) (parB 0 1 (consM (lk 1) (consM (bin (lk 0) (bin (bin (lk 0) (lk 1) fdivV) (lk 1) mulV) subV) nilM))))
    (retB (callG (consM (lk 0) nilM) (g1 absV))))
def m__law_common : Fn := runFn 2 2 b__law_common
def b__law_ratio : B := (sq (asgB (callU (consM (lk 0) (consM (lk 1) nilM)) m__law_common) (nameT 2))
    (sq (ifB (asB (bin (lk 1) (cst (.int 0)) ltV)) (asgB (una (lk 2) negV) (nameT 2)) passB)
    (retB (tupM (consM (bin (lk 0) (lk 2) fdivV) (consM (bin (lk 1) (lk 2) fdivV) nilM))))))
def m__law_ratio : Fn := runFn 3 2 b__law_ratio
def b__law_draw : B := (sq (ifB (asB (bin (bin (lk 0) (cst (.int 0)) ixV) (cst (.int 0)) gtV)) (sq (asgB (callG (consM (bin (lk 0) (cst (.int 0)) ixV) (consM (lk 1) nilM)) (g2 dmV)) (tupT 2 (consT (subT (lk 0) (cst (.int 0))) (consT (nameT 2) nilT))))
    (retB (lk 2))) passB)
    (sq (asgB (bin (callG (consM (bin (bin (bin (lk 0) (cst (.int 1)) ixV) (cst (.int 41141)) mulV) (cst (.int 31627)) addV) nilM) (g1 intV)) (cst (.int 2147483579)) modV) (subT (lk 0) (cst (.int 1))))
    (retB (bin (callG (consM (bin (bin (callG (consM (bin (bin (lk 0) (cst (.int 1)) ixV) (bin (lk 0) (cst (.int 1)) ixV) mulV) nilM) (g1 intV)) (cst (.int 2147483477)) modV) (cst (.int 23)) fdivV) nilM) (g1 intV)) (lk 1) modV))))
def m__law_draw : Fn := runFn 3 2 b__law_draw
def b__law_pick : B := (retB (bin (lk 1) (callU (consM (lk 0) (consM (callG (consM (lk 1) nilM) (g1 lenV)) nilM)) m__law_draw) ixV))
def m__law_pick : Fn := runFn 2 2 b__law_pick
def b__law_number : B := (sq (asgB (bin (callU (consM (lk 0) (consM (cst (.int 25)) nilM)) m__law_draw) (cst (.int 12)) subV) (nameT 1))
    (retB (bin (lk 1) (callU (consM (lk 0) (consM (lstM (consM (cst (.int 1)) (consM (cst (.int 1)) (consM (cst (.int 1)) (consM (cst (.int 60)) (consM (bin (bin (cst (.int 10)) (cst (.int 6)) powV) (cst (.int 3)) addV) (consM (bin (cst (.int 10)) (cst (.int 10)) powV) nilM))))))) nilM)) m__law_pick) mulV)))
def m__law_number : Fn := runFn 2 1 b__law_number
def b__law_drawn : B := (retB (callU (consM (callU (consM (lk 0) nilM) m__law_number) (consM (bin (cst (.int 1)) (bin (callU (consM (lk 0) (consM (cst (.int 12)) nilM)) m__law_draw) (callU (consM (lk 0) (consM (lstM (consM (cst (.int 1)) (consM (cst (.int 1)) (consM (bin (cst (.int 10)) (cst (.int 5)) powV) nilM)))) nilM)) m__law_pick) mulV) addV) nilM)) m__law_ratio))
def m__law_drawn : Fn := runFn 1 1 b__law_drawn
def b_is_integer : B := (retB (andV (una (lk 0) (isiV .int)) (notV (una (lk 0) (isiV .bool)))))
def m_is_integer : Fn := runFn 1 1 b_is_integer
def b_want_integer : B := (sq (ifB (notM (tru (callU (consM (lk 0) nilM) m_is_integer))) badB passB)
    (retB (lk 0)))
def m_want_integer : Fn := runFn 1 1 b_want_integer
def b_lowest : B := (sq (asgB (callG (consM (lk 0) (consM (lk 1) nilM)) (g2 gcdV)) (nameT 2))
    (sq (asgB (ifV (asB (bin (lk 1) (cst (.int 0)) gtV)) (cst (.int 1)) (una (cst (.int 1)) negV)) (nameT 3))
    (retB (tupM (consM (bin (bin (lk 3) (lk 0) mulV) (lk 2) fdivV) (consM (bin (bin (lk 3) (lk 1) mulV) (lk 2) fdivV) nilM))))))
def m_lowest : Fn := runFn 4 2 b_lowest
def b_made : B := (sq (dropB (callU (consM (lk 0) nilM) m_want_integer))
    (sq (ifB (asB (bin (callU (consM (lk 1) nilM) m_want_integer) (cst (.int 0)) eqV)) badB passB)
    (retB (callU (consM (lk 0) (consM (lk 1) nilM)) m_lowest))))
def m_made : Fn := runFn 2 2 b_made
def b_floor_ratio : B := (retB (bin (bin (lk 0) (cst (.int 0)) ixV) (bin (lk 0) (cst (.int 1)) ixV) fdivV))
def m_floor_ratio : Fn := runFn 1 1 b_floor_ratio
def b_is_ratio_value : B := (sq (ifB (orM (notM (tru (una (lk 0) (isiV .tup)))) (orM (asB (bin (callG (consM (lk 0) nilM) (g1 lenV)) (cst (.int 2)) neV)) (notM (tru (callG (consM (lcM (walkV (lk 0)) (nameT 1) yesM (callU (consM (lk 1) nilM) m_is_integer) [1] finL) nilM) (g1 allV)))))) (retB (cst (.bl false))) passB)
    (retB (andV (bin (bin (lk 0) (cst (.int 1)) ixV) (cst (.int 1)) geV) (bin (callG (consM (bin (lk 0) (cst (.int 0)) ixV) (consM (bin (lk 0) (cst (.int 1)) ixV) nilM)) (g2 gcdV)) (cst (.int 1)) eqV))))
def m_is_ratio_value : Fn := runFn 2 1 b_is_ratio_value
def b_want_ratio : B := (sq (ifB (notM (tru (callU (consM (lk 0) nilM) m_is_ratio_value))) badB passB)
    (retB (lk 0)))
def m_want_ratio : Fn := runFn 1 1 b_want_ratio
def b_floor_of : B := (retB (callU (consM (callU (consM (lk 0) nilM) m_want_ratio) nilM) m_floor_ratio))
def m_floor_of : Fn := runFn 1 1 b_floor_of
def b_ceiling_ratio : B := (retB (una (bin (una (bin (lk 0) (cst (.int 0)) ixV) negV) (bin (lk 0) (cst (.int 1)) ixV) fdivV) negV))
def m_ceiling_ratio : Fn := runFn 1 1 b_ceiling_ratio
def b_ceiling_of : B := (retB (callU (consM (callU (consM (lk 0) nilM) m_want_ratio) nilM) m_ceiling_ratio))
def m_ceiling_of : Fn := runFn 1 1 b_ceiling_of
def b_is_less : B := (retB (bin (bin (bin (lk 0) (cst (.int 0)) ixV) (bin (lk 1) (cst (.int 1)) ixV) mulV) (bin (bin (lk 1) (cst (.int 0)) ixV) (bin (lk 0) (cst (.int 1)) ixV) mulV) ltV))
def m_is_less : Fn := runFn 2 2 b_is_less
def b_compared : B := (sq (dropB (callU (consM (lk 0) nilM) m_want_ratio))
    (sq (dropB (callU (consM (lk 1) nilM) m_want_ratio))
    (retB (ifV (tru (callU (consM (lk 0) (consM (lk 1) nilM)) m_is_less)) (una (cst (.int 1)) negV) (callG (consM (callU (consM (lk 1) (consM (lk 0) nilM)) m_is_less) nilM) (g1 intV))))))
def m_compared : Fn := runFn 2 2 b_compared
def b_minus_ratio : B := (retB (callU (consM (bin (bin (bin (lk 0) (cst (.int 0)) ixV) (bin (lk 1) (cst (.int 1)) ixV) mulV) (bin (bin (lk 1) (cst (.int 0)) ixV) (bin (lk 0) (cst (.int 1)) ixV) mulV) subV) (consM (bin (bin (lk 0) (cst (.int 1)) ixV) (bin (lk 1) (cst (.int 1)) ixV) mulV) nilM)) m_lowest))
def m_minus_ratio : Fn := runFn 2 2 b_minus_ratio
def b_minus : B := (sq (dropB (callU (consM (lk 0) nilM) m_want_ratio))
    (retB (callU (consM (lk 0) (consM (callU (consM (lk 1) nilM) m_want_ratio) nilM)) m_minus_ratio)))
def m_minus : Fn := runFn 2 2 b_minus
def b_over_ratio : B := (retB (callU (consM (bin (bin (lk 0) (cst (.int 0)) ixV) (bin (lk 1) (cst (.int 1)) ixV) mulV) (consM (bin (bin (lk 0) (cst (.int 1)) ixV) (bin (lk 1) (cst (.int 0)) ixV) mulV) nilM)) m_lowest))
def m_over_ratio : Fn := runFn 2 2 b_over_ratio
def b_over : B := (sq (dropB (callU (consM (lk 0) nilM) m_want_ratio))
    (sq (ifB (asB (bin (bin (callU (consM (lk 1) nilM) m_want_ratio) (cst (.int 0)) ixV) (cst (.int 0)) eqV)) badB passB)
    (retB (callU (consM (lk 0) (consM (lk 1) nilM)) m_over_ratio))))
def m_over : Fn := runFn 2 2 b_over
def b__law_is_whole : B := (retB (andV (una (lk 0) (isiV .int)) (notV (una (lk 0) (isiV .bool)))))
def m__law_is_whole : Fn := runFn 1 1 b__law_is_whole
def b__law_is_ratio : B := (sq (ifB (orM (notM (tru (una (lk 0) (isiV .tup)))) (orM (asB (bin (callG (consM (lk 0) nilM) (g1 lenV)) (cst (.int 2)) neV)) (notM (tru (callG (consM (lcM (walkV (lk 0)) (nameT 1) yesM (callU (consM (lk 1) nilM) m__law_is_whole) [1] finL) nilM) (g1 allV)))))) (retB (cst (.bl false))) passB)
    (retB (andV (bin (bin (lk 0) (cst (.int 1)) ixV) (cst (.int 0)) gtV) (bin (callU (consM (bin (lk 0) (cst (.int 0)) ixV) (consM (bin (lk 0) (cst (.int 1)) ixV) nilM)) m__law_common) (cst (.int 1)) eqV))))
def m__law_is_ratio : Fn := runFn 2 1 b__law_is_ratio
def b__law_is_worth : B := (retB (andV (callU (consM (lk 0) nilM) m__law_is_ratio) (bin (bin (bin (lk 0) (cst (.int 0)) ixV) (lk 2) mulV) (bin (lk 1) (bin (lk 0) (cst (.int 1)) ixV) mulV) eqV)))
def m__law_is_worth : Fn := runFn 3 3 b__law_is_worth
def b_plus_ratio : B := (retB (callU (consM (bin (bin (bin (lk 0) (cst (.int 0)) ixV) (bin (lk 1) (cst (.int 1)) ixV) mulV) (bin (bin (lk 1) (cst (.int 0)) ixV) (bin (lk 0) (cst (.int 1)) ixV) mulV) addV) (consM (bin (bin (lk 0) (cst (.int 1)) ixV) (bin (lk 1) (cst (.int 1)) ixV) mulV) nilM)) m_lowest))
def m_plus_ratio : Fn := runFn 2 2 b_plus_ratio
def b_plus : B := (sq (dropB (callU (consM (lk 0) nilM) m_want_ratio))
    (retB (callU (consM (lk 0) (consM (callU (consM (lk 1) nilM) m_want_ratio) nilM)) m_plus_ratio)))
def m_plus : Fn := runFn 2 2 b_plus
def b_times_ratio : B := (retB (callU (consM (bin (bin (lk 0) (cst (.int 0)) ixV) (bin (lk 1) (cst (.int 0)) ixV) mulV) (consM (bin (bin (lk 0) (cst (.int 1)) ixV) (bin (lk 1) (cst (.int 1)) ixV) mulV) nilM)) m_lowest))
def m_times_ratio : Fn := runFn 2 2 b_times_ratio
def b_times : B := (sq (dropB (callU (consM (lk 0) nilM) m_want_ratio))
    (retB (callU (consM (lk 0) (consM (callU (consM (lk 1) nilM) m_want_ratio) nilM)) m_times_ratio)))
def m_times : Fn := runFn 2 2 b_times
def b__law_pair_right : B := (sq (asgB (tupM (consM (lk 0) (consM (lk 1) nilM))) (tupT 2 (consT (tupT 2 (consT (nameT 2) (consT (nameT 3) nilT))) (consT (tupT 2 (consT (nameT 4) (consT (nameT 5) nilT))) nilT))))
    (sq (ifB (orM (notM (tru (callU (consM (callU (consM (lk 0) (consM (lk 1) nilM)) m_plus) (consM (bin (bin (lk 2) (lk 5) mulV) (bin (lk 4) (lk 3) mulV) addV) (consM (bin (lk 3) (lk 5) mulV) nilM))) m__law_is_worth))) (notM (tru (callU (consM (callU (consM (lk 0) (consM (lk 1) nilM)) m_minus) (consM (bin (bin (lk 2) (lk 5) mulV) (bin (lk 4) (lk 3) mulV) subV) (consM (bin (lk 3) (lk 5) mulV) nilM))) m__law_is_worth)))) (retB (cst (.bl false))) passB)
    (sq (ifB (orM (notM (tru (callU (consM (callK nilM (consM (lk 1) (consM (lk 0) nilM)) 0 2 [1, 0] m_times) (consM (bin (lk 2) (lk 4) mulV) (consM (bin (lk 3) (lk 5) mulV) nilM))) m__law_is_worth))) (asB (bin (callK nilM (consM (lk 0) (consM (lk 1) nilM)) 0 2 [1, 0] m_plus) (callU (consM (lk 0) (consM (lk 1) nilM)) m_plus) neV))) (retB (cst (.bl false))) passB)
    (sq (ifB (orM (asB (bin (callU (consM (callU (consM (lk 0) (consM (lk 1) nilM)) m_plus) (consM (lk 1) nilM)) m_minus) (lk 0) neV)) (asB (bin (callK nilM (consM (lk 0) (consM (lk 0) nilM)) 0 2 [0, 1] m_minus) (tupM (consM (cst (.int 0)) (consM (cst (.int 1)) nilM))) neV))) (retB (cst (.bl false))) passB)
    (sq (asgB (bin (callG (consM (bin (bin (lk 2) (lk 5) mulV) (bin (lk 4) (lk 3) mulV) gtV) nilM) (g1 intV)) (callG (consM (bin (bin (lk 2) (lk 5) mulV) (bin (lk 4) (lk 3) mulV) ltV) nilM) (g1 intV)) subV) (nameT 6))
    (sq (asgB (lstM (consM (callU (consM (lk 0) (consM (lk 1) nilM)) m_compared) (consM (callK nilM (consM (lk 1) (consM (lk 0) nilM)) 0 2 [0, 1] m_compared) (consM (callU (consM (lk 0) (consM (lk 0) nilM)) m_compared) nilM)))) (nameT 7))
    (sq (ifB (asB (bin (callG (consM (lk 7) nilM) (g1 reprV)) (callG (consM (lstM (consM (lk 6) (consM (una (lk 6) negV) (consM (cst (.int 0)) nilM)))) nilM) (g1 reprV)) neV)) (retB (cst (.bl false))) passB)
    (sq (ifB (asB (bin (lk 4) (cst (.int 0)) eqV)) (retB (cst (.bl true))) passB)
    (sq (asgB (callU (consM (lk 0) (consM (lk 1) nilM)) m_over) (nameT 7))
    (retB (andV (callU (consM (lk 7) (consM (bin (lk 2) (lk 5) mulV) (consM (bin (lk 3) (lk 4) mulV) nilM))) m__law_is_worth) (andV (bin (callU (consM (lk 7) (consM (lk 1) nilM)) m_times) (lk 0) eqV) (bin (callK nilM (consM (lk 1) (consM (lk 1) nilM)) 0 2 [1, 0] m_over) (tupM (consM (cst (.int 1)) (consM (cst (.int 1)) nilM))) eqV)))))))))))))
def m__law_pair_right : Fn := runFn 8 2 b__law_pair_right
def b__law_one_right : B := (sq (parB 1 2 (consM (callU (consM (lk 0) nilM) m_floor_of) (consM (callK nilM (consM (lk 0) nilM) 0 1 [0] m_ceiling_of) nilM)))
    (sq (ifB (orM (notM (tru (callU (consM (lk 1) nilM) m__law_is_whole))) (notM (tru (callU (consM (lk 2) nilM) m__law_is_whole)))) (retB (cst (.bl false))) passB)
    (sq (ifB (orM (notM (asB (chn (bin (lk 1) (bin (lk 0) (cst (.int 1)) ixV) mulV) (bin (lk 0) (cst (.int 0)) ixV) (bin (bin (lk 1) (cst (.int 1)) addV) (bin (lk 0) (cst (.int 1)) ixV) mulV) leV ltV))) (notM (asB (chn (bin (bin (lk 2) (cst (.int 1)) subV) (bin (lk 0) (cst (.int 1)) ixV) mulV) (bin (lk 0) (cst (.int 0)) ixV) (bin (lk 2) (bin (lk 0) (cst (.int 1)) ixV) mulV) ltV leV)))) (retB (cst (.bl false))) passB)
    (retB (andV (bin (callK nilM (consM (lk 0) nilM) 0 1 [0] m_floor_of) (lk 1) eqV) (bin (bin (lk 2) (lk 1) eqV) (bin (bin (lk 0) (cst (.int 1)) ixV) (cst (.int 1)) eqV) eqV))))))
def m__law_one_right : Fn := runFn 3 1 b__law_one_right
def b_is_ratio : B := (retB (callU (consM (lk 0) nilM) m_is_ratio_value))
def m_is_ratio : Fn := runFn 1 1 b_is_ratio
def b_law : B := (sq (asgB (callU (consM (lk 0) (consM (cst (.int 0)) nilM)) m__law_pot) (nameT 1))
    (sq (forB (range1M (consM (cst (.int 6)) nilM)) (nameT 2) (sq (parB 3 4 (consM (callU (consM (lk 1) nilM) m__law_drawn) (consM (callU (consM (lk 1) nilM) m__law_drawn) nilM)))
    (sq (ifB (orM (notM (tru (callU (consM (lk 3) (consM (lk 4) nilM)) m__law_pair_right))) (notM (tru (callU (consM (lk 3) nilM) m__law_one_right)))) (retB (cst (.bl false))) passB)
    (sq (parB 5 6 (consM (callU (consM (lk 1) nilM) m__law_number) (consM (callU (consM (lk 1) nilM) m__law_number) nilM)))
    (ifB (asB (bin (lk 6) (cst (.int 0)) neV)) (sq (asgB (callK nilM (consM (lk 6) (consM (lk 5) nilM)) 0 2 [1, 0] m_made) (nameT 7))
    (ifB (orM (asB (bin (lk 7) (callU (consM (lk 5) (consM (lk 6) nilM)) m__law_ratio) neV)) (orM (asB (bin (callU (consM (lk 7) nilM) m_is_ratio) (cst (.bl true)) notBV)) (notM (tru (callU (consM (lk 7) (consM (lk 5) (consM (lk 6) nilM))) m__law_is_worth))))) (retB (cst (.bl false))) passB)) passB)))))
    (sq (asgB (bin (bin (cst (.int 10)) (cst (.int 39)) powV) (cst (.int 1)) addV) (nameT 8))
    (sq (ifB (orM (asB (bin (callU (consM (tupM (consM (lk 8) (consM (cst (.int 2)) nilM))) nilM) m_floor_of) (bin (cst (.int 5)) (bin (cst (.int 10)) (cst (.int 38)) powV) mulV) neV)) (asB (bin (callU (consM (tupM (consM (lk 8) (consM (cst (.int 2)) nilM))) nilM) m_ceiling_of) (bin (bin (cst (.int 5)) (bin (cst (.int 10)) (cst (.int 38)) powV) mulV) (cst (.int 1)) addV) neV))) (retB (cst (.bl false))) passB)
    (sq (ifB (orM (asB (bin (callU (consM (tupM (consM (bin (cst (.int 10)) (cst (.int 39)) powV) (consM (cst (.int 1)) nilM))) (consM (tupM (consM (lk 8) (consM (cst (.int 1)) nilM))) nilM)) m_compared) (una (cst (.int 1)) negV) neV)) (asB (bin (callU (consM (tupM (consM (lk 8) (consM (cst (.int 2)) nilM))) (consM (tupM (consM (cst (.int 1)) (consM (cst (.int 2)) nilM))) nilM)) m_minus) (tupM (consM (bin (cst (.int 5)) (bin (cst (.int 10)) (cst (.int 38)) powV) mulV) (consM (cst (.int 1)) nilM))) neV))) (retB (cst (.bl false))) passB)
    (retB (andV (bin (callU (consM (cst (.int 0)) (consM (una (cst (.int 5)) negV) nilM)) m_made) (tupM (consM (cst (.int 0)) (consM (cst (.int 1)) nilM))) eqV) (bin (callU (consM (cst (.int 5)) (consM (una (cst (.int 5)) negV) nilM)) m_made) (tupM (consM (una (cst (.int 1)) negV) (consM (cst (.int 1)) nilM))) eqV))))))))
def m_law : Fn := runFn 9 1 b_law
/-! ### what the top leaves -/
structure Top (K : PySem.W.Frag) (mg : Str → Option Value) where
  z_abs : mg "abs" = none
  z_all : mg "all" = none
  z_bool : mg "bool" = none
  z_divmod : mg "divmod" = none
  z_int : mg "int" = none
  z_isinstance : mg "isinstance" = none
  z_len : mg "len" = none
  z_max : mg "max" = none
  z_range : mg "range" = none
  z_repr : mg "repr" = none
  z_tuple : mg "tuple" = none
  i_gcd : mg "gcd" = some (.builtin "math.gcd")
  a__law_pot : Addr
  d__law_pot : FuncData
  g__law_pot : mg "_law_pot" = some (.ref a__law_pot)
  F__law_pot : Fun K "_law_pot" "_law_pot" t__law_pot a__law_pot d__law_pot
  a__law_common : Addr
  d__law_common : FuncData
  g__law_common : mg "_law_common" = some (.ref a__law_common)
  F__law_common : Fun K "_law_common" "_law_common" t__law_common a__law_common d__law_common
  a__law_ratio : Addr
  d__law_ratio : FuncData
  g__law_ratio : mg "_law_ratio" = some (.ref a__law_ratio)
  F__law_ratio : Fun K "_law_ratio" "_law_ratio" t__law_ratio a__law_ratio d__law_ratio
  a__law_draw : Addr
  d__law_draw : FuncData
  g__law_draw : mg "_law_draw" = some (.ref a__law_draw)
  F__law_draw : Fun K "_law_draw" "_law_draw" t__law_draw a__law_draw d__law_draw
  a__law_pick : Addr
  d__law_pick : FuncData
  g__law_pick : mg "_law_pick" = some (.ref a__law_pick)
  F__law_pick : Fun K "_law_pick" "_law_pick" t__law_pick a__law_pick d__law_pick
  a__law_number : Addr
  d__law_number : FuncData
  g__law_number : mg "_law_number" = some (.ref a__law_number)
  F__law_number : Fun K "_law_number" "_law_number" t__law_number a__law_number d__law_number
  a__law_drawn : Addr
  d__law_drawn : FuncData
  g__law_drawn : mg "_law_drawn" = some (.ref a__law_drawn)
  F__law_drawn : Fun K "_law_drawn" "_law_drawn" t__law_drawn a__law_drawn d__law_drawn
  a_is_integer : Addr
  d_is_integer : FuncData
  g_is_integer : mg "is_integer" = some (.ref a_is_integer)
  F_is_integer : Fun K "is_integer" "is_integer" t_is_integer a_is_integer d_is_integer
  a_want_integer : Addr
  d_want_integer : FuncData
  g_want_integer : mg "want_integer" = some (.ref a_want_integer)
  F_want_integer : Fun K "want_integer" "want_integer" t_want_integer a_want_integer d_want_integer
  a_lowest : Addr
  d_lowest : FuncData
  g_lowest : mg "lowest" = some (.ref a_lowest)
  F_lowest : Fun K "lowest" "lowest" t_lowest a_lowest d_lowest
  a_made : Addr
  d_made : FuncData
  g_made : mg "made" = some (.ref a_made)
  F_made : Fun K "made" "made" t_made a_made d_made
  a_floor_ratio : Addr
  d_floor_ratio : FuncData
  g_floor_ratio : mg "floor_ratio" = some (.ref a_floor_ratio)
  F_floor_ratio : Fun K "floor_ratio" "floor_ratio" t_floor_ratio a_floor_ratio d_floor_ratio
  a_is_ratio_value : Addr
  d_is_ratio_value : FuncData
  g_is_ratio_value : mg "is_ratio_value" = some (.ref a_is_ratio_value)
  F_is_ratio_value : Fun K "is_ratio_value" "is_ratio_value" t_is_ratio_value a_is_ratio_value d_is_ratio_value
  a_want_ratio : Addr
  d_want_ratio : FuncData
  g_want_ratio : mg "want_ratio" = some (.ref a_want_ratio)
  F_want_ratio : Fun K "want_ratio" "want_ratio" t_want_ratio a_want_ratio d_want_ratio
  a_floor_of : Addr
  d_floor_of : FuncData
  g_floor_of : mg "floor_of" = some (.ref a_floor_of)
  F_floor_of : Fun K "floor_of" "floor_of" t_floor_of a_floor_of d_floor_of
  a_ceiling_ratio : Addr
  d_ceiling_ratio : FuncData
  g_ceiling_ratio : mg "ceiling_ratio" = some (.ref a_ceiling_ratio)
  F_ceiling_ratio : Fun K "ceiling_ratio" "ceiling_ratio" t_ceiling_ratio a_ceiling_ratio d_ceiling_ratio
  a_ceiling_of : Addr
  d_ceiling_of : FuncData
  g_ceiling_of : mg "ceiling_of" = some (.ref a_ceiling_of)
  F_ceiling_of : Fun K "ceiling_of" "ceiling_of" t_ceiling_of a_ceiling_of d_ceiling_of
  a_is_less : Addr
  d_is_less : FuncData
  g_is_less : mg "is_less" = some (.ref a_is_less)
  F_is_less : Fun K "is_less" "is_less" t_is_less a_is_less d_is_less
  a_compared : Addr
  d_compared : FuncData
  g_compared : mg "compared" = some (.ref a_compared)
  F_compared : Fun K "compared" "compared" t_compared a_compared d_compared
  a_minus_ratio : Addr
  d_minus_ratio : FuncData
  g_minus_ratio : mg "minus_ratio" = some (.ref a_minus_ratio)
  F_minus_ratio : Fun K "minus_ratio" "minus_ratio" t_minus_ratio a_minus_ratio d_minus_ratio
  a_minus : Addr
  d_minus : FuncData
  g_minus : mg "minus" = some (.ref a_minus)
  F_minus : Fun K "minus" "minus" t_minus a_minus d_minus
  a_over_ratio : Addr
  d_over_ratio : FuncData
  g_over_ratio : mg "over_ratio" = some (.ref a_over_ratio)
  F_over_ratio : Fun K "over_ratio" "over_ratio" t_over_ratio a_over_ratio d_over_ratio
  a_over : Addr
  d_over : FuncData
  g_over : mg "over" = some (.ref a_over)
  F_over : Fun K "over" "over" t_over a_over d_over
  a__law_is_whole : Addr
  d__law_is_whole : FuncData
  g__law_is_whole : mg "_law_is_whole" = some (.ref a__law_is_whole)
  F__law_is_whole : Fun K "_law_is_whole" "_law_is_whole" t__law_is_whole a__law_is_whole d__law_is_whole
  a__law_is_ratio : Addr
  d__law_is_ratio : FuncData
  g__law_is_ratio : mg "_law_is_ratio" = some (.ref a__law_is_ratio)
  F__law_is_ratio : Fun K "_law_is_ratio" "_law_is_ratio" t__law_is_ratio a__law_is_ratio d__law_is_ratio
  a__law_is_worth : Addr
  d__law_is_worth : FuncData
  g__law_is_worth : mg "_law_is_worth" = some (.ref a__law_is_worth)
  F__law_is_worth : Fun K "_law_is_worth" "_law_is_worth" t__law_is_worth a__law_is_worth d__law_is_worth
  a_plus_ratio : Addr
  d_plus_ratio : FuncData
  g_plus_ratio : mg "plus_ratio" = some (.ref a_plus_ratio)
  F_plus_ratio : Fun K "plus_ratio" "plus_ratio" t_plus_ratio a_plus_ratio d_plus_ratio
  a_plus : Addr
  d_plus : FuncData
  g_plus : mg "plus" = some (.ref a_plus)
  F_plus : Fun K "plus" "plus" t_plus a_plus d_plus
  a_times_ratio : Addr
  d_times_ratio : FuncData
  g_times_ratio : mg "times_ratio" = some (.ref a_times_ratio)
  F_times_ratio : Fun K "times_ratio" "times_ratio" t_times_ratio a_times_ratio d_times_ratio
  a_times : Addr
  d_times : FuncData
  g_times : mg "times" = some (.ref a_times)
  F_times : Fun K "times" "times" t_times a_times d_times
  a__law_pair_right : Addr
  d__law_pair_right : FuncData
  g__law_pair_right : mg "_law_pair_right" = some (.ref a__law_pair_right)
  F__law_pair_right : Fun K "_law_pair_right" "_law_pair_right" t__law_pair_right a__law_pair_right d__law_pair_right
  a__law_one_right : Addr
  d__law_one_right : FuncData
  g__law_one_right : mg "_law_one_right" = some (.ref a__law_one_right)
  F__law_one_right : Fun K "_law_one_right" "_law_one_right" t__law_one_right a__law_one_right d__law_one_right
  a_is_ratio : Addr
  d_is_ratio : FuncData
  g_is_ratio : mg "is_ratio" = some (.ref a_is_ratio)
  F_is_ratio : Fun K "is_ratio" "is_ratio" t_is_ratio a_is_ratio d_is_ratio
  a_law : Addr
  d_law : FuncData
  g_law : mg "law" = some (.ref a_law)
  F_law : Fun K "law" "law" t_law a_law d_law
section
variable {K : PySem.W.Frag} {mg : Str → Option Value}
theorem sc__law_pot : FnScope ["_law_script", "_law_k", "_law_cell"] ["_law_script", "_law_k"] (defScope t__law_pot) := ⟨rfl, rfl, rfl, by decide +kernel, rfl, by decide +kernel, by decide +kernel⟩
theorem bi__law_pot (Tp : Top K mg) : Binds K Tp.d__law_pot ["_law_script", "_law_k"] [] := Tp.F__law_pot.binds fun _ _ _ _ _ _ us hl => match us, hl with | [_, _], _ => rfl
theorem sc__law_common : FnScope ["_law_one", "_law_other"] ["_law_one", "_law_other"] (defScope t__law_common) := ⟨rfl, rfl, rfl, by decide +kernel, rfl, by decide +kernel, by decide +kernel⟩
theorem bi__law_common (Tp : Top K mg) : Binds K Tp.d__law_common ["_law_one", "_law_other"] [] := Tp.F__law_common.binds fun _ _ _ _ _ _ us hl => match us, hl with | [_, _], _ => rfl
theorem sc__law_ratio : FnScope ["_law_number_here", "_law_under", "_law_common_here"] ["_law_number_here", "_law_under"] (defScope t__law_ratio) := ⟨rfl, rfl, rfl, by decide +kernel, rfl, by decide +kernel, by decide +kernel⟩
theorem bi__law_ratio (Tp : Top K mg) : Binds K Tp.d__law_ratio ["_law_number_here", "_law_under"] [] := Tp.F__law_ratio.binds fun _ _ _ _ _ _ us hl => match us, hl with | [_, _], _ => rfl
theorem sc__law_draw : FnScope ["_law_pot_here", "_law_size", "_law_digit"] ["_law_pot_here", "_law_size"] (defScope t__law_draw) := ⟨rfl, rfl, rfl, by decide +kernel, rfl, by decide +kernel, by decide +kernel⟩
theorem bi__law_draw (Tp : Top K mg) : Binds K Tp.d__law_draw ["_law_pot_here", "_law_size"] [] := Tp.F__law_draw.binds fun _ _ _ _ _ _ us hl => match us, hl with | [_, _], _ => rfl
theorem sc__law_pick : FnScope ["_law_pot_here", "_law_some"] ["_law_pot_here", "_law_some"] (defScope t__law_pick) := ⟨rfl, rfl, rfl, by decide +kernel, rfl, by decide +kernel, by decide +kernel⟩
theorem bi__law_pick (Tp : Top K mg) : Binds K Tp.d__law_pick ["_law_pot_here", "_law_some"] [] := Tp.F__law_pick.binds fun _ _ _ _ _ _ us hl => match us, hl with | [_, _], _ => rfl
theorem sc__law_number : FnScope ["_law_pot_here", "_law_number_here"] ["_law_pot_here"] (defScope t__law_number) := ⟨rfl, rfl, rfl, by decide +kernel, rfl, by decide +kernel, by decide +kernel⟩
theorem bi__law_number (Tp : Top K mg) : Binds K Tp.d__law_number ["_law_pot_here"] [] := Tp.F__law_number.binds fun _ _ _ _ _ _ us hl => match us, hl with | [_], _ => rfl
theorem sc__law_drawn : FnScope ["_law_pot_here"] ["_law_pot_here"] (defScope t__law_drawn) := ⟨rfl, rfl, rfl, by decide +kernel, rfl, by decide +kernel, by decide +kernel⟩
theorem bi__law_drawn (Tp : Top K mg) : Binds K Tp.d__law_drawn ["_law_pot_here"] [] := Tp.F__law_drawn.binds fun _ _ _ _ _ _ us hl => match us, hl with | [_], _ => rfl
theorem sc_is_integer : FnScope ["value"] ["value"] (defScope t_is_integer) := ⟨rfl, rfl, rfl, by decide +kernel, rfl, by decide +kernel, by decide +kernel⟩
theorem bi_is_integer (Tp : Top K mg) : Binds K Tp.d_is_integer ["value"] [] := Tp.F_is_integer.binds fun _ _ _ _ _ _ us hl => match us, hl with | [_], _ => rfl
theorem sc_want_integer : FnScope ["value"] ["value"] (defScope t_want_integer) := ⟨rfl, rfl, rfl, by decide +kernel, rfl, by decide +kernel, by decide +kernel⟩
theorem bi_want_integer (Tp : Top K mg) : Binds K Tp.d_want_integer ["value"] [] := Tp.F_want_integer.binds fun _ _ _ _ _ _ us hl => match us, hl with | [_], _ => rfl
theorem sc_lowest : FnScope ["number", "under", "shared", "sign"] ["number", "under"] (defScope t_lowest) := ⟨rfl, rfl, rfl, by decide +kernel, rfl, by decide +kernel, by decide +kernel⟩
theorem bi_lowest (Tp : Top K mg) : Binds K Tp.d_lowest ["number", "under"] [] := Tp.F_lowest.binds fun _ _ _ _ _ _ us hl => match us, hl with | [_, _], _ => rfl
theorem sc_made : FnScope ["number", "under"] ["number", "under"] (defScope t_made) := ⟨rfl, rfl, rfl, by decide +kernel, rfl, by decide +kernel, by decide +kernel⟩
theorem bi_made (Tp : Top K mg) : Binds K Tp.d_made ["number", "under"] [] := Tp.F_made.binds fun _ _ _ _ _ _ us hl => match us, hl with | [_, _], _ => rfl
theorem sc_floor_ratio : FnScope ["ratio"] ["ratio"] (defScope t_floor_ratio) := ⟨rfl, rfl, rfl, by decide +kernel, rfl, by decide +kernel, by decide +kernel⟩
theorem bi_floor_ratio (Tp : Top K mg) : Binds K Tp.d_floor_ratio ["ratio"] [] := Tp.F_floor_ratio.binds fun _ _ _ _ _ _ us hl => match us, hl with | [_], _ => rfl
theorem sc_is_ratio_value : FnScope ["value", "one"] ["value"] (defScope t_is_ratio_value) := ⟨rfl, rfl, rfl, by decide +kernel, rfl, by decide +kernel, by decide +kernel⟩
theorem bi_is_ratio_value (Tp : Top K mg) : Binds K Tp.d_is_ratio_value ["value"] [] := Tp.F_is_ratio_value.binds fun _ _ _ _ _ _ us hl => match us, hl with | [_], _ => rfl
theorem sc_want_ratio : FnScope ["value"] ["value"] (defScope t_want_ratio) := ⟨rfl, rfl, rfl, by decide +kernel, rfl, by decide +kernel, by decide +kernel⟩
theorem bi_want_ratio (Tp : Top K mg) : Binds K Tp.d_want_ratio ["value"] [] := Tp.F_want_ratio.binds fun _ _ _ _ _ _ us hl => match us, hl with | [_], _ => rfl
theorem sc_floor_of : FnScope ["ratio"] ["ratio"] (defScope t_floor_of) := ⟨rfl, rfl, rfl, by decide +kernel, rfl, by decide +kernel, by decide +kernel⟩
theorem bi_floor_of (Tp : Top K mg) : Binds K Tp.d_floor_of ["ratio"] [] := Tp.F_floor_of.binds fun _ _ _ _ _ _ us hl => match us, hl with | [_], _ => rfl
theorem sc_ceiling_ratio : FnScope ["ratio"] ["ratio"] (defScope t_ceiling_ratio) := ⟨rfl, rfl, rfl, by decide +kernel, rfl, by decide +kernel, by decide +kernel⟩
theorem bi_ceiling_ratio (Tp : Top K mg) : Binds K Tp.d_ceiling_ratio ["ratio"] [] := Tp.F_ceiling_ratio.binds fun _ _ _ _ _ _ us hl => match us, hl with | [_], _ => rfl
theorem sc_ceiling_of : FnScope ["ratio"] ["ratio"] (defScope t_ceiling_of) := ⟨rfl, rfl, rfl, by decide +kernel, rfl, by decide +kernel, by decide +kernel⟩
theorem bi_ceiling_of (Tp : Top K mg) : Binds K Tp.d_ceiling_of ["ratio"] [] := Tp.F_ceiling_of.binds fun _ _ _ _ _ _ us hl => match us, hl with | [_], _ => rfl
theorem sc_is_less : FnScope ["one", "other"] ["one", "other"] (defScope t_is_less) := ⟨rfl, rfl, rfl, by decide +kernel, rfl, by decide +kernel, by decide +kernel⟩
theorem bi_is_less (Tp : Top K mg) : Binds K Tp.d_is_less ["one", "other"] [] := Tp.F_is_less.binds fun _ _ _ _ _ _ us hl => match us, hl with | [_, _], _ => rfl
theorem sc_compared : FnScope ["near", "far"] ["near", "far"] (defScope t_compared) := ⟨rfl, rfl, rfl, by decide +kernel, rfl, by decide +kernel, by decide +kernel⟩
theorem bi_compared (Tp : Top K mg) : Binds K Tp.d_compared ["near", "far"] [] := Tp.F_compared.binds fun _ _ _ _ _ _ us hl => match us, hl with | [_, _], _ => rfl
theorem sc_minus_ratio : FnScope ["one", "other"] ["one", "other"] (defScope t_minus_ratio) := ⟨rfl, rfl, rfl, by decide +kernel, rfl, by decide +kernel, by decide +kernel⟩
theorem bi_minus_ratio (Tp : Top K mg) : Binds K Tp.d_minus_ratio ["one", "other"] [] := Tp.F_minus_ratio.binds fun _ _ _ _ _ _ us hl => match us, hl with | [_, _], _ => rfl
theorem sc_minus : FnScope ["near", "far"] ["near", "far"] (defScope t_minus) := ⟨rfl, rfl, rfl, by decide +kernel, rfl, by decide +kernel, by decide +kernel⟩
theorem bi_minus (Tp : Top K mg) : Binds K Tp.d_minus ["near", "far"] [] := Tp.F_minus.binds fun _ _ _ _ _ _ us hl => match us, hl with | [_, _], _ => rfl
theorem sc_over_ratio : FnScope ["one", "other"] ["one", "other"] (defScope t_over_ratio) := ⟨rfl, rfl, rfl, by decide +kernel, rfl, by decide +kernel, by decide +kernel⟩
theorem bi_over_ratio (Tp : Top K mg) : Binds K Tp.d_over_ratio ["one", "other"] [] := Tp.F_over_ratio.binds fun _ _ _ _ _ _ us hl => match us, hl with | [_, _], _ => rfl
theorem sc_over : FnScope ["near", "far"] ["near", "far"] (defScope t_over) := ⟨rfl, rfl, rfl, by decide +kernel, rfl, by decide +kernel, by decide +kernel⟩
theorem bi_over (Tp : Top K mg) : Binds K Tp.d_over ["near", "far"] [] := Tp.F_over.binds fun _ _ _ _ _ _ us hl => match us, hl with | [_, _], _ => rfl
theorem sc__law_is_whole : FnScope ["_law_value"] ["_law_value"] (defScope t__law_is_whole) := ⟨rfl, rfl, rfl, by decide +kernel, rfl, by decide +kernel, by decide +kernel⟩
theorem bi__law_is_whole (Tp : Top K mg) : Binds K Tp.d__law_is_whole ["_law_value"] [] := Tp.F__law_is_whole.binds fun _ _ _ _ _ _ us hl => match us, hl with | [_], _ => rfl
theorem sc__law_is_ratio : FnScope ["_law_value", "_law_one"] ["_law_value"] (defScope t__law_is_ratio) := ⟨rfl, rfl, rfl, by decide +kernel, rfl, by decide +kernel, by decide +kernel⟩
theorem bi__law_is_ratio (Tp : Top K mg) : Binds K Tp.d__law_is_ratio ["_law_value"] [] := Tp.F__law_is_ratio.binds fun _ _ _ _ _ _ us hl => match us, hl with | [_], _ => rfl
theorem sc__law_is_worth : FnScope ["_law_told", "_law_number_here", "_law_under"] ["_law_told", "_law_number_here", "_law_under"] (defScope t__law_is_worth) := ⟨rfl, rfl, rfl, by decide +kernel, rfl, by decide +kernel, by decide +kernel⟩
theorem bi__law_is_worth (Tp : Top K mg) : Binds K Tp.d__law_is_worth ["_law_told", "_law_number_here", "_law_under"] [] := Tp.F__law_is_worth.binds fun _ _ _ _ _ _ us hl => match us, hl with | [_, _, _], _ => rfl
theorem sc_plus_ratio : FnScope ["one", "other"] ["one", "other"] (defScope t_plus_ratio) := ⟨rfl, rfl, rfl, by decide +kernel, rfl, by decide +kernel, by decide +kernel⟩
theorem bi_plus_ratio (Tp : Top K mg) : Binds K Tp.d_plus_ratio ["one", "other"] [] := Tp.F_plus_ratio.binds fun _ _ _ _ _ _ us hl => match us, hl with | [_, _], _ => rfl
theorem sc_plus : FnScope ["near", "far"] ["near", "far"] (defScope t_plus) := ⟨rfl, rfl, rfl, by decide +kernel, rfl, by decide +kernel, by decide +kernel⟩
theorem bi_plus (Tp : Top K mg) : Binds K Tp.d_plus ["near", "far"] [] := Tp.F_plus.binds fun _ _ _ _ _ _ us hl => match us, hl with | [_, _], _ => rfl
theorem sc_times_ratio : FnScope ["one", "other"] ["one", "other"] (defScope t_times_ratio) := ⟨rfl, rfl, rfl, by decide +kernel, rfl, by decide +kernel, by decide +kernel⟩
theorem bi_times_ratio (Tp : Top K mg) : Binds K Tp.d_times_ratio ["one", "other"] [] := Tp.F_times_ratio.binds fun _ _ _ _ _ _ us hl => match us, hl with | [_, _], _ => rfl
theorem sc_times : FnScope ["near", "far"] ["near", "far"] (defScope t_times) := ⟨rfl, rfl, rfl, by decide +kernel, rfl, by decide +kernel, by decide +kernel⟩
theorem bi_times (Tp : Top K mg) : Binds K Tp.d_times ["near", "far"] [] := Tp.F_times.binds fun _ _ _ _ _ _ us hl => match us, hl with | [_, _], _ => rfl
theorem sc__law_pair_right : FnScope ["_law_near", "_law_far", "_law_a", "_law_b", "_law_c", "_law_d", "_law_due", "_law_told"] ["_law_near", "_law_far"] (defScope t__law_pair_right) := ⟨rfl, rfl, rfl, by decide +kernel, rfl, by decide +kernel, by decide +kernel⟩
theorem bi__law_pair_right (Tp : Top K mg) : Binds K Tp.d__law_pair_right ["_law_near", "_law_far"] [] := Tp.F__law_pair_right.binds fun _ _ _ _ _ _ us hl => match us, hl with | [_, _], _ => rfl
theorem sc__law_one_right : FnScope ["_law_near", "_law_low", "_law_high"] ["_law_near"] (defScope t__law_one_right) := ⟨rfl, rfl, rfl, by decide +kernel, rfl, by decide +kernel, by decide +kernel⟩
theorem bi__law_one_right (Tp : Top K mg) : Binds K Tp.d__law_one_right ["_law_near"] [] := Tp.F__law_one_right.binds fun _ _ _ _ _ _ us hl => match us, hl with | [_], _ => rfl
theorem sc_is_ratio : FnScope ["value"] ["value"] (defScope t_is_ratio) := ⟨rfl, rfl, rfl, by decide +kernel, rfl, by decide +kernel, by decide +kernel⟩
theorem bi_is_ratio (Tp : Top K mg) : Binds K Tp.d_is_ratio ["value"] [] := Tp.F_is_ratio.binds fun _ _ _ _ _ _ us hl => match us, hl with | [_], _ => rfl
theorem sc_law : FnScope ["_law_script", "_law_pot_here", "_law_turn", "_law_near", "_law_far", "_law_number_here", "_law_under", "_law_told", "_law_great"] ["_law_script"] (defScope t_law) := ⟨rfl, rfl, rfl, by decide +kernel, rfl, by decide +kernel, by decide +kernel⟩
theorem bi_law (Tp : Top K mg) : Binds K Tp.d_law ["_law_script"] [] := Tp.F_law.binds fun _ _ _ _ _ _ us hl => match us, hl with | [_], _ => rfl
theorem kb_times_0 (Tp : Top K mg) : KB K Tp.d_times ["near", "far"] ["far", "near"] 0 [1, 0] := kb_of Tp.F_times fun _ _ _ _ _ _ us ws h1 h2 => match us, h1, ws, h2 with | [], _, [_, _], _ => rfl
theorem kb_plus_0 (Tp : Top K mg) : KB K Tp.d_plus ["near", "far"] ["far", "near"] 0 [1, 0] := kb_of Tp.F_plus fun _ _ _ _ _ _ us ws h1 h2 => match us, h1, ws, h2 with | [], _, [_, _], _ => rfl
theorem kb_minus_0 (Tp : Top K mg) : KB K Tp.d_minus ["near", "far"] ["near", "far"] 0 [0, 1] := kb_of Tp.F_minus fun _ _ _ _ _ _ us ws h1 h2 => match us, h1, ws, h2 with | [], _, [_, _], _ => rfl
theorem kb_compared_0 (Tp : Top K mg) : KB K Tp.d_compared ["near", "far"] ["near", "far"] 0 [0, 1] := kb_of Tp.F_compared fun _ _ _ _ _ _ us ws h1 h2 => match us, h1, ws, h2 with | [], _, [_, _], _ => rfl
theorem kb_over_0 (Tp : Top K mg) : KB K Tp.d_over ["near", "far"] ["far", "near"] 0 [1, 0] := kb_of Tp.F_over fun _ _ _ _ _ _ us ws h1 h2 => match us, h1, ws, h2 with | [], _, [_, _], _ => rfl
theorem kb_ceiling_of_0 (Tp : Top K mg) : KB K Tp.d_ceiling_of ["ratio"] ["ratio"] 0 [0] := kb_of Tp.F_ceiling_of fun _ _ _ _ _ _ us ws h1 h2 => match us, h1, ws, h2 with | [], _, [_], _ => rfl
theorem kb_floor_of_0 (Tp : Top K mg) : KB K Tp.d_floor_of ["ratio"] ["ratio"] 0 [0] := kb_of Tp.F_floor_of fun _ _ _ _ _ _ us ws h1 h2 => match us, h1, ws, h2 with | [], _, [_], _ => rfl
theorem kb_made_0 (Tp : Top K mg) : KB K Tp.d_made ["number", "under"] ["under", "number"] 0 [1, 0] := kb_of Tp.F_made fun _ _ _ _ _ _ us ws h1 h2 => match us, h1, ws, h2 with | [], _, [_, _], _ => rfl
end
/-! ### each def does it -/
section
variable (P : Program) (w : World) {K : PySem.W.Frag} {mg : Str → Option Value} {base : Heap} (Tp : Top K mg) (hin : K.In base) (hns : base.Ns mainGlobals mg)
include Tp hin hns in
theorem ok__law_pot : FnG P w K mg base 1 Tp.a__law_pot Tp.d__law_pot ["_law_script", "_law_k"] (spM (fun _ => none) K 2 m__law_pot) :=
  fn_g (N := ["_law_script", "_law_k", "_law_cell"]) (b := b__law_pot) Tp.F__law_pot sc__law_pot fun cd A outer s H E xk tk po => (cb_cons (cs_set 2 sc__law_pot.nd (c_if (ct_cmp op_lt s_cmp (c_var 1) (k_len Tp.z_len (ca_cons (c_var 0) ca_nil)) (nomark _)) (k_abs Tp.z_abs (ca_cons (c_ix (c_var 0) (c_var 1)) ca_nil)) (c_op o_add s_add (c_op o_mul s_mul c_int (c_var 1)) c_int)))
    (cb_one (cs_ret (c_loc (ca_cons (k_max2 rfl Tp.z_max (ca_cons c_int (ca_cons (c_op op_sub s_sub (c_var 2) (c_op op_pow s_pow c_int c_int)) ca_nil))) (ca_cons (c_op o_add s_add (c_op op_modN s_mod (k_int Tp.z_int (ca_cons (c_op o_add s_add (c_op o_add s_add (c_op o_mul s_mul (c_op op_modN s_mod (k_int Tp.z_int (ca_cons (c_var 2) ca_nil)) c_int) c_int) (c_op o_mul s_mul c_int (c_var 1))) c_int) ca_nil)) c_int) c_int) ca_nil))))))
include Tp hin hns in
theorem ok__law_common : FnG P w K mg base 1 Tp.a__law_common Tp.d__law_common ["_law_one", "_law_other"] (spM (fun _ => none) K 2 m__law_common) :=
  fn_g (N := ["_law_one", "_law_other"]) (b := b__law_common) Tp.F__law_common sc__law_common fun cd A outer s H E xk tk po => (cb_cons (cs_while (fuelAt 1) po (ct_cmp (op_neD xk.hu) s_ne (c_var 1) c_int (nomark _)) (cb_one (cs_par 0 1 rfl sc__law_common.nd (ca_cons (c_var 1) (ca_cons (c_op op_sub s_sub (c_var 0) (c_op o_mul s_mul (c_op o_fdiv s_fdiv (c_var 0) (c_var 1)) (c_var 1))) ca_nil)))))
    (cb_one (cs_ret (k_abs Tp.z_abs (ca_cons (c_var 0) ca_nil)))))
include Tp hin hns in
theorem ok__law_ratio : FnG P w K mg base 2 Tp.a__law_ratio Tp.d__law_ratio ["_law_number_here", "_law_under"] (spM (fun _ => none) K 2 m__law_ratio) :=
  fn_g (N := ["_law_number_here", "_law_under", "_law_common_here"]) (b := b__law_ratio) Tp.F__law_ratio sc__law_ratio fun cd A outer s H E xk tk po => (cb_cons (cs_set 2 sc__law_ratio.nd (c_call (ok__law_common P w Tp hin hns) xk tk rfl Tp.g__law_common Tp.F__law_common.kp (bi__law_common Tp) (ca_cons (c_var 0) (ca_cons (c_var 1) ca_nil)) (len_cons (len_cons len_nil)) rfl))
    (cb_cons (cs_if (ct_cmp op_lt s_cmp (c_var 1) c_int (nomark _)) (cb_one (cs_set 2 sc__law_ratio.nd (c_un un_neg s_neg (c_var 2)))) cb_nil)
    (cb_one (cs_ret (c_tup (ca_cons (c_op o_fdiv s_fdiv (c_var 0) (c_var 2)) (ca_cons (c_op o_fdiv s_fdiv (c_var 1) (c_var 2)) ca_nil)))))))
include Tp hin hns in
theorem ok__law_draw : FnG P w K mg base 1 Tp.a__law_draw Tp.d__law_draw ["_law_pot_here", "_law_size"] (spM (fun _ => none) K 2 m__law_draw) :=
  fn_g (N := ["_law_pot_here", "_law_size", "_law_digit"]) (b := b__law_draw) Tp.F__law_draw sc__law_draw fun cd A outer s H E xk tk po => (cb_cons (cs_if (ct_cmp op_gt s_cmp (c_ix (c_var 0) c_int) c_int (nomark _)) (cb_cons (cs_asg (k_divmod Tp.z_divmod (ca_cons (c_ix (c_var 0) c_int) (ca_cons (c_var 1) ca_nil))) (cg_tup 2 rfl (cgs_cons (cg_sub (c_var 0) c_int) (cgs_cons (cg_name 2 sc__law_draw.nd) cgs_nil))))
    (cb_one (cs_ret (c_var 2)))) cb_nil)
    (cb_cons (cs_asg (c_op op_modN s_mod (k_int Tp.z_int (ca_cons (c_op o_add s_add (c_op o_mul s_mul (c_ix (c_var 0) c_int) c_int) c_int) ca_nil)) c_int) (cg_sub (c_var 0) c_int))
    (cb_one (cs_ret (c_op op_modN s_mod (k_int Tp.z_int (ca_cons (c_op o_fdiv s_fdiv (c_op op_modN s_mod (k_int Tp.z_int (ca_cons (c_op o_mul s_mul (c_ix (c_var 0) c_int) (c_ix (c_var 0) c_int)) ca_nil)) c_int) c_int) ca_nil)) (c_var 1))))))
include Tp hin hns in
theorem ok__law_pick : FnG P w K mg base 2 Tp.a__law_pick Tp.d__law_pick ["_law_pot_here", "_law_some"] (spM (fun _ => none) K 2 m__law_pick) :=
  fn_g (N := ["_law_pot_here", "_law_some"]) (b := b__law_pick) Tp.F__law_pick sc__law_pick fun cd A outer s H E xk tk po => (cb_one (cs_ret (c_ix (c_var 1) (c_call (ok__law_draw P w Tp hin hns) xk tk rfl Tp.g__law_draw Tp.F__law_draw.kp (bi__law_draw Tp) (ca_cons (c_var 0) (ca_cons (k_len Tp.z_len (ca_cons (c_var 1) ca_nil)) ca_nil)) (len_cons (len_cons len_nil)) rfl))))
include Tp hin hns in
theorem ok__law_number : FnG P w K mg base 3 Tp.a__law_number Tp.d__law_number ["_law_pot_here"] (spM (fun _ => none) K 1 m__law_number) :=
  fn_g (N := ["_law_pot_here", "_law_number_here"]) (b := b__law_number) Tp.F__law_number sc__law_number fun cd A outer s H E xk tk po => (cb_cons (cs_set 1 sc__law_number.nd (c_op op_sub s_sub (c_call (ok__law_draw P w Tp hin hns) xk tk rfl Tp.g__law_draw Tp.F__law_draw.kp (bi__law_draw Tp) (ca_cons (c_var 0) (ca_cons c_int ca_nil)) (len_cons (len_cons len_nil)) rfl) c_int))
    (cb_one (cs_ret (c_op o_mul s_mul (c_var 1) (c_call (ok__law_pick P w Tp hin hns) xk tk rfl Tp.g__law_pick Tp.F__law_pick.kp (bi__law_pick Tp) (ca_cons (c_var 0) (ca_cons (c_lst (ca_cons c_int (ca_cons c_int (ca_cons c_int (ca_cons c_int (ca_cons (c_op o_add s_add (c_op op_pow s_pow c_int c_int) c_int) (ca_cons (c_op op_pow s_pow c_int c_int) ca_nil))))))) ca_nil)) (len_cons (len_cons len_nil)) rfl)))))
include Tp hin hns in
theorem ok__law_drawn : FnG P w K mg base 4 Tp.a__law_drawn Tp.d__law_drawn ["_law_pot_here"] (spM (fun _ => none) K 1 m__law_drawn) :=
  fn_g (N := ["_law_pot_here"]) (b := b__law_drawn) Tp.F__law_drawn sc__law_drawn fun cd A outer s H E xk tk po => (cb_one (cs_ret (c_call (ok__law_ratio P w Tp hin hns) xk tk rfl Tp.g__law_ratio Tp.F__law_ratio.kp (bi__law_ratio Tp) (ca_cons (c_call (ok__law_number P w Tp hin hns) xk tk rfl Tp.g__law_number Tp.F__law_number.kp (bi__law_number Tp) (ca_cons (c_var 0) ca_nil) (len_cons len_nil) rfl) (ca_cons (c_op o_add s_add c_int (c_op o_mul s_mul (c_call (ok__law_draw P w Tp hin hns) xk tk rfl Tp.g__law_draw Tp.F__law_draw.kp (bi__law_draw Tp) (ca_cons (c_var 0) (ca_cons c_int ca_nil)) (len_cons (len_cons len_nil)) rfl) (c_call (ok__law_pick P w Tp hin hns) xk tk rfl Tp.g__law_pick Tp.F__law_pick.kp (bi__law_pick Tp) (ca_cons (c_var 0) (ca_cons (c_lst (ca_cons c_int (ca_cons c_int (ca_cons (c_op op_pow s_pow c_int c_int) ca_nil)))) ca_nil)) (len_cons (len_cons len_nil)) rfl))) ca_nil)) (len_cons (len_cons len_nil)) rfl)))
include Tp hin hns in
theorem ok_is_integer : FnG P w K mg base 1 Tp.a_is_integer Tp.d_is_integer ["value"] (spM (fun _ => none) K 1 m_is_integer) :=
  fn_g (N := ["value"]) (b := b_is_integer) Tp.F_is_integer sc_is_integer fun cd A outer s H E xk tk po => (cb_one (cs_ret (c_and (c_isi .int rfl Tp.z_isinstance rfl Tp.z_int bt_int (c_var 0)) (c_one (c_not (c_isi .bool rfl Tp.z_isinstance rfl Tp.z_bool bt_bool (c_var 0)))))))
include Tp hin hns in
theorem ok_want_integer : FnG P w K mg base 2 Tp.a_want_integer Tp.d_want_integer ["value"] (spM (fun _ => none) K 1 m_want_integer) :=
  fn_g (N := ["value"]) (b := b_want_integer) Tp.F_want_integer sc_want_integer fun cd A outer s H E xk tk po => (cb_cons (cs_if (ct_not (ct_tru (c_call (ok_is_integer P w Tp hin hns) xk tk rfl Tp.g_is_integer Tp.F_is_integer.kp (bi_is_integer Tp) (ca_cons (c_var 0) ca_nil) (len_cons len_nil) rfl))) (cb_one cs_never) cb_nil)
    (cb_one (cs_ret (c_var 0))))
include Tp hin hns in
theorem ok_lowest : FnG P w K mg base 1 Tp.a_lowest Tp.d_lowest ["number", "under"] (spM (fun _ => none) K 2 m_lowest) :=
  fn_g (N := ["number", "under", "shared", "sign"]) (b := b_lowest) Tp.F_lowest sc_lowest fun cd A outer s H E xk tk po => (cb_cons (cs_set 2 sc_lowest.nd (k_gcd Tp.i_gcd (ca_cons (c_var 0) (ca_cons (c_var 1) ca_nil))))
    (cb_cons (cs_set 3 sc_lowest.nd (c_if (ct_cmp op_gt s_cmp (c_var 1) c_int (nomark _)) c_int (c_un un_neg s_neg c_int)))
    (cb_one (cs_ret (c_tup (ca_cons (c_op o_fdiv s_fdiv (c_op o_mul s_mul (c_var 3) (c_var 0)) (c_var 2)) (ca_cons (c_op o_fdiv s_fdiv (c_op o_mul s_mul (c_var 3) (c_var 1)) (c_var 2)) ca_nil)))))))
include Tp hin hns in
theorem ok_made : FnG P w K mg base 3 Tp.a_made Tp.d_made ["number", "under"] (spM (fun _ => none) K 2 m_made) :=
  fn_g (N := ["number", "under"]) (b := b_made) Tp.F_made sc_made fun cd A outer s H E xk tk po => (cb_cons (cs_expr (c_call (ok_want_integer P w Tp hin hns) xk tk rfl Tp.g_want_integer Tp.F_want_integer.kp (bi_want_integer Tp) (ca_cons (c_var 0) ca_nil) (len_cons len_nil) rfl))
    (cb_cons (cs_if (ct_cmp (op_eqD xk.hu) s_eq (c_call (ok_want_integer P w Tp hin hns) xk tk rfl Tp.g_want_integer Tp.F_want_integer.kp (bi_want_integer Tp) (ca_cons (c_var 1) ca_nil) (len_cons len_nil) rfl) c_int (nomark _)) (cb_one cs_never) cb_nil)
    (cb_one (cs_ret (c_call (ok_lowest P w Tp hin hns) xk tk rfl Tp.g_lowest Tp.F_lowest.kp (bi_lowest Tp) (ca_cons (c_var 0) (ca_cons (c_var 1) ca_nil)) (len_cons (len_cons len_nil)) rfl)))))
include Tp hin hns in
theorem ok_floor_ratio : FnG P w K mg base 1 Tp.a_floor_ratio Tp.d_floor_ratio ["ratio"] (spM (fun _ => none) K 1 m_floor_ratio) :=
  fn_g (N := ["ratio"]) (b := b_floor_ratio) Tp.F_floor_ratio sc_floor_ratio fun cd A outer s H E xk tk po => (cb_one (cs_ret (c_op o_fdiv s_fdiv (c_ix (c_var 0) c_int) (c_ix (c_var 0) c_int))))
include Tp hin hns in
theorem ok_is_ratio_value : FnG P w K mg base 2 Tp.a_is_ratio_value Tp.d_is_ratio_value ["value"] (spM (fun _ => none) K 1 m_is_ratio_value) :=
  fn_g (N := ["value", "one"]) (b := b_is_ratio_value) Tp.F_is_ratio_value sc_is_ratio_value fun cd A outer s H E xk tk po => (cb_cons (cs_if (ct_w (cw_or (ct_not (ct_tru (c_isi .tup rfl Tp.z_isinstance rfl Tp.z_tuple bt_tuple (c_var 0)))) (cw_or (ct_cmp (op_neD xk.hu) s_ne (k_len Tp.z_len (ca_cons (c_var 0) ca_nil)) c_int (nomark _)) (cw_or1 (ct_not (ct_tru (k_all rfl Tp.z_all (ca_cons (c_lc (own := [("one", 1)]) fin_lst rfl sc_is_ratio_value.nd (ci_seq (c_var 0)) (show blkC ["value", "one"] (defScope t_is_ratio_value) _ _ = true by decide +kernel) (by decide) (fun _ _ _ _ _ => (cg_name 1 sc_is_ratio_value.nd)) (fun _ _ _ _ _ => cts_nil) (fun _ _ _ _ _ => (c_call (ok_is_integer P w Tp hin hns) (blk_ok xk) calls0 rfl Tp.g_is_integer Tp.F_is_integer.kp (bi_is_integer Tp) (ca_cons (c_var 1) ca_nil) (len_cons len_nil) rfl))) ca_nil)))))))) (cb_one (cs_ret c_bl)) cb_nil)
    (cb_one (cs_ret (c_and (c_cmp op_ge s_cmp (c_ix (c_var 0) c_int) c_int (nomark _)) (c_one (c_cmp (op_eqD xk.hu) s_eq (k_gcd Tp.i_gcd (ca_cons (c_ix (c_var 0) c_int) (ca_cons (c_ix (c_var 0) c_int) ca_nil))) c_int (nomark _)))))))
include Tp hin hns in
theorem ok_want_ratio : FnG P w K mg base 3 Tp.a_want_ratio Tp.d_want_ratio ["value"] (spM (fun _ => none) K 1 m_want_ratio) :=
  fn_g (N := ["value"]) (b := b_want_ratio) Tp.F_want_ratio sc_want_ratio fun cd A outer s H E xk tk po => (cb_cons (cs_if (ct_not (ct_tru (c_call (ok_is_ratio_value P w Tp hin hns) xk tk rfl Tp.g_is_ratio_value Tp.F_is_ratio_value.kp (bi_is_ratio_value Tp) (ca_cons (c_var 0) ca_nil) (len_cons len_nil) rfl))) (cb_one cs_never) cb_nil)
    (cb_one (cs_ret (c_var 0))))
include Tp hin hns in
theorem ok_floor_of : FnG P w K mg base 4 Tp.a_floor_of Tp.d_floor_of ["ratio"] (spM (fun _ => none) K 1 m_floor_of) :=
  fn_g (N := ["ratio"]) (b := b_floor_of) Tp.F_floor_of sc_floor_of fun cd A outer s H E xk tk po => (cb_one (cs_ret (c_call (ok_floor_ratio P w Tp hin hns) xk tk rfl Tp.g_floor_ratio Tp.F_floor_ratio.kp (bi_floor_ratio Tp) (ca_cons (c_call (ok_want_ratio P w Tp hin hns) xk tk rfl Tp.g_want_ratio Tp.F_want_ratio.kp (bi_want_ratio Tp) (ca_cons (c_var 0) ca_nil) (len_cons len_nil) rfl) ca_nil) (len_cons len_nil) rfl)))
include Tp hin hns in
theorem ok_ceiling_ratio : FnG P w K mg base 1 Tp.a_ceiling_ratio Tp.d_ceiling_ratio ["ratio"] (spM (fun _ => none) K 1 m_ceiling_ratio) :=
  fn_g (N := ["ratio"]) (b := b_ceiling_ratio) Tp.F_ceiling_ratio sc_ceiling_ratio fun cd A outer s H E xk tk po => (cb_one (cs_ret (c_un un_neg s_neg (c_op o_fdiv s_fdiv (c_un un_neg s_neg (c_ix (c_var 0) c_int)) (c_ix (c_var 0) c_int)))))
include Tp hin hns in
theorem ok_ceiling_of : FnG P w K mg base 4 Tp.a_ceiling_of Tp.d_ceiling_of ["ratio"] (spM (fun _ => none) K 1 m_ceiling_of) :=
  fn_g (N := ["ratio"]) (b := b_ceiling_of) Tp.F_ceiling_of sc_ceiling_of fun cd A outer s H E xk tk po => (cb_one (cs_ret (c_call (ok_ceiling_ratio P w Tp hin hns) xk tk rfl Tp.g_ceiling_ratio Tp.F_ceiling_ratio.kp (bi_ceiling_ratio Tp) (ca_cons (c_call (ok_want_ratio P w Tp hin hns) xk tk rfl Tp.g_want_ratio Tp.F_want_ratio.kp (bi_want_ratio Tp) (ca_cons (c_var 0) ca_nil) (len_cons len_nil) rfl) ca_nil) (len_cons len_nil) rfl)))
include Tp hin hns in
theorem ok_is_less : FnG P w K mg base 1 Tp.a_is_less Tp.d_is_less ["one", "other"] (spM (fun _ => none) K 2 m_is_less) :=
  fn_g (N := ["one", "other"]) (b := b_is_less) Tp.F_is_less sc_is_less fun cd A outer s H E xk tk po => (cb_one (cs_ret (c_cmp op_lt s_cmp (c_op o_mul s_mul (c_ix (c_var 0) c_int) (c_ix (c_var 1) c_int)) (c_op o_mul s_mul (c_ix (c_var 1) c_int) (c_ix (c_var 0) c_int)) (nomark _))))
include Tp hin hns in
theorem ok_compared : FnG P w K mg base 4 Tp.a_compared Tp.d_compared ["near", "far"] (spM (fun _ => none) K 2 m_compared) :=
  fn_g (N := ["near", "far"]) (b := b_compared) Tp.F_compared sc_compared fun cd A outer s H E xk tk po => (cb_cons (cs_expr (c_call (ok_want_ratio P w Tp hin hns) xk tk rfl Tp.g_want_ratio Tp.F_want_ratio.kp (bi_want_ratio Tp) (ca_cons (c_var 0) ca_nil) (len_cons len_nil) rfl))
    (cb_cons (cs_expr (c_call (ok_want_ratio P w Tp hin hns) xk tk rfl Tp.g_want_ratio Tp.F_want_ratio.kp (bi_want_ratio Tp) (ca_cons (c_var 1) ca_nil) (len_cons len_nil) rfl))
    (cb_one (cs_ret (c_if (ct_tru (c_call (ok_is_less P w Tp hin hns) xk tk rfl Tp.g_is_less Tp.F_is_less.kp (bi_is_less Tp) (ca_cons (c_var 0) (ca_cons (c_var 1) ca_nil)) (len_cons (len_cons len_nil)) rfl)) (c_un un_neg s_neg c_int) (k_int Tp.z_int (ca_cons (c_call (ok_is_less P w Tp hin hns) xk tk rfl Tp.g_is_less Tp.F_is_less.kp (bi_is_less Tp) (ca_cons (c_var 1) (ca_cons (c_var 0) ca_nil)) (len_cons (len_cons len_nil)) rfl) ca_nil)))))))
include Tp hin hns in
theorem ok_minus_ratio : FnG P w K mg base 2 Tp.a_minus_ratio Tp.d_minus_ratio ["one", "other"] (spM (fun _ => none) K 2 m_minus_ratio) :=
  fn_g (N := ["one", "other"]) (b := b_minus_ratio) Tp.F_minus_ratio sc_minus_ratio fun cd A outer s H E xk tk po => (cb_one (cs_ret (c_call (ok_lowest P w Tp hin hns) xk tk rfl Tp.g_lowest Tp.F_lowest.kp (bi_lowest Tp) (ca_cons (c_op op_sub s_sub (c_op o_mul s_mul (c_ix (c_var 0) c_int) (c_ix (c_var 1) c_int)) (c_op o_mul s_mul (c_ix (c_var 1) c_int) (c_ix (c_var 0) c_int))) (ca_cons (c_op o_mul s_mul (c_ix (c_var 0) c_int) (c_ix (c_var 1) c_int)) ca_nil)) (len_cons (len_cons len_nil)) rfl)))
include Tp hin hns in
theorem ok_minus : FnG P w K mg base 4 Tp.a_minus Tp.d_minus ["near", "far"] (spM (fun _ => none) K 2 m_minus) :=
  fn_g (N := ["near", "far"]) (b := b_minus) Tp.F_minus sc_minus fun cd A outer s H E xk tk po => (cb_cons (cs_expr (c_call (ok_want_ratio P w Tp hin hns) xk tk rfl Tp.g_want_ratio Tp.F_want_ratio.kp (bi_want_ratio Tp) (ca_cons (c_var 0) ca_nil) (len_cons len_nil) rfl))
    (cb_one (cs_ret (c_call (ok_minus_ratio P w Tp hin hns) xk tk rfl Tp.g_minus_ratio Tp.F_minus_ratio.kp (bi_minus_ratio Tp) (ca_cons (c_var 0) (ca_cons (c_call (ok_want_ratio P w Tp hin hns) xk tk rfl Tp.g_want_ratio Tp.F_want_ratio.kp (bi_want_ratio Tp) (ca_cons (c_var 1) ca_nil) (len_cons len_nil) rfl) ca_nil)) (len_cons (len_cons len_nil)) rfl))))
include Tp hin hns in
theorem ok_over_ratio : FnG P w K mg base 2 Tp.a_over_ratio Tp.d_over_ratio ["one", "other"] (spM (fun _ => none) K 2 m_over_ratio) :=
  fn_g (N := ["one", "other"]) (b := b_over_ratio) Tp.F_over_ratio sc_over_ratio fun cd A outer s H E xk tk po => (cb_one (cs_ret (c_call (ok_lowest P w Tp hin hns) xk tk rfl Tp.g_lowest Tp.F_lowest.kp (bi_lowest Tp) (ca_cons (c_op o_mul s_mul (c_ix (c_var 0) c_int) (c_ix (c_var 1) c_int)) (ca_cons (c_op o_mul s_mul (c_ix (c_var 0) c_int) (c_ix (c_var 1) c_int)) ca_nil)) (len_cons (len_cons len_nil)) rfl)))
include Tp hin hns in
theorem ok_over : FnG P w K mg base 4 Tp.a_over Tp.d_over ["near", "far"] (spM (fun _ => none) K 2 m_over) :=
  fn_g (N := ["near", "far"]) (b := b_over) Tp.F_over sc_over fun cd A outer s H E xk tk po => (cb_cons (cs_expr (c_call (ok_want_ratio P w Tp hin hns) xk tk rfl Tp.g_want_ratio Tp.F_want_ratio.kp (bi_want_ratio Tp) (ca_cons (c_var 0) ca_nil) (len_cons len_nil) rfl))
    (cb_cons (cs_if (ct_cmp (op_eqD xk.hu) s_eq (c_ix (c_call (ok_want_ratio P w Tp hin hns) xk tk rfl Tp.g_want_ratio Tp.F_want_ratio.kp (bi_want_ratio Tp) (ca_cons (c_var 1) ca_nil) (len_cons len_nil) rfl) c_int) c_int (nomark _)) (cb_one cs_never) cb_nil)
    (cb_one (cs_ret (c_call (ok_over_ratio P w Tp hin hns) xk tk rfl Tp.g_over_ratio Tp.F_over_ratio.kp (bi_over_ratio Tp) (ca_cons (c_var 0) (ca_cons (c_var 1) ca_nil)) (len_cons (len_cons len_nil)) rfl)))))
include Tp hin hns in
theorem ok__law_is_whole : FnG P w K mg base 1 Tp.a__law_is_whole Tp.d__law_is_whole ["_law_value"] (spM (fun _ => none) K 1 m__law_is_whole) :=
  fn_g (N := ["_law_value"]) (b := b__law_is_whole) Tp.F__law_is_whole sc__law_is_whole fun cd A outer s H E xk tk po => (cb_one (cs_ret (c_and (c_isi .int rfl Tp.z_isinstance rfl Tp.z_int bt_int (c_var 0)) (c_one (c_not (c_isi .bool rfl Tp.z_isinstance rfl Tp.z_bool bt_bool (c_var 0)))))))
include Tp hin hns in
theorem ok__law_is_ratio : FnG P w K mg base 2 Tp.a__law_is_ratio Tp.d__law_is_ratio ["_law_value"] (spM (fun _ => none) K 1 m__law_is_ratio) :=
  fn_g (N := ["_law_value", "_law_one"]) (b := b__law_is_ratio) Tp.F__law_is_ratio sc__law_is_ratio fun cd A outer s H E xk tk po => (cb_cons (cs_if (ct_w (cw_or (ct_not (ct_tru (c_isi .tup rfl Tp.z_isinstance rfl Tp.z_tuple bt_tuple (c_var 0)))) (cw_or (ct_cmp (op_neD xk.hu) s_ne (k_len Tp.z_len (ca_cons (c_var 0) ca_nil)) c_int (nomark _)) (cw_or1 (ct_not (ct_tru (k_all rfl Tp.z_all (ca_cons (c_lc (own := [("_law_one", 1)]) fin_lst rfl sc__law_is_ratio.nd (ci_seq (c_var 0)) (show blkC ["_law_value", "_law_one"] (defScope t__law_is_ratio) _ _ = true by decide +kernel) (by decide) (fun _ _ _ _ _ => (cg_name 1 sc__law_is_ratio.nd)) (fun _ _ _ _ _ => cts_nil) (fun _ _ _ _ _ => (c_call (ok__law_is_whole P w Tp hin hns) (blk_ok xk) calls0 rfl Tp.g__law_is_whole Tp.F__law_is_whole.kp (bi__law_is_whole Tp) (ca_cons (c_var 1) ca_nil) (len_cons len_nil) rfl))) ca_nil)))))))) (cb_one (cs_ret c_bl)) cb_nil)
    (cb_one (cs_ret (c_and (c_cmp op_gt s_cmp (c_ix (c_var 0) c_int) c_int (nomark _)) (c_one (c_cmp (op_eqD xk.hu) s_eq (c_call (ok__law_common P w Tp hin hns) xk tk rfl Tp.g__law_common Tp.F__law_common.kp (bi__law_common Tp) (ca_cons (c_ix (c_var 0) c_int) (ca_cons (c_ix (c_var 0) c_int) ca_nil)) (len_cons (len_cons len_nil)) rfl) c_int (nomark _)))))))
include Tp hin hns in
theorem ok__law_is_worth : FnG P w K mg base 3 Tp.a__law_is_worth Tp.d__law_is_worth ["_law_told", "_law_number_here", "_law_under"] (spM (fun _ => none) K 3 m__law_is_worth) :=
  fn_g (N := ["_law_told", "_law_number_here", "_law_under"]) (b := b__law_is_worth) Tp.F__law_is_worth sc__law_is_worth fun cd A outer s H E xk tk po => (cb_one (cs_ret (c_and (c_call (ok__law_is_ratio P w Tp hin hns) xk tk rfl Tp.g__law_is_ratio Tp.F__law_is_ratio.kp (bi__law_is_ratio Tp) (ca_cons (c_var 0) ca_nil) (len_cons len_nil) rfl) (c_one (c_cmp (op_eqD xk.hu) s_eq (c_op o_mul s_mul (c_ix (c_var 0) c_int) (c_var 2)) (c_op o_mul s_mul (c_var 1) (c_ix (c_var 0) c_int)) (nomark _))))))
include Tp hin hns in
theorem ok_plus_ratio : FnG P w K mg base 2 Tp.a_plus_ratio Tp.d_plus_ratio ["one", "other"] (spM (fun _ => none) K 2 m_plus_ratio) :=
  fn_g (N := ["one", "other"]) (b := b_plus_ratio) Tp.F_plus_ratio sc_plus_ratio fun cd A outer s H E xk tk po => (cb_one (cs_ret (c_call (ok_lowest P w Tp hin hns) xk tk rfl Tp.g_lowest Tp.F_lowest.kp (bi_lowest Tp) (ca_cons (c_op o_add s_add (c_op o_mul s_mul (c_ix (c_var 0) c_int) (c_ix (c_var 1) c_int)) (c_op o_mul s_mul (c_ix (c_var 1) c_int) (c_ix (c_var 0) c_int))) (ca_cons (c_op o_mul s_mul (c_ix (c_var 0) c_int) (c_ix (c_var 1) c_int)) ca_nil)) (len_cons (len_cons len_nil)) rfl)))
include Tp hin hns in
theorem ok_plus : FnG P w K mg base 4 Tp.a_plus Tp.d_plus ["near", "far"] (spM (fun _ => none) K 2 m_plus) :=
  fn_g (N := ["near", "far"]) (b := b_plus) Tp.F_plus sc_plus fun cd A outer s H E xk tk po => (cb_cons (cs_expr (c_call (ok_want_ratio P w Tp hin hns) xk tk rfl Tp.g_want_ratio Tp.F_want_ratio.kp (bi_want_ratio Tp) (ca_cons (c_var 0) ca_nil) (len_cons len_nil) rfl))
    (cb_one (cs_ret (c_call (ok_plus_ratio P w Tp hin hns) xk tk rfl Tp.g_plus_ratio Tp.F_plus_ratio.kp (bi_plus_ratio Tp) (ca_cons (c_var 0) (ca_cons (c_call (ok_want_ratio P w Tp hin hns) xk tk rfl Tp.g_want_ratio Tp.F_want_ratio.kp (bi_want_ratio Tp) (ca_cons (c_var 1) ca_nil) (len_cons len_nil) rfl) ca_nil)) (len_cons (len_cons len_nil)) rfl))))
include Tp hin hns in
theorem ok_times_ratio : FnG P w K mg base 2 Tp.a_times_ratio Tp.d_times_ratio ["one", "other"] (spM (fun _ => none) K 2 m_times_ratio) :=
  fn_g (N := ["one", "other"]) (b := b_times_ratio) Tp.F_times_ratio sc_times_ratio fun cd A outer s H E xk tk po => (cb_one (cs_ret (c_call (ok_lowest P w Tp hin hns) xk tk rfl Tp.g_lowest Tp.F_lowest.kp (bi_lowest Tp) (ca_cons (c_op o_mul s_mul (c_ix (c_var 0) c_int) (c_ix (c_var 1) c_int)) (ca_cons (c_op o_mul s_mul (c_ix (c_var 0) c_int) (c_ix (c_var 1) c_int)) ca_nil)) (len_cons (len_cons len_nil)) rfl)))
include Tp hin hns in
theorem ok_times : FnG P w K mg base 4 Tp.a_times Tp.d_times ["near", "far"] (spM (fun _ => none) K 2 m_times) :=
  fn_g (N := ["near", "far"]) (b := b_times) Tp.F_times sc_times fun cd A outer s H E xk tk po => (cb_cons (cs_expr (c_call (ok_want_ratio P w Tp hin hns) xk tk rfl Tp.g_want_ratio Tp.F_want_ratio.kp (bi_want_ratio Tp) (ca_cons (c_var 0) ca_nil) (len_cons len_nil) rfl))
    (cb_one (cs_ret (c_call (ok_times_ratio P w Tp hin hns) xk tk rfl Tp.g_times_ratio Tp.F_times_ratio.kp (bi_times_ratio Tp) (ca_cons (c_var 0) (ca_cons (c_call (ok_want_ratio P w Tp hin hns) xk tk rfl Tp.g_want_ratio Tp.F_want_ratio.kp (bi_want_ratio Tp) (ca_cons (c_var 1) ca_nil) (len_cons len_nil) rfl) ca_nil)) (len_cons (len_cons len_nil)) rfl))))
include Tp hin hns in
theorem ok__law_pair_right : FnG P w K mg base 5 Tp.a__law_pair_right Tp.d__law_pair_right ["_law_near", "_law_far"] (spM (fun _ => none) K 2 m__law_pair_right) :=
  fn_g (N := ["_law_near", "_law_far", "_law_a", "_law_b", "_law_c", "_law_d", "_law_due", "_law_told"]) (b := b__law_pair_right) Tp.F__law_pair_right sc__law_pair_right fun cd A outer s H E xk tk po => (cb_cons (cs_asg (c_tup (ca_cons (c_var 0) (ca_cons (c_var 1) ca_nil))) (cg_tup 2 rfl (cgs_cons (cg_tup 2 rfl (cgs_cons (cg_name 2 sc__law_pair_right.nd) (cgs_cons (cg_name 3 sc__law_pair_right.nd) cgs_nil))) (cgs_cons (cg_tup 2 rfl (cgs_cons (cg_name 4 sc__law_pair_right.nd) (cgs_cons (cg_name 5 sc__law_pair_right.nd) cgs_nil))) cgs_nil))))
    (cb_cons (cs_if (ct_w (cw_or (ct_not (ct_tru (c_call (ok__law_is_worth P w Tp hin hns) xk tk rfl Tp.g__law_is_worth Tp.F__law_is_worth.kp (bi__law_is_worth Tp) (ca_cons (c_call (ok_plus P w Tp hin hns) xk tk rfl Tp.g_plus Tp.F_plus.kp (bi_plus Tp) (ca_cons (c_var 0) (ca_cons (c_var 1) ca_nil)) (len_cons (len_cons len_nil)) rfl) (ca_cons (c_op o_add s_add (c_op o_mul s_mul (c_var 2) (c_var 5)) (c_op o_mul s_mul (c_var 4) (c_var 3))) (ca_cons (c_op o_mul s_mul (c_var 3) (c_var 5)) ca_nil))) (len_cons (len_cons (len_cons len_nil))) rfl))) (cw_or1 (ct_not (ct_tru (c_call (ok__law_is_worth P w Tp hin hns) xk tk rfl Tp.g__law_is_worth Tp.F__law_is_worth.kp (bi__law_is_worth Tp) (ca_cons (c_call (ok_minus P w Tp hin hns) xk tk rfl Tp.g_minus Tp.F_minus.kp (bi_minus Tp) (ca_cons (c_var 0) (ca_cons (c_var 1) ca_nil)) (len_cons (len_cons len_nil)) rfl) (ca_cons (c_op op_sub s_sub (c_op o_mul s_mul (c_var 2) (c_var 5)) (c_op o_mul s_mul (c_var 4) (c_var 3))) (ca_cons (c_op o_mul s_mul (c_var 3) (c_var 5)) ca_nil))) (len_cons (len_cons (len_cons len_nil))) rfl)))))) (cb_one (cs_ret c_bl)) cb_nil)
    (cb_cons (cs_if (ct_w (cw_or (ct_not (ct_tru (c_call (ok__law_is_worth P w Tp hin hns) xk tk rfl Tp.g__law_is_worth Tp.F__law_is_worth.kp (bi__law_is_worth Tp) (ca_cons (c_callK0 (ok_times P w Tp hin hns) xk tk rfl Tp.g_times Tp.F_times.kp (kb_times_0 Tp) rfl (ck_cons (c_var 1) (ck_cons (c_var 0) ck_nil)) (by intro vs h; match vs, h with | [_, _], _ => rfl)) (ca_cons (c_op o_mul s_mul (c_var 2) (c_var 4)) (ca_cons (c_op o_mul s_mul (c_var 3) (c_var 5)) ca_nil))) (len_cons (len_cons (len_cons len_nil))) rfl))) (cw_or1 (ct_cmp (op_neD xk.hu) s_ne (c_callK0 (ok_plus P w Tp hin hns) xk tk rfl Tp.g_plus Tp.F_plus.kp (kb_plus_0 Tp) rfl (ck_cons (c_var 0) (ck_cons (c_var 1) ck_nil)) (by intro vs h; match vs, h with | [_, _], _ => rfl)) (c_call (ok_plus P w Tp hin hns) xk tk rfl Tp.g_plus Tp.F_plus.kp (bi_plus Tp) (ca_cons (c_var 0) (ca_cons (c_var 1) ca_nil)) (len_cons (len_cons len_nil)) rfl) (nomark _))))) (cb_one (cs_ret c_bl)) cb_nil)
    (cb_cons (cs_if (ct_w (cw_or (ct_cmp (op_neD xk.hu) s_ne (c_call (ok_minus P w Tp hin hns) xk tk rfl Tp.g_minus Tp.F_minus.kp (bi_minus Tp) (ca_cons (c_call (ok_plus P w Tp hin hns) xk tk rfl Tp.g_plus Tp.F_plus.kp (bi_plus Tp) (ca_cons (c_var 0) (ca_cons (c_var 1) ca_nil)) (len_cons (len_cons len_nil)) rfl) (ca_cons (c_var 1) ca_nil)) (len_cons (len_cons len_nil)) rfl) (c_var 0) (nomark _)) (cw_or1 (ct_cmp (op_neD xk.hu) s_ne (c_callK0 (ok_minus P w Tp hin hns) xk tk rfl Tp.g_minus Tp.F_minus.kp (kb_minus_0 Tp) rfl (ck_cons (c_var 0) (ck_cons (c_var 0) ck_nil)) (by intro vs h; match vs, h with | [_, _], _ => rfl)) (c_tup (ca_cons c_int (ca_cons c_int ca_nil))) (nomark _))))) (cb_one (cs_ret c_bl)) cb_nil)
    (cb_cons (cs_set 6 sc__law_pair_right.nd (c_op op_sub s_sub (k_int Tp.z_int (ca_cons (c_cmp op_gt s_cmp (c_op o_mul s_mul (c_var 2) (c_var 5)) (c_op o_mul s_mul (c_var 4) (c_var 3)) (nomark _)) ca_nil)) (k_int Tp.z_int (ca_cons (c_cmp op_lt s_cmp (c_op o_mul s_mul (c_var 2) (c_var 5)) (c_op o_mul s_mul (c_var 4) (c_var 3)) (nomark _)) ca_nil))))
    (cb_cons (cs_set 7 sc__law_pair_right.nd (c_lst (ca_cons (c_call (ok_compared P w Tp hin hns) xk tk rfl Tp.g_compared Tp.F_compared.kp (bi_compared Tp) (ca_cons (c_var 0) (ca_cons (c_var 1) ca_nil)) (len_cons (len_cons len_nil)) rfl) (ca_cons (c_callK0 (ok_compared P w Tp hin hns) xk tk rfl Tp.g_compared Tp.F_compared.kp (kb_compared_0 Tp) rfl (ck_cons (c_var 1) (ck_cons (c_var 0) ck_nil)) (by intro vs h; match vs, h with | [_, _], _ => rfl)) (ca_cons (c_call (ok_compared P w Tp hin hns) xk tk rfl Tp.g_compared Tp.F_compared.kp (bi_compared Tp) (ca_cons (c_var 0) (ca_cons (c_var 0) ca_nil)) (len_cons (len_cons len_nil)) rfl) ca_nil)))))
    (cb_cons (cs_if (ct_cmp (op_neD xk.hu) s_ne (k_repr xk Tp.z_repr (ca_cons (c_var 7) ca_nil)) (k_repr xk Tp.z_repr (ca_cons (c_lst (ca_cons (c_var 6) (ca_cons (c_un un_neg s_neg (c_var 6)) (ca_cons c_int ca_nil)))) ca_nil)) (nomark _)) (cb_one (cs_ret c_bl)) cb_nil)
    (cb_cons (cs_if (ct_cmp (op_eqD xk.hu) s_eq (c_var 4) c_int (nomark _)) (cb_one (cs_ret c_bl)) cb_nil)
    (cb_cons (cs_set 7 sc__law_pair_right.nd (c_call (ok_over P w Tp hin hns) xk tk rfl Tp.g_over Tp.F_over.kp (bi_over Tp) (ca_cons (c_var 0) (ca_cons (c_var 1) ca_nil)) (len_cons (len_cons len_nil)) rfl))
    (cb_one (cs_ret (c_and (c_call (ok__law_is_worth P w Tp hin hns) xk tk rfl Tp.g__law_is_worth Tp.F__law_is_worth.kp (bi__law_is_worth Tp) (ca_cons (c_var 7) (ca_cons (c_op o_mul s_mul (c_var 2) (c_var 5)) (ca_cons (c_op o_mul s_mul (c_var 3) (c_var 4)) ca_nil))) (len_cons (len_cons (len_cons len_nil))) rfl) (c_and (c_cmp (op_eqD xk.hu) s_eq (c_call (ok_times P w Tp hin hns) xk tk rfl Tp.g_times Tp.F_times.kp (bi_times Tp) (ca_cons (c_var 7) (ca_cons (c_var 1) ca_nil)) (len_cons (len_cons len_nil)) rfl) (c_var 0) (nomark _)) (c_one (c_cmp (op_eqD xk.hu) s_eq (c_callK0 (ok_over P w Tp hin hns) xk tk rfl Tp.g_over Tp.F_over.kp (kb_over_0 Tp) rfl (ck_cons (c_var 1) (ck_cons (c_var 1) ck_nil)) (by intro vs h; match vs, h with | [_, _], _ => rfl)) (c_tup (ca_cons c_int (ca_cons c_int ca_nil))) (nomark _))))))))))))))))
include Tp hin hns in
theorem ok__law_one_right : FnG P w K mg base 5 Tp.a__law_one_right Tp.d__law_one_right ["_law_near"] (spM (fun _ => none) K 1 m__law_one_right) :=
  fn_g (N := ["_law_near", "_law_low", "_law_high"]) (b := b__law_one_right) Tp.F__law_one_right sc__law_one_right fun cd A outer s H E xk tk po => (cb_cons (cs_par 1 2 rfl sc__law_one_right.nd (ca_cons (c_call (ok_floor_of P w Tp hin hns) xk tk rfl Tp.g_floor_of Tp.F_floor_of.kp (bi_floor_of Tp) (ca_cons (c_var 0) ca_nil) (len_cons len_nil) rfl) (ca_cons (c_callK0 (ok_ceiling_of P w Tp hin hns) xk tk rfl Tp.g_ceiling_of Tp.F_ceiling_of.kp (kb_ceiling_of_0 Tp) rfl (ck_cons (c_var 0) ck_nil) (by intro vs h; match vs, h with | [_], _ => rfl)) ca_nil)))
    (cb_cons (cs_if (ct_w (cw_or (ct_not (ct_tru (c_call (ok__law_is_whole P w Tp hin hns) xk tk rfl Tp.g__law_is_whole Tp.F__law_is_whole.kp (bi__law_is_whole Tp) (ca_cons (c_var 1) ca_nil) (len_cons len_nil) rfl))) (cw_or1 (ct_not (ct_tru (c_call (ok__law_is_whole P w Tp hin hns) xk tk rfl Tp.g__law_is_whole Tp.F__law_is_whole.kp (bi__law_is_whole Tp) (ca_cons (c_var 2) ca_nil) (len_cons len_nil) rfl)))))) (cb_one (cs_ret c_bl)) cb_nil)
    (cb_cons (cs_if (ct_w (cw_or (ct_not (ct_chn op_le op_lt s_cmp s_cmp (c_op o_mul s_mul (c_var 1) (c_ix (c_var 0) c_int)) (c_ix (c_var 0) c_int) (c_op o_mul s_mul (c_op o_add s_add (c_var 1) c_int) (c_ix (c_var 0) c_int)))) (cw_or1 (ct_not (ct_chn op_lt op_le s_cmp s_cmp (c_op o_mul s_mul (c_op op_sub s_sub (c_var 2) c_int) (c_ix (c_var 0) c_int)) (c_ix (c_var 0) c_int) (c_op o_mul s_mul (c_var 2) (c_ix (c_var 0) c_int))))))) (cb_one (cs_ret c_bl)) cb_nil)
    (cb_one (cs_ret (c_and (c_cmp (op_eqD xk.hu) s_eq (c_callK0 (ok_floor_of P w Tp hin hns) xk tk rfl Tp.g_floor_of Tp.F_floor_of.kp (kb_floor_of_0 Tp) rfl (ck_cons (c_var 0) ck_nil) (by intro vs h; match vs, h with | [_], _ => rfl)) (c_var 1) (nomark _)) (c_one (c_cmp (op_eqD xk.hu) s_eq (c_cmp (op_eqD xk.hu) s_eq (c_var 2) (c_var 1) (nomark _)) (c_cmp (op_eqD xk.hu) s_eq (c_ix (c_var 0) c_int) c_int (nomark _)) (nomark _)))))))))
include Tp hin hns in
theorem ok_is_ratio : FnG P w K mg base 3 Tp.a_is_ratio Tp.d_is_ratio ["value"] (spM (fun _ => none) K 1 m_is_ratio) :=
  fn_g (N := ["value"]) (b := b_is_ratio) Tp.F_is_ratio sc_is_ratio fun cd A outer s H E xk tk po => (cb_one (cs_ret (c_call (ok_is_ratio_value P w Tp hin hns) xk tk rfl Tp.g_is_ratio_value Tp.F_is_ratio_value.kp (bi_is_ratio_value Tp) (ca_cons (c_var 0) ca_nil) (len_cons len_nil) rfl)))
include Tp hin hns in
theorem ok_law : FnG P w K mg base 6 Tp.a_law Tp.d_law ["_law_script"] (spM (fun _ => none) K 1 m_law) :=
  fn_g (N := ["_law_script", "_law_pot_here", "_law_turn", "_law_near", "_law_far", "_law_number_here", "_law_under", "_law_told", "_law_great"]) (b := b_law) Tp.F_law sc_law fun cd A outer s H E xk tk po => (cb_cons (cs_set 1 sc_law.nd (c_call (ok__law_pot P w Tp hin hns) xk tk rfl Tp.g__law_pot Tp.F__law_pot.kp (bi__law_pot Tp) (ca_cons (c_var 0) (ca_cons c_int ca_nil)) (len_cons (len_cons len_nil)) rfl))
    (cb_cons (cs_for po rfl (ci_range1 rfl Tp.z_range (ca_cons c_int ca_nil)) (cg_name 2 sc_law.nd) (cb_cons (cs_par 3 4 rfl sc_law.nd (ca_cons (c_call (ok__law_drawn P w Tp hin hns) xk tk rfl Tp.g__law_drawn Tp.F__law_drawn.kp (bi__law_drawn Tp) (ca_cons (c_var 1) ca_nil) (len_cons len_nil) rfl) (ca_cons (c_call (ok__law_drawn P w Tp hin hns) xk tk rfl Tp.g__law_drawn Tp.F__law_drawn.kp (bi__law_drawn Tp) (ca_cons (c_var 1) ca_nil) (len_cons len_nil) rfl) ca_nil)))
    (cb_cons (cs_if (ct_w (cw_or (ct_not (ct_tru (c_call (ok__law_pair_right P w Tp hin hns) xk tk rfl Tp.g__law_pair_right Tp.F__law_pair_right.kp (bi__law_pair_right Tp) (ca_cons (c_var 3) (ca_cons (c_var 4) ca_nil)) (len_cons (len_cons len_nil)) rfl))) (cw_or1 (ct_not (ct_tru (c_call (ok__law_one_right P w Tp hin hns) xk tk rfl Tp.g__law_one_right Tp.F__law_one_right.kp (bi__law_one_right Tp) (ca_cons (c_var 3) ca_nil) (len_cons len_nil) rfl)))))) (cb_one (cs_ret c_bl)) cb_nil)
    (cb_cons (cs_par 5 6 rfl sc_law.nd (ca_cons (c_call (ok__law_number P w Tp hin hns) xk tk rfl Tp.g__law_number Tp.F__law_number.kp (bi__law_number Tp) (ca_cons (c_var 1) ca_nil) (len_cons len_nil) rfl) (ca_cons (c_call (ok__law_number P w Tp hin hns) xk tk rfl Tp.g__law_number Tp.F__law_number.kp (bi__law_number Tp) (ca_cons (c_var 1) ca_nil) (len_cons len_nil) rfl) ca_nil)))
    (cb_one (cs_if (ct_cmp (op_neD xk.hu) s_ne (c_var 6) c_int (nomark _)) (cb_cons (cs_set 7 sc_law.nd (c_callK0 (ok_made P w Tp hin hns) xk tk rfl Tp.g_made Tp.F_made.kp (kb_made_0 Tp) rfl (ck_cons (c_var 6) (ck_cons (c_var 5) ck_nil)) (by intro vs h; match vs, h with | [_, _], _ => rfl)))
    (cb_one (cs_if (ct_w (cw_or (ct_cmp (op_neD xk.hu) s_ne (c_var 7) (c_call (ok__law_ratio P w Tp hin hns) xk tk rfl Tp.g__law_ratio Tp.F__law_ratio.kp (bi__law_ratio Tp) (ca_cons (c_var 5) (ca_cons (c_var 6) ca_nil)) (len_cons (len_cons len_nil)) rfl) (nomark _)) (cw_or (ct_cmp op_notBl s_notB (c_call (ok_is_ratio P w Tp hin hns) xk tk rfl Tp.g_is_ratio Tp.F_is_ratio.kp (bi_is_ratio Tp) (ca_cons (c_var 7) ca_nil) (len_cons len_nil) rfl) c_bl (nomark _)) (cw_or1 (ct_not (ct_tru (c_call (ok__law_is_worth P w Tp hin hns) xk tk rfl Tp.g__law_is_worth Tp.F__law_is_worth.kp (bi__law_is_worth Tp) (ca_cons (c_var 7) (ca_cons (c_var 5) (ca_cons (c_var 6) ca_nil))) (len_cons (len_cons (len_cons len_nil))) rfl))))))) (cb_one (cs_ret c_bl)) cb_nil))) cb_nil))))))
    (cb_cons (cs_set 8 sc_law.nd (c_op o_add s_add (c_op op_pow s_pow c_int c_int) c_int))
    (cb_cons (cs_if (ct_w (cw_or (ct_cmp (op_neD xk.hu) s_ne (c_call (ok_floor_of P w Tp hin hns) xk tk rfl Tp.g_floor_of Tp.F_floor_of.kp (bi_floor_of Tp) (ca_cons (c_tup (ca_cons (c_var 8) (ca_cons c_int ca_nil))) ca_nil) (len_cons len_nil) rfl) (c_op o_mul s_mul c_int (c_op op_pow s_pow c_int c_int)) (nomark _)) (cw_or1 (ct_cmp (op_neD xk.hu) s_ne (c_call (ok_ceiling_of P w Tp hin hns) xk tk rfl Tp.g_ceiling_of Tp.F_ceiling_of.kp (bi_ceiling_of Tp) (ca_cons (c_tup (ca_cons (c_var 8) (ca_cons c_int ca_nil))) ca_nil) (len_cons len_nil) rfl) (c_op o_add s_add (c_op o_mul s_mul c_int (c_op op_pow s_pow c_int c_int)) c_int) (nomark _))))) (cb_one (cs_ret c_bl)) cb_nil)
    (cb_cons (cs_if (ct_w (cw_or (ct_cmp (op_neD xk.hu) s_ne (c_call (ok_compared P w Tp hin hns) xk tk rfl Tp.g_compared Tp.F_compared.kp (bi_compared Tp) (ca_cons (c_tup (ca_cons (c_op op_pow s_pow c_int c_int) (ca_cons c_int ca_nil))) (ca_cons (c_tup (ca_cons (c_var 8) (ca_cons c_int ca_nil))) ca_nil)) (len_cons (len_cons len_nil)) rfl) (c_un un_neg s_neg c_int) (nomark _)) (cw_or1 (ct_cmp (op_neD xk.hu) s_ne (c_call (ok_minus P w Tp hin hns) xk tk rfl Tp.g_minus Tp.F_minus.kp (bi_minus Tp) (ca_cons (c_tup (ca_cons (c_var 8) (ca_cons c_int ca_nil))) (ca_cons (c_tup (ca_cons c_int (ca_cons c_int ca_nil))) ca_nil)) (len_cons (len_cons len_nil)) rfl) (c_tup (ca_cons (c_op o_mul s_mul c_int (c_op op_pow s_pow c_int c_int)) (ca_cons c_int ca_nil))) (nomark _))))) (cb_one (cs_ret c_bl)) cb_nil)
    (cb_one (cs_ret (c_and (c_cmp (op_eqD xk.hu) s_eq (c_call (ok_made P w Tp hin hns) xk tk rfl Tp.g_made Tp.F_made.kp (bi_made Tp) (ca_cons c_int (ca_cons (c_un un_neg s_neg c_int) ca_nil)) (len_cons (len_cons len_nil)) rfl) (c_tup (ca_cons c_int (ca_cons c_int ca_nil))) (nomark _)) (c_one (c_cmp (op_eqD xk.hu) s_eq (c_call (ok_made P w Tp hin hns) xk tk rfl Tp.g_made Tp.F_made.kp (bi_made Tp) (ca_cons c_int (ca_cons (c_un un_neg s_neg c_int) ca_nil)) (len_cons (len_cons len_nil)) rfl) (c_tup (ca_cons (c_un un_neg s_neg c_int) (ca_cons c_int ca_nil))) (nomark _)))))))))))
end
end Law
set_option maxHeartbeats 4000000
namespace Law
open PySem PySem.Spec PyProof.Rows L2 Mn Rt
local macro_rules | `(tactic| walk_at "ev") => `(tactic| try simp only [bd_ok, bd_ex, bd_bad, rb_ok, rb_ex, rb_bad, noex_ok, getO_some, tn_nx, tn_rt, tn_ex, tn_bk, tn_ct, tn_bad, fn_nx, fn_rt, fn_ex, fn_bad, toB_bl, notK_bl, andK_b, orK_b, parK_2, lk_0, lk_s, atI_0, atI_1, atI_2, atI_3, e_bin, e_una, e_cst, e_sq, e_asg, e_ret, e_drop, e_ifB, e_pass, e_retN, e_bad, e_name, e_consM, e_nilM, e_callU, e_callG, e_g1, e_g2, e_asB, e_tru, e_ifV, e_andM, e_orM, e_notM, e_add, e_sub, e_mul, e_fdiv, e_mod, e_pow, e_neg, e_cmp, e_eqI, e_neI, e_eqT2, e_neT2, e_ixT, e_ixL, e_ixS, e_abs, e_max, e_intI, e_intB, e_gcd, e_dm, e_lenT, e_lenL, e_lenS, e_tup, e_lst, e_loc, e_truB, e_isi, e_tupT, e_consT, e_nilT, e_sub_, e_run, e_par, e_chn, e_callK, e_andV, e_orV, e_notV, e_isB, e_notB, e_lcM, lcL_nil, lcL_cons, wipeL_nil, wipeL_cons, e_yes, e_finL, e_walk, walkK_t, walkK_l, walkK_s, e_allL, e_anyL, e_sumL, boolsOf, intsOf, e_tupleT, e_tupleL, e_listT, e_listL, List.map_cons, List.map_nil, List.replicate, List.length_cons, List.length_nil, List.cons_append, List.nil_append, List.append_nil, List.getElem?_cons_zero, List.getElem?_cons_succ, List.getElem?_nil, List.set_cons_zero, List.set_cons_succ, Nat.reduceAdd, Nat.reduceSub, Nat.reduceLeDiff, Nat.reduceEqDiff, nc_0, nc_1, nc_2, nc_3, nc_4, nc_5, nc_6, nc_7, nc_8, nc_9, Int.reduceEq, Int.reduceBEq, Int.reduceNeg, if_true, if_false, Bool.false_eq_true, reduceIte, isa, Bool.not_true, Bool.not_false, pick, List.filterMap_cons, List.filterMap_nil, decide_eq_true_eq, Bool.and_true, Bool.true_and, Bool.not_eq_true', beq_iff_eq, and_self, Nat.zero_add, List.all_cons, List.all_nil, id_eq, Bool.and_self, Bool.true_eq_false, beq_self_eq_true])
theorem isint_ev (a : Int) (s : Sto) : m_is_integer [.int a] s = .ok (.bl true) s := by
  unfold m_is_integer b_is_integer
  walk_at "ev"
theorem lowest_ev (a b : Int) (s : Sto) (hb : b ≠ 0) (ha : Sm 4000 a) (hb2 : Sm 4000 b) : m_lowest [.int a, .int b] s = .ok (.tup [.int (lowP a b), .int (lowQ a b)]) s := by
  have h1 : ∀ i : Int, Sm 4000 i → (1 : Int).natAbs.log2 + i.natAbs.log2 < 1000000 := fun i hi => Sm.mulc (k := 1) (j := 4000) (by decide) hi (by decide)
  have h2 : ∀ i : Int, Sm 4000 i → (-1 : Int).natAbs.log2 + i.natAbs.log2 < 1000000 := fun i hi => Sm.mulc (k := 1) (j := 4000) (by decide) hi (by decide)
  have hg := gcd_pos (a := a) hb
  have hgl : Nat.gcd a.natAbs b.natAbs ≤ b.natAbs := Nat.gcd_le_right _ (by omega)
  have hd : ((Nat.gcd a.natAbs b.natAbs : Nat) : Int) ≠ 0 ∧ ((Nat.gcd a.natAbs b.natAbs : Nat) : Int).natAbs.log2 < 9000 := by
    refine ⟨by omega, Nat.lt_of_le_of_lt (Sm.lg (k := 4000) ?_) (by decide)⟩
    exact Sm.le hb2 (by rw [Int.natAbs_natCast]; exact hgl)
  have hf : ∀ i : Int, i.fdiv ((Nat.gcd a.natAbs b.natAbs : Nat) : Int) = i / ((Nat.gcd a.natAbs b.natAbs : Nat) : Int) := fun i => Int.fdiv_eq_ediv_of_nonneg i (by omega)
  unfold m_lowest b_lowest lowP lowQ
  walk_at "ev"
  by_cases h : 0 < b
  · simp only [if_pos h]
    walk_at "ev"
    rw [if_pos (h1 a ha)]
    walk_at "ev"
    rw [if_pos hd]
    walk_at "ev"
    rw [if_pos (h1 b hb2)]
    walk_at "ev"
    rw [if_pos hd]
    walk_at "ev"
    rw [hf, hf, Int.one_mul, Int.one_mul]
  · simp only [if_neg h]
    walk_at "ev"
    rw [if_pos (h2 a ha)]
    walk_at "ev"
    rw [if_pos hd]
    walk_at "ev"
    rw [if_pos (h2 b hb2)]
    walk_at "ev"
    rw [if_pos hd]
    walk_at "ev"
    rw [hf, hf, Int.neg_one_mul, Int.neg_one_mul]

/-! ### the law's own numbers -/
theorem common_loop : ∀ (n : Nat) (a b : Int) (s : Sto), b.natAbs < n → Sm 4000 a → Sm 4000 b →
    ∃ g : Int, g.natAbs = Nat.gcd a.natAbs b.natAbs ∧ whL (asB (Mn.bin (lk 1) (cst (.int 0)) Mn.neV)) (parB 0 1 (consM (lk 1) (consM (Mn.bin (lk 0) (Mn.bin (Mn.bin (lk 0) (lk 1) fdivV) (lk 1) mulV) subV) nilM))) n [some (.int a), some (.int b)] s = .nx [some (.int g), some (.int 0)] s
  | 0, _, _, _, h, _, _ => absurd h (Nat.not_lt_zero _)
  | n + 1, a, b, s, h, ha, hb => by
    by_cases hz : b = 0
    · subst hz
      refine ⟨a, by simp, ?_⟩
      unfold whL
      walk_at "ev"
    · have h1 : (a.fdiv b).natAbs.log2 + b.natAbs.log2 < 1000000 := by
        refine Sm.mulc (k := 4001) (j := 4000) ?_ hb (by decide)
        have h3 := fdiv_abs a b
        unfold Sm at *
        have h4 : (2 : Nat) ^ 4001 = 2 ^ 4000 * 2 := Nat.pow_succ 2 4000
        have h5 : 0 < (2 : Nat) ^ 4000 := Nat.pow_pos (by decide)
        generalize (2 : Nat) ^ 4000 = z at *
        omega
      have h2 : b ≠ 0 ∧ b.natAbs.log2 < 9000 := ⟨hz, Nat.lt_of_le_of_lt hb.lg (by decide)⟩
      have hl := fmod_lt (a := a) hz
      obtain ⟨g, hg, he⟩ := common_loop n b (a - a.fdiv b * b) s (by omega) hb (Sm.le hb (Nat.le_of_lt hl))
      refine ⟨g, by rw [hg]; exact (gcd_step rfl).symm, ?_⟩
      unfold whL
      walk_at "ev"
      have hbz : (b == 0) = false := by simpa using hz
      simp only [hbz, Bool.not_false, if_true]
      walk_at "ev"
      rw [if_pos h2]
      walk_at "ev"
      rw [if_pos h1]
      walk_at "ev"
      exact he
theorem common_ev (a b : Int) (s : Sto) (ha : Sm 4000 a) (hb : Sm 4000 b) : m__law_common [.int a, .int b] s = .ok (.int ((Nat.gcd a.natAbs b.natAbs : Nat) : Int)) s := by
  unfold m__law_common b__law_common
  walk_at "ev"
  obtain ⟨g, hg, he⟩ := common_loop (b.natAbs + 1) a b s (Nat.lt_succ_self _) ha hb
  have hw : whB (fuelAt 1) (asB (Mn.bin (lk 1) (cst (.int 0)) Mn.neV)) (parB 0 1 (consM (lk 1) (consM (Mn.bin (lk 0) (Mn.bin (Mn.bin (lk 0) (lk 1) fdivV) (lk 1) mulV) subV) nilM))) [some (.int a), some (.int b)] s = .nx [some (.int g), some (.int 0)] s := he
  rw [hw]
  walk_at "ev"
  have e : (if g < 0 then -g else g) = ((Nat.gcd a.natAbs b.natAbs : Nat) : Int) := by
    rw [← hg]
    split <;> omega
  rw [e]
theorem lratio_ev (a b : Int) (s : Sto) (hb : b ≠ 0) (ha : Sm 4000 a) (hb2 : Sm 4000 b) : m__law_ratio [.int a, .int b] s = .ok (.tup [.int (lowP a b), .int (lowQ a b)]) s := by
  have hg := gcd_pos (a := a) hb
  have hgl : Nat.gcd a.natAbs b.natAbs ≤ b.natAbs := Nat.gcd_le_right _ (by omega)
  have hd : ((Nat.gcd a.natAbs b.natAbs : Nat) : Int) ≠ 0 ∧ ((Nat.gcd a.natAbs b.natAbs : Nat) : Int).natAbs.log2 < 9000 := by
    refine ⟨by omega, Nat.lt_of_le_of_lt (Sm.lg (k := 4000) ?_) (by decide)⟩
    exact Sm.le hb2 (by rw [Int.natAbs_natCast]; exact hgl)
  have hd2 : -((Nat.gcd a.natAbs b.natAbs : Nat) : Int) ≠ 0 ∧ (-((Nat.gcd a.natAbs b.natAbs : Nat) : Int)).natAbs.log2 < 9000 := by
    rw [Int.natAbs_neg]
    exact ⟨by omega, hd.2⟩
  have hf : ∀ i : Int, i.fdiv ((Nat.gcd a.natAbs b.natAbs : Nat) : Int) = i / ((Nat.gcd a.natAbs b.natAbs : Nat) : Int) := fun i => Int.fdiv_eq_ediv_of_nonneg i (by omega)
  have hf2 : ∀ i : Int, i.fdiv (-((Nat.gcd a.natAbs b.natAbs : Nat) : Int)) = (-i) / ((Nat.gcd a.natAbs b.natAbs : Nat) : Int) := fun i => by
    rw [← hf (-i), ← Int.neg_fdiv_neg (-i), Int.neg_neg]
  unfold m__law_ratio b__law_ratio lowP lowQ
  walk_at "ev"
  simp only [common_ev a b _ ha hb2]
  walk_at "ev"
  by_cases h : b < 0
  · have h' : ¬ 0 < b := by omega
    simp only [if_pos h, if_neg h']
    walk_at "ev"
    rw [if_pos hd2]
    walk_at "ev"
    rw [if_pos hd2]
    walk_at "ev"
    rw [hf2, hf2]
  · have h' : 0 < b := by omega
    simp only [if_neg h, if_pos h']
    walk_at "ev"
    rw [if_pos hd]
    walk_at "ev"
    rw [if_pos hd]
    walk_at "ev"
    rw [hf, hf]
theorem whole_ev (a : Int) (s : Sto) : m__law_is_whole [.int a] s = .ok (.bl true) s := by
  unfold m__law_is_whole b__law_is_whole
  walk_at "ev"
/-- a ratio in lowest terms -/
structure Ra (k : Nat) (a b : Int) : Prop where
  pos : 0 < b
  cop : Nat.gcd a.natAbs b.natAbs = 1
  sa : Sm k a
  sb : Sm k b
theorem Ra.up {k j : Nat} {a b : Int} (h : Ra k a b) (hj : k ≤ j) : Ra j a b := ⟨h.pos, h.cop, h.sa.up hj, h.sb.up hj⟩
theorem ra_low {k : Nat} {n u : Int} (hu : u ≠ 0) (hn : Sm k n) (hu2 : Sm k u) : Ra k (lowP n u) (lowQ n u) :=
  ⟨(low_of hu).pos, (low_of hu).cop, Sm.le hn (lowP_le n u), Sm.le hu2 (lowQ_le n u)⟩
theorem isr_ev (a b : Int) (s : Sto) (r : Ra 4000 a b) : m_is_ratio_value [.tup [.int a, .int b]] s = .ok (.bl true) s := by
  unfold m_is_ratio_value b_is_ratio_value
  walk_at "ev"
  simp only [isint_ev]
  walk_at "ev"
  rw [if_pos (show 1 ≤ b from r.pos), r.cop]
  walk_at "ev"
theorem lisr_ev (a b : Int) (s : Sto) (r : Ra 4000 a b) : m__law_is_ratio [.tup [.int a, .int b]] s = .ok (.bl true) s := by
  unfold m__law_is_ratio b__law_is_ratio
  walk_at "ev"
  simp only [whole_ev]
  walk_at "ev"
  simp only [if_pos r.pos]
  simp only [common_ev a b _ r.sa r.sb]
  walk_at "ev"
  rw [r.cop]
  walk_at "ev"
theorem want_ev (a b : Int) (s : Sto) (r : Ra 4000 a b) : m_want_ratio [.tup [.int a, .int b]] s = .ok (.tup [.int a, .int b]) s := by
  unfold m_want_ratio b_want_ratio
  walk_at "ev"
  simp only [isr_ev a b _ r]
  walk_at "ev"
theorem isratio_ev (a b : Int) (s : Sto) (r : Ra 4000 a b) : m_is_ratio [.tup [.int a, .int b]] s = .ok (.bl true) s := by
  unfold m_is_ratio b_is_ratio
  walk_at "ev"
  simp only [isr_ev a b _ r]
  walk_at "ev"
theorem wint_ev (a : Int) (s : Sto) : m_want_integer [.int a] s = .ok (.int a) s := by
  unfold m_want_integer b_want_integer
  walk_at "ev"
  simp only [isint_ev]
  walk_at "ev"
theorem made_ev (a b : Int) (s : Sto) (hb : b ≠ 0) (ha : Sm 4000 a) (hb2 : Sm 4000 b) : m_made [.int a, .int b] s = .ok (.tup [.int (lowP a b), .int (lowQ a b)]) s := by
  unfold m_made b_made
  walk_at "ev"
  simp only [wint_ev]
  walk_at "ev"
  simp only [wint_ev]
  walk_at "ev"
  rw [if_neg hb]
  walk_at "ev"
  rw [lowest_ev a b s hb ha hb2]
  walk_at "ev"
section
variable {a b c d : Int} {s : Sto} (r : Ra 1000 a b) (r2 : Ra 1000 c d)
include r r2
theorem plus_ev : m_plus [.tup [.int a, .int b], .tup [.int c, .int d]] s = .ok (.tup [.int (lowP (a * d + c * b) (b * d)), .int (lowQ (a * d + c * b) (b * d))]) s := by
  have h1 := r.sa.mulc r2.sb (by decide)
  have h2 := r2.sa.mulc r.sb (by decide)
  have h3 := r.sb.mulc r2.sb (by decide)
  have hbd : b * d ≠ 0 := Int.mul_ne_zero (by have := r.pos; omega) (by have := r2.pos; omega)
  unfold m_plus b_plus
  walk_at "ev"
  simp only [want_ev a b _ (r.up (by decide))]
  walk_at "ev"
  simp only [want_ev c d _ (r2.up (by decide))]
  walk_at "ev"
  unfold m_plus_ratio b_plus_ratio
  walk_at "ev"
  simp only [if_pos h1, if_pos h2, if_pos h3]
  walk_at "ev"
  rw [lowest_ev _ _ _ hbd ((r.sa.mul r2.sb).add (r2.sa.mul r.sb) |>.up (by decide)) ((r.sb.mul r2.sb).up (by decide))]
  walk_at "ev"
theorem minus_ev : m_minus [.tup [.int a, .int b], .tup [.int c, .int d]] s = .ok (.tup [.int (lowP (a * d - c * b) (b * d)), .int (lowQ (a * d - c * b) (b * d))]) s := by
  have h1 := r.sa.mulc r2.sb (by decide)
  have h2 := r2.sa.mulc r.sb (by decide)
  have h3 := r.sb.mulc r2.sb (by decide)
  have hbd : b * d ≠ 0 := Int.mul_ne_zero (by have := r.pos; omega) (by have := r2.pos; omega)
  unfold m_minus b_minus
  walk_at "ev"
  simp only [want_ev a b _ (r.up (by decide))]
  walk_at "ev"
  simp only [want_ev c d _ (r2.up (by decide))]
  walk_at "ev"
  unfold m_minus_ratio b_minus_ratio
  walk_at "ev"
  simp only [if_pos h1, if_pos h2, if_pos h3]
  walk_at "ev"
  rw [lowest_ev _ _ _ hbd ((r.sa.mul r2.sb).sub (r2.sa.mul r.sb) |>.up (by decide)) ((r.sb.mul r2.sb).up (by decide))]
  walk_at "ev"
theorem times_ev : m_times [.tup [.int a, .int b], .tup [.int c, .int d]] s = .ok (.tup [.int (lowP (a * c) (b * d)), .int (lowQ (a * c) (b * d))]) s := by
  have h1 := r.sa.mulc r2.sa (by decide)
  have h3 := r.sb.mulc r2.sb (by decide)
  have hbd : b * d ≠ 0 := Int.mul_ne_zero (by have := r.pos; omega) (by have := r2.pos; omega)
  unfold m_times b_times
  walk_at "ev"
  simp only [want_ev a b _ (r.up (by decide))]
  walk_at "ev"
  simp only [want_ev c d _ (r2.up (by decide))]
  walk_at "ev"
  unfold m_times_ratio b_times_ratio
  walk_at "ev"
  simp only [if_pos h1, if_pos h3]
  walk_at "ev"
  rw [lowest_ev _ _ _ hbd ((r.sa.mul r2.sa).up (by decide)) ((r.sb.mul r2.sb).up (by decide))]
  walk_at "ev"
theorem over_ev (hc : c ≠ 0) : m_over [.tup [.int a, .int b], .tup [.int c, .int d]] s = .ok (.tup [.int (lowP (a * d) (b * c)), .int (lowQ (a * d) (b * c))]) s := by
  have h1 := r.sa.mulc r2.sb (by decide)
  have h3 := r.sb.mulc r2.sa (by decide)
  have hbd : b * c ≠ 0 := Int.mul_ne_zero (by have := r.pos; omega) hc
  unfold m_over b_over
  walk_at "ev"
  simp only [want_ev a b _ (r.up (by decide))]
  walk_at "ev"
  simp only [want_ev c d _ (r2.up (by decide))]
  walk_at "ev"
  rw [if_neg hc]
  walk_at "ev"
  unfold m_over_ratio b_over_ratio
  walk_at "ev"
  simp only [if_pos h1, if_pos h3]
  walk_at "ev"
  rw [lowest_ev _ _ _ hbd ((r.sa.mul r2.sb).up (by decide)) ((r.sb.mul r2.sa).up (by decide))]
  walk_at "ev"
theorem less_ev : m_is_less [.tup [.int a, .int b], .tup [.int c, .int d]] s = .ok (.bl (decide (a * d < c * b))) s := by
  have h1 := r.sa.mulc r2.sb (by decide)
  have h2 := r2.sa.mulc r.sb (by decide)
  unfold m_is_less b_is_less
  walk_at "ev"
  simp only [if_pos h1, if_pos h2]
  walk_at "ev"
theorem cmp_ev : m_compared [.tup [.int a, .int b], .tup [.int c, .int d]] s = .ok (.int (if a * d < c * b then -1 else if c * b < a * d then 1 else 0)) s := by
  unfold m_compared b_compared
  walk_at "ev"
  repeat (simp only [want_ev a b _ (r.up (by decide)), want_ev c d _ (r2.up (by decide)), less_ev r r2, less_ev r2 r]; walk_at "ev")
  by_cases h : a * d < c * b
  · simp only [if_pos h]
    walk_at "ev"
  · simp only [if_neg h]
    walk_at "ev"
theorem worth_ev {n u p q : Int} {t : Sto} (hp : Ra 2000 p q) (hn : Sm 2000 n) (hu : Sm 2000 u) (h : p * u = n * q) : m__law_is_worth [.tup [.int p, .int q], .int n, .int u] t = .ok (.bl true) t := by
  have h1 := hp.sa.mulc hu (by decide)
  have h2 := hn.mulc hp.sb (by decide)
  unfold m__law_is_worth b__law_is_worth
  walk_at "ev"
  simp only [lisr_ev p q _ (hp.up (by decide))]
  walk_at "ev"
  simp only [if_pos h1, if_pos h2]
  walk_at "ev"
  rw [h]
  walk_at "ev"
end
def shw (t : Int) : Str := PyData.shown (.list [.int t, .int (-t), .int 0])
theorem e_neS (x y : Str) (s : Sto) (h : PyData.strOk x = true) (h2 : PyData.strOk y = true) : Mn.neV (.str x) (.str y) s = .ok (.bl (!(x == y))) s := by
  have e : Mn.neV (.str x) (.str y) s = if (SeqAt.shaped (.str x) && SeqAt.shaped (.str y)) = true then .ok (.bl (!PyData.eqv (.str x) (.str y))) s else .bad := rfl
  have k : ∀ z : Str, PyData.strOk z = true → SeqAt.shaped (.str z) = true := fun z hz => by
    unfold SeqAt.shaped
    rw [show PyData.canLay0 (.str z) = PyData.strOk z from rfl, hz]
    rfl
  rw [e, k x h, k y h2]
  rfl
theorem repr3 (t : Int) (s : Sto) (h : t = -1 ∨ t = 0 ∨ t = 1) : reprV (.lst [.int t, .int (-t), .int 0]) s = .ok (.str (shw t)) s ∧ PyData.strOk (shw t) = true := by
  rcases h with rfl | rfl | rfl
  · exact ⟨rfl, by decide +kernel⟩
  · exact ⟨rfl, by decide +kernel⟩
  · exact ⟨rfl, by decide +kernel⟩
theorem pair_ev {a b c d : Int} (s : Sto) (r : Ra 60 a b) (r2 : Ra 60 c d) : m__law_pair_right [.tup [.int a, .int b], .tup [.int c, .int d]] s = .ok (.bl true) s := by
  have R1 := r.up (show 60 ≤ 1000 by decide)
  have R2 := r2.up (show 60 ≤ 1000 by decide)
  have hb : b ≠ 0 := by have := r.pos; omega
  have hd : d ≠ 0 := by have := r2.pos; omega
  have hbd : b * d ≠ 0 := Int.mul_ne_zero hb hd
  have hbb : b * b ≠ 0 := Int.mul_ne_zero hb hb
  have m1 := r.sa.mulc r2.sb (by decide)
  have m2 := r2.sa.mulc r.sb (by decide)
  have m3 := r.sb.mulc r2.sb (by decide)
  have m4 := r.sa.mulc r2.sa (by decide)
  have m5 := r.sb.mulc r2.sa (by decide)
  have sP : Sm 122 (a * d + c * b) := ((r.sa.mul r2.sb).add (r2.sa.mul r.sb)).up (by decide)
  have sM : Sm 122 (a * d - c * b) := ((r.sa.mul r2.sb).sub (r2.sa.mul r.sb)).up (by decide)
  have sT : Sm 122 (a * c) := (r.sa.mul r2.sa).up (by decide)
  have sD : Sm 122 (b * d) := (r.sb.mul r2.sb).up (by decide)
  have sO : Sm 122 (a * d) := (r.sa.mul r2.sb).up (by decide)
  have sU : Sm 122 (b * c) := (r.sb.mul r2.sa).up (by decide)
  have rP := ra_low hbd sP sD
  have rM := ra_low hbd sM sD
  have rT := ra_low hbd sT sD
  have lP := low_of (a := a * d + c * b) hbd
  have lM := low_of (a := a * d - c * b) hbd
  have lT := low_of (a := a * c) hbd
  have eP : c * b + a * d = a * d + c * b := Int.add_comm _ _
  have eD : d * b = b * d := Int.mul_comm _ _
  have pz := minus_ev (s := s) (rP.up (show 122 ≤ 1000 by decide)) R2
  have hqd : lowQ (a * d + c * b) (b * d) * d ≠ 0 := Int.mul_ne_zero (by have := rP.pos; omega) hd
  have back : Low a b (lowP (a * d + c * b) (b * d) * d - c * lowQ (a * d + c * b) (b * d)) (lowQ (a * d + c * b) (b * d) * d) := by
    refine ⟨r.pos, r.cop, ?_⟩
    have e := lP.eq
    generalize lowP (a * d + c * b) (b * d) = x at *
    generalize lowQ (a * d + c * b) (b * d) = y at *
    have e1 : x * (b * d) = x * d * b := by rw [Int.mul_comm b d, Int.mul_assoc]
    rw [Int.sub_mul, ← e1, e, Int.add_mul]
    have e2 : a * (y * d) = a * d * y := by rw [Int.mul_comm y d, Int.mul_assoc]
    have e3 : c * y * b = c * b * y := Int.mul_right_comm _ _ _
    rw [e2, e3]
    omega
  have bk := low_is hqd back
  have z0 : Low 0 1 (a * b - a * b) (b * b) := ⟨by decide, by decide, by rw [Int.sub_self, Int.zero_mul, Int.zero_mul]⟩
  have bz := low_is hbb z0
  unfold m__law_pair_right b__law_pair_right
  walk_at "ev"
  repeat (simp only [plus_ev R1 R2, minus_ev R1 R2, times_ev R1 R2, plus_ev R2 R1, eP, eD, pz, ← bk.1, ← bk.2, minus_ev R1 R1, ← bz.1, ← bz.2, cmp_ev R1 R2, cmp_ev R2 R1, cmp_ev R1 R1, if_pos m1, if_pos m2, if_pos m3, if_pos m4, if_pos m5, worth_ev R1 R2 (rP.up (by decide)) (sP.up (by decide)) (sD.up (by decide)) lP.eq, worth_ev R1 R2 (rM.up (by decide)) (sM.up (by decide)) (sD.up (by decide)) lM.eq, worth_ev R1 R2 (rT.up (by decide)) (sT.up (by decide)) (sD.up (by decide)) lT.eq]; walk_at "ev")
  have e0 : (if a * b < a * b then (-1 : Int) else if a * b < a * b then 1 else 0) = 0 := by rw [if_neg (Int.lt_irrefl _), if_neg (Int.lt_irrefl _)]
  obtain ⟨t, ht, e1, e2, e3⟩ : ∃ t : Int, (t = -1 ∨ t = 0 ∨ t = 1) ∧ (if a * d < c * b then (-1 : Int) else if c * b < a * d then 1 else 0) = t ∧ (if c * b < a * d then (-1 : Int) else if a * d < c * b then 1 else 0) = -t ∧ ((if c * b < a * d then (1 : Int) else 0) - if a * d < c * b then 1 else 0) = t := by
    generalize a * d = u
    generalize c * b = v
    rcases Int.lt_trichotomy u v with h | h | h
    · have h' : ¬ v < u := by omega
      exact ⟨-1, .inl rfl, by rw [if_pos h], by rw [if_neg h', if_pos h]; rfl, by rw [if_neg h', if_pos h]; rfl⟩
    · subst h
      have h' : ¬ u < u := by omega
      exact ⟨0, .inr (.inl rfl), by rw [if_neg h', if_neg h'], by rw [if_neg h', if_neg h']; rfl, by rw [if_neg h']; rfl⟩
    · have h' : ¬ u < v := by omega
      exact ⟨1, .inr (.inr rfl), by rw [if_neg h', if_pos h], by rw [if_pos h], by rw [if_pos h, if_neg h']; rfl⟩
  obtain ⟨q1, q2⟩ := repr3 t s ht
  have q3 := e_neS (shw t) (shw t) s q2 q2
  repeat (simp only [e0, e1, e2, e3, q1, q3]; walk_at "ev")
  by_cases hc : c = 0
  · rw [if_pos hc]
    walk_at "ev"
  · rw [if_neg hc]
    walk_at "ev"
    have hbc : b * c ≠ 0 := Int.mul_ne_zero hb hc
    have hdc : d * c ≠ 0 := Int.mul_ne_zero hd hc
    have rO := ra_low hbc sO sU
    have lO := low_of (a := a * d) hbc
    have hqd2 : lowQ (a * d) (b * c) * d ≠ 0 := Int.mul_ne_zero (by have := rO.pos; omega) hd
    have back2 : Low a b (lowP (a * d) (b * c) * c) (lowQ (a * d) (b * c) * d) := by
      refine ⟨r.pos, r.cop, ?_⟩
      have e := lO.eq
      generalize lowP (a * d) (b * c) = x at *
      generalize lowQ (a * d) (b * c) = y at *
      have e1 : x * (b * c) = x * c * b := by rw [Int.mul_comm b c, Int.mul_assoc]
      have e2 : a * (y * d) = a * d * y := by rw [Int.mul_comm y d, Int.mul_assoc]
      rw [e2, ← e, e1]
    have bk2 := low_is hqd2 back2
    have one : Low 1 1 (c * d) (d * c) := ⟨by decide, by decide, by rw [Int.one_mul, Int.mul_one, Int.mul_comm]⟩
    have b1 := low_is hdc one
    have tz := times_ev (s := s) (rO.up (show 122 ≤ 1000 by decide)) R2
    repeat (simp only [over_ev R1 R2 hc, over_ev R2 R2 hc, tz, ← bk2.1, ← bk2.2, ← b1.1, ← b1.2, if_pos m1, if_pos m5, worth_ev R1 R2 (rO.up (by decide)) (sO.up (by decide)) (sU.up (by decide)) lO.eq]; walk_at "ev")
theorem floor_ev {a b : Int} (s : Sto) (r : Ra 4000 a b) : m_floor_of [.tup [.int a, .int b]] s = .ok (.int (a / b)) s := by
  have h : b ≠ 0 ∧ b.natAbs.log2 < 9000 := ⟨by have := r.pos; omega, Nat.lt_of_le_of_lt r.sb.lg (by decide)⟩
  have hf : a.fdiv b = a / b := Int.fdiv_eq_ediv_of_nonneg a (by have := r.pos; omega)
  unfold m_floor_of b_floor_of m_floor_ratio b_floor_ratio
  walk_at "ev"
  repeat (simp only [want_ev a b _ r, if_pos h, hf]; walk_at "ev")
theorem ceil_ev {a b : Int} (s : Sto) (r : Ra 4000 a b) : m_ceiling_of [.tup [.int a, .int b]] s = .ok (.int (-(-a / b))) s := by
  have h : b ≠ 0 ∧ b.natAbs.log2 < 9000 := ⟨by have := r.pos; omega, Nat.lt_of_le_of_lt r.sb.lg (by decide)⟩
  have hf : (-a).fdiv b = -a / b := Int.fdiv_eq_ediv_of_nonneg (-a) (by have := r.pos; omega)
  unfold m_ceiling_of b_ceiling_of m_ceiling_ratio b_ceiling_ratio
  walk_at "ev"
  repeat (simp only [want_ev a b _ r, if_pos h, hf]; walk_at "ev")
theorem one_ev {a b : Int} (s : Sto) (r : Ra 60 a b) : m__law_one_right [.tup [.int a, .int b]] s = .ok (.bl true) s := by
  have R1 := r.up (show 60 ≤ 4000 by decide)
  have hb := r.pos
  have hle : (a / b).natAbs ≤ a.natAbs := Int.natAbs_ediv_le_natAbs a b
  have hle2 : (-a / b).natAbs ≤ a.natAbs := by
    have := Int.natAbs_ediv_le_natAbs (-a) b
    rwa [Int.natAbs_neg] at this
  have s1 : Sm 60 (a / b) := Sm.le r.sa hle
  have s2 : Sm 60 (-(-a / b)) := (Sm.le r.sa hle2).neg
  have s3 : Sm 61 (a / b + 1) := s1.add (show Sm 1 1 by decide)
  have s4 : Sm 61 (-(-a / b) - 1) := s2.sub (show Sm 1 1 by decide)
  have m1 := s1.mulc r.sb (by decide)
  have m2 := s2.mulc r.sb (by decide)
  have m3 := s3.mulc r.sb (by decide)
  have m4 := s4.mulc r.sb (by decide)
  have d1 := Int.emod_add_mul_ediv a b
  have d2 := Int.emod_add_mul_ediv (-a) b
  have n1 := Int.emod_nonneg a (show b ≠ 0 by omega)
  have n2 := Int.emod_lt_of_pos a hb
  have n3 := Int.emod_nonneg (-a) (show b ≠ 0 by omega)
  have n4 := Int.emod_lt_of_pos (-a) hb
  have c1 : a / b * b = b * (a / b) := Int.mul_comm _ _
  have c2 : -a / b * b = b * (-a / b) := Int.mul_comm _ _
  have p1 : a / b * b ≤ a := by omega
  have p2 : a < (a / b + 1) * b := by rw [Int.add_mul]; omega
  have p3 : (-(-a / b) - 1) * b < a := by rw [Int.sub_mul, Int.neg_mul]; omega
  have p4 : a ≤ -(-a / b) * b := by rw [Int.neg_mul]; omega
  unfold m__law_one_right b__law_one_right
  walk_at "ev"
  repeat (simp only [floor_ev _ R1, ceil_ev _ R1, whole_ev, if_pos m1, if_pos m2, if_pos m3, if_pos m4, if_pos p1, if_pos p2, if_pos p3, if_pos p4]; walk_at "ev")
  have hh : (-(-a / b) == a / b) = (b == 1) := by
    rw [Bool.eq_iff_iff, beq_iff_eq, beq_iff_eq]
    constructor
    · intro h
      have hm : a % b = 0 := by
        have e : -a / b * b = -(a / b * b) := by rw [← Int.neg_mul, ← h, Int.neg_neg]
        omega
      have hdv := Int.dvd_of_emod_eq_zero hm
      have hg : Nat.gcd a.natAbs b.natAbs = b.natAbs := Nat.gcd_eq_right (Int.natAbs_dvd_natAbs.mpr hdv)
      rw [r.cop] at hg
      omega
    · intro h
      subst h
      rw [Int.ediv_one, Int.ediv_one, Int.neg_neg]
  have ebb : ∀ c : Bool, Mn.eqV (.bl c) (.bl c) s = .ok (.bl true) s := fun c => by cases c <;> rfl
  repeat (simp only [floor_ev _ R1, ceil_ev _ R1, decide_eq_true p1, decide_eq_true p2, decide_eq_true p3, decide_eq_true p4, hh, ebb]; walk_at "ev")
end Law
set_option maxHeartbeats 4000000
namespace Law
open PySem PySem.Spec PyProof.Rows L2 Mn Rt
local macro_rules | `(tactic| walk_at "ev") => `(tactic| try simp only [bd_ok, bd_ex, bd_bad, rb_ok, rb_ex, rb_bad, noex_ok, getO_some, tn_nx, tn_rt, tn_ex, tn_bk, tn_ct, tn_bad, fn_nx, fn_rt, fn_ex, fn_bad, toB_bl, notK_bl, andK_b, orK_b, parK_2, lk_0, lk_s, atI_0, atI_1, atI_2, atI_3, e_bin, e_una, e_cst, e_sq, e_asg, e_ret, e_drop, e_ifB, e_pass, e_retN, e_bad, e_name, e_consM, e_nilM, e_callU, e_callG, e_g1, e_g2, e_asB, e_tru, e_ifV, e_andM, e_orM, e_notM, e_add, e_sub, e_mul, e_fdiv, e_mod, e_pow, e_neg, e_cmp, e_eqI, e_neI, e_eqT2, e_neT2, e_ixT, e_ixL, e_ixS, e_abs, e_max, e_intI, e_intB, e_gcd, e_dm, e_lenT, e_lenL, e_lenS, e_tup, e_lst, e_loc, e_truB, e_isi, e_tupT, e_consT, e_nilT, e_sub_, e_run, e_par, e_chn, e_callK, e_andV, e_orV, e_notV, e_isB, e_notB, e_lcM, lcL_nil, lcL_cons, wipeL_nil, wipeL_cons, e_yes, e_finL, e_walk, walkK_t, walkK_l, walkK_s, e_allL, e_anyL, e_sumL, boolsOf, intsOf, e_tupleT, e_tupleL, e_listT, e_listL, List.map_cons, List.map_nil, List.replicate, List.length_cons, List.length_nil, List.cons_append, List.nil_append, List.append_nil, List.getElem?_cons_zero, List.getElem?_cons_succ, List.getElem?_nil, List.set_cons_zero, List.set_cons_succ, Nat.reduceAdd, Nat.reduceSub, Nat.reduceLeDiff, Nat.reduceEqDiff, nc_0, nc_1, nc_2, nc_3, nc_4, nc_5, nc_6, nc_7, nc_8, nc_9, Int.reduceEq, Int.reduceBEq, Int.reduceNeg, if_true, if_false, Bool.false_eq_true, reduceIte, isa, Bool.not_true, Bool.not_false, pick, List.filterMap_cons, List.filterMap_nil, decide_eq_true_eq, Bool.and_true, Bool.true_and, Bool.not_eq_true', beq_iff_eq, and_self, Nat.zero_add, List.all_cons, List.all_nil, id_eq, Bool.and_self, Bool.true_eq_false, beq_self_eq_true])
/-- the pot at place 0 -/
def PotAt (s : Sto) : Prop := ∃ x y : Int, s[0]? = some (.lst [.int x, .int y]) ∧ Sm 40 y
theorem set_at {s : Sto} {x y : SO} (h : s[0]? = some x) : (s.set 0 y)[0]? = some y := by
  cases s with
  | nil => exact nomatch h
  | cons a t => rfl
theorem draw_ok {s : Sto} (z : Int) (hp : PotAt s) (hz : 0 < z) (hz2 : z < 1000) :
    ∃ (d : Int) (t : Sto), m__law_draw [.loc 0, .int z] s = .ok (.int d) t ∧ 0 ≤ d ∧ d < z ∧ PotAt t := by
  obtain ⟨x, y, h, hy⟩ := hp
  have a0 : ixV (.loc 0) (.int 0) s = .ok (.int x) s := by rw [e_ixC h]; rfl
  have a1 : ixV (.loc 0) (.int 1) s = .ok (.int y) s := by rw [e_ixC h]; rfl
  by_cases hx : 0 < x
  · have hd : 0 < z ∧ z < 1073741824 := ⟨hz, by omega⟩
    refine ⟨x % z, s.set 0 (.lst [.int (x / z), .int y]), ?_, Int.emod_nonneg _ (by omega), Int.emod_lt_of_pos _ hz, x / z, y, set_at h, hy⟩
    have pu : putV (.loc 0) (.int 0) (.int (x / z)) s = .ok () (s.set 0 (.lst [.int (x / z), .int y])) := by rw [e_put h (ixN_0 (n := 2) (by decide))]; rfl
    unfold m__law_draw b__law_draw
    walk_at "ev"
    repeat (simp only [a0, a1, hx, if_pos hd, pu]; walk_at "ev")
  · have w1 : (y * 41141 + 31627).fmod 2147483579 = (y * 41141 + 31627) % 2147483579 := Int.fmod_eq_emod_of_nonneg _ (by decide)
    obtain ⟨v, hv⟩ : ∃ v, v = (y * 41141 + 31627) % 2147483579 := ⟨_, rfl⟩
    have v0 : 0 ≤ v := by rw [hv]; exact Int.emod_nonneg _ (by decide)
    have v1 : v < 2147483579 := by rw [hv]; exact Int.emod_lt_of_pos _ (by decide)
    have sv : Sm 40 v := by unfold Sm; omega
    have w2 : (v * v).fmod 2147483477 = (v * v) % 2147483477 := Int.fmod_eq_emod_of_nonneg _ (by decide)
    have w3 : ((v * v) % 2147483477).fdiv 23 = ((v * v) % 2147483477) / 23 := Int.fdiv_eq_ediv_of_nonneg _ (by decide)
    have w4 : (((v * v) % 2147483477) / 23).fmod z = (((v * v) % 2147483477) / 23) % z := Int.fmod_eq_emod_of_nonneg _ (by omega)
    have m1 : y.natAbs.log2 + (41141 : Int).natAbs.log2 < 1000000 := hy.mulc (show Sm 16 41141 by decide) (by decide)
    have m2 := sv.mulc sv (by decide)
    have m3 : (23 : Int) ≠ 0 ∧ (23 : Int).natAbs.log2 < 9000 := by decide
    have m4 : (2147483579 : Int) ≠ 0 := by decide
    have m5 : (2147483477 : Int) ≠ 0 := by decide
    have m6 : z ≠ 0 := by omega
    have b1 : ixV (.loc 0) (.int 1) (s.set 0 (.lst [.int x, .int v])) = .ok (.int v) (s.set 0 (.lst [.int x, .int v])) := by rw [e_ixC (set_at h)]; rfl
    refine ⟨(((v * v) % 2147483477) / 23) % z, s.set 0 (.lst [.int x, .int v]), ?_, Int.emod_nonneg _ (by omega), Int.emod_lt_of_pos _ hz, x, v, set_at h, sv⟩
    have pu : putV (.loc 0) (.int 1) (.int v) s = .ok () (s.set 0 (.lst [.int x, .int v])) := by rw [e_put h (ixN_1 (n := 2) (by decide))]; rfl
    unfold m__law_draw b__law_draw
    walk_at "ev"
    repeat (simp only [a0, a1, hx, if_pos m1, if_pos m2, if_pos m3, if_pos m4, if_pos m5, if_pos m6, w1, w2, w3, w4, ← hv, b1, pu]; walk_at "ev")
theorem pick_ok {s : Sto} (xs : List Val) (hp : PotAt s) (h0 : 0 < xs.length) (h1 : xs.length < 1000) :
    ∃ (v : Val) (t : Sto), m__law_pick [.loc 0, .lst xs] s = .ok v t ∧ v ∈ xs ∧ PotAt t := by
  obtain ⟨d, t, hd, d0, d1, ht⟩ := draw_ok (xs.length : Int) hp (by omega) (by omega)
  obtain ⟨k, rfl⟩ : ∃ k : Nat, d = k := ⟨d.toNat, by omega⟩
  have hk : k < xs.length := by omega
  have ha : atI xs (k : Int) = some xs[k] := by
    unfold atI
    have e : L2.ixN xs.length (k : Int) = some k := by
      unfold L2.ixN
      rw [if_pos (by omega), if_pos (by omega), Int.toNat_natCast]
    rw [e]
    exact List.getElem?_eq_getElem hk
  refine ⟨xs[k], t, ?_, List.getElem_mem hk, ht⟩
  unfold m__law_pick b__law_pick
  walk_at "ev"
  repeat (simp only [hd, ha]; walk_at "ev")
theorem number_ok {s : Sto} (hp : PotAt s) : ∃ (n : Int) (t : Sto), m__law_number [.loc 0] s = .ok (.int n) t ∧ Sm 40 n ∧ PotAt t := by
  obtain ⟨d, t, hd, d0, d1, ht⟩ := draw_ok 25 hp (by decide) (by decide)
  obtain ⟨v, u, hv, hm, hu⟩ := pick_ok [.int 1, .int 1, .int 1, .int 60, .int 1000003, .int 10000000000] ht (by decide) (by decide)
  obtain ⟨i, rfl, hi⟩ : ∃ i : Int, v = .int i ∧ Sm 34 i := by
    simp only [List.mem_cons, List.not_mem_nil, or_false] at hm
    rcases hm with rfl | rfl | rfl | rfl | rfl | rfl <;> exact ⟨_, rfl, by unfold Sm; decide⟩
  have sd : Sm 4 (d - 12) := by unfold Sm; omega
  have m1 := sd.mulc hi (by decide)
  have m2 : (0 : Int) ≤ 6 ∧ (6 : Int) ≤ 1000000 ∧ (10 : Int).natAbs < 18446744073709551616 := by decide
  have m3 : (0 : Int) ≤ 10 ∧ (10 : Int) ≤ 1000000 ∧ (10 : Int).natAbs < 18446744073709551616 := by decide
  refine ⟨(d - 12) * i, u, ?_, (sd.mul hi).up (by decide), hu⟩
  unfold m__law_number b__law_number
  walk_at "ev"
  repeat (simp only [hd, hv, if_pos m1, if_pos m2, if_pos m3, Int.reducePow, Int.reduceToNat, Int.reduceAdd]; walk_at "ev")
theorem drawn_ok {s : Sto} (hp : PotAt s) : ∃ (a b : Int) (t : Sto), m__law_drawn [.loc 0] s = .ok (.tup [.int a, .int b]) t ∧ Ra 60 a b ∧ PotAt t := by
  obtain ⟨n, t, hn, sn, ht⟩ := number_ok hp
  obtain ⟨d, u, hd, d0, d1, hu⟩ := draw_ok 12 ht (by decide) (by decide)
  obtain ⟨v, w, hv, hm, hw⟩ := pick_ok [.int 1, .int 1, .int 100000] hu (by decide) (by decide)
  obtain ⟨i, rfl, hi, i0⟩ : ∃ i : Int, v = .int i ∧ Sm 34 i ∧ 0 < i := by
    simp only [List.mem_cons, List.not_mem_nil, or_false] at hm
    rcases hm with rfl | rfl | rfl <;> exact ⟨_, rfl, by unfold Sm; decide, by decide⟩
  have sd : Sm 4 d := by unfold Sm; omega
  have m1 := sd.mulc hi (by decide)
  have m2 : (0 : Int) ≤ 5 ∧ (5 : Int) ≤ 1000000 ∧ (10 : Int).natAbs < 18446744073709551616 := by decide
  have hdi : 0 ≤ d * i := Int.mul_nonneg d0 (Int.le_of_lt i0)
  have hne : 1 + d * i ≠ 0 := by omega
  have sq : Sm 39 (1 + d * i) := (show Sm 1 1 by decide).up (show 1 ≤ 38 by decide) |>.add (sd.mul hi)
  have e := lratio_ev n (1 + d * i) w hne (sn.up (by decide)) (sq.up (by decide))
  refine ⟨lowP n (1 + d * i), lowQ n (1 + d * i), w, ?_, (ra_low hne sn (sq.up (by decide))).up (by decide), hw⟩
  unfold m__law_drawn b__law_drawn
  walk_at "ev"
  repeat (simp only [hn, hd, hv, e, if_pos m1, if_pos m2, Int.reducePow, Int.reduceToNat]; walk_at "ev")
theorem pot_ok (ns : List Int) : ∃ t, m__law_pot [.scr ns, .int 0] [] = .ok (.loc 0) t ∧ PotAt t := by
  have main : ∀ c : Int, ∃ v, Sm 40 v ∧ (c.fmod 2147483477 * 41777 + 7393 * 0 + 991).fmod 2147483579 + 1 = v ∧ (c.fmod 2147483477).natAbs.log2 + (41777 : Int).natAbs.log2 < 1000000 := by
    intro c
    have w1 : c.fmod 2147483477 = c % 2147483477 := Int.fmod_eq_emod_of_nonneg _ (by decide)
    have v0 : 0 ≤ c % 2147483477 := Int.emod_nonneg _ (by decide)
    have v1 : c % 2147483477 < 2147483477 := Int.emod_lt_of_pos _ (by decide)
    have sv : Sm 40 (c % 2147483477) := by unfold Sm; omega
    refine ⟨_, ?_, rfl, by rw [w1]; exact sv.mulc (show Sm 16 41777 by decide) (by decide)⟩
    rw [Int.fmod_eq_emod_of_nonneg _ (show (0 : Int) ≤ 2147483579 by decide)]
    have u0 := Int.emod_nonneg (c.fmod 2147483477 * 41777 + 7393 * 0 + 991) (show (2147483579 : Int) ≠ 0 by decide)
    have u1 := Int.emod_lt_of_pos (c.fmod 2147483477 * 41777 + 7393 * 0 + 991) (show (0 : Int) < 2147483579 by decide)
    unfold Sm
    omega
  have m2 : (0 : Int) ≤ 18 ∧ (18 : Int) ≤ 1000000 ∧ (10 : Int).natAbs < 18446744073709551616 := by decide
  have m3 : (2147483477 : Int) ≠ 0 := by decide
  have m4 : (2147483579 : Int) ≠ 0 := by decide
  have m5 : (7393 : Int).natAbs.log2 + (0 : Int).natAbs.log2 < 1000000 := by decide
  have m6 : (1259 : Int).natAbs.log2 + (0 : Int).natAbs.log2 < 1000000 := by decide
  cases ns with
  | nil =>
    obtain ⟨v, sv, hv, hm⟩ := main 1009
    refine ⟨[.lst [.int 0, .int v]], ?_, 0, v, rfl, sv⟩
    rw [← hv]
    rfl
  | cons c r =>
    obtain ⟨v, sv, hv, hm⟩ := main (if c < 0 then -c else c)
    obtain ⟨z, hz⟩ : ∃ z, z = (if c < 0 then -c else c) := ⟨_, rfl⟩
    rw [← hz] at hv hm
    have hl : (0 : Int) < ((List.map Val.int (c :: r)).length : Nat) := by
      rw [List.length_map, List.length_cons]
      omega
    have ha : absV (.int c) [] = .ok (.int z) [] := by rw [e_abs, hz]
    refine ⟨[.lst [.int (if z - 10 ^ 18 > 0 then z - 10 ^ 18 else 0), .int v]], ?_, _, v, rfl, sv⟩
    unfold m__law_pot b__law_pot
    walk_at "ev"
    have hl2 : (0 : Int) < (((List.map Val.int r).length + 1 : Nat) : Int) := by omega
    repeat (simp only [if_pos hl2, ← hz, hv, if_pos hm, if_pos m2, if_pos m3, if_pos m4, if_pos m5]; walk_at "ev")
    rfl
/-- the loop's slots -/
def Slo (v : Val) (l : Mn.Loc) : Prop := ∃ x2 x3 x4 x5 x6 x7 x8 : Option Val, l = [some v, some (.loc 0), x2, x3, x4, x5, x6, x7, x8]
def bodyB : B := (sq (parB 3 4 (consM (callU (consM (lk 1) nilM) m__law_drawn) (consM (callU (consM (lk 1) nilM) m__law_drawn) nilM)))
    (sq (ifB (orM (notM (tru (callU (consM (lk 3) (consM (lk 4) nilM)) m__law_pair_right))) (notM (tru (callU (consM (lk 3) nilM) m__law_one_right)))) (retB (cst (.bl false))) passB)
    (sq (parB 5 6 (consM (callU (consM (lk 1) nilM) m__law_number) (consM (callU (consM (lk 1) nilM) m__law_number) nilM)))
    (ifB (asB (Mn.bin (lk 6) (cst (.int 0)) Mn.neV)) (sq (asgB (callK nilM (consM (lk 6) (consM (lk 5) nilM)) 0 2 [1, 0] m_made) (nameT 7))
    (ifB (orM (asB (Mn.bin (lk 7) (callU (consM (lk 5) (consM (lk 6) nilM)) m__law_ratio) Mn.neV)) (orM (asB (Mn.bin (callU (consM (lk 7) nilM) m_is_ratio) (cst (.bl true)) notBV)) (notM (tru (callU (consM (lk 7) (consM (lk 5) (consM (lk 6) nilM))) m__law_is_worth))))) (retB (cst (.bl false))) passB)) passB))))
theorem worth2_ev {n u p q : Int} {t : Sto} (hp : Ra 2000 p q) (hn : Sm 2000 n) (hu : Sm 2000 u) (h : p * u = n * q) : m__law_is_worth [.tup [.int p, .int q], .int n, .int u] t = .ok (.bl true) t :=
  worth_ev (a := 0) (b := 1) (c := 0) (d := 1) ⟨by decide, by decide, by decide, by decide⟩ ⟨by decide, by decide, by decide, by decide⟩ hp hn hu h
theorem body_ok {v : Val} {l : Mn.Loc} {s : Sto} (hl : Slo v l) (hp : PotAt s) : ∃ l' t, bodyB l s = .nx l' t ∧ Slo v l' ∧ PotAt t := by
  obtain ⟨x2, x3, x4, x5, x6, x7, x8, rfl⟩ := hl
  obtain ⟨a, b, s1, e1, r1, p1⟩ := drawn_ok hp
  obtain ⟨c, d, s2, e2, r2, p2⟩ := drawn_ok p1
  have e3 := pair_ev s2 r1 r2
  have e4 := one_ev s2 r1
  obtain ⟨n, s3, e5, sn, p3⟩ := number_ok p2
  obtain ⟨u, s4, e6, su, p4⟩ := number_ok p3
  by_cases hu : u = 0
  · subst hu
    refine ⟨[some v, some (.loc 0), x2, some (.tup [.int a, .int b]), some (.tup [.int c, .int d]), some (.int n), some (.int 0), x7, x8], s4, ?_, ⟨_, _, _, _, _, _, _, rfl⟩, p4⟩
    unfold bodyB
    walk_at "ev"
    repeat (simp only [e1, e2, e3, e4, e5, e6]; walk_at "ev")
  · refine ⟨[some v, some (.loc 0), x2, some (.tup [.int a, .int b]), some (.tup [.int c, .int d]), some (.int n), some (.int u), some (.tup [.int (lowP n u), .int (lowQ n u)]), x8], s4, ?_, ⟨_, _, _, _, _, _, _, rfl⟩, p4⟩
    have rr : Ra 40 (lowP n u) (lowQ n u) := ra_low hu sn su
    have hb : (u == 0) = false := by simpa using hu
    have e7 := made_ev n u s4 hu (sn.up (by decide)) (su.up (by decide))
    have e8 := lratio_ev n u s4 hu (sn.up (by decide)) (su.up (by decide))
    have e9 := isratio_ev _ _ s4 (rr.up (show 40 ≤ 4000 by decide))
    have e10 := worth2_ev (t := s4) (rr.up (show 40 ≤ 2000 by decide)) (sn.up (by decide)) (su.up (by decide)) (low_of hu).eq
    unfold bodyB
    walk_at "ev"
    repeat (simp only [e1, e2, e3, e4, e5, e6, e7, e8, e9, e10, hb, hu, decide_true]; walk_at "ev")
theorem loop_ok {v : Val} : ∀ (xs : List Val) (l : Mn.Loc) (s : Sto), Slo v l → PotAt s → ∃ l' t, forL (nameT 2) bodyB xs l s = .nx l' t ∧ Slo v l' ∧ PotAt t
  | [], l, s, hl, hp => ⟨l, s, rfl, hl, hp⟩
  | x :: xs, l, s, hl, hp => by
    obtain ⟨x2, x3, x4, x5, x6, x7, x8, rfl⟩ := hl
    have h1 : Slo v [some v, some (.loc 0), some x, x3, x4, x5, x6, x7, x8] := ⟨_, _, _, _, _, _, _, rfl⟩
    obtain ⟨l2, t2, e2, h2, p2⟩ := body_ok h1 hp
    obtain ⟨l3, t3, e3, h3, p3⟩ := loop_ok xs l2 t2 h2 p2
    refine ⟨l3, t3, ?_, h3, p3⟩
    unfold forL
    have e0 : nameT 2 x [some v, some (.loc 0), x2, x3, x4, x5, x6, x7, x8] s = .ok [some v, some (.loc 0), some x, x3, x4, x5, x6, x7, x8] s := rfl
    rw [e0]
    simp only
    rw [e2]
    simp only
    exact e3
def tailB : B := (sq (asgB (Mn.bin (Mn.bin (cst (.int 10)) (cst (.int 39)) powV) (cst (.int 1)) addV) (nameT 8))
    (sq (ifB (orM (asB (Mn.bin (callU (consM (tupM (consM (lk 8) (consM (cst (.int 2)) nilM))) nilM) m_floor_of) (Mn.bin (cst (.int 5)) (Mn.bin (cst (.int 10)) (cst (.int 38)) powV) mulV) Mn.neV)) (asB (Mn.bin (callU (consM (tupM (consM (lk 8) (consM (cst (.int 2)) nilM))) nilM) m_ceiling_of) (Mn.bin (Mn.bin (cst (.int 5)) (Mn.bin (cst (.int 10)) (cst (.int 38)) powV) mulV) (cst (.int 1)) addV) Mn.neV))) (retB (cst (.bl false))) passB)
    (sq (ifB (orM (asB (Mn.bin (callU (consM (tupM (consM (Mn.bin (cst (.int 10)) (cst (.int 39)) powV) (consM (cst (.int 1)) nilM))) (consM (tupM (consM (lk 8) (consM (cst (.int 1)) nilM))) nilM)) m_compared) (una (cst (.int 1)) negV) Mn.neV)) (asB (Mn.bin (callU (consM (tupM (consM (lk 8) (consM (cst (.int 2)) nilM))) (consM (tupM (consM (cst (.int 1)) (consM (cst (.int 2)) nilM))) nilM)) m_minus) (tupM (consM (Mn.bin (cst (.int 5)) (Mn.bin (cst (.int 10)) (cst (.int 38)) powV) mulV) (consM (cst (.int 1)) nilM))) Mn.neV))) (retB (cst (.bl false))) passB)
    (retB (andV (Mn.bin (callU (consM (cst (.int 0)) (consM (una (cst (.int 5)) negV) nilM)) m_made) (tupM (consM (cst (.int 0)) (consM (cst (.int 1)) nilM))) Mn.eqV) (Mn.bin (callU (consM (cst (.int 5)) (consM (una (cst (.int 5)) negV) nilM)) m_made) (tupM (consM (una (cst (.int 1)) negV) (consM (cst (.int 1)) nilM))) Mn.eqV))))))
theorem tail_ok {v : Val} {l : Mn.Loc} {s : Sto} (hl : Slo v l) : tailB l s = .rt (.bl true) s := by
  obtain ⟨x2, x3, x4, x5, x6, x7, x8, rfl⟩ := hl
  rfl
theorem law_true (ns : List Int) : ∃ s', m_law [.scr ns] [] = .ok (.bl true) s' := by
  obtain ⟨t, ht, hp⟩ := pot_ok ns
  obtain ⟨l2, t2, h2, hl2, hp2⟩ := loop_ok (v := .scr ns) (rngL 0 6) [some (.scr ns), some (.loc 0), none, none, none, none, none, none, none] t ⟨_, _, _, _, _, _, _, rfl⟩ hp
  refine ⟨t2, ?_⟩
  have e : b_law = sq (asgB (callU (consM (lk 0) (consM (cst (.int 0)) nilM)) m__law_pot) (nameT 1)) (sq (forB (range1M (consM (cst (.int 6)) nilM)) (nameT 2) bodyB) tailB) := rfl
  have e2 : ∀ l s, range1M (consM (cst (.int 6)) nilM) l s = .ok (rngL 0 6) s := fun l s => rfl
  have e3 : ∀ m l s, forB m (nameT 2) bodyB l s = (m l s).rb l fun xs s1 => forL (nameT 2) bodyB xs l s1 := fun m l s => rfl
  have e4 := tail_ok (s := t2) hl2
  unfold m_law
  rw [e]
  walk_at "ev"
  repeat (simp only [ht, e3, e2, h2, e4]; walk_at "ev")
end Law
namespace Law
open PySem PySem.Spec PyProof.Rows L2 Mn
theorem top_mk {l : PySem.W.OpenLaw} {w : World} {K : PySem.W.Frag} {h : Heap} {mg : Str → Option Value} {fa : Addr} (X : K.In h) (G : h.Ns mainGlobals mg) (hfa : mg "law" = some (.ref fa))
    (z_abs : PySem.W.nsIn K mainGlobals "abs" = some none)
    (z_all : PySem.W.nsIn K mainGlobals "all" = some none)
    (z_bool : PySem.W.nsIn K mainGlobals "bool" = some none)
    (z_divmod : PySem.W.nsIn K mainGlobals "divmod" = some none)
    (z_int : PySem.W.nsIn K mainGlobals "int" = some none)
    (z_isinstance : PySem.W.nsIn K mainGlobals "isinstance" = some none)
    (z_len : PySem.W.nsIn K mainGlobals "len" = some none)
    (z_max : PySem.W.nsIn K mainGlobals "max" = some none)
    (z_range : PySem.W.nsIn K mainGlobals "range" = some none)
    (z_repr : PySem.W.nsIn K mainGlobals "repr" = some none)
    (z_tuple : PySem.W.nsIn K mainGlobals "tuple" = some none)
    (i_gcd : PySem.W.nsIn K mainGlobals "gcd" = some (some (.builtin "math.gcd")))
    {f__law_pot : Addr} {oc__law_pot kV__law_pot dc__law_pot pm__law_pot cd__law_pot ct__law_pot : Value} {od__law_pot an__law_pot : Option Addr} {sl__law_pot : Array (Option Value)}
    (a__law_pot : PySem.W.nsIn K mainGlobals "_law_pot" = some (some (.ref f__law_pot))) (l__law_pot : K.lookup f__law_pot = some ⟨oc__law_pot, od__law_pot, .func (PySem.W.fnOf "_law_pot" "_law_pot" (defArgs t__law_pot) (defBody t__law_pot) (defScope t__law_pot) .none kV__law_pot dc__law_pot pm__law_pot an__law_pot cd__law_pot ct__law_pot), sl__law_pot⟩) (c__law_pot : PySem.W.codeIn K cd__law_pot "_law_pot" = true) (k__law_pot : PySem.W.keepIn K (.ref f__law_pot) = true)
    {f__law_common : Addr} {oc__law_common kV__law_common dc__law_common pm__law_common cd__law_common ct__law_common : Value} {od__law_common an__law_common : Option Addr} {sl__law_common : Array (Option Value)}
    (a__law_common : PySem.W.nsIn K mainGlobals "_law_common" = some (some (.ref f__law_common))) (l__law_common : K.lookup f__law_common = some ⟨oc__law_common, od__law_common, .func (PySem.W.fnOf "_law_common" "_law_common" (defArgs t__law_common) (defBody t__law_common) (defScope t__law_common) .none kV__law_common dc__law_common pm__law_common an__law_common cd__law_common ct__law_common), sl__law_common⟩) (c__law_common : PySem.W.codeIn K cd__law_common "_law_common" = true) (k__law_common : PySem.W.keepIn K (.ref f__law_common) = true)
    {f__law_ratio : Addr} {oc__law_ratio kV__law_ratio dc__law_ratio pm__law_ratio cd__law_ratio ct__law_ratio : Value} {od__law_ratio an__law_ratio : Option Addr} {sl__law_ratio : Array (Option Value)}
    (a__law_ratio : PySem.W.nsIn K mainGlobals "_law_ratio" = some (some (.ref f__law_ratio))) (l__law_ratio : K.lookup f__law_ratio = some ⟨oc__law_ratio, od__law_ratio, .func (PySem.W.fnOf "_law_ratio" "_law_ratio" (defArgs t__law_ratio) (defBody t__law_ratio) (defScope t__law_ratio) .none kV__law_ratio dc__law_ratio pm__law_ratio an__law_ratio cd__law_ratio ct__law_ratio), sl__law_ratio⟩) (c__law_ratio : PySem.W.codeIn K cd__law_ratio "_law_ratio" = true) (k__law_ratio : PySem.W.keepIn K (.ref f__law_ratio) = true)
    {f__law_draw : Addr} {oc__law_draw kV__law_draw dc__law_draw pm__law_draw cd__law_draw ct__law_draw : Value} {od__law_draw an__law_draw : Option Addr} {sl__law_draw : Array (Option Value)}
    (a__law_draw : PySem.W.nsIn K mainGlobals "_law_draw" = some (some (.ref f__law_draw))) (l__law_draw : K.lookup f__law_draw = some ⟨oc__law_draw, od__law_draw, .func (PySem.W.fnOf "_law_draw" "_law_draw" (defArgs t__law_draw) (defBody t__law_draw) (defScope t__law_draw) .none kV__law_draw dc__law_draw pm__law_draw an__law_draw cd__law_draw ct__law_draw), sl__law_draw⟩) (c__law_draw : PySem.W.codeIn K cd__law_draw "_law_draw" = true) (k__law_draw : PySem.W.keepIn K (.ref f__law_draw) = true)
    {f__law_pick : Addr} {oc__law_pick kV__law_pick dc__law_pick pm__law_pick cd__law_pick ct__law_pick : Value} {od__law_pick an__law_pick : Option Addr} {sl__law_pick : Array (Option Value)}
    (a__law_pick : PySem.W.nsIn K mainGlobals "_law_pick" = some (some (.ref f__law_pick))) (l__law_pick : K.lookup f__law_pick = some ⟨oc__law_pick, od__law_pick, .func (PySem.W.fnOf "_law_pick" "_law_pick" (defArgs t__law_pick) (defBody t__law_pick) (defScope t__law_pick) .none kV__law_pick dc__law_pick pm__law_pick an__law_pick cd__law_pick ct__law_pick), sl__law_pick⟩) (c__law_pick : PySem.W.codeIn K cd__law_pick "_law_pick" = true) (k__law_pick : PySem.W.keepIn K (.ref f__law_pick) = true)
    {f__law_number : Addr} {oc__law_number kV__law_number dc__law_number pm__law_number cd__law_number ct__law_number : Value} {od__law_number an__law_number : Option Addr} {sl__law_number : Array (Option Value)}
    (a__law_number : PySem.W.nsIn K mainGlobals "_law_number" = some (some (.ref f__law_number))) (l__law_number : K.lookup f__law_number = some ⟨oc__law_number, od__law_number, .func (PySem.W.fnOf "_law_number" "_law_number" (defArgs t__law_number) (defBody t__law_number) (defScope t__law_number) .none kV__law_number dc__law_number pm__law_number an__law_number cd__law_number ct__law_number), sl__law_number⟩) (c__law_number : PySem.W.codeIn K cd__law_number "_law_number" = true) (k__law_number : PySem.W.keepIn K (.ref f__law_number) = true)
    {f__law_drawn : Addr} {oc__law_drawn kV__law_drawn dc__law_drawn pm__law_drawn cd__law_drawn ct__law_drawn : Value} {od__law_drawn an__law_drawn : Option Addr} {sl__law_drawn : Array (Option Value)}
    (a__law_drawn : PySem.W.nsIn K mainGlobals "_law_drawn" = some (some (.ref f__law_drawn))) (l__law_drawn : K.lookup f__law_drawn = some ⟨oc__law_drawn, od__law_drawn, .func (PySem.W.fnOf "_law_drawn" "_law_drawn" (defArgs t__law_drawn) (defBody t__law_drawn) (defScope t__law_drawn) .none kV__law_drawn dc__law_drawn pm__law_drawn an__law_drawn cd__law_drawn ct__law_drawn), sl__law_drawn⟩) (c__law_drawn : PySem.W.codeIn K cd__law_drawn "_law_drawn" = true) (k__law_drawn : PySem.W.keepIn K (.ref f__law_drawn) = true)
    {f_is_integer : Addr} {oc_is_integer kV_is_integer dc_is_integer pm_is_integer cd_is_integer ct_is_integer : Value} {od_is_integer an_is_integer : Option Addr} {sl_is_integer : Array (Option Value)}
    (a_is_integer : PySem.W.nsIn K mainGlobals "is_integer" = some (some (.ref f_is_integer))) (l_is_integer : K.lookup f_is_integer = some ⟨oc_is_integer, od_is_integer, .func (PySem.W.fnOf "is_integer" "is_integer" (defArgs t_is_integer) (defBody t_is_integer) (defScope t_is_integer) .none kV_is_integer dc_is_integer pm_is_integer an_is_integer cd_is_integer ct_is_integer), sl_is_integer⟩) (c_is_integer : PySem.W.codeIn K cd_is_integer "is_integer" = true) (k_is_integer : PySem.W.keepIn K (.ref f_is_integer) = true)
    {f_want_integer : Addr} {oc_want_integer kV_want_integer dc_want_integer pm_want_integer cd_want_integer ct_want_integer : Value} {od_want_integer an_want_integer : Option Addr} {sl_want_integer : Array (Option Value)}
    (a_want_integer : PySem.W.nsIn K mainGlobals "want_integer" = some (some (.ref f_want_integer))) (l_want_integer : K.lookup f_want_integer = some ⟨oc_want_integer, od_want_integer, .func (PySem.W.fnOf "want_integer" "want_integer" (defArgs t_want_integer) (defBody t_want_integer) (defScope t_want_integer) .none kV_want_integer dc_want_integer pm_want_integer an_want_integer cd_want_integer ct_want_integer), sl_want_integer⟩) (c_want_integer : PySem.W.codeIn K cd_want_integer "want_integer" = true) (k_want_integer : PySem.W.keepIn K (.ref f_want_integer) = true)
    {f_lowest : Addr} {oc_lowest kV_lowest dc_lowest pm_lowest cd_lowest ct_lowest : Value} {od_lowest an_lowest : Option Addr} {sl_lowest : Array (Option Value)}
    (a_lowest : PySem.W.nsIn K mainGlobals "lowest" = some (some (.ref f_lowest))) (l_lowest : K.lookup f_lowest = some ⟨oc_lowest, od_lowest, .func (PySem.W.fnOf "lowest" "lowest" (defArgs t_lowest) (defBody t_lowest) (defScope t_lowest) .none kV_lowest dc_lowest pm_lowest an_lowest cd_lowest ct_lowest), sl_lowest⟩) (c_lowest : PySem.W.codeIn K cd_lowest "lowest" = true) (k_lowest : PySem.W.keepIn K (.ref f_lowest) = true)
    {f_made : Addr} {oc_made kV_made dc_made pm_made cd_made ct_made : Value} {od_made an_made : Option Addr} {sl_made : Array (Option Value)}
    (a_made : PySem.W.nsIn K mainGlobals "made" = some (some (.ref f_made))) (l_made : K.lookup f_made = some ⟨oc_made, od_made, .func (PySem.W.fnOf "made" "made" (defArgs t_made) (defBody t_made) (defScope t_made) .none kV_made dc_made pm_made an_made cd_made ct_made), sl_made⟩) (c_made : PySem.W.codeIn K cd_made "made" = true) (k_made : PySem.W.keepIn K (.ref f_made) = true)
    {f_floor_ratio : Addr} {oc_floor_ratio kV_floor_ratio dc_floor_ratio pm_floor_ratio cd_floor_ratio ct_floor_ratio : Value} {od_floor_ratio an_floor_ratio : Option Addr} {sl_floor_ratio : Array (Option Value)}
    (a_floor_ratio : PySem.W.nsIn K mainGlobals "floor_ratio" = some (some (.ref f_floor_ratio))) (l_floor_ratio : K.lookup f_floor_ratio = some ⟨oc_floor_ratio, od_floor_ratio, .func (PySem.W.fnOf "floor_ratio" "floor_ratio" (defArgs t_floor_ratio) (defBody t_floor_ratio) (defScope t_floor_ratio) .none kV_floor_ratio dc_floor_ratio pm_floor_ratio an_floor_ratio cd_floor_ratio ct_floor_ratio), sl_floor_ratio⟩) (c_floor_ratio : PySem.W.codeIn K cd_floor_ratio "floor_ratio" = true) (k_floor_ratio : PySem.W.keepIn K (.ref f_floor_ratio) = true)
    {f_is_ratio_value : Addr} {oc_is_ratio_value kV_is_ratio_value dc_is_ratio_value pm_is_ratio_value cd_is_ratio_value ct_is_ratio_value : Value} {od_is_ratio_value an_is_ratio_value : Option Addr} {sl_is_ratio_value : Array (Option Value)}
    (a_is_ratio_value : PySem.W.nsIn K mainGlobals "is_ratio_value" = some (some (.ref f_is_ratio_value))) (l_is_ratio_value : K.lookup f_is_ratio_value = some ⟨oc_is_ratio_value, od_is_ratio_value, .func (PySem.W.fnOf "is_ratio_value" "is_ratio_value" (defArgs t_is_ratio_value) (defBody t_is_ratio_value) (defScope t_is_ratio_value) .none kV_is_ratio_value dc_is_ratio_value pm_is_ratio_value an_is_ratio_value cd_is_ratio_value ct_is_ratio_value), sl_is_ratio_value⟩) (c_is_ratio_value : PySem.W.codeIn K cd_is_ratio_value "is_ratio_value" = true) (k_is_ratio_value : PySem.W.keepIn K (.ref f_is_ratio_value) = true)
    {f_want_ratio : Addr} {oc_want_ratio kV_want_ratio dc_want_ratio pm_want_ratio cd_want_ratio ct_want_ratio : Value} {od_want_ratio an_want_ratio : Option Addr} {sl_want_ratio : Array (Option Value)}
    (a_want_ratio : PySem.W.nsIn K mainGlobals "want_ratio" = some (some (.ref f_want_ratio))) (l_want_ratio : K.lookup f_want_ratio = some ⟨oc_want_ratio, od_want_ratio, .func (PySem.W.fnOf "want_ratio" "want_ratio" (defArgs t_want_ratio) (defBody t_want_ratio) (defScope t_want_ratio) .none kV_want_ratio dc_want_ratio pm_want_ratio an_want_ratio cd_want_ratio ct_want_ratio), sl_want_ratio⟩) (c_want_ratio : PySem.W.codeIn K cd_want_ratio "want_ratio" = true) (k_want_ratio : PySem.W.keepIn K (.ref f_want_ratio) = true)
    {f_floor_of : Addr} {oc_floor_of kV_floor_of dc_floor_of pm_floor_of cd_floor_of ct_floor_of : Value} {od_floor_of an_floor_of : Option Addr} {sl_floor_of : Array (Option Value)}
    (a_floor_of : PySem.W.nsIn K mainGlobals "floor_of" = some (some (.ref f_floor_of))) (l_floor_of : K.lookup f_floor_of = some ⟨oc_floor_of, od_floor_of, .func (PySem.W.fnOf "floor_of" "floor_of" (defArgs t_floor_of) (defBody t_floor_of) (defScope t_floor_of) .none kV_floor_of dc_floor_of pm_floor_of an_floor_of cd_floor_of ct_floor_of), sl_floor_of⟩) (c_floor_of : PySem.W.codeIn K cd_floor_of "floor_of" = true) (k_floor_of : PySem.W.keepIn K (.ref f_floor_of) = true)
    {f_ceiling_ratio : Addr} {oc_ceiling_ratio kV_ceiling_ratio dc_ceiling_ratio pm_ceiling_ratio cd_ceiling_ratio ct_ceiling_ratio : Value} {od_ceiling_ratio an_ceiling_ratio : Option Addr} {sl_ceiling_ratio : Array (Option Value)}
    (a_ceiling_ratio : PySem.W.nsIn K mainGlobals "ceiling_ratio" = some (some (.ref f_ceiling_ratio))) (l_ceiling_ratio : K.lookup f_ceiling_ratio = some ⟨oc_ceiling_ratio, od_ceiling_ratio, .func (PySem.W.fnOf "ceiling_ratio" "ceiling_ratio" (defArgs t_ceiling_ratio) (defBody t_ceiling_ratio) (defScope t_ceiling_ratio) .none kV_ceiling_ratio dc_ceiling_ratio pm_ceiling_ratio an_ceiling_ratio cd_ceiling_ratio ct_ceiling_ratio), sl_ceiling_ratio⟩) (c_ceiling_ratio : PySem.W.codeIn K cd_ceiling_ratio "ceiling_ratio" = true) (k_ceiling_ratio : PySem.W.keepIn K (.ref f_ceiling_ratio) = true)
    {f_ceiling_of : Addr} {oc_ceiling_of kV_ceiling_of dc_ceiling_of pm_ceiling_of cd_ceiling_of ct_ceiling_of : Value} {od_ceiling_of an_ceiling_of : Option Addr} {sl_ceiling_of : Array (Option Value)}
    (a_ceiling_of : PySem.W.nsIn K mainGlobals "ceiling_of" = some (some (.ref f_ceiling_of))) (l_ceiling_of : K.lookup f_ceiling_of = some ⟨oc_ceiling_of, od_ceiling_of, .func (PySem.W.fnOf "ceiling_of" "ceiling_of" (defArgs t_ceiling_of) (defBody t_ceiling_of) (defScope t_ceiling_of) .none kV_ceiling_of dc_ceiling_of pm_ceiling_of an_ceiling_of cd_ceiling_of ct_ceiling_of), sl_ceiling_of⟩) (c_ceiling_of : PySem.W.codeIn K cd_ceiling_of "ceiling_of" = true) (k_ceiling_of : PySem.W.keepIn K (.ref f_ceiling_of) = true)
    {f_is_less : Addr} {oc_is_less kV_is_less dc_is_less pm_is_less cd_is_less ct_is_less : Value} {od_is_less an_is_less : Option Addr} {sl_is_less : Array (Option Value)}
    (a_is_less : PySem.W.nsIn K mainGlobals "is_less" = some (some (.ref f_is_less))) (l_is_less : K.lookup f_is_less = some ⟨oc_is_less, od_is_less, .func (PySem.W.fnOf "is_less" "is_less" (defArgs t_is_less) (defBody t_is_less) (defScope t_is_less) .none kV_is_less dc_is_less pm_is_less an_is_less cd_is_less ct_is_less), sl_is_less⟩) (c_is_less : PySem.W.codeIn K cd_is_less "is_less" = true) (k_is_less : PySem.W.keepIn K (.ref f_is_less) = true)
    {f_compared : Addr} {oc_compared kV_compared dc_compared pm_compared cd_compared ct_compared : Value} {od_compared an_compared : Option Addr} {sl_compared : Array (Option Value)}
    (a_compared : PySem.W.nsIn K mainGlobals "compared" = some (some (.ref f_compared))) (l_compared : K.lookup f_compared = some ⟨oc_compared, od_compared, .func (PySem.W.fnOf "compared" "compared" (defArgs t_compared) (defBody t_compared) (defScope t_compared) .none kV_compared dc_compared pm_compared an_compared cd_compared ct_compared), sl_compared⟩) (c_compared : PySem.W.codeIn K cd_compared "compared" = true) (k_compared : PySem.W.keepIn K (.ref f_compared) = true)
    {f_minus_ratio : Addr} {oc_minus_ratio kV_minus_ratio dc_minus_ratio pm_minus_ratio cd_minus_ratio ct_minus_ratio : Value} {od_minus_ratio an_minus_ratio : Option Addr} {sl_minus_ratio : Array (Option Value)}
    (a_minus_ratio : PySem.W.nsIn K mainGlobals "minus_ratio" = some (some (.ref f_minus_ratio))) (l_minus_ratio : K.lookup f_minus_ratio = some ⟨oc_minus_ratio, od_minus_ratio, .func (PySem.W.fnOf "minus_ratio" "minus_ratio" (defArgs t_minus_ratio) (defBody t_minus_ratio) (defScope t_minus_ratio) .none kV_minus_ratio dc_minus_ratio pm_minus_ratio an_minus_ratio cd_minus_ratio ct_minus_ratio), sl_minus_ratio⟩) (c_minus_ratio : PySem.W.codeIn K cd_minus_ratio "minus_ratio" = true) (k_minus_ratio : PySem.W.keepIn K (.ref f_minus_ratio) = true)
    {f_minus : Addr} {oc_minus kV_minus dc_minus pm_minus cd_minus ct_minus : Value} {od_minus an_minus : Option Addr} {sl_minus : Array (Option Value)}
    (a_minus : PySem.W.nsIn K mainGlobals "minus" = some (some (.ref f_minus))) (l_minus : K.lookup f_minus = some ⟨oc_minus, od_minus, .func (PySem.W.fnOf "minus" "minus" (defArgs t_minus) (defBody t_minus) (defScope t_minus) .none kV_minus dc_minus pm_minus an_minus cd_minus ct_minus), sl_minus⟩) (c_minus : PySem.W.codeIn K cd_minus "minus" = true) (k_minus : PySem.W.keepIn K (.ref f_minus) = true)
    {f_over_ratio : Addr} {oc_over_ratio kV_over_ratio dc_over_ratio pm_over_ratio cd_over_ratio ct_over_ratio : Value} {od_over_ratio an_over_ratio : Option Addr} {sl_over_ratio : Array (Option Value)}
    (a_over_ratio : PySem.W.nsIn K mainGlobals "over_ratio" = some (some (.ref f_over_ratio))) (l_over_ratio : K.lookup f_over_ratio = some ⟨oc_over_ratio, od_over_ratio, .func (PySem.W.fnOf "over_ratio" "over_ratio" (defArgs t_over_ratio) (defBody t_over_ratio) (defScope t_over_ratio) .none kV_over_ratio dc_over_ratio pm_over_ratio an_over_ratio cd_over_ratio ct_over_ratio), sl_over_ratio⟩) (c_over_ratio : PySem.W.codeIn K cd_over_ratio "over_ratio" = true) (k_over_ratio : PySem.W.keepIn K (.ref f_over_ratio) = true)
    {f_over : Addr} {oc_over kV_over dc_over pm_over cd_over ct_over : Value} {od_over an_over : Option Addr} {sl_over : Array (Option Value)}
    (a_over : PySem.W.nsIn K mainGlobals "over" = some (some (.ref f_over))) (l_over : K.lookup f_over = some ⟨oc_over, od_over, .func (PySem.W.fnOf "over" "over" (defArgs t_over) (defBody t_over) (defScope t_over) .none kV_over dc_over pm_over an_over cd_over ct_over), sl_over⟩) (c_over : PySem.W.codeIn K cd_over "over" = true) (k_over : PySem.W.keepIn K (.ref f_over) = true)
    {f__law_is_whole : Addr} {oc__law_is_whole kV__law_is_whole dc__law_is_whole pm__law_is_whole cd__law_is_whole ct__law_is_whole : Value} {od__law_is_whole an__law_is_whole : Option Addr} {sl__law_is_whole : Array (Option Value)}
    (a__law_is_whole : PySem.W.nsIn K mainGlobals "_law_is_whole" = some (some (.ref f__law_is_whole))) (l__law_is_whole : K.lookup f__law_is_whole = some ⟨oc__law_is_whole, od__law_is_whole, .func (PySem.W.fnOf "_law_is_whole" "_law_is_whole" (defArgs t__law_is_whole) (defBody t__law_is_whole) (defScope t__law_is_whole) .none kV__law_is_whole dc__law_is_whole pm__law_is_whole an__law_is_whole cd__law_is_whole ct__law_is_whole), sl__law_is_whole⟩) (c__law_is_whole : PySem.W.codeIn K cd__law_is_whole "_law_is_whole" = true) (k__law_is_whole : PySem.W.keepIn K (.ref f__law_is_whole) = true)
    {f__law_is_ratio : Addr} {oc__law_is_ratio kV__law_is_ratio dc__law_is_ratio pm__law_is_ratio cd__law_is_ratio ct__law_is_ratio : Value} {od__law_is_ratio an__law_is_ratio : Option Addr} {sl__law_is_ratio : Array (Option Value)}
    (a__law_is_ratio : PySem.W.nsIn K mainGlobals "_law_is_ratio" = some (some (.ref f__law_is_ratio))) (l__law_is_ratio : K.lookup f__law_is_ratio = some ⟨oc__law_is_ratio, od__law_is_ratio, .func (PySem.W.fnOf "_law_is_ratio" "_law_is_ratio" (defArgs t__law_is_ratio) (defBody t__law_is_ratio) (defScope t__law_is_ratio) .none kV__law_is_ratio dc__law_is_ratio pm__law_is_ratio an__law_is_ratio cd__law_is_ratio ct__law_is_ratio), sl__law_is_ratio⟩) (c__law_is_ratio : PySem.W.codeIn K cd__law_is_ratio "_law_is_ratio" = true) (k__law_is_ratio : PySem.W.keepIn K (.ref f__law_is_ratio) = true)
    {f__law_is_worth : Addr} {oc__law_is_worth kV__law_is_worth dc__law_is_worth pm__law_is_worth cd__law_is_worth ct__law_is_worth : Value} {od__law_is_worth an__law_is_worth : Option Addr} {sl__law_is_worth : Array (Option Value)}
    (a__law_is_worth : PySem.W.nsIn K mainGlobals "_law_is_worth" = some (some (.ref f__law_is_worth))) (l__law_is_worth : K.lookup f__law_is_worth = some ⟨oc__law_is_worth, od__law_is_worth, .func (PySem.W.fnOf "_law_is_worth" "_law_is_worth" (defArgs t__law_is_worth) (defBody t__law_is_worth) (defScope t__law_is_worth) .none kV__law_is_worth dc__law_is_worth pm__law_is_worth an__law_is_worth cd__law_is_worth ct__law_is_worth), sl__law_is_worth⟩) (c__law_is_worth : PySem.W.codeIn K cd__law_is_worth "_law_is_worth" = true) (k__law_is_worth : PySem.W.keepIn K (.ref f__law_is_worth) = true)
    {f_plus_ratio : Addr} {oc_plus_ratio kV_plus_ratio dc_plus_ratio pm_plus_ratio cd_plus_ratio ct_plus_ratio : Value} {od_plus_ratio an_plus_ratio : Option Addr} {sl_plus_ratio : Array (Option Value)}
    (a_plus_ratio : PySem.W.nsIn K mainGlobals "plus_ratio" = some (some (.ref f_plus_ratio))) (l_plus_ratio : K.lookup f_plus_ratio = some ⟨oc_plus_ratio, od_plus_ratio, .func (PySem.W.fnOf "plus_ratio" "plus_ratio" (defArgs t_plus_ratio) (defBody t_plus_ratio) (defScope t_plus_ratio) .none kV_plus_ratio dc_plus_ratio pm_plus_ratio an_plus_ratio cd_plus_ratio ct_plus_ratio), sl_plus_ratio⟩) (c_plus_ratio : PySem.W.codeIn K cd_plus_ratio "plus_ratio" = true) (k_plus_ratio : PySem.W.keepIn K (.ref f_plus_ratio) = true)
    {f_plus : Addr} {oc_plus kV_plus dc_plus pm_plus cd_plus ct_plus : Value} {od_plus an_plus : Option Addr} {sl_plus : Array (Option Value)}
    (a_plus : PySem.W.nsIn K mainGlobals "plus" = some (some (.ref f_plus))) (l_plus : K.lookup f_plus = some ⟨oc_plus, od_plus, .func (PySem.W.fnOf "plus" "plus" (defArgs t_plus) (defBody t_plus) (defScope t_plus) .none kV_plus dc_plus pm_plus an_plus cd_plus ct_plus), sl_plus⟩) (c_plus : PySem.W.codeIn K cd_plus "plus" = true) (k_plus : PySem.W.keepIn K (.ref f_plus) = true)
    {f_times_ratio : Addr} {oc_times_ratio kV_times_ratio dc_times_ratio pm_times_ratio cd_times_ratio ct_times_ratio : Value} {od_times_ratio an_times_ratio : Option Addr} {sl_times_ratio : Array (Option Value)}
    (a_times_ratio : PySem.W.nsIn K mainGlobals "times_ratio" = some (some (.ref f_times_ratio))) (l_times_ratio : K.lookup f_times_ratio = some ⟨oc_times_ratio, od_times_ratio, .func (PySem.W.fnOf "times_ratio" "times_ratio" (defArgs t_times_ratio) (defBody t_times_ratio) (defScope t_times_ratio) .none kV_times_ratio dc_times_ratio pm_times_ratio an_times_ratio cd_times_ratio ct_times_ratio), sl_times_ratio⟩) (c_times_ratio : PySem.W.codeIn K cd_times_ratio "times_ratio" = true) (k_times_ratio : PySem.W.keepIn K (.ref f_times_ratio) = true)
    {f_times : Addr} {oc_times kV_times dc_times pm_times cd_times ct_times : Value} {od_times an_times : Option Addr} {sl_times : Array (Option Value)}
    (a_times : PySem.W.nsIn K mainGlobals "times" = some (some (.ref f_times))) (l_times : K.lookup f_times = some ⟨oc_times, od_times, .func (PySem.W.fnOf "times" "times" (defArgs t_times) (defBody t_times) (defScope t_times) .none kV_times dc_times pm_times an_times cd_times ct_times), sl_times⟩) (c_times : PySem.W.codeIn K cd_times "times" = true) (k_times : PySem.W.keepIn K (.ref f_times) = true)
    {f__law_pair_right : Addr} {oc__law_pair_right kV__law_pair_right dc__law_pair_right pm__law_pair_right cd__law_pair_right ct__law_pair_right : Value} {od__law_pair_right an__law_pair_right : Option Addr} {sl__law_pair_right : Array (Option Value)}
    (a__law_pair_right : PySem.W.nsIn K mainGlobals "_law_pair_right" = some (some (.ref f__law_pair_right))) (l__law_pair_right : K.lookup f__law_pair_right = some ⟨oc__law_pair_right, od__law_pair_right, .func (PySem.W.fnOf "_law_pair_right" "_law_pair_right" (defArgs t__law_pair_right) (defBody t__law_pair_right) (defScope t__law_pair_right) .none kV__law_pair_right dc__law_pair_right pm__law_pair_right an__law_pair_right cd__law_pair_right ct__law_pair_right), sl__law_pair_right⟩) (c__law_pair_right : PySem.W.codeIn K cd__law_pair_right "_law_pair_right" = true) (k__law_pair_right : PySem.W.keepIn K (.ref f__law_pair_right) = true)
    {f__law_one_right : Addr} {oc__law_one_right kV__law_one_right dc__law_one_right pm__law_one_right cd__law_one_right ct__law_one_right : Value} {od__law_one_right an__law_one_right : Option Addr} {sl__law_one_right : Array (Option Value)}
    (a__law_one_right : PySem.W.nsIn K mainGlobals "_law_one_right" = some (some (.ref f__law_one_right))) (l__law_one_right : K.lookup f__law_one_right = some ⟨oc__law_one_right, od__law_one_right, .func (PySem.W.fnOf "_law_one_right" "_law_one_right" (defArgs t__law_one_right) (defBody t__law_one_right) (defScope t__law_one_right) .none kV__law_one_right dc__law_one_right pm__law_one_right an__law_one_right cd__law_one_right ct__law_one_right), sl__law_one_right⟩) (c__law_one_right : PySem.W.codeIn K cd__law_one_right "_law_one_right" = true) (k__law_one_right : PySem.W.keepIn K (.ref f__law_one_right) = true)
    {f_is_ratio : Addr} {oc_is_ratio kV_is_ratio dc_is_ratio pm_is_ratio cd_is_ratio ct_is_ratio : Value} {od_is_ratio an_is_ratio : Option Addr} {sl_is_ratio : Array (Option Value)}
    (a_is_ratio : PySem.W.nsIn K mainGlobals "is_ratio" = some (some (.ref f_is_ratio))) (l_is_ratio : K.lookup f_is_ratio = some ⟨oc_is_ratio, od_is_ratio, .func (PySem.W.fnOf "is_ratio" "is_ratio" (defArgs t_is_ratio) (defBody t_is_ratio) (defScope t_is_ratio) .none kV_is_ratio dc_is_ratio pm_is_ratio an_is_ratio cd_is_ratio ct_is_ratio), sl_is_ratio⟩) (c_is_ratio : PySem.W.codeIn K cd_is_ratio "is_ratio" = true) (k_is_ratio : PySem.W.keepIn K (.ref f_is_ratio) = true)
    {f_law : Addr} {oc_law kV_law dc_law pm_law cd_law ct_law : Value} {od_law an_law : Option Addr} {sl_law : Array (Option Value)}
    (a_law : PySem.W.nsIn K mainGlobals "law" = some (some (.ref f_law))) (l_law : K.lookup f_law = some ⟨oc_law, od_law, .func (PySem.W.fnOf "law" "law" (defArgs t_law) (defBody t_law) (defScope t_law) .none kV_law dc_law pm_law an_law cd_law ct_law), sl_law⟩) (c_law : PySem.W.codeIn K cd_law "law" = true) (k_law : PySem.W.keepIn K (.ref f_law) = true) :
    ∃ (fd : FuncData) (T : Tab), (∀ (s : Shared) (v : Value), BindsTo s fd ⟨[v], []⟩ [("_law_script", v)]) ∧ ∀ base : Heap, K.In base → base.Ns mainGlobals mg → FnG l.prog w K mg base 6 fa fd ["_law_script"] (spM T K 1 m_law) := by
  have e : f_law = fa := by
    have h := hfa.symm.trans (PySem.W.mg_of X G a_law)
    cases h
    rfl
  subst e
  let Tp : Top K mg := {
    z_abs := PySem.W.mg_none_of X G z_abs,
    z_all := PySem.W.mg_none_of X G z_all,
    z_bool := PySem.W.mg_none_of X G z_bool,
    z_divmod := PySem.W.mg_none_of X G z_divmod,
    z_int := PySem.W.mg_none_of X G z_int,
    z_isinstance := PySem.W.mg_none_of X G z_isinstance,
    z_len := PySem.W.mg_none_of X G z_len,
    z_max := PySem.W.mg_none_of X G z_max,
    z_range := PySem.W.mg_none_of X G z_range,
    z_repr := PySem.W.mg_none_of X G z_repr,
    z_tuple := PySem.W.mg_none_of X G z_tuple,
    i_gcd := PySem.W.mg_of X G i_gcd,
    a__law_pot := f__law_pot,
    d__law_pot := _,
    g__law_pot := PySem.W.mg_of X G a__law_pot,
    F__law_pot := fun_mk (st := t__law_pot) l__law_pot c__law_pot k__law_pot,
    a__law_common := f__law_common,
    d__law_common := _,
    g__law_common := PySem.W.mg_of X G a__law_common,
    F__law_common := fun_mk (st := t__law_common) l__law_common c__law_common k__law_common,
    a__law_ratio := f__law_ratio,
    d__law_ratio := _,
    g__law_ratio := PySem.W.mg_of X G a__law_ratio,
    F__law_ratio := fun_mk (st := t__law_ratio) l__law_ratio c__law_ratio k__law_ratio,
    a__law_draw := f__law_draw,
    d__law_draw := _,
    g__law_draw := PySem.W.mg_of X G a__law_draw,
    F__law_draw := fun_mk (st := t__law_draw) l__law_draw c__law_draw k__law_draw,
    a__law_pick := f__law_pick,
    d__law_pick := _,
    g__law_pick := PySem.W.mg_of X G a__law_pick,
    F__law_pick := fun_mk (st := t__law_pick) l__law_pick c__law_pick k__law_pick,
    a__law_number := f__law_number,
    d__law_number := _,
    g__law_number := PySem.W.mg_of X G a__law_number,
    F__law_number := fun_mk (st := t__law_number) l__law_number c__law_number k__law_number,
    a__law_drawn := f__law_drawn,
    d__law_drawn := _,
    g__law_drawn := PySem.W.mg_of X G a__law_drawn,
    F__law_drawn := fun_mk (st := t__law_drawn) l__law_drawn c__law_drawn k__law_drawn,
    a_is_integer := f_is_integer,
    d_is_integer := _,
    g_is_integer := PySem.W.mg_of X G a_is_integer,
    F_is_integer := fun_mk (st := t_is_integer) l_is_integer c_is_integer k_is_integer,
    a_want_integer := f_want_integer,
    d_want_integer := _,
    g_want_integer := PySem.W.mg_of X G a_want_integer,
    F_want_integer := fun_mk (st := t_want_integer) l_want_integer c_want_integer k_want_integer,
    a_lowest := f_lowest,
    d_lowest := _,
    g_lowest := PySem.W.mg_of X G a_lowest,
    F_lowest := fun_mk (st := t_lowest) l_lowest c_lowest k_lowest,
    a_made := f_made,
    d_made := _,
    g_made := PySem.W.mg_of X G a_made,
    F_made := fun_mk (st := t_made) l_made c_made k_made,
    a_floor_ratio := f_floor_ratio,
    d_floor_ratio := _,
    g_floor_ratio := PySem.W.mg_of X G a_floor_ratio,
    F_floor_ratio := fun_mk (st := t_floor_ratio) l_floor_ratio c_floor_ratio k_floor_ratio,
    a_is_ratio_value := f_is_ratio_value,
    d_is_ratio_value := _,
    g_is_ratio_value := PySem.W.mg_of X G a_is_ratio_value,
    F_is_ratio_value := fun_mk (st := t_is_ratio_value) l_is_ratio_value c_is_ratio_value k_is_ratio_value,
    a_want_ratio := f_want_ratio,
    d_want_ratio := _,
    g_want_ratio := PySem.W.mg_of X G a_want_ratio,
    F_want_ratio := fun_mk (st := t_want_ratio) l_want_ratio c_want_ratio k_want_ratio,
    a_floor_of := f_floor_of,
    d_floor_of := _,
    g_floor_of := PySem.W.mg_of X G a_floor_of,
    F_floor_of := fun_mk (st := t_floor_of) l_floor_of c_floor_of k_floor_of,
    a_ceiling_ratio := f_ceiling_ratio,
    d_ceiling_ratio := _,
    g_ceiling_ratio := PySem.W.mg_of X G a_ceiling_ratio,
    F_ceiling_ratio := fun_mk (st := t_ceiling_ratio) l_ceiling_ratio c_ceiling_ratio k_ceiling_ratio,
    a_ceiling_of := f_ceiling_of,
    d_ceiling_of := _,
    g_ceiling_of := PySem.W.mg_of X G a_ceiling_of,
    F_ceiling_of := fun_mk (st := t_ceiling_of) l_ceiling_of c_ceiling_of k_ceiling_of,
    a_is_less := f_is_less,
    d_is_less := _,
    g_is_less := PySem.W.mg_of X G a_is_less,
    F_is_less := fun_mk (st := t_is_less) l_is_less c_is_less k_is_less,
    a_compared := f_compared,
    d_compared := _,
    g_compared := PySem.W.mg_of X G a_compared,
    F_compared := fun_mk (st := t_compared) l_compared c_compared k_compared,
    a_minus_ratio := f_minus_ratio,
    d_minus_ratio := _,
    g_minus_ratio := PySem.W.mg_of X G a_minus_ratio,
    F_minus_ratio := fun_mk (st := t_minus_ratio) l_minus_ratio c_minus_ratio k_minus_ratio,
    a_minus := f_minus,
    d_minus := _,
    g_minus := PySem.W.mg_of X G a_minus,
    F_minus := fun_mk (st := t_minus) l_minus c_minus k_minus,
    a_over_ratio := f_over_ratio,
    d_over_ratio := _,
    g_over_ratio := PySem.W.mg_of X G a_over_ratio,
    F_over_ratio := fun_mk (st := t_over_ratio) l_over_ratio c_over_ratio k_over_ratio,
    a_over := f_over,
    d_over := _,
    g_over := PySem.W.mg_of X G a_over,
    F_over := fun_mk (st := t_over) l_over c_over k_over,
    a__law_is_whole := f__law_is_whole,
    d__law_is_whole := _,
    g__law_is_whole := PySem.W.mg_of X G a__law_is_whole,
    F__law_is_whole := fun_mk (st := t__law_is_whole) l__law_is_whole c__law_is_whole k__law_is_whole,
    a__law_is_ratio := f__law_is_ratio,
    d__law_is_ratio := _,
    g__law_is_ratio := PySem.W.mg_of X G a__law_is_ratio,
    F__law_is_ratio := fun_mk (st := t__law_is_ratio) l__law_is_ratio c__law_is_ratio k__law_is_ratio,
    a__law_is_worth := f__law_is_worth,
    d__law_is_worth := _,
    g__law_is_worth := PySem.W.mg_of X G a__law_is_worth,
    F__law_is_worth := fun_mk (st := t__law_is_worth) l__law_is_worth c__law_is_worth k__law_is_worth,
    a_plus_ratio := f_plus_ratio,
    d_plus_ratio := _,
    g_plus_ratio := PySem.W.mg_of X G a_plus_ratio,
    F_plus_ratio := fun_mk (st := t_plus_ratio) l_plus_ratio c_plus_ratio k_plus_ratio,
    a_plus := f_plus,
    d_plus := _,
    g_plus := PySem.W.mg_of X G a_plus,
    F_plus := fun_mk (st := t_plus) l_plus c_plus k_plus,
    a_times_ratio := f_times_ratio,
    d_times_ratio := _,
    g_times_ratio := PySem.W.mg_of X G a_times_ratio,
    F_times_ratio := fun_mk (st := t_times_ratio) l_times_ratio c_times_ratio k_times_ratio,
    a_times := f_times,
    d_times := _,
    g_times := PySem.W.mg_of X G a_times,
    F_times := fun_mk (st := t_times) l_times c_times k_times,
    a__law_pair_right := f__law_pair_right,
    d__law_pair_right := _,
    g__law_pair_right := PySem.W.mg_of X G a__law_pair_right,
    F__law_pair_right := fun_mk (st := t__law_pair_right) l__law_pair_right c__law_pair_right k__law_pair_right,
    a__law_one_right := f__law_one_right,
    d__law_one_right := _,
    g__law_one_right := PySem.W.mg_of X G a__law_one_right,
    F__law_one_right := fun_mk (st := t__law_one_right) l__law_one_right c__law_one_right k__law_one_right,
    a_is_ratio := f_is_ratio,
    d_is_ratio := _,
    g_is_ratio := PySem.W.mg_of X G a_is_ratio,
    F_is_ratio := fun_mk (st := t_is_ratio) l_is_ratio c_is_ratio k_is_ratio,
    a_law := f_law,
    d_law := _,
    g_law := PySem.W.mg_of X G a_law,
    F_law := fun_mk (st := t_law) l_law c_law k_law }
  exact ⟨Tp.d_law, fun _ => none, fun s v => .of_eq rfl, fun base hin hns => ok_law l.prog w Tp hin hns⟩
end Law
open PySem PySem.W PyProof.Rows
set_option maxRecDepth 100000 in
set_option maxHeartbeats 0 in
theorem PySem.Challenge.cw_wishways_k12_whole_ratios_reckoned_holds : PySem.Challenge.rw_wishways_k12_whole_ratios_reckoned.Holds := by
  w_on; o_law; k_head; (case hw => w_witness2)
  k_fill
  refine Mn.walk_g (l := PySem.Challenge.rw_wishways_k12_whole_ratios_reckoned) (n := 63) (k := 6) (x := "_law_script") (f := Law.m_law) rfl (by decide) rfl ⟨rfl, by decide, by decide⟩ (fun w h Y => PySem.W.kIn_of Y) ?F (fun ns _ => Law.law_true ns)
  case F =>
    intro w mg fa h KX G hmg
    refine' Law.top_mk KX G hmg ?z_abs ?z_all ?z_bool ?z_divmod ?z_int ?z_isinstance ?z_len ?z_max ?z_range ?z_repr ?z_tuple ?i_gcd ?a__law_pot ?l__law_pot ?c__law_pot ?k__law_pot ?a__law_common ?l__law_common ?c__law_common ?k__law_common ?a__law_ratio ?l__law_ratio ?c__law_ratio ?k__law_ratio ?a__law_draw ?l__law_draw ?c__law_draw ?k__law_draw ?a__law_pick ?l__law_pick ?c__law_pick ?k__law_pick ?a__law_number ?l__law_number ?c__law_number ?k__law_number ?a__law_drawn ?l__law_drawn ?c__law_drawn ?k__law_drawn ?a_is_integer ?l_is_integer ?c_is_integer ?k_is_integer ?a_want_integer ?l_want_integer ?c_want_integer ?k_want_integer ?a_lowest ?l_lowest ?c_lowest ?k_lowest ?a_made ?l_made ?c_made ?k_made ?a_floor_ratio ?l_floor_ratio ?c_floor_ratio ?k_floor_ratio ?a_is_ratio_value ?l_is_ratio_value ?c_is_ratio_value ?k_is_ratio_value ?a_want_ratio ?l_want_ratio ?c_want_ratio ?k_want_ratio ?a_floor_of ?l_floor_of ?c_floor_of ?k_floor_of ?a_ceiling_ratio ?l_ceiling_ratio ?c_ceiling_ratio ?k_ceiling_ratio ?a_ceiling_of ?l_ceiling_of ?c_ceiling_of ?k_ceiling_of ?a_is_less ?l_is_less ?c_is_less ?k_is_less ?a_compared ?l_compared ?c_compared ?k_compared ?a_minus_ratio ?l_minus_ratio ?c_minus_ratio ?k_minus_ratio ?a_minus ?l_minus ?c_minus ?k_minus ?a_over_ratio ?l_over_ratio ?c_over_ratio ?k_over_ratio ?a_over ?l_over ?c_over ?k_over ?a__law_is_whole ?l__law_is_whole ?c__law_is_whole ?k__law_is_whole ?a__law_is_ratio ?l__law_is_ratio ?c__law_is_ratio ?k__law_is_ratio ?a__law_is_worth ?l__law_is_worth ?c__law_is_worth ?k__law_is_worth ?a_plus_ratio ?l_plus_ratio ?c_plus_ratio ?k_plus_ratio ?a_plus ?l_plus ?c_plus ?k_plus ?a_times_ratio ?l_times_ratio ?c_times_ratio ?k_times_ratio ?a_times ?l_times ?c_times ?k_times ?a__law_pair_right ?l__law_pair_right ?c__law_pair_right ?k__law_pair_right ?a__law_one_right ?l__law_one_right ?c__law_one_right ?k__law_one_right ?a_is_ratio ?l_is_ratio ?c_is_ratio ?k_is_ratio ?a_law ?l_law ?c_law ?k_law
    (case z_abs => k_is)
    (case z_all => k_is)
    (case z_bool => k_is)
    (case z_divmod => k_is)
    (case z_int => k_is)
    (case z_isinstance => k_is)
    (case z_len => k_is)
    (case z_max => k_is)
    (case z_range => k_is)
    (case z_repr => k_is)
    (case z_tuple => k_is)
    (case i_gcd => k_is)
    (case a__law_pot => k_is)
    (case l__law_pot => k_is)
    (case c__law_pot => k_is)
    (case k__law_pot => k_is)
    (case a__law_common => k_is)
    (case l__law_common => k_is)
    (case c__law_common => k_is)
    (case k__law_common => k_is)
    (case a__law_ratio => k_is)
    (case l__law_ratio => k_is)
    (case c__law_ratio => k_is)
    (case k__law_ratio => k_is)
    (case a__law_draw => k_is)
    (case l__law_draw => k_is)
    (case c__law_draw => k_is)
    (case k__law_draw => k_is)
    (case a__law_pick => k_is)
    (case l__law_pick => k_is)
    (case c__law_pick => k_is)
    (case k__law_pick => k_is)
    (case a__law_number => k_is)
    (case l__law_number => k_is)
    (case c__law_number => k_is)
    (case k__law_number => k_is)
    (case a__law_drawn => k_is)
    (case l__law_drawn => k_is)
    (case c__law_drawn => k_is)
    (case k__law_drawn => k_is)
    (case a_is_integer => k_is)
    (case l_is_integer => k_is)
    (case c_is_integer => k_is)
    (case k_is_integer => k_is)
    (case a_want_integer => k_is)
    (case l_want_integer => k_is)
    (case c_want_integer => k_is)
    (case k_want_integer => k_is)
    (case a_lowest => k_is)
    (case l_lowest => k_is)
    (case c_lowest => k_is)
    (case k_lowest => k_is)
    (case a_made => k_is)
    (case l_made => k_is)
    (case c_made => k_is)
    (case k_made => k_is)
    (case a_floor_ratio => k_is)
    (case l_floor_ratio => k_is)
    (case c_floor_ratio => k_is)
    (case k_floor_ratio => k_is)
    (case a_is_ratio_value => k_is)
    (case l_is_ratio_value => k_is)
    (case c_is_ratio_value => k_is)
    (case k_is_ratio_value => k_is)
    (case a_want_ratio => k_is)
    (case l_want_ratio => k_is)
    (case c_want_ratio => k_is)
    (case k_want_ratio => k_is)
    (case a_floor_of => k_is)
    (case l_floor_of => k_is)
    (case c_floor_of => k_is)
    (case k_floor_of => k_is)
    (case a_ceiling_ratio => k_is)
    (case l_ceiling_ratio => k_is)
    (case c_ceiling_ratio => k_is)
    (case k_ceiling_ratio => k_is)
    (case a_ceiling_of => k_is)
    (case l_ceiling_of => k_is)
    (case c_ceiling_of => k_is)
    (case k_ceiling_of => k_is)
    (case a_is_less => k_is)
    (case l_is_less => k_is)
    (case c_is_less => k_is)
    (case k_is_less => k_is)
    (case a_compared => k_is)
    (case l_compared => k_is)
    (case c_compared => k_is)
    (case k_compared => k_is)
    (case a_minus_ratio => k_is)
    (case l_minus_ratio => k_is)
    (case c_minus_ratio => k_is)
    (case k_minus_ratio => k_is)
    (case a_minus => k_is)
    (case l_minus => k_is)
    (case c_minus => k_is)
    (case k_minus => k_is)
    (case a_over_ratio => k_is)
    (case l_over_ratio => k_is)
    (case c_over_ratio => k_is)
    (case k_over_ratio => k_is)
    (case a_over => k_is)
    (case l_over => k_is)
    (case c_over => k_is)
    (case k_over => k_is)
    (case a__law_is_whole => k_is)
    (case l__law_is_whole => k_is)
    (case c__law_is_whole => k_is)
    (case k__law_is_whole => k_is)
    (case a__law_is_ratio => k_is)
    (case l__law_is_ratio => k_is)
    (case c__law_is_ratio => k_is)
    (case k__law_is_ratio => k_is)
    (case a__law_is_worth => k_is)
    (case l__law_is_worth => k_is)
    (case c__law_is_worth => k_is)
    (case k__law_is_worth => k_is)
    (case a_plus_ratio => k_is)
    (case l_plus_ratio => k_is)
    (case c_plus_ratio => k_is)
    (case k_plus_ratio => k_is)
    (case a_plus => k_is)
    (case l_plus => k_is)
    (case c_plus => k_is)
    (case k_plus => k_is)
    (case a_times_ratio => k_is)
    (case l_times_ratio => k_is)
    (case c_times_ratio => k_is)
    (case k_times_ratio => k_is)
    (case a_times => k_is)
    (case l_times => k_is)
    (case c_times => k_is)
    (case k_times => k_is)
    (case a__law_pair_right => k_is)
    (case l__law_pair_right => k_is)
    (case c__law_pair_right => k_is)
    (case k__law_pair_right => k_is)
    (case a__law_one_right => k_is)
    (case l__law_one_right => k_is)
    (case c__law_one_right => k_is)
    (case k__law_one_right => k_is)
    (case a_is_ratio => k_is)
    (case l_is_ratio => k_is)
    (case c_is_ratio => k_is)
    (case k_is_ratio => k_is)
    (case a_law => k_is)
    (case l_law => k_is)
    (case c_law => k_is)
    (case k_law => k_is)
