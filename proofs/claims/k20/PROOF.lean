import PyProof.Rows.All
import Wide.All
import OpenK.AllK
import Wide.FinOn
import HandS.ForMost
import HandS.ForExc
import HandS.IsInst
import HandS.Flow
import HandS.Style
import HandS.More
import HandS.TryMany
import HandS.ExcInit
import HandS.ExcIs
import HandS.ExcField
import PySem.Challenge.RW_tornshelf_k20_whole_bits_by_any_lengths
set_option Elab.async false
set_option linter.all false
set_option maxRecDepth 100000
set_option maxHeartbeats 4000000
namespace MP
open PySem L2

/-! ### plain data, cells, states -/
inductive D where
  | non | bl (b : Bool) | int (i : Int) | str (s : Str) | ty (n : String)
  | lst (xs : List D) | tup (xs : List D) | lstK (xs : List D) | tupK (xs : List D) | ref (id : Nat) | sl (i : Nat)

inductive Cell where
  | lst (xs : List D) | dK (kvs : List (Key × D)) | dT (kvs : List (List Key × D)) | ins (c : Nat) (fs : List (Str × D)) | gone

inductive Sl where
  | u | d (x : D) | own (xs : List D)

structure MSt where
  g : List Sl
  c : List Cell

structure Exc where
  c : Nat
  fs : List (Str × D)

inductive Rs (α : Type) where
  | ok (a : α) | exc (x : Exc)

inductive DV where
  | val (d : D) | own (xs : List D)

structure Ctx where
  K : PySem.W.Frag
  cm : Nat → Addr

/-! ### what a value means in a frozen heap -/
mutual
inductive RD (K : PySem.W.Frag) (ρ : List Addr) (R : Hp) : V → D → Prop
  | non : RD K ρ R .non .non
  | bl (b : Bool) : RD K ρ R (.bl b) (.bl b)
  | int (i : Int) : RD K ρ R (.int i) (.int i)
  | str (s : Str) : RD K ρ R (.str s) (.str s)
  | ty (n : String) : RD K ρ R (.ty n) (.ty n)
  | lst {a : Addr} {vs : List V} {ds : List D} : R a = some (.lst vs) → RDs K ρ R vs ds → RD K ρ R (.ref a) (.lst ds)
  | tup {a : Addr} {vs : List V} {ds : List D} : R a = some (.tup vs) → RDs K ρ R vs ds → RD K ρ R (.ref a) (.tup ds)
  | lstK {a : Addr} {vs : List V} {ds : List D} : SqL K R a vs → RDs K ρ R vs ds → RD K ρ R (.ref a) (.lstK ds)
  | tupK {a : Addr} {vs : List V} {ds : List D} : SqT K R a vs → RDs K ρ R vs ds → RD K ρ R (.ref a) (.tupK ds)
  | ref {a : Addr} {id : Nat} : ρ[id]? = some a → RD K ρ R (.ref a) (.ref id)
inductive RDs (K : PySem.W.Frag) (ρ : List Addr) (R : Hp) : List V → List D → Prop
  | nil : RDs K ρ R [] []
  | cons {v : V} {d : D} {vs : List V} {ds : List D} : RD K ρ R v d → RDs K ρ R vs ds → RDs K ρ R (v :: vs) (d :: ds)
end

theorem same_t {K : PySem.W.Frag} {H H' : Hp} {a : Addr} {xs : List V} (e : Same H H') (h : SqT K H a xs) : SqT K H' a xs := by
  rcases h with (h | ⟨o, h⟩) | h
  · exact .inl (.inl (e _ _ h))
  · exact .inl (.inr ⟨o, e _ _ h⟩)
  · exact .inr h

theorem pre_get {α : Type} {l l' : List α} (h : l <+: l') {i : Nat} {a : α} (e : l[i]? = some a) : l'[i]? = some a := by
  obtain ⟨t, rfl⟩ := h
  have hl : i < l.length := (List.getElem?_eq_some_iff.mp e).1
  rw [List.getElem?_append_left hl]
  exact e

mutual
theorem RD.up {K : PySem.W.Frag} {ρ ρ' : List Addr} {R R' : Hp} (hp : ρ <+: ρ') (hr : Same R R') : ∀ {v : V} {d : D}, RD K ρ R v d → RD K ρ' R' v d
  | _, _, .non => .non
  | _, _, .bl b => .bl b
  | _, _, .int i => .int i
  | _, _, .str s => .str s
  | _, _, .ty n => .ty n
  | _, _, .lst h hs => .lst (hr _ _ h) (RDs.up hp hr hs)
  | _, _, .tup h hs => .tup (hr _ _ h) (RDs.up hp hr hs)
  | _, _, .lstK h hs => .lstK (hr.seq h) (RDs.up hp hr hs)
  | _, _, .tupK h hs => .tupK (same_t hr h) (RDs.up hp hr hs)
  | _, _, .ref h => .ref (pre_get hp h)
theorem RDs.up {K : PySem.W.Frag} {ρ ρ' : List Addr} {R R' : Hp} (hp : ρ <+: ρ') (hr : Same R R') : ∀ {vs : List V} {ds : List D}, RDs K ρ R vs ds → RDs K ρ' R' vs ds
  | _, _, .nil => .nil
  | _, _, .cons h hs => .cons (RD.up hp hr h) (RDs.up hp hr hs)
end

section
variable {K : PySem.W.Frag} {ρ : List Addr} {R : Hp}
theorem RDs.length : ∀ {vs : List V} {ds : List D}, RDs K ρ R vs ds → vs.length = ds.length
  | _, _, .nil => rfl
  | _, _, .cons _ h => congrArg (· + 1) h.length
theorem RDs.append : ∀ {vs ws : List V} {ds es : List D}, RDs K ρ R vs ds → RDs K ρ R ws es → RDs K ρ R (vs ++ ws) (ds ++ es)
  | _, _, _, _, .nil, h => h
  | _, _, _, _, .cons a b, h => .cons a (RDs.append b h)
theorem RDs.get : ∀ {vs : List V} {ds : List D} {i : Nat} {v : V} , RDs K ρ R vs ds → vs[i]? = some v → ∃ d, ds[i]? = some d ∧ RD K ρ R v d
  | _, _, _, _, .nil, e => by simp at e
  | _, _, 0, _, .cons a _, e => by simp at e; subst e; exact ⟨_, rfl, a⟩
  | _, _, i + 1, _, .cons _ b, e => by
    obtain ⟨d, h1, h2⟩ := RDs.get (i := i) b (by simpa using e)
    exact ⟨d, by simpa using h1, h2⟩
theorem RDs.get' : ∀ {vs : List V} {ds : List D} {i : Nat} {d : D} , RDs K ρ R vs ds → ds[i]? = some d → ∃ v, vs[i]? = some v ∧ RD K ρ R v d
  | _, _, _, _, .nil, e => by simp at e
  | _, _, 0, _, .cons a _, e => by simp at e; subst e; exact ⟨_, rfl, a⟩
  | _, _, i + 1, _, .cons _ b, e => by
    obtain ⟨d, h1, h2⟩ := RDs.get' (i := i) b (by simpa using e)
    exact ⟨d, by simpa using h1, h2⟩
theorem RDs.set : ∀ {vs : List V} {ds : List D} (i : Nat) {v : V} {d : D}, RD K ρ R v d → RDs K ρ R vs ds → RDs K ρ R (vs.set i v) (ds.set i d)
  | _, _, _, _, _, _, .nil => .nil
  | _, _, 0, _, _, h, .cons _ b => .cons h b
  | _, _, i + 1, _, _, h, .cons a b => .cons a (RDs.set i h b)
theorem RDs.take : ∀ {vs : List V} {ds : List D} (i : Nat), RDs K ρ R vs ds → RDs K ρ R (vs.take i) (ds.take i)
  | _, _, 0, _ => .nil
  | _, _, i + 1, .nil => .nil
  | _, _, i + 1, .cons a b => .cons a (RDs.take i b)
theorem RDs.drop : ∀ {vs : List V} {ds : List D} (i : Nat), RDs K ρ R vs ds → RDs K ρ R (vs.drop i) (ds.drop i)
  | _, _, 0, h => h
  | _, _, i + 1, .nil => .nil
  | _, _, i + 1, .cons a b => RDs.drop i b
theorem RDs.eraseIdx : ∀ {vs : List V} {ds : List D} (i : Nat), RDs K ρ R vs ds → RDs K ρ R (vs.eraseIdx i) (ds.eraseIdx i)
  | _, _, _, .nil => .nil
  | _, _, 0, .cons _ b => b
  | _, _, i + 1, .cons a b => .cons a (RDs.eraseIdx i b)
theorem RDs.ints : ∀ {vs : List V} {ns : List Int}, RDs K ρ R vs (ns.map D.int) → vs = ns.map V.int
  | _, [], .nil => rfl
  | _, n :: ns, .cons a b => by
    cases a
    rw [RDs.ints b]
    rfl
theorem RDs.of_ints : ∀ (ns : List Int), RDs K ρ R (ns.map V.int) (ns.map D.int)
  | [] => .nil
  | n :: ns => .cons (.int n) (RDs.of_ints ns)
theorem RDs.of_rep {v : V} {d : D} (h : RD K ρ R v d) : ∀ n, RDs K ρ R (List.replicate n v) (List.replicate n d)
  | 0 => .nil
  | n + 1 => .cons h (RDs.of_rep h n)
theorem RDs.reverse : ∀ {vs : List V} {ds : List D}, RDs K ρ R vs ds → RDs K ρ R vs.reverse ds.reverse
  | _, _, .nil => .nil
  | _, _, .cons a b => by
    rw [List.reverse_cons, List.reverse_cons]
    exact (RDs.reverse b).append (.cons a .nil)
end

/-! ### what is owned -/
abbrev Res := Addr × HO
structure Own (R H : Hp) (L : List Res) : Prop where
  same : Same R H
  nd : (L.map (·.1)).Nodup
  at' : ∀ p ∈ L, H p.1 = some p.2 ∧ R p.1 = none

theorem Own.perm {R H : Hp} {L L' : List Res} (o : Own R H L) (p : L.Perm L') : Own R H L' :=
  ⟨o.same, (p.map _).nodup_iff.mp o.nd, fun q hq => o.at' q (p.mem_iff.mpr hq)⟩
theorem Own.sub {R H : Hp} {L L' : List Res} (o : Own R H L) (p : L'.Sublist L) : Own R H L' :=
  ⟨o.same, (p.map _).nodup o.nd, fun q hq => o.at' q (p.subset hq)⟩
theorem Own.free {R H : Hp} {L : List Res} (o : Own R H L) {p : Addr} (h : H p = none) : R p = none ∧ ∀ q ∈ L, q.1 ≠ p :=
  ⟨o.same.free h, fun q hq e => by
    have := (o.at' q hq).1
    rw [e, h] at this
    cases this⟩
theorem Own.alloc {R H : Hp} {L : List Res} (o : Own R H L) {p : Addr} {u : HO} (h : H p = none) : Own R (upd H p u) ((p, u) :: L) := by
  obtain ⟨f1, f2⟩ := o.free h
  refine ⟨fun b x e => ?_, ?_, fun q hq => ?_⟩
  · rw [upd_ne (ne_of_none e f1)]
    exact o.same b x e
  · rw [List.map_cons, List.nodup_cons]
    refine ⟨fun hm => ?_, o.nd⟩
    obtain ⟨q, hq, e⟩ := List.mem_map.mp hm
    exact f2 q hq e
  · rcases List.mem_cons.mp hq with rfl | hq
    · exact ⟨upd_same, f1⟩
    · rw [upd_ne (f2 q hq)]
      exact o.at' q hq
theorem Own.frz {R H : Hp} {L : List Res} (o : Own R H L) {p : Addr} {u : HO} (h : H p = none) : Own (upd R p u) (upd H p u) L := by
  obtain ⟨f1, f2⟩ := o.free h
  refine ⟨fun b x e => ?_, o.nd, fun q hq => ?_⟩
  · by_cases hb : b = p
    · subst hb
      rw [upd_same] at e ⊢
      exact e
    · rw [upd_ne hb] at e ⊢
      exact o.same b x e
  · rw [upd_ne (f2 q hq), upd_ne (f2 q hq)]
    exact o.at' q hq
theorem Own.freeze {R H : Hp} {L : List Res} {p : Addr} {u : HO} (o : Own R H ((p, u) :: L)) : Own (upd R p u) H L := by
  have hp := o.at' (p, u) List.mem_cons_self
  have nd := o.nd
  rw [List.map_cons, List.nodup_cons] at nd
  have f2 : ∀ q ∈ L, q.1 ≠ p := fun q hq e => nd.1 (List.mem_map.mpr ⟨q, hq, e⟩)
  refine ⟨fun b x e => ?_, nd.2, fun q hq => ?_⟩
  · by_cases hb : b = p
    · subst hb
      rw [upd_same] at e
      rw [← e]
      exact hp.1
    · rw [upd_ne hb] at e
      exact o.same b x e
  · rw [upd_ne (f2 q hq)]
    exact o.at' q (List.mem_cons_of_mem _ hq)
theorem Own.set {R H : Hp} {L : List Res} {p : Addr} {u u' : HO} (o : Own R H ((p, u) :: L)) : Own R (upd H p u') ((p, u') :: L) := by
  have hp := o.at' (p, u) List.mem_cons_self
  have nd := o.nd
  rw [List.map_cons, List.nodup_cons] at nd
  have f2 : ∀ q ∈ L, q.1 ≠ p := fun q hq e => nd.1 (List.mem_map.mpr ⟨q, hq, e⟩)
  refine ⟨fun b x e => ?_, o.nd, fun q hq => ?_⟩
  · rw [upd_ne (ne_of_none e hp.2)]
    exact o.same b x e
  · rcases List.mem_cons.mp hq with rfl | hq
    · exact ⟨upd_same, hp.2⟩
    · rw [upd_ne (f2 q hq)]
      exact o.at' q (List.mem_cons_of_mem _ hq)
theorem same_frz {R : Hp} {p : Addr} {u : HO} (h : R p = none) : Same R (upd R p u) := fun b x e => by
  rw [upd_ne (ne_of_none e h)]
  exact e

/-! ### two lists side by side with what they own -/
inductive All2 {α β : Type} (P : α → β → List Res → Prop) : List α → List β → List Res → Prop
  | nil : All2 P [] [] []
  | cons {a : α} {b : β} {l L : List Res} {as : List α} {bs : List β} : P a b l → All2 P as bs L → All2 P (a :: as) (b :: bs) (l ++ L)

section
variable {α β : Type} {P P' : α → β → List Res → Prop}
theorem All2.length : ∀ {as : List α} {bs : List β} {L : List Res}, All2 P as bs L → as.length = bs.length
  | _, _, _, .nil => rfl
  | _, _, _, .cons _ h => congrArg (· + 1) h.length
theorem All2.imp (h : ∀ a b l, P a b l → P' a b l) : ∀ {as : List α} {bs : List β} {L : List Res}, All2 P as bs L → All2 P' as bs L
  | _, _, _, .nil => .nil
  | _, _, _, .cons x y => .cons (h _ _ _ x) (All2.imp h y)
theorem All2.at : ∀ {as : List α} {bs : List β} {L : List Res} {i : Nat} {b : β}, All2 P as bs L → bs[i]? = some b →
    ∃ a l L1 L2, as[i]? = some a ∧ P a b l ∧ L = L1 ++ (l ++ L2) ∧ ∀ P' : α → β → List Res → Prop, (∀ a b l, P a b l → P' a b l) → ∀ a' b' l', P' a' b' l' → All2 P' (as.set i a') (bs.set i b') (L1 ++ (l' ++ L2))
  | _, _, _, _, _, .nil, e => by simp at e
  | _, _, _, 0, _, .cons (a := a) (l := l) (L := L) x y, e => by
    simp at e
    subst e
    exact ⟨a, l, [], L, rfl, x, rfl, fun P' hP a' b' l' h => by
      show All2 P' (a' :: _) (b' :: _) (l' ++ L)
      exact .cons h (All2.imp hP y)⟩
  | _, _, _, i + 1, b, .cons (a := a0) (l := l0) (L := L0) x y, e => by
    obtain ⟨a, l, L1, L2, h1, h2, h3, h4⟩ := All2.at (i := i) (b := b) y (by simpa using e)
    refine ⟨a, l, l0 ++ L1, L2, by simpa using h1, h2, by rw [h3, List.append_assoc], fun P' hP a' b' l' h => ?_⟩
    rw [List.append_assoc]
    exact .cons (hP _ _ _ x) (h4 P' hP a' b' l' h)
theorem All2.append : ∀ {as as' : List α} {bs bs' : List β} {L L' : List Res}, All2 P as bs L → All2 P as' bs' L' → All2 P (as ++ as') (bs ++ bs') (L ++ L')
  | _, _, _, _, _, _, .nil, h => h
  | _, _, _, _, _, _, .cons x y, h => by
    rw [List.append_assoc]
    exact .cons x (All2.append y h)
end

/-- a slot -/
inductive SlR (K : PySem.W.Frag) (ρ : List Addr) (R : Hp) : Option V → Sl → List Res → Prop
  | u {x : Option V} : SlR K ρ R x .u []
  | d {v : V} {x : D} : RD K ρ R v x → SlR K ρ R (some v) (.d x) []
  | own {p : Addr} {vs : List V} {xs : List D} : RDs K ρ R vs xs → SlR K ρ R (some (.ref p)) (.own xs) [(p, .lst vs)]

inductive RKs (K : PySem.W.Frag) (ρ : List Addr) (R : Hp) {κ : Type} : List (κ × V) → List (κ × D) → Prop
  | nil : RKs K ρ R [] []
  | cons {k : κ} {v : V} {d : D} {vs : List (κ × V)} {ds : List (κ × D)} : RD K ρ R v d → RKs K ρ R vs ds → RKs K ρ R ((k, v) :: vs) ((k, d) :: ds)

/-- a cell at an address -/
inductive CeR (C : Ctx) (ρ : List Addr) (R : Hp) : Addr → Cell → List Res → Prop
  | lst {a : Addr} {vs : List V} {xs : List D} : RDs C.K ρ R vs xs → CeR C ρ R a (.lst xs) [(a, .lst vs)]
  | dK {a : Addr} {vs : List (Key × V)} {xs : List (Key × D)} : RKs C.K ρ R vs xs → CeR C ρ R a (.dK xs) [(a, .dK vs)]
  | dT {a : Addr} {vs : List (List Key × V)} {xs : List (List Key × D)} : RKs C.K ρ R vs xs → CeR C ρ R a (.dT xs) [(a, .dT vs)]
  | ins {a dx : Addr} {c : Nat} {vs : List (Str × V)} {xs : List (Str × D)} : RKs C.K ρ R vs xs → CeR C ρ R a (.ins c xs) [(a, .ins (C.cm c) dx vs), (dx, .own a)]
  | gone {a : Addr} : CeR C ρ R a .gone []

section
variable {K : PySem.W.Frag} {ρ ρ' : List Addr} {R R' : Hp} {κ : Type}
theorem RKs.up (hp : ρ <+: ρ') (hr : Same R R') : ∀ {vs : List (κ × V)} {ds : List (κ × D)}, RKs K ρ R vs ds → RKs K ρ' R' vs ds
  | _, _, .nil => .nil
  | _, _, .cons h hs => .cons (h.up hp hr) (RKs.up hp hr hs)
theorem SlR.up (hp : ρ <+: ρ') (hr : Same R R') {x : Option V} {g : Sl} {l : List Res} : SlR K ρ R x g l → SlR K ρ' R' x g l
  | .u => .u
  | .d h => .d (h.up hp hr)
  | .own h => .own (h.up hp hr)
theorem CeR.up {C : Ctx} (hp : ρ <+: ρ') (hr : Same R R') {a : Addr} {g : Cell} {l : List Res} : CeR C ρ R a g l → CeR C ρ' R' a g l
  | .lst h => .lst (h.up hp hr)
  | .dK h => .dK (h.up hp hr)
  | .dT h => .dT (h.up hp hr)
  | .ins h => .ins (h.up hp hr)
  | .gone => .gone
theorem RKs.length : ∀ {vs : List (κ × V)} {ds : List (κ × D)}, RKs K ρ R vs ds → vs.length = ds.length
  | _, _, .nil => rfl
  | _, _, .cons _ h => congrArg (· + 1) h.length
end

/-- the state of a frame and all that is owned -/
def Sat (C : Ctx) (ρ : List Addr) (R : Hp) (F : List Res) (σ : St) (H : Hp) (m : MSt) : Prop :=
  ∃ ls lc, All2 (SlR C.K ρ R) σ m.g ls ∧ All2 (CeR C ρ R) ρ m.c lc ∧ Own R H (ls ++ (lc ++ F))

section
variable {C : Ctx} {ρ : List Addr} {R H : Hp} {F : List Res} {σ : St} {m : MSt} {p : Addr} {u : HO}
theorem Sat.same (S : Sat C ρ R F σ H m) : Same R H := by
  obtain ⟨_, _, _, _, o⟩ := S
  exact o.same
theorem Sat.len (S : Sat C ρ R F σ H m) : σ.length = m.g.length := by
  obtain ⟨_, _, h, _, _⟩ := S
  exact h.length
theorem Sat.clen (S : Sat C ρ R F σ H m) : ρ.length = m.c.length := by
  obtain ⟨_, _, _, h, _⟩ := S
  exact h.length
/-- a new object that never changes -/
theorem Sat.frz (S : Sat C ρ R F σ H m) (h : H p = none) : Sat C ρ (upd R p u) F σ (upd H p u) m ∧ Same R (upd R p u) := by
  obtain ⟨ls, lc, h1, h2, o⟩ := S
  have sm : Same R (upd R p u) := same_frz (o.free h).1
  exact ⟨⟨ls, lc, h1.imp fun _ _ _ x => x.up (List.prefix_refl _) sm, h2.imp fun _ _ _ x => x.up (List.prefix_refl _) sm, o.frz h⟩, sm⟩
theorem perm_front (A B : List Res) (x : Res) (F : List Res) : (x :: (A ++ (B ++ F))).Perm (A ++ (B ++ x :: F)) := by
  have h1 : (A ++ (B ++ x :: F)) = (A ++ B) ++ x :: F := by rw [List.append_assoc]
  have h2 : (x :: (A ++ (B ++ F))) = x :: ((A ++ B) ++ F) := by rw [List.append_assoc]
  rw [h1, h2]
  exact List.perm_middle.symm
/-- a new object that is owned by the one who holds it -/
theorem Sat.res (S : Sat C ρ R F σ H m) (h : H p = none) : Sat C ρ R ((p, u) :: F) σ (upd H p u) m := by
  obtain ⟨ls, lc, h1, h2, o⟩ := S
  exact ⟨ls, lc, h1, h2, (o.alloc h).perm (perm_front ls lc (p, u) F)⟩
theorem Sat.freeze (S : Sat C ρ R ((p, u) :: F) σ H m) : Sat C ρ (upd R p u) F σ H m ∧ Same R (upd R p u) := by
  obtain ⟨ls, lc, h1, h2, o⟩ := S
  have o' := o.perm (perm_front ls lc (p, u) F).symm
  have sm : Same R (upd R p u) := same_frz (o'.at' (p, u) List.mem_cons_self).2
  exact ⟨⟨ls, lc, h1.imp fun _ _ _ x => x.up (List.prefix_refl _) sm, h2.imp fun _ _ _ x => x.up (List.prefix_refl _) sm, o'.freeze⟩, sm⟩
theorem Sat.dropF {x : Res} (S : Sat C ρ R (x :: F) σ H m) : Sat C ρ R F σ H m := by
  obtain ⟨ls, lc, h1, h2, o⟩ := S
  refine ⟨ls, lc, h1, h2, o.sub ?_⟩
  exact (List.Sublist.refl ls).append ((List.Sublist.refl lc).append (List.sublist_cons_self _ _))
theorem Sat.resAt (S : Sat C ρ R ((p, u) :: F) σ H m) : H p = some u ∧ R p = none := by
  obtain ⟨ls, lc, h1, h2, o⟩ := S
  exact (o.perm (perm_front ls lc (p, u) F).symm).at' (p, u) List.mem_cons_self
theorem Sat.resSet {u' : HO} (S : Sat C ρ R ((p, u) :: F) σ H m) : Sat C ρ R ((p, u') :: F) σ (upd H p u') m := by
  obtain ⟨ls, lc, h1, h2, o⟩ := S
  exact ⟨ls, lc, h1, h2, (o.perm (perm_front ls lc (p, u) F).symm).set.perm (perm_front ls lc (p, u') F)⟩
/-- a slot that holds plain data -/
theorem Sat.slot {i : Nat} {d : D} (S : Sat C ρ R F σ H m) (h : m.g[i]? = some (.d d)) : ∃ v, σ[i]? = some (some v) ∧ RD C.K ρ R v d := by
  obtain ⟨ls, lc, h1, h2, o⟩ := S
  obtain ⟨a, l, L1, L2, e1, r, _, _⟩ := h1.at h
  cases r with
  | d r => exact ⟨_, e1, r⟩
theorem own_mid {L1 L2 M F : List Res} (x : Res) : (x :: (L1 ++ (L2 ++ (M ++ F)))).Perm ((L1 ++ ([x] ++ L2)) ++ (M ++ F)) := by
  have : (L1 ++ ([x] ++ L2)) ++ (M ++ F) = L1 ++ (x :: (L2 ++ (M ++ F))) := by simp
  rw [this]
  exact List.perm_middle.symm
theorem Sat.slotOwn {i : Nat} {xs : List D} (S : Sat C ρ R F σ H m) (h : m.g[i]? = some (.own xs)) : ∃ p vs, σ[i]? = some (some (.ref p)) ∧ H p = some (.lst vs) ∧ RDs C.K ρ R vs xs ∧
    (∀ vs' xs', RDs C.K ρ R vs' xs' → Sat C ρ R F σ (upd H p (.lst vs')) { m with g := m.g.set i (.own xs') }) ∧
    (Sat C ρ (upd R p (.lst vs)) F σ H { m with g := m.g.set i (.d (.lst xs)) } ∧ Same R (upd R p (.lst vs))) ∧ Sat C ρ R ((p, .lst vs) :: F) σ H { m with g := m.g.set i .u } := by
  obtain ⟨ls, lc, h1, h2, o⟩ := S
  obtain ⟨a, l, L1, L2, e1, r, eL, hs⟩ := h1.at h
  cases r with
  | @own p vs _ r =>
    have o' : Own R H ((p, HO.lst vs) :: (L1 ++ (L2 ++ (lc ++ F)))) := by
      rw [eL] at o
      exact o.perm (own_mid (p, HO.lst vs)).symm
    have hi : i < σ.length := (List.getElem?_eq_some_iff.mp e1).1
    have ea : σ.set i (some (V.ref p)) = σ := by
      apply List.ext_getElem?
      intro j
      by_cases hj : i = j
      · subst hj; rw [List.getElem?_set_self hi, e1]
      · rw [List.getElem?_set_ne hj]
    have hp := o'.at' (p, HO.lst vs) List.mem_cons_self
    refine ⟨p, vs, e1, hp.1, r, fun vs' xs' r' => ?_, ⟨?_, same_frz hp.2⟩, ?_⟩
    · have q := hs _ (fun _ _ _ x => x) (some (V.ref p)) (.own xs') [(p, .lst vs')] (.own r')
      rw [ea] at q
      exact ⟨_, lc, q, h2, o'.set.perm (own_mid (p, HO.lst vs'))⟩
    · have sm : Same R (upd R p (.lst vs)) := same_frz hp.2
      have q := hs (SlR C.K ρ (upd R p (.lst vs))) (fun _ _ _ x => x.up (List.prefix_refl _) sm) (some (V.ref p)) (.d (.lst xs)) [] (.d (.lst upd_same (r.up (List.prefix_refl _) sm)))
      rw [ea] at q
      refine ⟨_, lc, q, h2.imp fun _ _ _ x => x.up (List.prefix_refl _) sm, ?_⟩
      have := o'.freeze
      simpa using this
    · have q := hs _ (fun _ _ _ x => x) (some (V.ref p)) .u [] .u
      rw [ea] at q
      refine ⟨_, lc, q, h2, ?_⟩
      have e3 : (L1 ++ ([] ++ L2)) ++ (lc ++ (p, HO.lst vs) :: F) = (L1 ++ L2) ++ (lc ++ (p, HO.lst vs) :: F) := by simp
      rw [e3]
      have e4 : (p, HO.lst vs) :: (L1 ++ (L2 ++ (lc ++ F))) = (p, HO.lst vs) :: ((L1 ++ L2) ++ (lc ++ F)) := by simp
      rw [e4] at o'
      exact o'.perm (perm_front (L1 ++ L2) lc (p, HO.lst vs) F)
/-- a slot is stored -/
theorem Sat.set {i : Nat} {v : V} {d : D} (S : Sat C ρ R F σ H m) (r : RD C.K ρ R v d) : Sat C ρ R F (σ.set i (some v)) H { m with g := m.g.set i (.d d) } := by
  obtain ⟨ls, lc, h1, h2, o⟩ := S
  cases e : m.g[i]? with
  | none =>
    have hl := h1.length
    have hi : m.g.length ≤ i := List.getElem?_eq_none_iff.mp e
    rw [List.set_eq_of_length_le (by omega)]
    refine ⟨ls, lc, ?_, h2, o⟩
    show All2 _ σ (m.g.set i _) ls
    rw [List.set_eq_of_length_le hi]
    exact h1
  | some b =>
    obtain ⟨a, l, L1, L2, e1, r0, eL, hs⟩ := h1.at e
    refine ⟨_, lc, hs _ (fun _ _ _ x => x) (some v) (.d d) [] (.d r), h2, ?_⟩
    rw [eL] at o
    refine o.sub ?_
    exact ((List.Sublist.refl L1).append ((List.nil_sublist l).append (List.Sublist.refl L2))).append (List.Sublist.refl _)
theorem Sat.unset {i : Nat} {x : Option V} (S : Sat C ρ R F σ H m) : Sat C ρ R F (σ.set i x) H { m with g := m.g.set i .u } := by
  obtain ⟨ls, lc, h1, h2, o⟩ := S
  cases e : m.g[i]? with
  | none =>
    have hl := h1.length
    have hi : m.g.length ≤ i := List.getElem?_eq_none_iff.mp e
    rw [List.set_eq_of_length_le (by omega)]
    refine ⟨ls, lc, ?_, h2, o⟩
    show All2 _ σ (m.g.set i _) ls
    rw [List.set_eq_of_length_le hi]
    exact h1
  | some b =>
    obtain ⟨a, l, L1, L2, e1, r0, eL, hs⟩ := h1.at e
    refine ⟨_, lc, hs _ (fun _ _ _ x => x) x .u [] .u, h2, ?_⟩
    rw [eL] at o
    refine o.sub ?_
    exact ((List.Sublist.refl L1).append ((List.nil_sublist l).append (List.Sublist.refl L2))).append (List.Sublist.refl _)
theorem Sat.setOwn {i : Nat} {vs : List V} {xs : List D} (S : Sat C ρ R ((p, .lst vs) :: F) σ H m) (r : RDs C.K ρ R vs xs) : Sat C ρ R F (σ.set i (some (.ref p))) H { m with g := m.g.set i (.own xs) } := by
  obtain ⟨ls, lc, h1, h2, o⟩ := S
  cases e : m.g[i]? with
  | none =>
    have hl := h1.length
    have hi : m.g.length ≤ i := List.getElem?_eq_none_iff.mp e
    rw [List.set_eq_of_length_le (by omega)]
    refine ⟨ls, lc, ?_, h2, o.sub ?_⟩
    · show All2 _ σ (m.g.set i _) ls
      rw [List.set_eq_of_length_le hi]
      exact h1
    · exact (List.Sublist.refl ls).append ((List.Sublist.refl lc).append (List.sublist_cons_self _ _))
  | some b =>
    obtain ⟨a, l, L1, L2, e1, r0, eL, hs⟩ := h1.at e
    refine ⟨_, lc, hs _ (fun _ _ _ x => x) (some (.ref p)) (.own xs) [(p, .lst vs)] (.own r), h2, ?_⟩
    rw [eL] at o
    have o1 : Own R H ((L1 ++ L2) ++ (lc ++ (p, .lst vs) :: F)) := o.sub (by
      have : (L1 ++ L2).Sublist (L1 ++ (l ++ L2)) := (List.Sublist.refl L1).append (List.sublist_append_right l L2)
      exact this.append (List.Sublist.refl _))
    have o2 := o1.perm (perm_front (L1 ++ L2) lc (p, .lst vs) F).symm
    refine o2.perm ?_
    have e4 : (p, HO.lst vs) :: ((L1 ++ L2) ++ (lc ++ F)) = (p, HO.lst vs) :: (L1 ++ (L2 ++ (lc ++ F))) := by simp
    rw [e4]
    exact own_mid _
end
end MP

set_option Elab.async false
set_option linter.all false
set_option maxRecDepth 100000
set_option maxHeartbeats 4000000
namespace MP
open PySem L2

/-- an operand: plain data, or a slot's own list as it stands -/
inductive RO (K : PySem.W.Frag) (ρ : List Addr) (R : Hp) (σ : St) : V → D → Prop
  | d {v : V} {x : D} : RD K ρ R v x → RO K ρ R σ v x
  | sl {i : Nat} {v : V} : σ[i]? = some (some v) → RO K ρ R σ v (.sl i)
inductive ROs (K : PySem.W.Frag) (ρ : List Addr) (R : Hp) (σ : St) : List V → List D → Prop
  | nil : ROs K ρ R σ [] []
  | cons {v : V} {d : D} {vs : List V} {ds : List D} : RO K ρ R σ v d → ROs K ρ R σ vs ds → ROs K ρ R σ (v :: vs) (d :: ds)
/-- an exception's class and fields -/
def RX (C : Ctx) (ρ : List Addr) (R : Hp) (cls : Value) (d : Option Addr) (x : Exc) : Prop :=
  cls = .ref (C.cm x.c) ∧ ((d = none ∧ x.fs = []) ∨ ∃ dd vs, d = some dd ∧ R dd = some (.xd vs) ∧ RKs C.K ρ R vs x.fs)

section
variable {K : PySem.W.Frag} {ρ ρ' : List Addr} {R R' : Hp} {σ : St}
theorem RO.up (hp : ρ <+: ρ') (hr : Same R R') {v : V} {d : D} : RO K ρ R σ v d → RO K ρ' R' σ v d
  | .d h => .d (h.up hp hr)
  | .sl h => .sl h
theorem ROs.up (hp : ρ <+: ρ') (hr : Same R R') : ∀ {vs : List V} {ds : List D}, ROs K ρ R σ vs ds → ROs K ρ' R' σ vs ds
  | _, _, .nil => .nil
  | _, _, .cons a b => .cons (a.up hp hr) (ROs.up hp hr b)
theorem RX.up {C : Ctx} (hp : ρ <+: ρ') (hr : Same R R') {cls : Value} {d : Option Addr} {x : Exc} (h : RX C ρ R cls d x) : RX C ρ' R' cls d x := by
  obtain ⟨h1, h2⟩ := h
  refine ⟨h1, ?_⟩
  rcases h2 with h2 | ⟨dd, vs, e, h3, h4⟩
  · exact .inl h2
  · exact .inr ⟨dd, vs, e, hr _ _ h3, h4.up hp hr⟩
def solid : D → Bool
  | .sl _ => false
  | _ => true
theorem RO.rd {v : V} {d : D} (h : RO K ρ R σ v d) (s : solid d = true) : RD K ρ R v d := by
  cases h with
  | d h => exact h
  | sl h => cases s
end

/-! ### results -/
inductive Ctl where
  | nx | bk | ct | rt (a : DV)

def bnd {α β : Type} (r : Option (Rs α × MSt)) (f : α → MSt → Option (Rs β × MSt)) : Option (Rs β × MSt) :=
  match r with
  | none => none
  | some (.ok a, m) => f a m
  | some (.exc x, m) => some (.exc x, m)
/-- an operand comes: a new list counts as plain -/
def bndO {β : Type} (r : Option (Rs DV × MSt)) (f : D → MSt → Option (Rs β × MSt)) : Option (Rs β × MSt) :=
  match r with
  | none => none
  | some (.ok (.val d), m) => f d m
  | some (.ok (.own xs), m) => f (.lst xs) m
  | some (.exc x, m) => some (.exc x, m)
/-- plain data comes -/
def bndD {β : Type} (r : Option (Rs DV × MSt)) (f : D → MSt → Option (Rs β × MSt)) : Option (Rs β × MSt) :=
  bndO r fun d m => if solid d = true then f d m else none

/-- what a result must give -/
def Po {α : Type} (C : Ctx) (W : WX) (F : List Res) (σ : St) (hh : α → List Addr → Hp → Hp → MSt → Prop) (ρ : List Addr) (R : Hp) : Option (Rs α × MSt) → Prop
  | none => False
  | some (.ok a, m) => ∀ ρ' R' H', ρ <+: ρ' → Same R R' → hh a ρ' R' H' m
  | some (.exc x, m) => ∀ cls d ρ' R' H', ρ <+: ρ' → Same R R' → Sat C ρ' R' F σ H' m → RX C ρ' R' cls d x → W cls d σ H'
def hE (C : Ctx) (F : List Res) (σ : St) (Q : VK) : DV → List Addr → Hp → Hp → MSt → Prop
  | .val d => fun ρ R H m => ∀ v, Sat C ρ R F σ H m → RO C.K ρ R σ v d → Q v H
  | .own xs => fun ρ R H m => ∀ p vs, Sat C ρ R ((p, .lst vs) :: F) σ H m → RDs C.K ρ R vs xs → Q (.ref p) H
def hA (C : Ctx) (F : List Res) (σ : St) (Q : List V → Hp → Prop) : List D → List Addr → Hp → Hp → MSt → Prop :=
  fun ds ρ R H m => ∀ vs, Sat C ρ R F σ H m → ROs C.K ρ R σ vs ds → Q vs H
def hB (C : Ctx) (F : List Res) (σ : St) (Q : Bool → Hp → Prop) : Bool → List Addr → Hp → Hp → MSt → Prop :=
  fun b ρ R H m => Sat C ρ R F σ H m → Q b H
def PoS (C : Ctx) (W : WX) (F : List Res) (D : Ends) (ρ : List Addr) (R : Hp) : Option (Rs Ctl × MSt) → Prop
  | none => False
  | some (.ok .nx, m) => ∀ σ' ρ' R' H', ρ <+: ρ' → Same R R' → Sat C ρ' R' F σ' H' m → D.nx σ' H'
  | some (.ok .bk, m) => ∀ σ' ρ' R' H', ρ <+: ρ' → Same R R' → Sat C ρ' R' F σ' H' m → D.bk σ' H'
  | some (.ok .ct, m) => ∀ σ' ρ' R' H', ρ <+: ρ' → Same R R' → Sat C ρ' R' F σ' H' m → D.ct σ' H'
  | some (.ok (.rt (.val d)), m) => ∀ σ' ρ' R' H' v, ρ <+: ρ' → Same R R' → Sat C ρ' R' F σ' H' m → RD C.K ρ' R' v d → D.rt v H'
  | some (.ok (.rt (.own xs)), m) => ∀ σ' ρ' R' H' p vs, ρ <+: ρ' → Same R R' → Sat C ρ' R' ((p, .lst vs) :: F) σ' H' m → RDs C.K ρ' R' vs xs → D.rt (.ref p) H'
  | some (.exc x, m) => ∀ cls d σ' ρ' R' H', ρ <+: ρ' → Same R R' → Sat C ρ' R' F σ' H' m → RX C ρ' R' cls d x → W cls d σ' H'

/-- what bind needs of the wish -/
structure Wish {β : Type} (C : Ctx) (W : WX) (F : List Res) (σ : St) (P : List Addr → Hp → Option (Rs β × MSt) → Prop) : Prop where
  no : ∀ ρ R, ¬ P ρ R none
  up : ∀ ρ R ρ' R' r, ρ <+: ρ' → Same R R' → P ρ R r → P ρ' R' r
  ex : ∀ ρ R x m, P ρ R (some (.exc x, m)) → ∀ cls d ρ' R' H', ρ <+: ρ' → Same R R' → Sat C ρ' R' F σ H' m → RX C ρ' R' cls d x → W cls d σ H'
theorem po_wish {α : Type} {C : Ctx} {W : WX} {F : List Res} {σ : St} {hh : α → List Addr → Hp → Hp → MSt → Prop} : Wish C W F σ (Po C W F σ hh) where
  no := fun _ _ h => h
  up := fun ρ R ρ' R' r hp hr h => by
    match r, h with
    | some (.ok a, m), h => exact fun ρ2 R2 H2 p2 r2 => h ρ2 R2 H2 (hp.trans p2) (hr.trans r2)
    | some (.exc x, m), h => exact fun cls d ρ2 R2 H2 p2 r2 => h cls d ρ2 R2 H2 (hp.trans p2) (hr.trans r2)
  ex := fun ρ R x m h => h
theorem poS_wish {C : Ctx} {W : WX} {F : List Res} {σ : St} {D : Ends} : Wish C W F σ (PoS C W F D) where
  no := fun _ _ h => h
  up := fun ρ R ρ' R' r hp hr h => by
    match r, h with
    | some (.ok .nx, m), h => exact fun σ2 ρ2 R2 H2 p2 r2 => h σ2 ρ2 R2 H2 (hp.trans p2) (hr.trans r2)
    | some (.ok .bk, m), h => exact fun σ2 ρ2 R2 H2 p2 r2 => h σ2 ρ2 R2 H2 (hp.trans p2) (hr.trans r2)
    | some (.ok .ct, m), h => exact fun σ2 ρ2 R2 H2 p2 r2 => h σ2 ρ2 R2 H2 (hp.trans p2) (hr.trans r2)
    | some (.ok (.rt (.val d)), m), h => exact fun σ2 ρ2 R2 H2 v p2 r2 => h σ2 ρ2 R2 H2 v (hp.trans p2) (hr.trans r2)
    | some (.ok (.rt (.own d)), m), h => exact fun σ2 ρ2 R2 H2 p vs p2 r2 => h σ2 ρ2 R2 H2 p vs (hp.trans p2) (hr.trans r2)
    | some (.exc x, m), h => exact fun cls d σ2 ρ2 R2 H2 p2 r2 => h cls d σ2 ρ2 R2 H2 (hp.trans p2) (hr.trans r2)
  ex := fun ρ R x m h cls d ρ' R' H' => h cls d σ ρ' R' H'

abbrev Ev := MSt → Option (Rs DV × MSt)
abbrev EvA := MSt → Option (Rs (List D) × MSt)
abbrev EvB := MSt → Option (Rs Bool × MSt)
abbrev Ex := MSt → Option (Rs Ctl × MSt)

/-! ### the judgements: a reading follows a plain function -/
def SE (C : Ctx) (W : WX) (t : TE) (ev : Ev) : Prop := ∀ ρ R F σ H m (Q : VK), Sat C ρ R F σ H m → Po C W F σ (hE C F σ Q) ρ R (ev m) → t σ H Q
def SA (C : Ctx) (W : WX) (t : TA) (ev : EvA) : Prop := ∀ ρ R F σ H m (Q : List V → Hp → Prop), Sat C ρ R F σ H m → Po C W F σ (hA C F σ Q) ρ R (ev m) → t σ H Q
def SB (C : Ctx) (W : WX) (t : TT) (ev : EvB) : Prop := ∀ ρ R F σ H m (Q : Bool → Hp → Prop), Sat C ρ R F σ H m → Po C W F σ (hB C F σ Q) ρ R (ev m) → t σ H Q
def SS (C : Ctx) (W : WX) (t : TS) (ex : Ex) : Prop := ∀ ρ R F σ H m (D : Ends), Sat C ρ R F σ H m → PoS C W F D ρ R (ex m) → t D σ H

section
variable {C : Ctx} {W : WX} {ρ : List Addr} {R H : Hp} {F : List Res} {σ : St} {m : MSt}
theorem SE.bndO {β : Type} {P : List Addr → Hp → Option (Rs β × MSt) → Prop} {f : D → MSt → Option (Rs β × MSt)} {t : TE} {ev : Ev} {k : VK} (h : SE C W t ev) (S : Sat C ρ R F σ H m) (wi : Wish C W F σ P) (p : P ρ R (bndO (ev m) f))
    (K : ∀ ρ' R' H' v d m', ρ <+: ρ' → Same R R' → Sat C ρ' R' F σ H' m' → RO C.K ρ' R' σ v d → P ρ' R' (f d m') → k v H') : t σ H k := by
  refine h ρ R F σ H m k S ?_
  match ev m, p with
  | none, p => exact wi.no _ _ p
  | some (.ok (.val d), m'), p => exact fun ρ' R' H' hp hr v S' r => K ρ' R' H' v d m' hp hr S' r (wi.up _ _ _ _ _ hp hr p)
  | some (.ok (.own xs), m'), p =>
    intro ρ' R' H' hp hr q vs S' r
    obtain ⟨S2, sm⟩ := S'.freeze
    exact K ρ' _ H' (.ref q) (.lst xs) m' hp (hr.trans sm) S2 (.d (.lst upd_same (r.up (List.prefix_refl _) sm))) (wi.up _ _ _ _ _ hp (hr.trans sm) p)
  | some (.exc x, m'), p => exact wi.ex _ _ _ _ p
theorem SE.bndD {β : Type} {P : List Addr → Hp → Option (Rs β × MSt) → Prop} {f : D → MSt → Option (Rs β × MSt)} {t : TE} {ev : Ev} {k : VK} (h : SE C W t ev) (S : Sat C ρ R F σ H m) (wi : Wish C W F σ P) (p : P ρ R (bndD (ev m) f))
    (K : ∀ ρ' R' H' v d m', ρ <+: ρ' → Same R R' → Sat C ρ' R' F σ H' m' → RD C.K ρ' R' v d → P ρ' R' (f d m') → k v H') : t σ H k :=
  h.bndO S wi p fun ρ' R' H' v d m' hp hr S' r p' => by
    by_cases e : solid d = true
    · rw [if_pos e] at p'
      exact K ρ' R' H' v d m' hp hr S' (r.rd e) p'
    · rw [if_neg e] at p'
      exact (wi.no _ _ p').elim
theorem SA.bnd {β : Type} {P : List Addr → Hp → Option (Rs β × MSt) → Prop} {f : List D → MSt → Option (Rs β × MSt)} {t : TA} {ev : EvA} {k : List V → Hp → Prop} (h : SA C W t ev) (S : Sat C ρ R F σ H m) (wi : Wish C W F σ P) (p : P ρ R (bnd (ev m) f))
    (K : ∀ ρ' R' H' vs ds m', ρ <+: ρ' → Same R R' → Sat C ρ' R' F σ H' m' → ROs C.K ρ' R' σ vs ds → P ρ' R' (f ds m') → k vs H') : t σ H k := by
  refine h ρ R F σ H m k S ?_
  match ev m, p with
  | none, p => exact wi.no _ _ p
  | some (.ok ds, m'), p => exact fun ρ' R' H' hp hr vs S' r => K ρ' R' H' vs ds m' hp hr S' r (wi.up _ _ _ _ _ hp hr p)
  | some (.exc x, m'), p => exact wi.ex _ _ _ _ p
theorem SB.bnd {β : Type} {P : List Addr → Hp → Option (Rs β × MSt) → Prop} {f : Bool → MSt → Option (Rs β × MSt)} {t : TT} {ev : EvB} {k : Bool → Hp → Prop} (h : SB C W t ev) (S : Sat C ρ R F σ H m) (wi : Wish C W F σ P) (p : P ρ R (bnd (ev m) f))
    (K : ∀ ρ' R' H' b m', ρ <+: ρ' → Same R R' → Sat C ρ' R' F σ H' m' → P ρ' R' (f b m') → k b H') : t σ H k := by
  refine h ρ R F σ H m k S ?_
  match ev m, p with
  | none, p => exact wi.no _ _ p
  | some (.ok b, m'), p => exact fun ρ' R' H' hp hr S' => K ρ' R' H' b m' hp hr S' (wi.up _ _ _ _ _ hp hr p)
  | some (.exc x, m'), p => exact wi.ex _ _ _ _ p
/-- a value comes out -/
theorem Po.val {Q : VK} {d : D} {v : V} (p : Po C W F σ (hE C F σ Q) ρ R (some (.ok (.val d), m))) (S : Sat C ρ R F σ H m) (r : RO C.K ρ R σ v d) : Q v H := p ρ R H (List.prefix_refl _) (Same.refl _) v S r
theorem Po.own {Q : VK} {xs : List D} {q : Addr} {vs : List V} (p : Po C W F σ (hE C F σ Q) ρ R (some (.ok (.own xs), m))) (S : Sat C ρ R ((q, .lst vs) :: F) σ H m) (r : RDs C.K ρ R vs xs) : Q (.ref q) H := p ρ R H (List.prefix_refl _) (Same.refl _) q vs S r
/-- .. with the frozen part grown -/
theorem Po.valU {Q : VK} {d : D} {v : V} {R' : Hp} (p : Po C W F σ (hE C F σ Q) ρ R (some (.ok (.val d), m))) (sm : Same R R') (S : Sat C ρ R' F σ H m) (r : RO C.K ρ R' σ v d) : Q v H := p ρ R' H (List.prefix_refl _) sm v S r
end

/-! ### expressions -/
def evC (d : D) : Ev := fun m => some (.ok (.val d), m)
@[simp] def evVar (i : Nat) : Ev := fun m => match m.g[i]? with
  | some (.d d) => some (.ok (.val d), m)
  | some (.own xs) => some (.ok (.val (.lst xs)), { m with g := m.g.set i (.d (.lst xs)) })
  | _ => none
/-- the slot's own list is looked at, and stays its own -/
@[simp] def evPeek (i : Nat) : Ev := fun m => match m.g[i]? with
  | some (.d d) => some (.ok (.val d), m)
  | some (.own _) => some (.ok (.val (.sl i)), m)
  | _ => none
/-- the slot's own list goes out -/
@[simp] def evTake (i : Nat) : Ev := fun m => match m.g[i]? with
  | some (.d d) => some (.ok (.val d), m)
  | some (.own xs) => some (.ok (.own xs), { m with g := m.g.set i .u })
  | _ => none
def ev2 (f : D → D → MSt → Option (Rs DV × MSt)) (a b : Ev) : Ev := fun m => bndO (a m) fun d m1 => bndO (b m1) fun e m2 => f d e m2
def ev1 (f : D → MSt → Option (Rs DV × MSt)) (a : Ev) : Ev := fun m => bndO (a m) f

def SO1 (C : Ctx) (W : WX) (r : V → Hp → VK → Prop) (f : D → MSt → Option (Rs DV × MSt)) : Prop :=
  ∀ ρ R F σ H m (Q : VK) x d, Sat C ρ R F σ H m → RO C.K ρ R σ x d → Po C W F σ (hE C F σ Q) ρ R (f d m) → r x H Q
def SO2 (C : Ctx) (W : WX) (r : R2) (f : D → D → MSt → Option (Rs DV × MSt)) : Prop :=
  ∀ ρ R F σ H m (Q : VK) x d y e, Sat C ρ R F σ H m → RO C.K ρ R σ x d → RO C.K ρ R σ y e → Po C W F σ (hE C F σ Q) ρ R (f d e m) → r x y H Q
def SOA (C : Ctx) (W : WX) (r : List V → Hp → VK → Prop) (f : List D → MSt → Option (Rs DV × MSt)) : Prop :=
  ∀ ρ R F σ H m (Q : VK) xs ds, Sat C ρ R F σ H m → ROs C.K ρ R σ xs ds → Po C W F σ (hE C F σ Q) ρ R (f ds m) → r xs H Q

section
variable {C : Ctx} {W : WX} {ta tb te : TE} {a b e : Ev} {tt tu : TT} {bt bu : EvB} {tr : TA} {ar : EvA}
theorem se_c {v : V} {d : D} (h : ∀ ρ R, RD C.K ρ R v d) : SE C W (tC v) (evC d) := fun ρ R F σ H m Q S p => p.val S (.d (h ρ R))
theorem se_int {i : Int} : SE C W (tC (.int i)) (evC (.int i)) := se_c fun _ _ => .int i
theorem se_bl {i : Bool} : SE C W (tC (.bl i)) (evC (.bl i)) := se_c fun _ _ => .bl i
theorem se_str {i : Str} : SE C W (tC (.str i)) (evC (.str i)) := se_c fun _ _ => .str i
theorem se_non : SE C W (tC .non) (evC .non) := se_c fun _ _ => .non
theorem se_ty {i : String} : SE C W (tC (.ty i)) (evC (.ty i)) := se_c fun _ _ => .ty i
theorem se_var {i : Nat} : SE C W (tVar i) (evVar i) := fun ρ R F σ H m Q S p => by
  unfold evVar at p
  match e : m.g[i]?, p with
  | some (.d d), p =>
    obtain ⟨v, h1, h2⟩ := S.slot e
    exact ⟨v, h1, p.val S (.d h2)⟩
  | some (.own xs), p =>
    obtain ⟨q, vs, h1, h2, r, _, ⟨S2, sm⟩, _⟩ := S.slotOwn e
    exact ⟨.ref q, h1, p.valU sm S2 (.d (.lst upd_same (r.up (List.prefix_refl _) sm)))⟩
theorem se_peek {i : Nat} : SE C W (tVar i) (evPeek i) := fun ρ R F σ H m Q S p => by
  unfold evPeek at p
  match e : m.g[i]?, p with
  | some (.d d), p =>
    obtain ⟨v, h1, h2⟩ := S.slot e
    exact ⟨v, h1, p.val S (.d h2)⟩
  | some (.own xs), p =>
    obtain ⟨q, vs, h1, _⟩ := S.slotOwn e
    exact ⟨.ref q, h1, p.val S (.sl h1)⟩
theorem se_take {i : Nat} : SE C W (tVar i) (evTake i) := fun ρ R F σ H m Q S p => by
  unfold evTake at p
  match e : m.g[i]?, p with
  | some (.d d), p =>
    obtain ⟨v, h1, h2⟩ := S.slot e
    exact ⟨v, h1, p.val S (.d h2)⟩
  | some (.own xs), p =>
    obtain ⟨q, vs, h1, h2, r, _, _, S3⟩ := S.slotOwn e
    exact ⟨.ref q, h1, p.own S3 r⟩
theorem se_op {r : R2} {f : D → D → MSt → Option (Rs DV × MSt)} (h1 : SE C W ta a) (h2 : SE C W tb b) (h : SO2 C W r f) : SE C W (tOp r ta tb) (ev2 f a b) := fun ρ R F σ H m Q S p =>
  h1.bndO S po_wish p fun ρ1 R1 H1 x d m1 p1 r1 S1 o1 q1 => h2.bndO S1 po_wish q1 fun ρ2 R2 H2 y e m2 p2 r2 S2 o2 q2 => h ρ2 R2 F σ H2 m2 Q x d y e S2 (o1.up p2 r2) o2 q2
theorem se_un {r : V → Hp → VK → Prop} {f : D → MSt → Option (Rs DV × MSt)} (h1 : SE C W ta a) (h : SO1 C W r f) : SE C W (tUn r ta) (ev1 f a) := fun ρ R F σ H m Q S p =>
  h1.bndO S po_wish p fun ρ1 R1 H1 x d m1 p1 r1 S1 o1 q1 => h ρ1 R1 F σ H1 m1 Q x d S1 o1 q1

/-! whole numbers -/
def fI (g : Int → Int → D) (c : Int → Int → Bool) : D → D → MSt → Option (Rs DV × MSt)
  | .int i, .int j, m => if c i j = true then some (.ok (.val (g i j)), m) else none
  | _, _, _ => none
theorem RO.int {K : PySem.W.Frag} {ρ : List Addr} {R : Hp} {σ : St} {x : V} {i : Int} (h : RO K ρ R σ x (.int i)) : x = .int i := by
  cases h with
  | d h => cases h; rfl
theorem RO.bl {K : PySem.W.Frag} {ρ : List Addr} {R : Hp} {σ : St} {x : V} {i : Bool} (h : RO K ρ R σ x (.bl i)) : x = .bl i := by
  cases h with
  | d h => cases h; rfl
theorem RO.str {K : PySem.W.Frag} {ρ : List Addr} {R : Hp} {σ : St} {x : V} {i : Str} (h : RO K ρ R σ x (.str i)) : x = .str i := by
  cases h with
  | d h => cases h; rfl
theorem RO.non {K : PySem.W.Frag} {ρ : List Addr} {R : Hp} {σ : St} {x : V} (h : RO K ρ R σ x .non) : x = .non := by
  cases h with
  | d h => cases h; rfl
theorem so_I {c : Int → Int → Bool} {P : Int → Int → Prop} {gV : Int → Int → V} {g : Int → Int → D} (hc : ∀ i j, c i j = true → P i j) (hg : ∀ i j K ρ R, RD K ρ R (gV i j) (g i j)) : SO2 C W (rI P gV) (fI g c) := fun ρ R F σ H m Q x d y e S o1 o2 p => by
  unfold fI at p
  split at p
  · rename_i i j
    by_cases h : c i j = true
    · rw [if_pos h] at p
      exact ⟨i, j, o1.int, o2.int, hc _ _ h, p.val S (.d (hg _ _ _ _ _))⟩
    · rw [if_neg h] at p
      exact p.elim
  · exact p.elim
theorem so_I0 {c : Int → Int → Bool} {gV : Int → Int → V} {g : Int → Int → D} (hg : ∀ i j K ρ R, RD K ρ R (gV i j) (g i j)) : SO2 C W (rI0 gV) (fI g c) := fun ρ R F σ H m Q x d y e S o1 o2 p => by
  unfold fI at p
  split at p
  · rename_i i j
    by_cases h : c i j = true
    · rw [if_pos h] at p
      exact ⟨i, j, o1.int, o2.int, p.val S (.d (hg _ _ _ _ _))⟩
    · rw [if_neg h] at p
      exact p.elim
  · exact p.elim
def cT : Int → Int → Bool := fun _ _ => true
def fAdd := fI (fun i j => .int (i + j)) cT
def fSub := fI (fun i j => .int (i - j)) cT
def cMul : Int → Int → Bool := fun i j => decide (i.natAbs < 18446744073709551616) || decide (j.natAbs < 18446744073709551616)
def fMul := fI (fun i j => .int (i * j)) cMul
def cDiv : Int → Int → Bool := fun _ j => decide (0 < j) && decide (j.natAbs < 1073741824)
def fDiv := fI (fun i j => .int (i / j)) cDiv
def fMod := fI (fun i j => .int (i % j)) fun _ j => decide (0 < j)
def cShl : Int → Int → Bool := fun i j => decide (0 ≤ j) && decide (j ≤ 1000000) && decide (i.natAbs < 2 ^ 64)
def fShl := fI (fun i j => .int (i * 2 ^ j.toNat)) cShl
def fPow := fI (fun i j => .int (i ^ j.toNat)) cShl
def fShr := fI (fun i j => .int (i / 2 ^ j.toNat)) fun _ j => decide (0 ≤ j)
def fAnd := fI (fun i j => .int (Builtin.bitAnd i j)) cT
def fOr := fI (fun i j => .int (Builtin.bitOr i j)) cT
def fXor := fI (fun i j => .int (Builtin.bitXor i j)) cT
def fLt := fI (fun i j => .bl (decide (i < j))) cT
def fLe := fI (fun i j => .bl (decide (i ≤ j))) cT
def fGt := fI (fun i j => .bl (decide (j < i))) cT
def fGe := fI (fun i j => .bl (decide (j ≤ i))) cT
theorem so_add : SO2 C W (rI0 fun i j => .int (i + j)) fAdd := so_I0 fun _ _ _ _ _ => .int _
theorem so_sub : SO2 C W (rI0 fun i j => .int (i - j)) fSub := so_I0 fun _ _ _ _ _ => .int _
theorem so_mul : SO2 C W (rI CMul fun i j => .int (i * j)) fMul := so_I (fun i j h => by
  unfold cMul at h
  simp only [Bool.or_eq_true, decide_eq_true_eq] at h
  have e : (2 : Int) ^ 64 = 18446744073709551616 := by decide
  show (-(2 ^ 64) < i ∧ i < 2 ^ 64) ∨ (-(2 ^ 64) < j ∧ j < 2 ^ 64)
  rw [e]
  omega) fun _ _ _ _ _ => .int _
theorem so_div : SO2 C W (rI CDiv fun i j => .int (i / j)) fDiv := so_I (fun i j h => by
  unfold cDiv at h
  simp only [Bool.and_eq_true, decide_eq_true_eq] at h
  exact ⟨h.1, by omega⟩) fun _ _ _ _ _ => .int _
theorem so_mod : SO2 C W (rI (fun _ j => 0 < j) fun i j => .int (i % j)) fMod := so_I (fun i j h => of_decide_eq_true h) fun _ _ _ _ _ => .int _
theorem so_shl : SO2 C W (rI CPow fun i j => .int (i * 2 ^ j.toNat)) fShl := so_I (fun i j h => by
  unfold cShl at h
  simp only [Bool.and_eq_true, decide_eq_true_eq] at h
  exact ⟨h.1.1, h.1.2, h.2⟩) fun _ _ _ _ _ => .int _
theorem so_pow : SO2 C W (rI CPow fun i j => .int (i ^ j.toNat)) fPow := so_I (fun i j h => by
  unfold cShl at h
  simp only [Bool.and_eq_true, decide_eq_true_eq] at h
  exact ⟨h.1.1, h.1.2, h.2⟩) fun _ _ _ _ _ => .int _
theorem so_shr : SO2 C W (rI (fun _ j => 0 ≤ j) fun i j => .int (i / 2 ^ j.toNat)) fShr := so_I (fun i j h => of_decide_eq_true h) fun _ _ _ _ _ => .int _
theorem so_and : SO2 C W (rI0 fun i j => .int (Builtin.bitAnd i j)) fAnd := so_I0 fun _ _ _ _ _ => .int _
theorem so_or : SO2 C W (rI0 fun i j => .int (Builtin.bitOr i j)) fOr := so_I0 fun _ _ _ _ _ => .int _
theorem so_xor : SO2 C W (rI0 fun i j => .int (Builtin.bitXor i j)) fXor := so_I0 fun _ _ _ _ _ => .int _
theorem so_lt : SO2 C W (rI0 fun i j => .bl (decide (i < j))) fLt := so_I0 fun _ _ _ _ _ => .bl _
theorem so_le : SO2 C W (rI0 fun i j => .bl (decide (i ≤ j))) fLe := so_I0 fun _ _ _ _ _ => .bl _
theorem so_gt : SO2 C W (rI0 fun i j => .bl (decide (j < i))) fGt := so_I0 fun _ _ _ _ _ => .bl _
theorem so_ge : SO2 C W (rI0 fun i j => .bl (decide (j ≤ i))) fGe := so_I0 fun _ _ _ _ _ => .bl _

/-! equality of flat things -/
def scalD : D → D → Bool
  | .non, .non => true | .non, .int _ => true | .int _, .non => true | .non, .str _ => true | .str _, .non => true | .non, .bl _ => true | .bl _, .non => true
  | .int _, .int _ => true | .bl _, .bl _ => true | .str _, .str _ => true
  | _, _ => false
end
end MP

set_option Elab.async false
set_option linter.all false
set_option maxRecDepth 100000
set_option maxHeartbeats 4000000
namespace MP
open PySem L2

/-! ### lists and tuples as they may be read -/
@[simp] def lsO (m : MSt) : D → Option (List D)
  | .lst xs => some xs
  | .lstK xs => some xs
  | .ref id => match m.c[id]? with | some (.lst xs) => some xs | _ => none
  | .sl i => match m.g[i]? with | some (.own xs) => some xs | _ => none
  | _ => none
def szOk (n : Nat) : Bool := decide (n ≤ 16777216)
theorem szOk_le {n : Nat} (h : szOk n = true) : n ≤ sizeLine := by
  have := of_decide_eq_true h
  rw [sizeLine_eq]
  omega
theorem szOk_lt {n : Nat} (h : szOk (n + 1) = true) : n < sizeLine := by
  have := of_decide_eq_true h
  rw [sizeLine_eq]
  omega

section
variable {C : Ctx} {W : WX} {ρ : List Addr} {R H : Hp} {F : List Res} {σ : St} {m : MSt}
theorem Sat.cell {id : Nat} {ce : Cell} (S : Sat C ρ R F σ H m) (h : m.c[id]? = some ce) : ∃ a l, ρ[id]? = some a ∧ CeR C ρ R a ce l ∧ (∀ p ∈ l, H p.1 = some p.2 ∧ R p.1 = none) := by
  obtain ⟨ls, lc, h1, h2, o⟩ := S
  obtain ⟨a, l, L1, L2, e1, r, eL, _⟩ := h2.at h
  refine ⟨a, l, e1, r, fun p hp => o.at' p ?_⟩
  rw [eL]
  exact List.mem_append_right _ (List.mem_append_left _ (List.mem_append_right _ (List.mem_append_left _ hp)))
theorem lsO_ref {id : Nat} {xs : List D} (h : lsO m (.ref id) = some xs) : m.c[id]? = some (.lst xs) := by
  unfold lsO at h
  simp only at h
  split at h
  · rename_i ys e
    cases h
    exact e
  · cases h
theorem lsO_sl {i : Nat} {xs : List D} (h : lsO m (.sl i) = some xs) : m.g[i]? = some (.own xs) := by
  unfold lsO at h
  simp only at h
  split at h
  · rename_i ys e
    cases h
    exact e
  · cases h
theorem ls_ok {v : V} {d : D} {xs : List D} (S : Sat C ρ R F σ H m) (r : RO C.K ρ R σ v d) (h : lsO m d = some xs) : ∃ a vs, v = .ref a ∧ SqL C.K H a vs ∧ RDs C.K ρ R vs xs := by
  cases r with
  | d r =>
    cases r with
    | lst h1 h2 =>
      cases h
      exact ⟨_, _, rfl, SqL.of (S.same _ _ h1), h2⟩
    | lstK h1 h2 =>
      cases h
      exact ⟨_, _, rfl, S.same.seq h1, h2⟩
    | ref h1 =>
      have e2 := lsO_ref h
      obtain ⟨a, l, e3, r3, hl⟩ := S.cell e2
      rw [h1] at e3
      cases e3
      cases r3 with
      | lst r3 => exact ⟨_, _, rfl, SqL.of (hl _ (List.mem_singleton.mpr rfl)).1, r3⟩
    | _ => cases h
  | sl r =>
    have e := lsO_sl h
    obtain ⟨p, vs, e1, hp, r1, _⟩ := S.slotOwn e
    rw [r] at e1
    cases e1
    exact ⟨_, _, rfl, SqL.of hp, r1⟩
@[simp] def tpO : D → Option (List D)
  | .tup xs => some xs
  | .tupK xs => some xs
  | _ => none
theorem tup_ok {v : V} {d : D} {xs : List D} (S : Sat C ρ R F σ H m) (r : RO C.K ρ R σ v d) (h : tpO d = some xs) : ∃ a vs, v = .ref a ∧ SqT C.K H a vs ∧ RDs C.K ρ R vs xs := by
  cases r with
  | d r =>
    cases r with
    | tup h1 h2 =>
      cases h
      exact ⟨_, _, rfl, SqT.of (S.same _ _ h1), h2⟩
    | tupK h1 h2 =>
      cases h
      exact ⟨_, _, rfl, same_t S.same h1, h2⟩
    | _ => cases h
  | sl r => cases h
/-- a new list comes out -/
theorem Po.newL {Q : VK} {xs : List D} {p : Addr} {vs : List V} (P : Po C W F σ (hE C F σ Q) ρ R (some (.ok (.own xs), m))) (S : Sat C ρ R F σ H m) (h : H p = none) (r : RDs C.K ρ R vs xs) : Q (.ref p) (upd H p (.lst vs)) :=
  P.own (S.res h) r
/-- a new tuple comes out -/
theorem Po.newT {Q : VK} {xs : List D} {p : Addr} {vs : List V} (P : Po C W F σ (hE C F σ Q) ρ R (some (.ok (.val (.tup xs)), m))) (S : Sat C ρ R F σ H m) (h : H p = none) (r : RDs C.K ρ R vs xs) : Q (.ref p) (upd H p (.tup vs)) := by
  obtain ⟨S2, sm⟩ := S.frz (u := .tup vs) h
  exact P.valU sm S2 (.d (.tup upd_same (r.up (List.prefix_refl _) sm)))
end

/-! ### == and != -/
mutual
def pyD : D → PyData
  | .non => .none
  | .bl b => .bool b
  | .int i => .int i
  | .str s => .str s
  | .lst xs => .list (pyDs xs)
  | .tup xs => .tuple (pyDs xs)
  | .lstK xs => .list (pyDs xs)
  | .tupK xs => .tuple (pyDs xs)
  | _ => .none
def pyDs : List D → List PyData
  | [] => []
  | d :: ds => pyD d :: pyDs ds
end
mutual
/-- plain through and through, not deeper than n -/
def okD : Nat → D → Bool
  | _, .non => true
  | _, .bl _ => true
  | _, .int _ => true
  | _, .str s => PyData.strOk s
  | n + 1, .lst xs => okDs n xs
  | n + 1, .tup xs => okDs n xs
  | n + 1, .lstK xs => okDs n xs
  | n + 1, .tupK xs => okDs n xs
  | _, _ => false
def okDs : Nat → List D → Bool
  | _, [] => true
  | n, d :: ds => okD n d && okDs n ds
end
mutual
theorem RD.dp {K : PySem.W.Frag} {ρ : List Addr} {R : Hp} : ∀ {n : Nat} {v : V} {d : D}, RD K ρ R v d → okD n d = true → Dp K R v (pyD d)
  | _, _, _, .non, _ => by unfold pyD; exact .non
  | _, _, _, .bl b, _ => by unfold pyD; exact .bl b
  | _, _, _, .int i, _ => by unfold pyD; exact .int i
  | _, _, _, .str s, _ => by unfold pyD; exact .str s
  | n, _, _, .ty _, h => by cases n <;> simp [okD] at h
  | 0, _, _, .lst h1 h2, h => by simp [okD] at h
  | n + 1, _, _, .lst h1 h2, h => by
    unfold okD at h
    unfold pyD
    exact .lst (SqL.of h1) (RDs.dp h2 h)
  | 0, _, _, .lstK h1 h2, h => by simp [okD] at h
  | n + 1, _, _, .lstK h1 h2, h => by
    unfold okD at h
    unfold pyD
    exact .lst h1 (RDs.dp h2 h)
  | 0, _, _, .tup h1 h2, h => by simp [okD] at h
  | n + 1, _, _, .tup h1 h2, h => by
    unfold okD at h
    unfold pyD
    exact .tup (SqT.of h1) (RDs.dp h2 h)
  | 0, _, _, .tupK h1 h2, h => by simp [okD] at h
  | n + 1, _, _, .tupK h1 h2, h => by
    unfold okD at h
    unfold pyD
    exact .tup h1 (RDs.dp h2 h)
  | n, _, _, .ref _, h => by cases n <;> simp [okD] at h
theorem RDs.dp {K : PySem.W.Frag} {ρ : List Addr} {R : Hp} : ∀ {n : Nat} {vs : List V} {ds : List D}, RDs K ρ R vs ds → okDs n ds = true → DpAll K R vs (pyDs ds)
  | _, _, _, .nil, _ => by unfold pyDs; exact .nil
  | n, _, _, .cons a b, h => by
    unfold okDs at h
    obtain ⟨h1, h2⟩ := Bool.and_eq_true_iff.mp h
    unfold pyDs
    exact .cons (RD.dp a h1) (RDs.dp b h2)
end
mutual
theorem okD_lay : ∀ (n : Nat) (d : D), okD n d = true → (pyD d).canLay0 = true ∧ (pyD d).depth ≤ n
  | n, .non, _ => by simp [pyD, PyData.canLay0, PyData.depth]
  | n, .bl b, _ => by simp [pyD, PyData.canLay0, PyData.depth]
  | n, .int b, _ => by simp [pyD, PyData.canLay0, PyData.depth]
  | n, .str s, h => by
    unfold okD at h
    simp [pyD, PyData.canLay0, PyData.depth, h]
  | n, .ty _, h => by cases n <;> simp [okD] at h
  | 0, .lst xs, h => by simp [okD] at h
  | n + 1, .lst xs, h => by
    unfold okD at h
    obtain ⟨h1, h2⟩ := okDs_lay n xs h
    simp [pyD, PyData.canLay0, PyData.depth, h1]
    omega
  | 0, .tup xs, h => by simp [okD] at h
  | n + 1, .tup xs, h => by
    unfold okD at h
    obtain ⟨h1, h2⟩ := okDs_lay n xs h
    simp [pyD, PyData.canLay0, PyData.depth, h1]
    omega
  | 0, .lstK xs, h => by simp [okD] at h
  | n + 1, .lstK xs, h => by
    unfold okD at h
    obtain ⟨h1, h2⟩ := okDs_lay n xs h
    simp [pyD, PyData.canLay0, PyData.depth, h1]
    omega
  | 0, .tupK xs, h => by simp [okD] at h
  | n + 1, .tupK xs, h => by
    unfold okD at h
    obtain ⟨h1, h2⟩ := okDs_lay n xs h
    simp [pyD, PyData.canLay0, PyData.depth, h1]
    omega
  | n, .ref _, h => by cases n <;> simp [okD] at h
  | n, .sl _, h => by cases n <;> simp [okD] at h
theorem okDs_lay : ∀ (n : Nat) (ds : List D), okDs n ds = true → PyData.canLayAll0 (pyDs ds) = true ∧ PyData.depthAll (pyDs ds) ≤ n
  | n, [], _ => by simp [pyDs, PyData.canLayAll0, PyData.depthAll]
  | n, d :: ds, h => by
    unfold okDs at h
    obtain ⟨h1, h2⟩ := Bool.and_eq_true_iff.mp h
    obtain ⟨a1, a2⟩ := okD_lay n d h1
    obtain ⟨b1, b2⟩ := okDs_lay n ds h2
    simp [pyDs, PyData.canLayAll0, PyData.depthAll, a1, b1]
    omega
end
theorem okD_shaped {d : D} (h : okD 60 d = true) : SeqAt.shaped (pyD d) = true := by
  obtain ⟨h1, h2⟩ := okD_lay 60 d h
  unfold SeqAt.shaped
  rw [h1, decide_eq_true (by omega)]
  rfl
mutual
theorem Dp.upS {K : PySem.W.Frag} {H H' : Hp} (hs : Same H H') : ∀ {v : V} {d : PyData}, Dp K H v d → Dp K H' v d
  | _, _, .non => .non
  | _, _, .bl b => .bl b
  | _, _, .int b => .int b
  | _, _, .str b => .str b
  | _, _, .lst h1 h2 => .lst (hs.seq h1) (DpAll.upS hs h2)
  | _, _, .tup h1 h2 => .tup (same_t hs h1) (DpAll.upS hs h2)
theorem DpAll.upS {K : PySem.W.Frag} {H H' : Hp} (hs : Same H H') : ∀ {v : List V} {d : List PyData}, DpAll K H v d → DpAll K H' v d
  | _, _, .nil => .nil
  | _, _, .cons a b => .cons (Dp.upS hs a) (DpAll.upS hs b)
end
/-- an operand as plain data, its own list opened -/
def topD (m : MSt) (d : D) : D := match lsO m d with
  | some xs => .lst xs
  | none => d
theorem dp_ok {C : Ctx} {ρ : List Addr} {R H : Hp} {F : List Res} {σ : St} {m : MSt} {v : V} {d : D} (S : Sat C ρ R F σ H m) (r : RO C.K ρ R σ v d) (h : okD 60 (topD m d) = true) : Dp C.K H v (pyD (topD m d)) := by
  unfold topD at h ⊢
  cases e : lsO m d with
  | some xs =>
    rw [e] at h
    obtain ⟨a, vs, rfl, h1, h2⟩ := ls_ok S r e
    unfold pyD
    unfold okD at h
    exact .lst h1 (DpAll.upS S.same (h2.dp h))
  | none =>
    rw [e] at h
    cases r with
    | d r => exact Dp.upS S.same (r.dp h)
    | sl r => simp [okD] at h
def eqB (m : MSt) (d e : D) : Bool := PyData.eqv (pyD (topD m d)) (pyD (topD m e))
def fEq : D → D → MSt → Option (Rs DV × MSt) := fun d e m => match d, e with
  | .str a, .str b => some (.ok (.val (.bl (decide (a = b)))), m)
  | d, e => if okD 60 (topD m d) && okD 60 (topD m e) then some (.ok (.val (.bl (eqB m d e))), m) else none
def fNe : D → D → MSt → Option (Rs DV × MSt) := fun d e m => match d, e with
  | .str a, .str b => some (.ok (.val (.bl (!decide (a = b)))), m)
  | d, e => if okD 60 (topD m d) && okD 60 (topD m e) then some (.ok (.val (.bl (!eqB m d e))), m) else none
/-- two rules for one operation -/
def rOr (r r' : R2) : R2 := fun x y H Q => r x y H Q ∨ r' x y H Q
theorem OpR.or {X : Cx} {f : Value → Value → Sem Value} {r r' : R2} (h : OpR X f r) (h' : OpR X f r') : OpR X f (rOr r r') := by
  intro pins s σ H x y v u Q I rx ry q
  rcases q with q | q
  · exact h pins s σ H x y v u Q I rx ry q
  · exact h' pins s σ H x y v u Q I rx ry q
theorem op_eqA {X : Cx} (hu : X.A.units + 64 < cLine) : OpR X (compareOp .Eq) (rOr rEq (rEqD X.K)) := OpR.or op_eq (op_eqD hu)
theorem op_neA {X : Cx} (hu : X.A.units + 64 < cLine) : OpR X (compareOp .NotEq) (rOr rNe (rNeD X.K)) := OpR.or op_ne (op_neD hu)
section
variable {C : Ctx} {W : WX}
theorem so_eq : SO2 C W (rOr rEq (rEqD C.K)) fEq := fun ρ R F σ H m Q x d y e S o1 o2 p => by
  unfold fEq at p
  split at p
  · rename_i a b
    have e1 := o1.str
    have e2 := o2.str
    subst e1 e2
    refine .inl ⟨rfl, ?_⟩
    have : decide (V.str a = V.str b) = decide (a = b) := by
      rw [Bool.eq_iff_iff]
      simp
    rw [this]
    exact p.val S (.d (.bl _))
  · split at p
    · rename_i h
      obtain ⟨h1, h2⟩ := Bool.and_eq_true_iff.mp h
      exact .inr ⟨_, _, dp_ok S o1 h1, dp_ok S o2 h2, okD_shaped h1, okD_shaped h2, p.val S (.d (.bl _))⟩
    · exact p.elim
theorem so_ne : SO2 C W (rOr rNe (rNeD C.K)) fNe := fun ρ R F σ H m Q x d y e S o1 o2 p => by
  unfold fNe at p
  split at p
  · rename_i a b
    have e1 := o1.str
    have e2 := o2.str
    subst e1 e2
    refine .inl ⟨rfl, ?_⟩
    have : decide (V.str a = V.str b) = decide (a = b) := by
      rw [Bool.eq_iff_iff]
      simp
    rw [this]
    exact p.val S (.d (.bl _))
  · split at p
    · rename_i h
      obtain ⟨h1, h2⟩ := Bool.and_eq_true_iff.mp h
      exact .inr ⟨_, _, dp_ok S o1 h1, dp_ok S o2 h2, okD_shaped h1, okD_shaped h2, p.val S (.d (.bl _))⟩
    · exact p.elim
end

/-! ### list + list, [..] * n -/
def rCatS (K : PySem.W.Frag) : R2 := fun x y H Q => ∃ l b xs zs, x = .ref l ∧ y = .ref b ∧ SqL K H l xs ∧ SqL K H b zs ∧ xs.length + zs.length ≤ sizeLine ∧ ∀ p, H p = none → Q (.ref p) (upd H p (.lst (xs ++ zs)))
theorem op_catS {X : Cx} : OpR X (binaryOp .Add) (rCatS X.K) := by
  intro pins s σ H x y v u Q I rx ry h
  obtain ⟨l, b, xs, zs, rfl, rfl, hH, hB, hz, q⟩ := h
  cases rx
  cases ry
  obtain ⟨its, r, ⟨o, n, e, ec, ed, es⟩, _⟩ := I.list hH
  obtain ⟨its2, r2, ⟨o2, n2, e2, ec2, ed2, es2⟩, _⟩ := I.list hB
  obtain ⟨oc, od, dt, sl⟩ := o
  obtain ⟨oc2, od2, dt2, sl2⟩ := o2
  simp only at ec ed es ec2 ed2 es2
  subst ec ed es ec2 ed2 es2
  refine concat_meets ⟨_, e, rfl⟩ ⟨_, e2, rfl⟩ noFill_list_add seq_list_add F.slot_list_add F.entry_list_add (F.args_list_add_2 _ _)
    (PyProof.Rows.list_addW l b its.toArray its2.toArray n n2 _ _ sl sl2 (by rw [List.size_toArray, List.size_toArray, ← r.length, ← r2.length]; exact hz)) ⟨e, e2, ?_⟩
  have ea : its.toArray ++ its2.toArray = (its ++ its2).toArray := by simp
  rw [ea]
  exact ⟨.ref _, _, I.lnew (t' := s.toks) (r.append r2) (by rw [List.length_append]; omega), rfl, q _ I.fresh⟩
/-- + of whole numbers, lists, texts -/
def rAddA (K : PySem.W.Frag) : R2 := rOr (rI0 fun i j => .int (i + j)) (rOr (rCatS K) (fun x y H Q => ∃ i j, x = .str i ∧ y = .str j ∧ i.length + j.length ≤ sizeLine ∧ Q (.str (i ++ j)) H))
theorem op_addA {X : Cx} : OpR X (binaryOp .Add) (rAddA X.K) := OpR.or op_add (OpR.or op_catS op_add_str)
@[simp] def fAddA : D → D → MSt → Option (Rs DV × MSt) := fun d e m => match d, e with
  | .int i, .int j => some (.ok (.val (.int (i + j))), m)
  | .str i, .str j => if szOk (i.length + j.length) = true then some (.ok (.val (.str (i ++ j))), m) else none
  | d, e => match lsO m d, lsO m e with
    | some xs, some ys => if szOk (xs.length + ys.length) = true then some (.ok (.own (xs ++ ys)), m) else none
    | _, _ => none
section
variable {C : Ctx} {W : WX}
theorem so_addA : SO2 C W (rAddA C.K) fAddA := fun ρ R F σ H m Q x d y e S o1 o2 p => by
  unfold fAddA at p
  split at p
  · exact .inl ⟨_, _, o1.int, o2.int, p.val S (.d (.int _))⟩
  · split at p
    · rename_i h
      exact .inr (.inr ⟨_, _, o1.str, o2.str, szOk_le h, p.val S (.d (.str _))⟩)
    · exact p.elim
  · split at p
    · rename_i xs ys h1 h2
      split at p
      · rename_i h
        obtain ⟨a, vs, rfl, q1, r1⟩ := ls_ok S o1 h1
        obtain ⟨b, ws, rfl, q2, r2⟩ := ls_ok S o2 h2
        refine .inr (.inl ⟨a, b, vs, ws, rfl, rfl, q1, q2, ?_, fun q hq => p.newL S hq (r1.append r2)⟩)
        rw [r1.length, r2.length]
        exact szOk_le h
      · exact p.elim
    · exact p.elim
end
/-- a new list comes, times a number -/
@[simp] def fRep (xs : List D) : D → MSt → Option (Rs DV × MSt) := fun e m2 => match e with
  | .int k => if decide (-(2 ^ 63) ≤ k) && decide (k < 2 ^ 63) && szOk (xs.length * k.toNat) then some (.ok (.own (List.replicate k.toNat xs).flatten), m2) else none
  | _ => none
def bndW {β : Type} (r : Option (Rs DV × MSt)) (f : List D → MSt → Option (Rs β × MSt)) : Option (Rs β × MSt) :=
  match r with
  | none => none
  | some (.ok (.val d), m) => none
  | some (.ok (.own xs), m) => f xs m
  | some (.exc x, m) => some (.exc x, m)
@[simp] def evRep (a b : Ev) : Ev := fun m => bndW (a m) fun xs m1 => bndO (b m1) (fRep xs)
theorem RDs.rep {K : PySem.W.Frag} {ρ : List Addr} {R : Hp} {vs : List V} {xs : List D} (r : RDs K ρ R vs xs) : ∀ n, RDs K ρ R (List.replicate n vs).flatten (List.replicate n xs).flatten
  | 0 => .nil
  | n + 1 => by
    rw [List.replicate_succ, List.replicate_succ, List.flatten_cons, List.flatten_cons]
    exact r.append (RDs.rep r n)
theorem SE.bndW {C : Ctx} {W : WX} {ρ : List Addr} {R H : Hp} {F : List Res} {σ : St} {m : MSt} {β : Type} {P : List Addr → Hp → Option (Rs β × MSt) → Prop} {f : List D → MSt → Option (Rs β × MSt)} {t : TE} {ev : Ev} {k : VK} (h : SE C W t ev) (S : Sat C ρ R F σ H m) (wi : Wish C W F σ P) (p : P ρ R (MP.bndW (ev m) f))
    (K : ∀ ρ' R' H' q vs xs m', ρ <+: ρ' → Same R R' → Sat C ρ' R' ((q, .lst vs) :: F) σ H' m' → RDs C.K ρ' R' vs xs → P ρ' R' (f xs m') → k (.ref q) H') : t σ H k := by
  refine h ρ R F σ H m k S ?_
  match ev m, p with
  | none, p => exact wi.no _ _ p
  | some (.ok (.val d), m'), p => exact (wi.no _ _ p).elim
  | some (.ok (.own xs), m'), p => exact fun ρ' R' H' hp hr q vs S' r => K ρ' R' H' q vs xs m' hp hr S' r (wi.up _ _ _ _ _ hp hr p)
  | some (.exc x, m'), p => exact wi.ex _ _ _ _ p
theorem po_wishF {α : Type} {C : Ctx} {W : WX} {F : List Res} {x : Res} {σ : St} {hh : α → List Addr → Hp → Hp → MSt → Prop} : Wish C W (x :: F) σ (Po C W F σ hh) where
  no := po_wish.no
  up := po_wish.up
  ex := fun ρ R y m h cls d ρ' R' H' p r S rx => h cls d ρ' R' H' p r S.dropF rx
theorem se_rep {C : Ctx} {W : WX} {ta tb : TE} {a b : Ev} (h1 : SE C W ta a) (h2 : SE C W tb b) : SE C W (tOp rRep ta tb) (evRep a b) := fun ρ R F σ H m Q S p =>
  h1.bndW S po_wish p fun ρ1 R1 H1 q vs xs m1 p1 r1 S1 rd1 q1 => h2.bndO S1 po_wishF q1 fun ρ2 R2 H2 y e m2 p2 r2 S2 o2 q2 => by
    unfold fRep at q2
    split at q2
    · split at q2
      · rename_i k hk
        simp only [Bool.and_eq_true, decide_eq_true_eq] at hk
        obtain ⟨⟨k1, k2⟩, k3⟩ := hk
        have rd2 := rd1.up p2 r2
        refine ⟨q, k, vs, rfl, o2.int, S2.resAt.1, k1, k2, ?_, fun q' hq' => q2.newL S2.dropF hq' (rd2.rep _)⟩
        rw [rd2.length]
        exact szOk_le k3
      · exact q2.elim
    · exact q2.elim

/-! ### an item -/
def atD (xs : List D) (i : Int) : Option D := atI xs i
@[simp] def fIx : D → D → MSt → Option (Rs DV × MSt) := fun d e m => match d, e with
  | .str z, .int i => if szOk z.length = true then match atI z.cps.toList i with | some c => some (.ok (.val (.str ⟨#[c]⟩)), m) | none => none else none
  | d, .int i => match lsO m d with
    | some xs => match atD xs i with | some v => some (.ok (.val v), m) | none => none
    | none => match tpO d with
      | some xs => match atD xs i with | some v => some (.ok (.val v), m) | none => none
      | none => none
  | _, _ => none
theorem RDs.atI {K : PySem.W.Frag} {ρ : List Addr} {R : Hp} {vs : List V} {xs : List D} {i : Int} {d : D} (r : RDs K ρ R vs xs) (h : atD xs i = some d) : ∃ v, L2.atI vs i = some v ∧ RD K ρ R v d := by
  unfold atD L2.atI at h
  unfold L2.atI
  rw [r.length]
  cases e : ixN xs.length i with
  | none => rw [e] at h; cases h
  | some j =>
    rw [e] at h
    exact r.get' h
theorem so_ix {C : Ctx} {W : WX} : SO2 C W (rIx C.K) fIx := fun ρ R F σ H m Q x d y e S o1 o2 p => by
  unfold fIx at p
  split at p
  · split at p
    · rename_i hz
      split at p
      · rename_i h
        exact .inr (.inr ⟨_, _, _, o1.str, o2.int, szOk_le hz, h, p.val S (.d (.str _))⟩)
      · exact p.elim
    · exact p.elim
  · split at p
    · rename_i xs hx
      split at p
      · rename_i h
        obtain ⟨a, vs, rfl, q1, r1⟩ := ls_ok S o1 hx
        obtain ⟨v, hv, rv⟩ := r1.atI h
        exact .inl ⟨a, vs, _, v, rfl, o2.int, q1, hv, p.val S (.d rv)⟩
      · exact p.elim
    · split at p
      · rename_i xs hx
        split at p
        · rename_i h
          obtain ⟨a, vs, rfl, q1, r1⟩ := tup_ok S o1 hx
          obtain ⟨v, hv, rv⟩ := r1.atI h
          exact .inr (.inl ⟨a, vs, _, v, rfl, o2.int, q1, hv, p.val S (.d rv)⟩)
        · exact p.elim
      · exact p.elim
  · exact p.elim

/-! ### slices -/
abbrev EvO := MSt → Option (Rs (Option Int) × MSt)
def hO (C : Ctx) (F : List Res) (σ : St) (Q : Option Int → Hp → Prop) : Option Int → List Addr → Hp → Hp → MSt → Prop :=
  fun b ρ R H m => Sat C ρ R F σ H m → Q b H
def SPt (C : Ctx) (W : WX) (t : TO) (ev : EvO) : Prop := ∀ ρ R F σ H m (Q : Option Int → Hp → Prop), Sat C ρ R F σ H m → Po C W F σ (hO C F σ Q) ρ R (ev m) → t σ H Q
@[simp] def evN : EvO := fun m => some (.ok none, m)
@[simp] def evP (a : Ev) : EvO := fun m => bndO (a m) fun d m1 => match d with | .int i => some (.ok (some i), m1) | _ => none
def cutD (xs : List D) (lo hi : Option Int) : List D := (xs.drop (HT.sIx xs.length 0 lo)).take (HT.sIx xs.length xs.length hi - HT.sIx xs.length 0 lo)
@[simp] def fSl (d : D) (lo hi : Option Int) : MSt → Option (Rs DV × MSt) := fun m => match d with
  | .str z => if szOk z.length = true then some (.ok (.val (.str (cutS z lo hi))), m) else none
  | d => match lsO m d with
    | some xs => some (.ok (.own (cutD xs lo hi)), m)
    | none => none
@[simp] def evSl (a : Ev) (lo hi : EvO) : Ev := fun m => bndO (a m) fun d m1 => bnd (lo m1) fun l m2 => bnd (hi m2) fun h m3 => fSl d l h m3
def rSlA (K : PySem.W.Frag) : V → Option Int → Option Int → Hp → VK → Prop := fun x lo hi H Q => rSlL K x lo hi H Q ∨ rSlS x lo hi H Q
theorem sl_any {X : Cx} : L2.SlR X (rSlA X.K) := L2.SlR.or sl_list sl_str
section
variable {C : Ctx} {W : WX}
theorem sp_n : SPt C W tNoPart evN := fun ρ R F σ H m Q S p => p ρ R H (List.prefix_refl _) (Same.refl _) S
theorem sp_p {ta : TE} {a : Ev} (h : SE C W ta a) : SPt C W (tPart ta) (evP a) := fun ρ R F σ H m Q S p =>
  h.bndO S po_wish p fun ρ1 R1 H1 x d m1 p1 r1 S1 o1 q1 => by
    cases d with
    | int i => exact ⟨i, o1.int, q1 ρ1 R1 H1 (List.prefix_refl _) (Same.refl _) S1⟩
    | _ => exact q1.elim
theorem SPt.bnd {β : Type} {ρ : List Addr} {R H : Hp} {F : List Res} {σ : St} {m : MSt} {P : List Addr → Hp → Option (Rs β × MSt) → Prop} {f : Option Int → MSt → Option (Rs β × MSt)} {t : TO} {ev : EvO} {k : Option Int → Hp → Prop} (h : SPt C W t ev) (S : Sat C ρ R F σ H m) (wi : Wish C W F σ P) (p : P ρ R (bnd (ev m) f))
    (K : ∀ ρ' R' H' b m', ρ <+: ρ' → Same R R' → Sat C ρ' R' F σ H' m' → P ρ' R' (f b m') → k b H') : t σ H k := by
  refine h ρ R F σ H m k S ?_
  match ev m, p with
  | none, p => exact wi.no _ _ p
  | some (.ok b, m'), p => exact fun ρ' R' H' hp hr S' => K ρ' R' H' b m' hp hr S' (wi.up _ _ _ _ _ hp hr p)
  | some (.exc x, m'), p => exact wi.ex _ _ _ _ p
theorem RDs.cut {K : PySem.W.Frag} {ρ : List Addr} {R : Hp} {vs : List V} {xs : List D} (r : RDs K ρ R vs xs) (lo hi : Option Int) : RDs K ρ R (cutV vs lo hi) (cutD xs lo hi) := by
  unfold cutV cutD
  rw [r.length]
  exact (r.drop _).take _
theorem se_sl {ta : TE} {a : Ev} {tl th : TO} {lo hi : EvO} (h : SE C W ta a) (h1 : SPt C W tl lo) (h2 : SPt C W th hi) : SE C W (tSl (rSlA C.K) ta tl th) (evSl a lo hi) := fun ρ R F σ H m Q S p =>
  h.bndO S po_wish p fun ρ1 R1 H1 x d m1 p1 r1 S1 o1 q1 => h1.bnd S1 po_wish q1 fun ρ2 R2 H2 l m2 p2 r2 S2 q2 => h2.bnd S2 po_wish q2 fun ρ3 R3 H3 u m3 p3 r3 S3 q3 => by
    have o3 := (o1.up p2 r2).up p3 r3
    unfold fSl at q3
    split at q3
    · split at q3
      · rename_i hz
        exact .inr ⟨_, o3.str, szOk_le hz, q3.val S3 (.d (.str _))⟩
      · exact q3.elim
    · split at q3
      · rename_i xs hx
        obtain ⟨a, vs, rfl, hq, rd⟩ := ls_ok S3 o3 hx
        exact .inl ⟨a, vs, rfl, hq, fun q hq => q3.newL S3 hq (rd.cut l u)⟩
      · exact q3.elim
end

/-! ### arguments, displays, calls of built-ins -/
@[simp] def eaNil : EvA := fun m => some (.ok [], m)
@[simp] def eaCons (a : Ev) (r : EvA) : EvA := fun m => bndO (a m) fun d m1 => bnd (r m1) fun ds m2 => some (.ok (d :: ds), m2)
@[simp] def evLst (a : EvA) : Ev := fun m => bnd (a m) fun ds m1 => if ds.all solid && szOk ds.length then some (.ok (.own ds), m1) else none
@[simp] def evTup (a : EvA) : Ev := fun m => bnd (a m) fun ds m1 => if ds.all solid && szOk ds.length then some (.ok (.val (.tup ds)), m1) else none
@[simp] def evCB (f : List D → MSt → Option (Rs DV × MSt)) (a : EvA) : Ev := fun m => bnd (a m) f
theorem ROs.rds {K : PySem.W.Frag} {ρ : List Addr} {R : Hp} {σ : St} : ∀ {vs : List V} {ds : List D}, ROs K ρ R σ vs ds → ds.all solid = true → RDs K ρ R vs ds
  | _, _, .nil, _ => .nil
  | _, _, .cons a b, h => by
    rw [List.all_cons] at h
    obtain ⟨h1, h2⟩ := Bool.and_eq_true_iff.mp h
    exact .cons (a.rd h1) (ROs.rds b h2)
section
variable {C : Ctx} {W : WX} {ta : TE} {a : Ev} {tr : TA} {ar : EvA}
theorem sa_nil : SA C W tNil eaNil := fun ρ R F σ H m Q S p => p ρ R H (List.prefix_refl _) (Same.refl _) [] S .nil
theorem sa_cons (h : SE C W ta a) (hr : SA C W tr ar) : SA C W (tCons ta tr) (eaCons a ar) := fun ρ R F σ H m Q S p =>
  h.bndO S po_wish p fun ρ1 R1 H1 x d m1 p1 r1 S1 o1 q1 => hr.bnd S1 po_wish q1 fun ρ2 R2 H2 vs ds m2 p2 r2 S2 o2 q2 => q2 ρ2 R2 H2 (List.prefix_refl _) (Same.refl _) (x :: vs) S2 (.cons (o1.up p2 r2) o2)
theorem se_lst (hr : SA C W tr ar) : SE C W (tLst tr) (evLst ar) := fun ρ R F σ H m Q S p =>
  hr.bnd S po_wish p fun ρ1 R1 H1 vs ds m1 p1 r1 S1 o1 q1 => by
    split at q1
    · rename_i h
      obtain ⟨h1, h2⟩ := Bool.and_eq_true_iff.mp h
      have rd := o1.rds h1
      exact ⟨by rw [rd.length]; exact szOk_le h2, fun p hp => q1.newL S1 hp rd⟩
    · exact q1.elim
theorem se_tup (hr : SA C W tr ar) : SE C W (tTup tr) (evTup ar) := fun ρ R F σ H m Q S p =>
  hr.bnd S po_wish p fun ρ1 R1 H1 vs ds m1 p1 r1 S1 o1 q1 => by
    split at q1
    · rename_i h
      obtain ⟨h1, h2⟩ := Bool.and_eq_true_iff.mp h
      have rd := o1.rds h1
      exact ⟨by rw [rd.length]; exact szOk_le h2, fun p hp => q1.newT S1 hp rd⟩
    · exact q1.elim
theorem se_cb {r : List V → Hp → VK → Prop} {f : List D → MSt → Option (Rs DV × MSt)} (hr : SA C W tr ar) (h : SOA C W r f) : SE C W (tCB r tr) (evCB f ar) := fun ρ R F σ H m Q S p =>
  hr.bnd S po_wish p fun ρ1 R1 H1 vs ds m1 p1 r1 S1 o1 q1 => h ρ1 R1 F σ H1 m1 Q vs ds S1 o1 q1
end
theorem ROs.one {K : PySem.W.Frag} {ρ : List Addr} {R : Hp} {σ : St} {vs : List V} {d : D} (h : ROs K ρ R σ vs [d]) : ∃ v, vs = [v] ∧ RO K ρ R σ v d := by
  cases h with
  | cons a b => cases b; exact ⟨_, rfl, a⟩
theorem ROs.two {K : PySem.W.Frag} {ρ : List Addr} {R : Hp} {σ : St} {vs : List V} {d e : D} (h : ROs K ρ R σ vs [d, e]) : ∃ v u, vs = [v, u] ∧ RO K ρ R σ v d ∧ RO K ρ R σ u e := by
  cases h with
  | cons a b =>
    obtain ⟨u, rfl, c⟩ := b.one
    exact ⟨_, _, rfl, a, c⟩
/-! len -/
@[simp] def fLen : List D → MSt → Option (Rs DV × MSt) := fun ds m => match ds with
  | [.str z] => if szOk z.length = true then some (.ok (.val (.int z.length)), m) else none
  | [d] => match lsO m d with
    | some xs => some (.ok (.val (.int xs.length)), m)
    | none => match tpO d with | some xs => some (.ok (.val (.int xs.length)), m) | none => none
  | _ => none
def rLen (K : PySem.W.Frag) : List V → Hp → VK → Prop := fun xs H Q => ∃ x n, xs = [x] ∧ LenV K x H n ∧ Q (.int n) H
theorem soa_len {C : Ctx} {W : WX} : SOA C W (rLen C.K) fLen := fun ρ R F σ H m Q vs ds S o p => by
  unfold fLen at p
  split at p
  · split at p
    · rename_i h
      obtain ⟨v, rfl, o1⟩ := o.one
      have e := o1.str
      subst e
      exact ⟨_, _, rfl, ⟨szOk_le h, rfl⟩, p.val S (.d (.int _))⟩
    · exact p.elim
  · split at p
    · rename_i xs hx
      obtain ⟨v, rfl, o1⟩ := o.one
      obtain ⟨a, us, rfl, q, r⟩ := ls_ok S o1 hx
      refine ⟨_, _, rfl, .inl ⟨us, q, rfl⟩, ?_⟩
      rw [r.length]
      exact p.val S (.d (.int _))
    · split at p
      · rename_i xs hx
        obtain ⟨v, rfl, o1⟩ := o.one
        obtain ⟨a, us, rfl, q, r⟩ := tup_ok S o1 hx
        refine ⟨_, _, rfl, .inr ⟨us, q, rfl⟩, ?_⟩
        rw [r.length]
        exact p.val S (.d (.int _))
      · exact p.elim
  · exact p.elim
/-! list(..) of a list or tuple -/
@[simp] def fList : List D → MSt → Option (Rs DV × MSt) := fun ds m => match ds with
  | [d] => match lsO m d with
    | some xs => some (.ok (.own xs), m)
    | none => match tpO d with | some xs => some (.ok (.own xs), m) | none => none
  | _ => none
def rListOf (K : PySem.W.Frag) : List V → Hp → VK → Prop := fun xs H Q => ∃ p ys, xs = [.ref p] ∧ (SqL K H p ys ∨ SqT K H p ys) ∧ ∀ l, H l = none → Q (.ref l) (upd H l (.lst ys))
theorem soa_list {C : Ctx} {W : WX} : SOA C W (rListOf C.K) fList := fun ρ R F σ H m Q vs ds S o p => by
  unfold fList at p
  split at p
  · split at p
    · rename_i xs hx
      obtain ⟨v, rfl, o1⟩ := o.one
      obtain ⟨a, us, rfl, q, r⟩ := ls_ok S o1 hx
      exact ⟨a, us, rfl, .inl q, fun l hl => p.newL S hl r⟩
    · split at p
      · rename_i xs hx
        obtain ⟨v, rfl, o1⟩ := o.one
        obtain ⟨a, us, rfl, q, r⟩ := tup_ok S o1 hx
        exact ⟨a, us, rfl, .inr q, fun l hl => p.newL S hl r⟩
      · exact p.elim
  · exact p.elim
/-! sum, all, any of lists -/
def intsOf : List D → Option (List Int)
  | [] => some []
  | .int i :: r => (intsOf r).map (i :: ·)
  | _ => none
def blsOf : List D → Option (List Bool)
  | [] => some []
  | .bl i :: r => (blsOf r).map (i :: ·)
  | _ => none
theorem RDs.intsOf {K : PySem.W.Frag} {ρ : List Addr} {R : Hp} : ∀ {vs : List V} {ds : List D} {ns : List Int}, RDs K ρ R vs ds → MP.intsOf ds = some ns → vs = ns.map V.int
  | _, _, _, .nil, h => by cases h; rfl
  | _, _, _, .cons (d := d) a b, h => by
    cases d with
    | int i =>
      simp only [MP.intsOf, Option.map_eq_some_iff] at h
      obtain ⟨r, h1, rfl⟩ := h
      cases a
      rw [List.map_cons, RDs.intsOf b h1]
    | _ => cases h
theorem RDs.blsOf {K : PySem.W.Frag} {ρ : List Addr} {R : Hp} : ∀ {vs : List V} {ds : List D} {ns : List Bool}, RDs K ρ R vs ds → MP.blsOf ds = some ns → vs = ns.map V.bl
  | _, _, _, .nil, h => by cases h; rfl
  | _, _, _, .cons (d := d) a b, h => by
    cases d with
    | bl i =>
      simp only [MP.blsOf, Option.map_eq_some_iff] at h
      obtain ⟨r, h1, rfl⟩ := h
      cases a
      rw [List.map_cons, RDs.blsOf b h1]
    | _ => cases h
def fInts (g : List Int → Option D) : List D → MSt → Option (Rs DV × MSt) := fun ds m => match ds with
  | [d] => match lsO m d with
    | some xs => match intsOf xs with
      | some ns => match g ns with | some r => some (.ok (.val r), m) | none => none
      | none => none
    | none => none
  | _ => none
def fBls (g : List Bool → D) : List D → MSt → Option (Rs DV × MSt) := fun ds m => match ds with
  | [d] => match lsO m d with
    | some xs => match blsOf xs with
      | some ns => some (.ok (.val (g ns)), m)
      | none => none
    | none => none
  | _ => none
def fSum := fInts fun ns => some (.int ns.sum)
def fAll := fBls fun bs => .bl (bs.all id)
def fAny := fBls fun bs => .bl (bs.any id)
theorem soa_sum {C : Ctx} {W : WX} : SOA C W (rSum C.K) fSum := fun ρ R F σ H m Q vs ds S o p => by
  unfold fSum fInts at p
  split at p
  · split at p
    · rename_i xs hx
      split at p
      · rename_i ns hn
        obtain ⟨v, rfl, o1⟩ := o.one
        obtain ⟨a, us, rfl, q, r⟩ := ls_ok S o1 hx
        have e := r.intsOf hn
        subst e
        exact ⟨a, ns, rfl, q, p.val S (.d (.int _))⟩
      · exact p.elim
    · exact p.elim
  · exact p.elim
theorem soa_all {C : Ctx} {W : WX} : SOA C W (rAll C.K) fAll := fun ρ R F σ H m Q vs ds S o p => by
  unfold fAll fBls at p
  split at p
  · split at p
    · rename_i xs hx
      split at p
      · rename_i ns hn
        obtain ⟨v, rfl, o1⟩ := o.one
        obtain ⟨a, us, rfl, q, r⟩ := ls_ok S o1 hx
        have e := r.blsOf hn
        subst e
        exact ⟨a, ns, rfl, q, p.val S (.d (.bl _))⟩
      · exact p.elim
    · exact p.elim
  · exact p.elim
theorem soa_any {C : Ctx} {W : WX} : SOA C W (rAny C.K) fAny := fun ρ R F σ H m Q vs ds S o p => by
  unfold fAny fBls at p
  split at p
  · split at p
    · rename_i xs hx
      split at p
      · rename_i ns hn
        obtain ⟨v, rfl, o1⟩ := o.one
        obtain ⟨a, us, rfl, q, r⟩ := ls_ok S o1 hx
        have e := r.blsOf hn
        subst e
        exact ⟨a, ns, rfl, q, p.val S (.d (.bl _))⟩
      · exact p.elim
    · exact p.elim
  · exact p.elim
/-! max, min of two; int(..) -/
@[simp] def fII (g : Int → Int → Int) : List D → MSt → Option (Rs DV × MSt) := fun ds m => match ds with
  | [.int i, .int j] => some (.ok (.val (.int (g i j))), m)
  | _ => none
def rII (g : Int → Int → Int) : List V → Hp → VK → Prop := fun xs H Q => ∃ i j, xs = [.int i, .int j] ∧ Q (.int (g i j)) H
theorem soa_II {C : Ctx} {W : WX} {g : Int → Int → Int} : SOA C W (rII g) (fII g) := fun ρ R F σ H m Q vs ds S o p => by
  unfold fII at p
  split at p
  · obtain ⟨v, u, rfl, o1, o2⟩ := o.two
    have e1 := o1.int
    have e2 := o2.int
    subst e1 e2
    exact ⟨_, _, rfl, p.val S (.d (.int _))⟩
  · exact p.elim
@[simp] def gMax : Int → Int → Int := fun i j => if j > i then j else i
@[simp] def gMin : Int → Int → Int := fun i j => if j < i then j else i
def rInt : List V → Hp → VK → Prop := fun xs H Q => (∃ i, xs = [.int i] ∧ Q (.int i) H) ∨ ∃ k, xs = [.bl k] ∧ Q (.int (if k then 1 else 0)) H
@[simp] def fInt : List D → MSt → Option (Rs DV × MSt) := fun ds m => match ds with
  | [.int i] => some (.ok (.val (.int i)), m)
  | [.bl k] => some (.ok (.val (.int (if k then 1 else 0))), m)
  | _ => none
theorem soa_int {C : Ctx} {W : WX} : SOA C W rInt fInt := fun ρ R F σ H m Q vs ds S o p => by
  unfold fInt at p
  split at p
  · obtain ⟨v, rfl, o1⟩ := o.one
    have e1 := o1.int
    subst e1
    exact .inl ⟨_, rfl, p.val S (.d (.int _))⟩
  · obtain ⟨v, rfl, o1⟩ := o.one
    have e1 := o1.bl
    subst e1
    exact .inr ⟨_, rfl, p.val S (.d (.int _))⟩
  · exact p.elim
end MP

set_option Elab.async false
set_option linter.all false
set_option maxRecDepth 100000
set_option maxHeartbeats 4000000
namespace MP
open PySem L2

/-! ### calls of defs -/
abbrev Sem0 := List D → List Cell → Option (Rs DV × List Cell)
def PoC (C : Ctx) (F : List Res) (Q : VK) (E : XK) (ρ : List Addr) (R : Hp) : Option (Rs DV × List Cell) → Prop
  | none => False
  | some (.ok (.val d), c) => ∀ v ρ' R' H' lc, ρ <+: ρ' → Same R R' → All2 (CeR C ρ' R') ρ' c lc → Own R' H' (lc ++ F) → RD C.K ρ' R' v d → Q v H'
  | some (.ok (.own xs), c) => ∀ p vs ρ' R' H' lc, ρ <+: ρ' → Same R R' → All2 (CeR C ρ' R') ρ' c lc → Own R' H' (lc ++ (p, .lst vs) :: F) → RDs C.K ρ' R' vs xs → Q (.ref p) H'
  | some (.exc x, c) => ∀ cls d ρ' R' H' lc, ρ <+: ρ' → Same R R' → All2 (CeR C ρ' R') ρ' c lc → Own R' H' (lc ++ F) → RX C ρ' R' cls d x → E cls d H'
def spOf (C : Ctx) (n : Nat) (sem : Sem0) : Sp := fun vs H Q E => vs.length = n ∧ ∃ ρ R F args cells lc, RDs C.K ρ R vs args ∧ All2 (CeR C ρ R) ρ cells lc ∧ Own R H (lc ++ F) ∧ PoC C F Q E ρ R (sem args cells)
@[simp] def evSem (sem : Sem0) (ds : List D) : MSt → Option (Rs DV × MSt) := fun m =>
  match sem ds m.c with
  | none => none
  | some (.ok r, c) => some (.ok r, { m with c := c })
  | some (.exc x, c) => some (.exc x, { m with c := c })
@[simp] def evCall (n : Nat) (sem : Sem0) (a : EvA) : Ev := fun m => bnd (a m) fun ds m1 => if ds.all solid && decide (ds.length = n) then evSem sem ds m1 else none

section
variable {C : Ctx} {W : WX} {ρ : List Addr} {R H : Hp} {F : List Res} {σ : St} {m : MSt}
theorem mid_perm (A B F : List Res) : (A ++ (B ++ F)).Perm (B ++ (A ++ F)) := by
  rw [← List.append_assoc, ← List.append_assoc]
  exact (List.perm_append_comm).append_right F
theorem mid_perm1 (A B F : List Res) (x : Res) : (B ++ x :: (A ++ F)).Perm (A ++ (B ++ x :: F)) := by
  refine List.Perm.trans ?_ (mid_perm B A (x :: F))
  exact (List.Perm.refl B).append List.perm_middle.symm
/-- a callee's end, seen by the caller -/
theorem sem_ok {n : Nat} {sem : Sem0} {ds : List D} {vs : List V} {Q : VK} {E : XK} (S : Sat C ρ R F σ H m) (r : RDs C.K ρ R vs ds) (hn : ds.length = n) (p : Po C W F σ (hE C F σ Q) ρ R (evSem sem ds m)) (hE' : ∀ cls d H', W cls d σ H' → E cls d H') : spOf C n sem vs H Q E := by
  obtain ⟨ls, lc, h1, h2, o⟩ := S
  refine ⟨by rw [r.length]; exact hn, ρ, R, ls ++ F, ds, m.c, lc, r, h2, o.perm (mid_perm ls lc F), ?_⟩
  unfold evSem at p
  match sem ds m.c, p with
  | some (.ok (.val d), c), p =>
    intro v ρ' R' H' lc' hp hr h2' o' rv
    exact p ρ' R' H' hp hr v ⟨ls, lc', h1.imp fun _ _ _ x => x.up hp hr, h2', o'.perm (mid_perm lc' ls F)⟩ (.d rv)
  | some (.ok (.own xs), c), p =>
    intro q us ρ' R' H' lc' hp hr h2' o' rv
    exact p ρ' R' H' hp hr q us ⟨ls, lc', h1.imp fun _ _ _ x => x.up hp hr, h2', o'.perm (mid_perm1 ls lc' F _)⟩ rv
  | some (.exc x, c), p =>
    intro cls d ρ' R' H' lc' hp hr h2' o' rx
    exact hE' _ _ _ (p cls d ρ' R' H' hp hr ⟨ls, lc', h1.imp fun _ _ _ x => x.up hp hr, h2', o'.perm (mid_perm lc' ls F)⟩ rx)
theorem se_call {n : Nat} {sem : Sem0} {tr : TA} {ar : EvA} (hr : SA C W tr ar) : SE C W (tCallS (spOf C n sem) (WE W) tr) (evCall n sem ar) := fun ρ R F σ H m Q S p =>
  hr.bnd S po_wish p fun ρ1 R1 H1 vs ds m1 p1 r1 S1 o1 q1 => by
    split at q1
    · rename_i h
      simp only [Bool.and_eq_true, decide_eq_true_eq] at h
      exact sem_ok S1 (o1.rds h.1) h.2 q1 fun _ _ _ z => z
    · exact q1.elim
end

/-! ### a def's body -/
@[simp] def semDef (N n : Nat) (ex : Ex) : Sem0 := fun args cells =>
  if args.length = n then
    match ex ⟨args.map Sl.d ++ List.replicate (N - n) Sl.u, cells⟩ with
    | some (.ok .nx, m) => some (.ok (.val .non), m.c)
    | some (.ok (.rt a), m) => some (.ok a, m.c)
    | some (.exc x, m) => some (.exc x, m.c)
    | _ => none
  else none
theorem slots_args {K : PySem.W.Frag} {ρ : List Addr} {R : Hp} : ∀ {vs : List V} {ds : List D}, RDs K ρ R vs ds → All2 (SlR K ρ R) (vs.map some) (ds.map Sl.d) []
  | _, _, .nil => .nil
  | _, _, .cons a b => All2.cons (l := []) (.d a) (slots_args b)
theorem slots_u {K : PySem.W.Frag} {ρ : List Addr} {R : Hp} : ∀ n, All2 (SlR K ρ R) (List.replicate n none) (List.replicate n Sl.u) []
  | 0 => .nil
  | n + 1 => All2.cons (l := []) .u (slots_u n)
theorem body_ok {C : Ctx} {N : List Str} {n : Nat} {t : TS} {ex : Ex} {vs : List V} {H : Hp} {Q : VK} {E : XK} (h : SS C (fun cls d _ H => E cls d H) t ex) (hs : spOf C n (semDef N.length n ex) vs H Q E) : t { nx := fun _ H' => Q .non H', rt := Q } (L2.start N vs) H := by
  obtain ⟨hn, ρ, R, F, args, cells, lc, r, h2, o, p⟩ := hs
  have hl := r.length
  have S : Sat C ρ R F (L2.start N vs) H ⟨args.map Sl.d ++ List.replicate (N.length - n) Sl.u, cells⟩ := by
    refine ⟨[], lc, ?_, h2, o⟩
    unfold L2.start
    rw [hn]
    exact (slots_args r).append (slots_u _)
  refine h ρ R F _ H _ _ S ?_
  unfold semDef at p
  rw [if_pos (by omega)] at p
  match ex ⟨args.map Sl.d ++ List.replicate (N.length - n) Sl.u, cells⟩, p with
  | some (.ok .nx, m), p => exact fun σ' ρ' R' H' hp hr ⟨ls, lc', h1', h2', o'⟩ => p .non ρ' R' H' lc' hp hr h2' (o'.sub (List.sublist_append_right _ _)) .non
  | some (.ok (.rt (.val d)), m), p => exact fun σ' ρ' R' H' v hp hr ⟨ls, lc', h1', h2', o'⟩ rv => p v ρ' R' H' lc' hp hr h2' (o'.sub (List.sublist_append_right _ _)) rv
  | some (.ok (.rt (.own xs)), m), p => exact fun σ' ρ' R' H' q us hp hr ⟨ls, lc', h1', h2', o'⟩ rv => p q us ρ' R' H' lc' hp hr h2' (o'.sub (List.sublist_append_right _ _)) rv
  | some (.exc x, m), p => exact fun cls d σ' ρ' R' H' hp hr ⟨ls, lc', h1', h2', o'⟩ rx => p cls d ρ' R' H' lc' hp hr h2' (o'.sub (List.sublist_append_right _ _)) rx
/-- THE RULE for a def -/
theorem fn_ok {P : Program} {w : World} {C : Ctx} {mg : Str → Option Value} {base : Heap} {x qual : Str} {st : Stmt} {f : Addr} {fd : FuncData} {N ps : List Str} {k : Nat} {ex : Ex} (F : Fun C.K x qual st f fd) (S : FnScope N ps (defScope st))
    (h : ∀ (cdv : Value) (A : Around) (outer : List Env) (s : Shared) (H : Hp) (E : XK), Room k (A.deeper (PyProof.Rows.envOfC qual (defScope st) s.heap.objs.size f cdv)) →
      ∃ t, PSs (cxOf (L2.CX P w) P w C.K mg base N qual (defScope st) f cdv A outer s H E) (defBody st) t ∧ SS C (fun cls d _ H => E cls d H) t ex) :
    FnOk P w C.K mg base (L2.CX P w) (k + 1) f fd ps (spOf C ps.length (semDef N.length ps.length ex)) := by
  refine F.okX S (fun vs H Q E h => h.1) (fun cdv A outer s H vs Q E hr hs => ?_)
  obtain ⟨t, h1, h2⟩ := h cdv A outer s H E hr
  exact ⟨t, h1, body_ok h2 hs⟩

/-! ### tests -/
@[simp] def evT (a : Ev) : EvB := fun m => bndO (a m) fun d m1 => match d with | .bl b => some (.ok b, m1) | _ => none
@[simp] def evTru (a : Ev) : EvB := fun m => bndO (a m) fun d m1 => match d with
  | .bl b => some (.ok b, m1)
  | .int i => some (.ok (i != 0), m1)
  | .non => some (.ok false, m1)
  | d => match lsO m1 d with | some xs => some (.ok (!xs.isEmpty), m1) | none => none
@[simp] def evAnd (a b : EvB) : EvB := fun m => bnd (a m) fun x m1 => if x = true then b m1 else some (.ok false, m1)
@[simp] def evOr (a b : EvB) : EvB := fun m => bnd (a m) fun x m1 => if x = true then some (.ok true, m1) else b m1
@[simp] def evNot (a : EvB) : EvB := fun m => bnd (a m) fun x m1 => some (.ok (!x), m1)
@[simp] def evAndV (a b : Ev) : Ev := fun m => bndO (a m) fun d m1 => match d with | .bl true => b m1 | .bl false => some (.ok (.val (.bl false)), m1) | _ => none
@[simp] def evOrV (a b : Ev) : Ev := fun m => bndO (a m) fun d m1 => match d with | .bl true => some (.ok (.val (.bl true)), m1) | .bl false => b m1 | _ => none
@[simp] def evNotV (a : Ev) : Ev := fun m => bndO (a m) fun d m1 => match d with | .bl b => some (.ok (.val (.bl (!b))), m1) | _ => none
@[simp] def evIf (c : EvB) (a b : Ev) : Ev := fun m => bnd (c m) fun x m1 => if x = true then a m1 else b m1
@[simp] def evChain (f f' : D → D → MSt → Option (Rs DV × MSt)) (a b c : Ev) : Ev := fun m => bndO (a m) fun x m1 => bndO (b m1) fun y m2 => bndO (f x y m2) fun z m3 => match z with
  | .bl true => bndO (c m3) fun u m4 => f' y u m4
  | .bl false => some (.ok (.val (.bl false)), m3)
  | _ => none
section
variable {C : Ctx} {W : WX} {ta tb tc : TE} {a b c : Ev} {tt tu : TT} {bt bu : EvB}
theorem Po.tst {F : List Res} {σ : St} {Q : Bool → Hp → Prop} {ρ : List Addr} {R H : Hp} {m : MSt} {k : Bool} (p : Po C W F σ (hB C F σ Q) ρ R (some (.ok k, m))) (S : Sat C ρ R F σ H m) : Q k H := p ρ R H (List.prefix_refl _) (Same.refl _) S
theorem sb_T (h : SE C W ta a) : SB C W (tTest ta) (evT a) := fun ρ R F σ H m Q S p =>
  h.bndO S po_wish p fun ρ1 R1 H1 x d m1 p1 r1 S1 o1 q1 => by
    cases d with
    | bl k => exact ⟨k, o1.bl, q1.tst S1⟩
    | _ => exact q1.elim
theorem sb_B (h : SE C W ta a) : SB C W (tB ta) (evT a) := sb_T h
theorem sb_tru (h : SE C W ta a) : SB C W (fun σ H Q => ta σ H fun x H' => ∃ k, TruV C.K x H' k ∧ Q k H') (evTru a) := fun ρ R F σ H m Q S p =>
  h.bndO S po_wish p fun ρ1 R1 H1 x d m1 p1 r1 S1 o1 q1 => by
    split at q1
    · have e := o1.bl
      subst e
      exact ⟨_, rfl, q1.tst S1⟩
    · have e := o1.int
      subst e
      exact ⟨_, rfl, q1.tst S1⟩
    · have e := o1.non
      subst e
      exact ⟨_, rfl, q1.tst S1⟩
    · split at q1
      · rename_i xs hx
        obtain ⟨l, vs, rfl, hq, rd⟩ := ls_ok S1 o1 hx
        refine ⟨_, .inl ⟨vs, hq, rfl⟩, ?_⟩
        have : vs.isEmpty = xs.isEmpty := by
          cases rd <;> rfl
        rw [this]
        exact q1.tst S1
      · exact q1.elim
theorem sb_and (h1 : SB C W tt bt) (h2 : SB C W tu bu) : SB C W (tAnd tt tu) (evAnd bt bu) := fun ρ R F σ H m Q S p =>
  h1.bnd S po_wish p fun ρ1 R1 H1 k m1 p1 r1 S1 q1 => by
    cases k with
    | true => exact h2 ρ1 R1 F σ H1 m1 Q S1 q1
    | false => exact q1.tst S1
theorem sb_or (h1 : SB C W tt bt) (h2 : SB C W tu bu) : SB C W (tOr tt tu) (evOr bt bu) := fun ρ R F σ H m Q S p =>
  h1.bnd S po_wish p fun ρ1 R1 H1 k m1 p1 r1 S1 q1 => by
    cases k with
    | true => exact q1.tst S1
    | false => exact h2 ρ1 R1 F σ H1 m1 Q S1 q1
theorem sb_not (h1 : SB C W tt bt) : SB C W (tNot tt) (evNot bt) := fun ρ R F σ H m Q S p =>
  h1.bnd S po_wish p fun ρ1 R1 H1 k m1 p1 r1 S1 q1 => q1.tst S1
theorem se_andV (h1 : SE C W ta a) (h2 : SE C W tb b) : SE C W (tAndV ta tb) (evAndV a b) := fun ρ R F σ H m Q S p =>
  h1.bndO S po_wish p fun ρ1 R1 H1 x d m1 p1 r1 S1 o1 q1 => by
    split at q1
    · exact ⟨true, o1.bl, h2 ρ1 R1 F σ H1 m1 Q S1 q1⟩
    · exact ⟨false, o1.bl, q1.val S1 (.d (.bl _))⟩
    · exact q1.elim
theorem se_orV (h1 : SE C W ta a) (h2 : SE C W tb b) : SE C W (tOrV ta tb) (evOrV a b) := fun ρ R F σ H m Q S p =>
  h1.bndO S po_wish p fun ρ1 R1 H1 x d m1 p1 r1 S1 o1 q1 => by
    split at q1
    · exact ⟨true, o1.bl, q1.val S1 (.d (.bl _))⟩
    · exact ⟨false, o1.bl, h2 ρ1 R1 F σ H1 m1 Q S1 q1⟩
    · exact q1.elim
theorem se_notV (h1 : SE C W ta a) : SE C W (tNotV ta) (evNotV a) := fun ρ R F σ H m Q S p =>
  h1.bndO S po_wish p fun ρ1 R1 H1 x d m1 p1 r1 S1 o1 q1 => by
    split at q1
    · exact ⟨_, o1.bl, q1.val S1 (.d (.bl _))⟩
    · exact q1.elim
theorem se_if (h : SB C W tt bt) (h1 : SE C W ta a) (h2 : SE C W tb b) : SE C W (tIf tt ta tb) (evIf bt a b) := fun ρ R F σ H m Q S p =>
  h.bnd S po_wish p fun ρ1 R1 H1 k m1 p1 r1 S1 q1 => by
    cases k with
    | true => exact h1 ρ1 R1 F σ H1 m1 Q S1 q1
    | false => exact h2 ρ1 R1 F σ H1 m1 Q S1 q1
@[simp] def fIsN : D → MSt → Option (Rs DV × MSt) := fun d m1 => match d with | .non => some (.ok (.val (.bl true)), m1) | .sl _ => none | _ => some (.ok (.val (.bl false)), m1)
@[simp] def fNotN : D → MSt → Option (Rs DV × MSt) := fun d m1 => match d with | .non => some (.ok (.val (.bl false)), m1) | .sl _ => none | _ => some (.ok (.val (.bl true)), m1)
theorem se_isN (h : SE C W ta a) : SE C W (tIsN ta) (ev1 fIsN a) := fun ρ R F σ H m Q S p =>
  h.bndO S po_wish p fun ρ1 R1 H1 x d m1 p1 r1 S1 o1 q1 => by
    unfold fIsN at q1
    split at q1
    · have e := o1.non
      subst e
      exact q1.val S1 (.d (.bl true))
    · exact q1.elim
    · rename_i h1 h2
      have : decide (x = .non) = false := by
        cases o1 with
        | d r => cases r <;> first | exact absurd rfl h1 | (apply decide_eq_false; intro z; cases z)
        | sl r => exact absurd rfl (h2 _)
      show Q (.bl (decide (x = .non))) H1
      rw [this]
      exact q1.val S1 (.d (.bl false))
theorem se_notN (h : SE C W ta a) : SE C W (tNotN ta) (ev1 fNotN a) := fun ρ R F σ H m Q S p =>
  h.bndO S po_wish p fun ρ1 R1 H1 x d m1 p1 r1 S1 o1 q1 => by
    unfold fNotN at q1
    split at q1
    · have e := o1.non
      subst e
      exact q1.val S1 (.d (.bl false))
    · exact q1.elim
    · rename_i h1 h2
      have : decide (x = .non) = false := by
        cases o1 with
        | d r => cases r <;> first | exact absurd rfl h1 | (apply decide_eq_false; intro z; cases z)
        | sl r => exact absurd rfl (h2 _)
      show Q (.bl (!decide (x = .non))) H1
      rw [this]
      exact q1.val S1 (.d (.bl true))
theorem SO2.bndO {r : R2} {f : D → D → MSt → Option (Rs DV × MSt)} {ρ : List Addr} {R H : Hp} {F : List Res} {σ : St} {m : MSt} {β : Type} {P : List Addr → Hp → Option (Rs β × MSt) → Prop} {g : D → MSt → Option (Rs β × MSt)} {k : VK} {x y : V} {d e : D} (h : SO2 C W r f) (S : Sat C ρ R F σ H m)
    (o1 : RO C.K ρ R σ x d) (o2 : RO C.K ρ R σ y e) (wi : Wish C W F σ P) (p : P ρ R (MP.bndO (f d e m) g))
    (K : ∀ ρ' R' H' v d m', ρ <+: ρ' → Same R R' → Sat C ρ' R' F σ H' m' → RO C.K ρ' R' σ v d → P ρ' R' (g d m') → k v H') : r x y H k := by
  refine h ρ R F σ H m k x d y e S o1 o2 ?_
  match f d e m, p with
  | none, p => exact wi.no _ _ p
  | some (.ok (.val d), m'), p => exact fun ρ' R' H' hp hr v S' r => K ρ' R' H' v d m' hp hr S' r (wi.up _ _ _ _ _ hp hr p)
  | some (.ok (.own xs), m'), p =>
    intro ρ' R' H' hp hr q vs S' r
    obtain ⟨S2, sm⟩ := S'.freeze
    exact K ρ' _ H' (.ref q) (.lst xs) m' hp (hr.trans sm) S2 (.d (.lst upd_same (r.up (List.prefix_refl _) sm))) (wi.up _ _ _ _ _ hp (hr.trans sm) p)
  | some (.exc x, m'), p => exact wi.ex _ _ _ _ p
theorem se_chain {r r' : R2} {f f' : D → D → MSt → Option (Rs DV × MSt)} (h1 : SE C W ta a) (h2 : SE C W tb b) (h3 : SE C W tc c) (hf : SO2 C W r f) (hf' : SO2 C W r' f') : SE C W (tChain r r' ta tb tc) (evChain f f' a b c) := fun ρ R F σ H m Q S p =>
  h1.bndO S po_wish p fun ρ1 R1 H1 x d m1 p1 r1 S1 o1 q1 => h2.bndO S1 po_wish q1 fun ρ2 R2 H2 y e m2 p2 r2 S2 o2 q2 => hf.bndO S2 (o1.up p2 r2) o2 po_wish q2 fun ρ3 R3 H3 z g m3 p3 r3 S3 o3 q3 => by
    split at q3
    · have e := o3.bl
      subst e
      refine ⟨true, rfl, ?_⟩
      rw [if_pos rfl]
      exact h3.bndO S3 po_wish q3 fun ρ4 R4 H4 u w m4 p4 r4 S4 o4 q4 => hf' ρ4 R4 F σ H4 m4 Q y _ u w S4 ((o2.up p3 r3).up p4 r4) o4 q4
    · have e := o3.bl
      subst e
      refine ⟨false, rfl, ?_⟩
      rw [if_neg Bool.false_ne_true]
      exact q3.val S3 (.d (.bl _))
    · exact q3.elim
end

/-! ### statements -/
@[simp] def exNext : Ex := fun m => some (.ok .nx, m)
@[simp] def exSeq (a b : Ex) : Ex := fun m => match a m with
  | some (.ok .nx, m1) => b m1
  | r => r
@[simp] def exIf (c : EvB) (a b : Ex) : Ex := fun m => bnd (c m) fun x m1 => if x = true then a m1 else b m1
@[simp] def exDrop (a : Ev) : Ex := fun m => bndO (a m) fun _ m1 => some (.ok .nx, m1)
@[simp] def exRet (a : Ev) : Ex := fun m => bnd (a m) fun r m1 => match r with
  | .val d => if solid d = true then some (.ok (.rt (.val d)), m1) else none
  | .own xs => some (.ok (.rt (.own xs)), m1)
@[simp] def exRetN : Ex := fun m => some (.ok (.rt (.val .non)), m)
@[simp] def exBrk : Ex := fun m => some (.ok .bk, m)
@[simp] def exCnt : Ex := fun m => some (.ok .ct, m)
@[simp] def exNever : Ex := fun _ => none
@[simp] def exSet (i : Nat) (a : Ev) : Ex := fun m => bnd (a m) fun r m1 => match r with
  | .val d => if solid d = true then some (.ok .nx, { m1 with g := m1.g.set i (.d d) }) else none
  | .own xs => some (.ok .nx, { m1 with g := m1.g.set i (.own xs) })
section
variable {C : Ctx} {W : WX} {ta tb te : TE} {a b e : Ev} {tt : TT} {bt : EvB} {t u : TS} {ex ey : Ex}
theorem SE.bndV {ρ : List Addr} {R H : Hp} {F : List Res} {σ : St} {m : MSt} {β : Type} {P : List Addr → Hp → Option (Rs β × MSt) → Prop} {f : DV → MSt → Option (Rs β × MSt)} {k : VK} (h : SE C W ta a) (S : Sat C ρ R F σ H m) (wi : Wish C W F σ P) (p : P ρ R (bnd (a m) f))
    (K1 : ∀ ρ' R' H' v d m', ρ <+: ρ' → Same R R' → Sat C ρ' R' F σ H' m' → RO C.K ρ' R' σ v d → P ρ' R' (f (.val d) m') → k v H')
    (K2 : ∀ ρ' R' H' q vs xs m', ρ <+: ρ' → Same R R' → Sat C ρ' R' ((q, .lst vs) :: F) σ H' m' → RDs C.K ρ' R' vs xs → P ρ' R' (f (.own xs) m') → k (.ref q) H') : ta σ H k := by
  refine h ρ R F σ H m k S ?_
  match a m, p with
  | none, p => exact wi.no _ _ p
  | some (.ok (.val d), m'), p => exact fun ρ' R' H' hp hr v S' r => K1 ρ' R' H' v d m' hp hr S' r (wi.up _ _ _ _ _ hp hr p)
  | some (.ok (.own xs), m'), p => exact fun ρ' R' H' hp hr q vs S' r => K2 ρ' R' H' q vs xs m' hp hr S' r (wi.up _ _ _ _ _ hp hr p)
  | some (.exc x, m'), p => exact wi.ex _ _ _ _ p
theorem ss_next : SS C W tNext exNext := fun ρ R F σ H m D S p => p σ ρ R H (List.prefix_refl _) (Same.refl _) S
theorem ss_brk : SS C W tBreak exBrk := fun ρ R F σ H m D S p => p σ ρ R H (List.prefix_refl _) (Same.refl _) S
theorem ss_cnt : SS C W tCont exCnt := fun ρ R F σ H m D S p => p σ ρ R H (List.prefix_refl _) (Same.refl _) S
theorem ss_never : SS C W tNever exNever := fun ρ R F σ H m D S p => p.elim
theorem ss_retN : SS C W tRetN exRetN := fun ρ R F σ H m D S p => p σ ρ R H .non (List.prefix_refl _) (Same.refl _) S .non
theorem ss_seq (h1 : SS C W t ex) (h2 : SS C W u ey) : SS C W (tSeq t u) (exSeq ex ey) := fun ρ R F σ H m D S p => by
  refine h1 ρ R F σ H m _ S ?_
  unfold exSeq at p
  match ex m, p with
  | some (.ok .nx, m1), p => exact fun σ' ρ' R' H' hp hr S' => h2 ρ' R' F σ' H' m1 D S' (poS_wish.up (σ := σ) _ _ _ _ _ hp hr p)
  | some (.ok .bk, m1), p => exact p
  | some (.ok .ct, m1), p => exact p
  | some (.ok (.rt (.val d)), m1), p => exact p
  | some (.ok (.rt (.own d)), m1), p => exact p
  | some (.exc x, m1), p => exact p
  | none, p => exact p
theorem ss_if (h : SB C W tt bt) (h1 : SS C W t ex) (h2 : SS C W u ey) : SS C W (tIfS tt t u) (exIf bt ex ey) := fun ρ R F σ H m D S p =>
  h.bnd S poS_wish p fun ρ1 R1 H1 k m1 p1 r1 S1 q1 => by
    cases k with
    | true => exact h1 ρ1 R1 F σ H1 m1 D S1 q1
    | false => exact h2 ρ1 R1 F σ H1 m1 D S1 q1
theorem ss_drop (h : SE C W te e) : SS C W (tDrop te) (exDrop e) := fun ρ R F σ H m D S p =>
  h.bndO S poS_wish p fun ρ1 R1 H1 x d m1 p1 r1 S1 o1 q1 => q1 σ ρ1 R1 H1 (List.prefix_refl _) (Same.refl _) S1
theorem ss_ret (h : SE C W te e) : SS C W (tRet te) (exRet e) := fun ρ R F σ H m D S p =>
  h.bndV S poS_wish p (fun ρ1 R1 H1 x d m1 p1 r1 S1 o1 q1 => by
    split at q1
    · rename_i hs
      cases hs
      split at q1
      · rename_i hs
        exact q1 σ ρ1 R1 H1 x (List.prefix_refl _) (Same.refl _) S1 (o1.rd hs)
      · exact q1.elim
    · rename_i hs
      cases hs) fun ρ1 R1 H1 q vs xs m1 p1 r1 S1 rd q1 => q1 σ ρ1 R1 H1 q vs (List.prefix_refl _) (Same.refl _) S1 rd
theorem ss_set {i : Nat} (h : SE C W te e) : SS C W (tAsg te (gName i)) (exSet i e) := fun ρ R F σ H m D S p =>
  h.bndV S poS_wish p (fun ρ1 R1 H1 x d m1 p1 r1 S1 o1 q1 => by
    split at q1
    · rename_i hs
      cases hs
      split at q1
      · rename_i hs
        exact q1 _ ρ1 R1 H1 (List.prefix_refl _) (Same.refl _) (S1.set (o1.rd hs))
      · exact q1.elim
    · rename_i hs
      cases hs) fun ρ1 R1 H1 q vs xs m1 p1 r1 S1 rd q1 => q1 _ ρ1 R1 H1 (List.prefix_refl _) (Same.refl _) (S1.setOwn rd)
end
end MP

set_option Elab.async false
set_option linter.all false
set_option maxRecDepth 100000
set_option maxHeartbeats 4000000
namespace MP
open PySem L2

/-! ### a cell that changes -/
section
variable {C : Ctx} {W : WX} {ρ : List Addr} {R H : Hp} {F : List Res} {σ : L2.St} {m : MSt}
theorem cell_mid {A L1 L2 F : List Res} (x : Res) : (x :: (A ++ ((L1 ++ L2) ++ F))).Perm (A ++ ((L1 ++ ([x] ++ L2)) ++ F)) := by
  have e : A ++ ((L1 ++ ([x] ++ L2)) ++ F) = (A ++ L1) ++ x :: (L2 ++ F) := by simp
  have e2 : A ++ ((L1 ++ L2) ++ F) = (A ++ L1) ++ (L2 ++ F) := by simp
  rw [e, e2]
  exact List.perm_middle.symm
theorem Sat.cellSet {id : Nat} {ce : Cell} {a : Addr} {o : HO} (S : Sat C ρ R F σ H m) (h : m.c[id]? = some ce) (hr : ρ[id]? = some a) (h1 : ∀ a' l, CeR C ρ R a' ce l → ∃ o, l = [(a', o)]) :
    ∃ o, CeR C ρ R a ce [(a, o)] ∧ H a = some o ∧ ∀ ce' o', CeR C ρ R a ce' [(a, o')] → Sat C ρ R F σ (upd H a o') { m with c := m.c.set id ce' } := by
  obtain ⟨ls, lc, q1, q2, ow⟩ := S
  obtain ⟨a2, l, L1, L2, e1, r, eL, hs⟩ := q2.at h
  rw [hr] at e1
  cases e1
  obtain ⟨o, rfl⟩ := h1 a l r
  rw [eL] at ow
  have ow' := ow.perm (cell_mid (a, o)).symm
  have hp := ow'.at' (a, o) List.mem_cons_self
  refine ⟨o, r, hp.1, fun ce' o' r' => ?_⟩
  have q := hs _ (fun _ _ _ x => x) a ce' [(a, o')] r'
  have ea : ρ.set id a = ρ := by
    apply List.ext_getElem?
    intro j
    have hi : id < ρ.length := (List.getElem?_eq_some_iff.mp hr).1
    by_cases hj : id = j
    · subst hj; rw [List.getElem?_set_self hi, hr]
    · rw [List.getElem?_set_ne hj]
  rw [ea] at q
  exact ⟨ls, _, q1, q, ow'.set.perm (cell_mid (a, o'))⟩
end

/-! ### lists that may change -/
@[simp] def lsM (m : MSt) : D → Option (List D)
  | .ref id => match m.c[id]? with | some (.lst xs) => some xs | _ => none
  | .sl i => match m.g[i]? with | some (.own xs) => some xs | _ => none
  | _ => none
@[simp] def putL (m : MSt) (d : D) (xs : List D) : MSt := match d with
  | .ref id => { m with c := m.c.set id (.lst xs) }
  | .sl i => { m with g := m.g.set i (.own xs) }
  | _ => m
section
variable {C : Ctx} {W : WX} {ρ : List Addr} {R H : Hp} {F : List Res} {σ : L2.St} {m : MSt}
theorem lm_ok {v : V} {d : D} {xs : List D} (S : Sat C ρ R F σ H m) (r : RO C.K ρ R σ v d) (h : lsM m d = some xs) :
    ∃ a vs, v = .ref a ∧ H a = some (.lst vs) ∧ RDs C.K ρ R vs xs ∧ ∀ vs' xs', RDs C.K ρ R vs' xs' → Sat C ρ R F σ (upd H a (.lst vs')) (putL m d xs') := by
  cases r with
  | d r =>
    cases r with
    | ref h1 =>
      rename_i a id
      have e : m.c[id]? = some (.lst xs) := lsO_ref h
      obtain ⟨o, r2, hH, hs⟩ := S.cellSet (o := .lst []) e h1 fun a' l q => by
        cases q
        exact ⟨_, rfl⟩
      cases r2 with
      | lst r2 => exact ⟨a, _, rfl, hH, r2, fun vs' xs' r' => hs (.lst xs') (.lst vs') (.lst r')⟩
    | _ => cases h
  | sl r =>
    have e := lsO_sl h
    obtain ⟨p, vs, e1, hp, r1, hs, _⟩ := S.slotOwn e
    rw [r] at e1
    cases e1
    exact ⟨p, vs, rfl, hp, r1, hs⟩
end

/-! ### targets -/
def PoG (C : Ctx) (W : WX) (F : List Res) (Q : L2.St → Hp → Prop) (ρ : List Addr) (R : Hp) : Option (Rs Unit × MSt) → Prop
  | none => False
  | some (.ok _, m) => ∀ σ' ρ' R' H', ρ <+: ρ' → Same R R' → Sat C ρ' R' F σ' H' m → Q σ' H'
  | some (.exc x, m) => ∀ cls d σ' ρ' R' H', ρ <+: ρ' → Same R R' → Sat C ρ' R' F σ' H' m → RX C ρ' R' cls d x → W cls d σ' H'
theorem poG_wish {C : Ctx} {W : WX} {F : List Res} {σ : L2.St} {Q : L2.St → Hp → Prop} : Wish C W F σ (PoG C W F Q) where
  no := fun _ _ h => h
  up := fun ρ R ρ' R' r hp hr h => by
    match r, h with
    | some (.ok _, m), h => exact fun σ2 ρ2 R2 H2 p2 r2 => h σ2 ρ2 R2 H2 (hp.trans p2) (hr.trans r2)
    | some (.exc x, m), h => exact fun cls d σ2 ρ2 R2 H2 p2 r2 => h cls d σ2 ρ2 R2 H2 (hp.trans p2) (hr.trans r2)
  ex := fun ρ R x m h cls d ρ' R' H' => h cls d σ ρ' R' H'
abbrev Gs := D → MSt → Option (Rs Unit × MSt)
abbrev Gss := List D → MSt → Option (Rs Unit × MSt)
def SG (C : Ctx) (W : WX) (g : TG) (gs : Gs) : Prop := ∀ ρ R F σ H m v d (Q : L2.St → Hp → Prop), Sat C ρ R F σ H m → RD C.K ρ R v d → PoG C W F Q ρ R (gs d m) → g v σ H Q
def SGs (C : Ctx) (W : WX) (g : TGs) (gs : Gss) : Prop := ∀ ρ R F σ H m vs ds (Q : L2.St → Hp → Prop), Sat C ρ R F σ H m → RDs C.K ρ R vs ds → PoG C W F Q ρ R (gs ds m) → g vs σ H Q
@[simp] def gsName (i : Nat) : Gs := fun d m => some (.ok (), { m with g := m.g.set i (.d d) })
@[simp] def gsNil : Gss := fun ds m => match ds with | [] => some (.ok (), m) | _ => none
@[simp] def gsCons (a : Gs) (r : Gss) : Gss := fun ds m => match ds with
  | d :: ds => bnd (a d m) fun _ m1 => r ds m1
  | [] => none
@[simp] def gsTup (n : Nat) (r : Gss) : Gs := fun d m => match d with | .tup xs => if xs.length = n then r xs m else none | _ => none
section
variable {C : Ctx} {W : WX}
theorem sg_name {i : Nat} : SG C W (gName i) (gsName i) := fun ρ R F σ H m v d Q S r p => p _ ρ R H (List.prefix_refl _) (Same.refl _) (S.set r)
theorem sgs_nil : SGs C W gNil gsNil := fun ρ R F σ H m vs ds Q S r p => by
  unfold gsNil at p
  split at p
  · cases r
    exact ⟨rfl, p σ ρ R H (List.prefix_refl _) (Same.refl _) S⟩
  · exact p.elim
theorem PoG.bnd {F : List Res} {Q : L2.St → Hp → Prop} {ρ : List Addr} {R H : Hp} {m : MSt} {σ : L2.St} {g : TG} {gs : Gs} {v : V} {d : D} {f : Unit → MSt → Option (Rs Unit × MSt)} {k : L2.St → Hp → Prop} (h : SG C W g gs) (S : Sat C ρ R F σ H m) (r : RD C.K ρ R v d) (p : PoG C W F Q ρ R (bnd (gs d m) f))
    (K : ∀ σ' ρ' R' H' m', ρ <+: ρ' → Same R R' → Sat C ρ' R' F σ' H' m' → PoG C W F Q ρ' R' (f () m') → k σ' H') : g v σ H k := by
  refine h ρ R F σ H m v d k S r ?_
  match gs d m, p with
  | none, p => exact p
  | some (.ok _, m'), p => exact fun σ' ρ' R' H' hp hr S' => K σ' ρ' R' H' m' hp hr S' ((poG_wish (σ := σ)).up _ _ _ _ _ hp hr p)
  | some (.exc x, m'), p => exact p
theorem sgs_cons {g : TG} {gs : Gs} {u : TGs} {us : Gss} (h1 : SG C W g gs) (h2 : SGs C W u us) : SGs C W (gCons g u) (gsCons gs us) := fun ρ R F σ H m vs ds Q S r p => by
  unfold gsCons at p
  split at p
  · cases r with
    | cons r1 r2 => exact ⟨_, _, rfl, PoG.bnd h1 S r1 p fun σ' ρ' R' H' m' hp hr S' p' => h2 ρ' R' F σ' H' m' _ _ Q S' (r2.up hp hr) p'⟩
  · exact p.elim
theorem sg_tup {n : Nat} {u : TGs} {us : Gss} (h : SGs C W u us) : SG C W (gTup C.K n u) (gsTup n us) := fun ρ R F σ H m v d Q S r p => by
  unfold gsTup at p
  split at p
  · split at p
    · rename_i hn
      cases r with
      | tup h1 h2 => exact ⟨_, _, rfl, SqT.of (S.same _ _ h1), by rw [h2.length]; exact hn, h ρ R F σ H m _ _ Q S h2 p⟩
    · exact p.elim
  · exact p.elim
/-! o[i] = v of a list -/
@[simp] def fSetL (o i v : D) (m : MSt) : Option (Rs Unit × MSt) := match i with
  | .int k => match lsM m o with
    | some xs => match ixN xs.length k with
      | some j => some (.ok (), putL m o (xs.set j v))
      | none => none
    | none => none
  | _ => none
@[simp] def gsSub (a b : Ev) : Gs := fun d m => bndO (a m) fun o m1 => bndO (b m1) fun i m2 => fSetL o i d m2
theorem sg_sub {to ti : TE} {a b : Ev} (h1 : SE C W to a) (h2 : SE C W ti b) : SG C W (gSub to ti rSetL) (gsSub a b) := fun ρ R F σ H m v d Q S r p =>
  h1.bndO S poG_wish p fun ρ1 R1 H1 o e m1 p1 r1 S1 o1 q1 => h2.bndO S1 poG_wish q1 fun ρ2 R2 H2 i f m2 p2 r2 S2 o2 q2 => by
    unfold fSetL at q2
    split at q2
    · split at q2
      · rename_i xs hx
        split at q2
        · rename_i j hj
          obtain ⟨a, vs, rfl, hH, rd, hs⟩ := lm_ok S2 (o1.up p2 r2) hx
          refine ⟨a, vs, _, j, rfl, o2.int, hH, by rw [rd.length]; exact hj, ?_⟩
          exact q2 σ ρ2 R2 _ (List.prefix_refl _) (Same.refl _) (hs _ _ (rd.set j ((r.up p1 r1).up p2 r2)))
        · exact q2.elim
      · exact q2.elim
    · exact q2.elim
@[simp] def exAsg (a : Ev) (g : Gs) : Ex := fun m => bndD (a m) fun d m1 => bnd (g d m1) fun _ m2 => some (.ok .nx, m2)
theorem SG.bndS {D' : Ends} {F : List Res} {ρ : List Addr} {R H : Hp} {m : MSt} {σ : L2.St} {g : TG} {gs : Gs} {v : V} {d : D} {f : Unit → MSt → Option (Rs Ctl × MSt)} {k : L2.St → Hp → Prop} (h : SG C W g gs) (S : Sat C ρ R F σ H m) (r : RD C.K ρ R v d) (p : PoS C W F D' ρ R (bnd (gs d m) f))
    (K : ∀ σ' ρ' R' H' m', ρ <+: ρ' → Same R R' → Sat C ρ' R' F σ' H' m' → PoS C W F D' ρ' R' (f () m') → k σ' H') : g v σ H k := by
  refine h ρ R F σ H m v d k S r ?_
  match gs d m, p with
  | none, p => exact p
  | some (.ok _, m'), p => exact fun σ' ρ' R' H' hp hr S' => K σ' ρ' R' H' m' hp hr S' ((poS_wish (σ := σ)).up _ _ _ _ _ hp hr p)
  | some (.exc x, m'), p => exact p
theorem ss_asg {te : TE} {e : Ev} {g : TG} {gs : Gs} (h : SE C W te e) (hg : SG C W g gs) : SS C W (tAsg te g) (exAsg e gs) := fun ρ R F σ H m D S p =>
  h.bndD S poS_wish p fun ρ1 R1 H1 x d m1 p1 r1 S1 o1 q1 => SG.bndS hg S1 o1 q1 fun σ' ρ' R' H' m' hp hr S' p' => p' σ' ρ' R' H' (List.prefix_refl _) (Same.refl _) S'
end

/-! ### methods of lists -/
@[simp] def isLs (m : MSt) (d : D) : Bool := (lsO m d).isSome
@[simp] def evMeth (f : D → List D → MSt → Option (Rs DV × MSt)) (a : Ev) (r : EvA) : Ev := fun m => bndO (a m) fun d m1 => if isLs m1 d then bnd (r m1) fun ds m2 => f d ds m2 else none
def SOM (C : Ctx) (W : WX) (r : V → List V → Hp → VK → Prop) (f : D → List D → MSt → Option (Rs DV × MSt)) : Prop :=
  ∀ ρ R F σ H m (Q : VK) x d ys es, Sat C ρ R F σ H m → RO C.K ρ R σ x d → ROs C.K ρ R σ ys es → Po C W F σ (hE C F σ Q) ρ R (f d es m) → r x ys H Q
section
variable {C : Ctx} {W : WX} {ta : TE} {a : Ev} {tr : TA} {ar : EvA}
theorem isLs_ty {ρ : List Addr} {R H : Hp} {F : List Res} {σ : L2.St} {m : MSt} {x : V} {d : D} (S : Sat C ρ R F σ H m) (o : RO C.K ρ R σ x d) (h : isLs m d = true) : tyV C.K "list" x H := by
  unfold isLs at h
  obtain ⟨xs, hx⟩ := Option.isSome_iff_exists.mp h
  obtain ⟨p, vs, rfl, hq, _⟩ := ls_ok S o hx
  exact .inl ⟨rfl, vs, hq⟩
theorem se_bm {r : V → List V → Hp → VK → Prop} {f : D → List D → MSt → Option (Rs DV × MSt)} (h1 : SE C W ta a) (h2 : SA C W tr ar) (h : SOM C W r f) : SE C W (tBM C.K "list" r ta tr) (evMeth f a ar) := fun ρ R F σ H m Q S p =>
  h1.bndO S po_wish p fun ρ1 R1 H1 x d m1 p1 r1 S1 o1 q1 => by
    split at q1
    · rename_i hl
      exact ⟨isLs_ty S1 o1 hl, h2.bnd S1 po_wish q1 fun ρ2 R2 H2 vs ds m2 p2 r2 S2 o2 q2 => h ρ2 R2 F σ H2 m2 Q x d vs ds S2 (o1.up p2 r2) o2 q2⟩
    · exact q1.elim
theorem se_bm0 {r : V → List V → Hp → VK → Prop} {f : D → List D → MSt → Option (Rs DV × MSt)} (h1 : SE C W ta a) (h : SOM C W r f) : SE C W (tBM0 C.K "list" r ta) (evMeth f a eaNil) := fun ρ R F σ H m Q S p =>
  h1.bndO S po_wish p fun ρ1 R1 H1 x d m1 p1 r1 S1 o1 q1 => by
    split at q1
    · rename_i hl
      exact ⟨isLs_ty S1 o1 hl, h ρ1 R1 F σ H1 m1 Q x d [] [] S1 o1 .nil q1⟩
    · exact q1.elim
@[simp] def fApp : D → List D → MSt → Option (Rs DV × MSt) := fun d es m => match es with
  | [e] => match lsM m d with
    | some xs => if solid e && szOk (xs.length + 1) then some (.ok (.val .non), putL m d (xs ++ [e])) else none
    | none => none
  | _ => none
theorem som_app : SOM C W rAppend fApp := fun ρ R F σ H m Q x d ys es S o os p => by
  unfold fApp at p
  split at p
  · split at p
    · rename_i xs hx
      split at p
      · rename_i h
        obtain ⟨h1, h2⟩ := Bool.and_eq_true_iff.mp h
        obtain ⟨v, rfl, o1⟩ := os.one
        obtain ⟨l, vs, rfl, hH, rd, hs⟩ := lm_ok S o hx
        refine ⟨l, vs, v, rfl, rfl, hH, by rw [rd.length]; exact szOk_lt h2, p.val (hs _ _ (rd.append (.cons (o1.rd h1) .nil))) (.d .non)⟩
      · exact p.elim
    · exact p.elim
  · exact p.elim
@[simp] def fPop : D → List D → MSt → Option (Rs DV × MSt) := fun d es m => match es with
  | [] => match lsM m d with
    | some xs => match xs[xs.length - 1]? with
      | some v => some (.ok (.val v), putL m d xs.dropLast)
      | none => none
    | none => none
  | _ => none
theorem RDs.dropLast {K : PySem.W.Frag} {ρ : List Addr} {R : Hp} {vs : List V} {ds : List D} (r : RDs K ρ R vs ds) : RDs K ρ R vs.dropLast ds.dropLast := by
  rw [List.dropLast_eq_take, List.dropLast_eq_take, r.length]
  exact r.take _
theorem som_pop : SOM C W rPop fPop := fun ρ R F σ H m Q x d ys es S o os p => by
  unfold fPop at p
  split at p
  · split at p
    · rename_i xs hx
      split at p
      · rename_i v hv
        cases os
        obtain ⟨l, vs, rfl, hH, rd, hs⟩ := lm_ok S o hx
        obtain ⟨u, hu, ru⟩ := rd.get' hv
        refine ⟨l, vs, u, rfl, rfl, hH, by rw [rd.length]; exact hu, p.val (hs _ _ rd.dropLast) (.d ru)⟩
      · exact p.elim
    · exact p.elim
  · exact p.elim
def fPopAt : D → List D → MSt → Option (Rs DV × MSt) := fun d es m => match es with
  | [.int i] => match lsM m d with
    | some xs => if decide (-(2 ^ 63) ≤ i) && decide (i < 2 ^ 63) then
        match seqIndex? i xs.length with
        | some k => match xs[k]? with
          | some v => some (.ok (.val v), putL m d (xs.eraseIdx k))
          | none => none
        | none => none
      else none
    | none => none
  | _ => none
theorem som_popAt : SOM C W rPopAt fPopAt := fun ρ R F σ H m Q x d ys es S o os p => by
  unfold fPopAt at p
  split at p
  · split at p
    · rename_i xs hx
      split at p
      · rename_i h
        simp only [Bool.and_eq_true, decide_eq_true_eq] at h
        split at p
        · rename_i k hk
          split at p
          · rename_i v hv
            obtain ⟨y, rfl, o1⟩ := os.one
            have e := o1.int
            subst e
            obtain ⟨l, vs, rfl, hH, rd, hs⟩ := lm_ok S o hx
            obtain ⟨u, hu, ru⟩ := rd.get' hv
            exact ⟨l, vs, _, k, u, rfl, rfl, hH, h.1, h.2, by rw [rd.length]; exact hk, hu, p.val (hs _ _ (rd.eraseIdx k)) (.d ru)⟩
          · exact p.elim
        · exact p.elim
      · exact p.elim
    · exact p.elim
  · exact p.elim
end

/-! ### what a loop walks -/
def ItOk (C : Ctx) (J : It) (items : List D) (ρ : List Addr) (R : Hp) : Prop := ∀ i ρ' R' F σ H m, ρ <+: ρ' → Same R R' → Sat C ρ' R' F σ H m →
  (items.length ≤ i → J.stop i H) ∧ ∀ d, items[i]? = some d → J.go i H ∧ ∀ x H', J.yld i H x H' → ∃ R'', Same R' R'' ∧ Sat C ρ' R'' F σ H' m ∧ RD C.K ρ' R'' x d
theorem ItOk.up {C : Ctx} {J : It} {items : List D} {ρ ρ1 : List Addr} {R R1 : Hp} (h : ItOk C J items ρ R) (p : ρ <+: ρ1) (r : Same R R1) : ItOk C J items ρ1 R1 := fun i ρ' R' F σ H m hp hr => h i ρ' R' F σ H m (p.trans hp) (r.trans hr)
abbrev EvI := MSt → Option (Rs (List D) × MSt)
def hI (C : Ctx) (F : List Res) (σ : L2.St) (K : It → Hp → Prop) : List D → List Addr → Hp → Hp → MSt → Prop :=
  fun items ρ R H m => ∀ J, Sat C ρ R F σ H m → ItOk C J items ρ R → K J H
def SI (C : Ctx) (W : WX) (t : TI) (ev : EvI) : Prop := ∀ ρ R F σ H m (K : It → Hp → Prop), Sat C ρ R F σ H m → Po C W F σ (hI C F σ K) ρ R (ev m) → t σ H K
theorem SI.bnd {C : Ctx} {W : WX} {ρ : List Addr} {R H : Hp} {F : List Res} {σ : L2.St} {m : MSt} {β : Type} {P : List Addr → Hp → Option (Rs β × MSt) → Prop} {f : List D → MSt → Option (Rs β × MSt)} {t : TI} {ev : EvI} {k : It → Hp → Prop} (h : SI C W t ev) (S : Sat C ρ R F σ H m) (wi : Wish C W F σ P) (p : P ρ R (MP.bnd (ev m) f))
    (K : ∀ ρ' R' H' J ds m', ρ <+: ρ' → Same R R' → Sat C ρ' R' F σ H' m' → ItOk C J ds ρ' R' → P ρ' R' (f ds m') → k J H') : t σ H k := by
  refine h ρ R F σ H m k S ?_
  match ev m, p with
  | none, p => exact wi.no _ _ p
  | some (.ok ds, m'), p => exact fun ρ' R' H' hp hr J S' ok => K ρ' R' H' J ds m' hp hr S' ok (wi.up _ _ _ _ _ hp hr p)
  | some (.exc x, m'), p => exact wi.ex _ _ _ _ p
/-! a list that stands (frozen); a tuple -/
@[simp] def eiList (a : Ev) : EvI := fun m => bndD (a m) fun d m1 => match d with | .lst xs => some (.ok xs, m1) | .lstK xs => some (.ok xs, m1) | _ => none
@[simp] def eiTup (a : Ev) : EvI := fun m => bndD (a m) fun d m1 => match d with | .tup xs => some (.ok xs, m1) | .tupK xs => some (.ok xs, m1) | _ => none
section
variable {C : Ctx} {W : WX} {ta : TE} {a : Ev}
theorem itl_ok {ρ : List Addr} {R : Hp} {l : Addr} {vs : List V} {xs : List D} (h1 : SqL C.K R l vs) (h2 : RDs C.K ρ R vs xs) : ItOk C (Itl C.K l) xs ρ R := fun i ρ' R' F σ H m hp hr S => by
  have q := S.same.seq (hr.seq h1)
  refine ⟨fun hi => ⟨vs, q, by rw [h2.length]; exact hi⟩, fun d hd => ?_⟩
  obtain ⟨v, hv, rv⟩ := (h2.up hp hr).get' hd
  refine ⟨⟨vs, v, q, hv⟩, fun x H' y => ?_⟩
  obtain ⟨rfl, y⟩ := y
  have e := y vs q
  rw [hv] at e
  cases e
  exact ⟨R', Same.refl _, S, rv⟩
theorem itt_ok {ρ : List Addr} {R : Hp} {l : Addr} {vs : List V} {xs : List D} (h1 : SqT C.K R l vs) (h2 : RDs C.K ρ R vs xs) : ItOk C (Itt C.K l) xs ρ R := fun i ρ' R' F σ H m hp hr S => by
  have q := same_t S.same (same_t hr h1)
  refine ⟨fun hi => ⟨vs, q, by rw [h2.length]; exact hi⟩, fun d hd => ?_⟩
  obtain ⟨v, hv, rv⟩ := (h2.up hp hr).get' hd
  refine ⟨⟨vs, v, q, hv⟩, fun x H' y => ?_⟩
  obtain ⟨rfl, y⟩ := y
  have e := y vs q
  rw [hv] at e
  cases e
  exact ⟨R', Same.refl _, S, rv⟩
theorem si_list (h : SE C W ta a) : SI C W (iList C.K ta) (eiList a) := fun ρ R F σ H m K S p =>
  h.bndD S po_wish p fun ρ1 R1 H1 x d m1 p1 r1 S1 o1 q1 => by
    split at q1
    · cases o1 with
      | lst h1 h2 => exact ⟨_, rfl, ⟨_, SqL.of (S1.same _ _ h1)⟩, q1 ρ1 R1 H1 (List.prefix_refl _) (Same.refl _) _ S1 (itl_ok (SqL.of h1) h2)⟩
    · cases o1 with
      | lstK h1 h2 => exact ⟨_, rfl, ⟨_, S1.same.seq h1⟩, q1 ρ1 R1 H1 (List.prefix_refl _) (Same.refl _) _ S1 (itl_ok h1 h2)⟩
    · exact q1.elim
theorem si_tup (h : SE C W ta a) : SI C W (iTup C.K ta) (eiTup a) := fun ρ R F σ H m K S p =>
  h.bndD S po_wish p fun ρ1 R1 H1 x d m1 p1 r1 S1 o1 q1 => by
    split at q1
    · cases o1 with
      | tup h1 h2 => exact ⟨_, rfl, ⟨_, SqT.of (S1.same _ _ h1)⟩, q1 ρ1 R1 H1 (List.prefix_refl _) (Same.refl _) _ S1 (itt_ok (SqT.of h1) h2)⟩
    · cases o1 with
      | tupK h1 h2 => exact ⟨_, rfl, ⟨_, same_t S1.same h1⟩, q1 ρ1 R1 H1 (List.prefix_refl _) (Same.refl _) _ S1 (itt_ok h1 h2)⟩
    · exact q1.elim
/-! ranges -/
def rngL (lo : Int) (n : Nat) : List D := (List.range n).map fun (i : Nat) => D.int (lo + (i : Int))
theorem rngL_len (lo : Int) (n : Nat) : (rngL lo n).length = n := by
  unfold rngL
  rw [List.length_map, List.length_range]
theorem rngL_get {lo : Int} {n i : Nat} {d : D} (h : (rngL lo n)[i]? = some d) : i < n ∧ d = .int (lo + (i : Int)) := by
  unfold rngL at h
  rw [List.getElem?_map] at h
  obtain ⟨j, hj, rfl⟩ := Option.map_eq_some_iff.mp h
  obtain ⟨h1, h2⟩ := List.getElem?_eq_some_iff.mp hj
  rw [List.length_range] at h1
  rw [List.getElem_range] at h2
  subst h2
  exact ⟨h1, rfl⟩
theorem itr_ok {ρ : List Addr} {R : Hp} {lo : Int} {n : Nat} : ItOk C (Itr lo n) (rngL lo n) ρ R := fun i ρ' R' F σ H m hp hr S => by
  refine ⟨fun hi => by rw [rngL_len] at hi; exact hi, fun d hd => ?_⟩
  obtain ⟨h1, rfl⟩ := rngL_get hd
  refine ⟨h1, fun x H' y => ?_⟩
  obtain ⟨rfl, rfl⟩ := y
  exact ⟨R', Same.refl _, S, .int _⟩
def c62 (i : Int) : Bool := decide (i.natAbs < 4611686018427387904)
theorem c62_ok {i : Int} (h : c62 i = true) : -(2 ^ 62) ≤ i ∧ i < 2 ^ 62 := by
  have e : (2 : Int) ^ 62 = 4611686018427387904 := by decide
  have h := of_decide_eq_true h
  rw [e]
  omega
def eiRng1 (a : EvA) : EvI := fun m => bnd (a m) fun ds m1 => match ds with
  | [.int j] => if c62 j then some (.ok (rngL 0 j.toNat), m1) else none
  | _ => none
def eiRng2 (a : EvA) : EvI := fun m => bnd (a m) fun ds m1 => match ds with
  | [.int i, .int j] => if c62 i && c62 j then some (.ok (rngL i (j - i).toNat), m1) else none
  | _ => none
theorem si_rng1 {tr : TA} {ar : EvA} (h : SA C W tr ar) : SI C W (iRng1 tr) (eiRng1 ar) := fun ρ R F σ H m K S p =>
  h.bnd S po_wish p fun ρ1 R1 H1 vs ds m1 p1 r1 S1 o1 q1 => by
    split at q1
    · split at q1
      · rename_i h
        have h := c62_ok h
        obtain ⟨v, rfl, o⟩ := o1.one
        have e := o.int
        subst e
        exact ⟨_, rfl, h.1, h.2, q1 ρ1 R1 H1 (List.prefix_refl _) (Same.refl _) _ S1 itr_ok⟩
      · exact q1.elim
    · exact q1.elim
theorem si_rng2 {tr : TA} {ar : EvA} (h : SA C W tr ar) : SI C W (iRng2 tr) (eiRng2 ar) := fun ρ R F σ H m K S p =>
  h.bnd S po_wish p fun ρ1 R1 H1 vs ds m1 p1 r1 S1 o1 q1 => by
    split at q1
    · split at q1
      · rename_i h
        have h := (Bool.and_eq_true _ _).mp h
        have h := And.intro (c62_ok h.1) (c62_ok h.2)
        obtain ⟨v, u, rfl, o, o'⟩ := o1.two
        have e := o.int
        have e' := o'.int
        subst e e'
        exact ⟨_, _, rfl, ⟨h.1.1, h.1.2, h.2.1, h.2.2⟩, q1 ρ1 R1 H1 (List.prefix_refl _) (Same.refl _) _ S1 itr_ok⟩
      · exact q1.elim
    · exact q1.elim
/-! enumerate, zip of lists that stand; the signs of a text -/
def enumL (xs : List D) : List D := xs.mapIdx fun i x => .tup [.int (i : Int), x]
def zipL (xs ys : List D) : List D := List.zipWith (fun x y => .tup [x, y]) xs ys
theorem ite_ok {ρ : List Addr} {R : Hp} {l : Addr} {vs : List V} {xs : List D} (h1 : SqL C.K R l vs) (h2 : RDs C.K ρ R vs xs) : ItOk C (Ite C.K l) (enumL xs) ρ R := fun i ρ' R' F σ H m hp hr S => by
  have q := S.same.seq (hr.seq h1)
  unfold enumL
  refine ⟨fun hi => ⟨vs, q, by rw [List.length_mapIdx] at hi; rw [h2.length]; exact hi⟩, fun d hd => ?_⟩
  rw [List.getElem?_mapIdx] at hd
  obtain ⟨e, he, rfl⟩ := Option.map_eq_some_iff.mp hd
  obtain ⟨v, hv, rv⟩ := (h2.up hp hr).get' he
  refine ⟨⟨vs, v, q, hv⟩, fun x H' y => ?_⟩
  obtain ⟨T, z, rfl, hT, rfl, y⟩ := y
  have e2 := y vs q
  rw [hv] at e2
  cases e2
  obtain ⟨S2, sm⟩ := S.frz (u := .tup [.int (i : Nat), v]) hT
  exact ⟨_, sm, S2, .tup upd_same (.cons (.int _) (.cons (rv.up (List.prefix_refl _) sm) .nil))⟩
theorem itz_ok {ρ : List Addr} {R : Hp} {l l' : Addr} {vs ws : List V} {xs ys : List D} (h1 : SqL C.K R l vs) (h2 : RDs C.K ρ R vs xs) (g1 : SqL C.K R l' ws) (g2 : RDs C.K ρ R ws ys) : ItOk C (Itz C.K l l') (zipL xs ys) ρ R := fun i ρ' R' F σ H m hp hr S => by
  have q := S.same.seq (hr.seq h1)
  have q' := S.same.seq (hr.seq g1)
  unfold zipL
  refine ⟨fun hi => ⟨vs, ws, q, q', by rw [List.length_zipWith] at hi; rw [h2.length, g2.length]; omega⟩, fun d hd => ?_⟩
  rw [List.getElem?_zipWith_eq_some] at hd
  obtain ⟨x, y, hx, hy, rfl⟩ := hd
  obtain ⟨v, hv, rv⟩ := (h2.up hp hr).get' hx
  obtain ⟨u, hu, ru⟩ := (g2.up hp hr).get' hy
  refine ⟨⟨vs, ws, v, u, q, q', hv, hu⟩, fun x H' y => ?_⟩
  obtain ⟨T, z1, z2, rfl, hT, rfl, y1, y2⟩ := y
  have e1 := y1 vs q
  have e2 := y2 ws q'
  rw [hv] at e1
  rw [hu] at e2
  cases e1
  cases e2
  obtain ⟨S2, sm⟩ := S.frz (u := .tup [v, u]) hT
  exact ⟨_, sm, S2, .tup upd_same (.cons (rv.up (List.prefix_refl _) sm) (.cons (ru.up (List.prefix_refl _) sm) .nil))⟩
@[simp] def frL : D → Option (List D)
  | .lst xs => some xs
  | .lstK xs => some xs
  | _ => none
theorem frL_ok {ρ : List Addr} {R : Hp} {σ : L2.St} {v : V} {d : D} {xs : List D} (o : RO C.K ρ R σ v d) (h : frL d = some xs) : ∃ a vs, v = .ref a ∧ SqL C.K R a vs ∧ RDs C.K ρ R vs xs := by
  cases o with
  | d r =>
    cases r with
    | lst h1 h2 => cases h; exact ⟨_, _, rfl, SqL.of h1, h2⟩
    | lstK h1 h2 => cases h; exact ⟨_, _, rfl, h1, h2⟩
    | _ => cases h
  | sl r => cases h
@[simp] def eiEnum (a : EvA) : EvI := fun m => bnd (a m) fun ds m1 => match ds with | [d] => (match frL d with | some xs => some (.ok (enumL xs), m1) | none => none) | _ => none
@[simp] def eiZip (a : EvA) : EvI := fun m => bnd (a m) fun ds m1 => match ds with | [d, e] => (match frL d, frL e with | some xs, some ys => some (.ok (zipL xs ys), m1) | _, _ => none) | _ => none
theorem si_enum {tr : TA} {ar : EvA} (h : SA C W tr ar) : SI C W (iEnum C.K tr) (eiEnum ar) := fun ρ R F σ H m K S p =>
  h.bnd S po_wish p fun ρ1 R1 H1 vs ds m1 p1 r1 S1 o1 q1 => by
    split at q1
    · split at q1
      · rename_i xs hx
        obtain ⟨v, rfl, o⟩ := o1.one
        obtain ⟨a, vs, rfl, h1, h2⟩ := frL_ok o hx
        exact ⟨_, _, rfl, S1.same.seq h1, q1 ρ1 R1 H1 (List.prefix_refl _) (Same.refl _) _ S1 (ite_ok h1 h2)⟩
      · exact q1.elim
    · exact q1.elim
theorem si_zip {tr : TA} {ar : EvA} (h : SA C W tr ar) : SI C W (iZip C.K tr) (eiZip ar) := fun ρ R F σ H m K S p =>
  h.bnd S po_wish p fun ρ1 R1 H1 vs ds m1 p1 r1 S1 o1 q1 => by
    split at q1
    · split at q1
      · rename_i xs ys hx hy
        obtain ⟨v, u, rfl, o, o'⟩ := o1.two
        obtain ⟨a, vs, rfl, h1, h2⟩ := frL_ok o hx
        obtain ⟨b, ws, rfl, g1, g2⟩ := frL_ok o' hy
        exact ⟨_, _, _, _, rfl, S1.same.seq h1, S1.same.seq g1, q1 ρ1 R1 H1 (List.prefix_refl _) (Same.refl _) _ S1 (itz_ok h1 h2 g1 g2)⟩
      · exact q1.elim
    · exact q1.elim
def signsL (x : Str) : List D := x.cps.toList.map fun c => .str ⟨#[c]⟩
theorem its_ok {ρ : List Addr} {R : Hp} {x : Str} : ItOk C (Its x) (signsL x) ρ R := fun i ρ' R' F σ H m hp hr S => by
  unfold signsL
  refine ⟨fun hi => by
    rw [List.length_map] at hi
    show x.cps.size ≤ i
    simpa using hi, fun d hd => ?_⟩
  rw [List.getElem?_map] at hd
  obtain ⟨c, hc, rfl⟩ := Option.map_eq_some_iff.mp hd
  have hi : i < x.cps.size := by simpa using (List.getElem?_eq_some_iff.mp hc).1
  refine ⟨hi, fun y H' hy => ?_⟩
  obtain ⟨rfl, c', hc', rfl⟩ := hy
  have e : c' = c := by
    rw [Array.getElem?_toList] at hc
    rw [hc] at hc'
    exact (Option.some.inj hc').symm
  subst e
  exact ⟨R', Same.refl _, S, .str _⟩
@[simp] def eiStr (a : Ev) : EvI := fun m => bndD (a m) fun d m1 => match d with | .str x => some (.ok (signsL x), m1) | _ => none
theorem si_str (h : SE C W ta a) : SI C W (iStr ta) (eiStr a) := fun ρ R F σ H m K S p =>
  h.bndD S po_wish p fun ρ1 R1 H1 x d m1 p1 r1 S1 o1 q1 => by
    split at q1
    · cases o1
      exact ⟨_, rfl, q1 ρ1 R1 H1 (List.prefix_refl _) (Same.refl _) _ S1 its_ok⟩
    · exact q1.elim
end

/-! ### for, while -/
def loopFor (g : Gs) (b : Ex) : List D → MSt → Option (Rs Ctl × MSt)
  | [], m => some (.ok .nx, m)
  | d :: ds, m => match g d m with
    | none => none
    | some (.exc x, m1) => some (.exc x, m1)
    | some (.ok _, m1) => match b m1 with
      | some (.ok .nx, m2) => loopFor g b ds m2
      | some (.ok .ct, m2) => loopFor g b ds m2
      | some (.ok .bk, m2) => some (.ok .nx, m2)
      | r => r
@[simp] def exFor (it : EvI) (g : Gs) (b : Ex) : Ex := fun m => bnd (it m) fun items m1 => loopFor g b items m1
def loopW (c : EvB) (b : Ex) : Nat → MSt → Option (Rs Ctl × MSt)
  | 0, _ => none
  | n + 1, m => match c m with
    | none => none
    | some (.exc x, m1) => some (.exc x, m1)
    | some (.ok false, m1) => some (.ok .nx, m1)
    | some (.ok true, m1) => match b m1 with
      | some (.ok .nx, m2) => loopW c b n m2
      | some (.ok .ct, m2) => loopW c b n m2
      | some (.ok .bk, m2) => some (.ok .nx, m2)
      | r => r
@[simp] def exWhile (n : Nat) (c : EvB) (b : Ex) : Ex := fun m => loopW c b n m
section
variable {C : Ctx} {W : WX}
theorem ss_for {wi : TI} {it : EvI} {g : TG} {gs : Gs} {tb : TS} {b : Ex} (h : SI C W wi it) (hg : SG C W g gs) (hb : SS C W tb b) : SS C W (tFor wi g tb) (exFor it gs b) := fun ρ R F σ H m D S p =>
  h.bnd S poS_wish p fun ρ1 R1 H1 J items m1 p1 r1 S1 ok q1 => by
    refine ⟨fun i k σ' H' => k = items.length - i ∧ i ≤ items.length ∧ ∃ m' ρ' R', ρ1 <+: ρ' ∧ Same R1 R' ∧ Sat C ρ' R' F σ' H' m' ∧ PoS C W F D ρ' R' (loopFor gs b (items.drop i) m'),
      ⟨_, rfl, Nat.zero_le _, m1, ρ1, R1, List.prefix_refl _, Same.refl _, S1, q1⟩, ?_⟩
    rintro i k σ' H' ⟨rfl, hi, m', ρ', R', hp, hr, S', q⟩
    have ok' := ok i ρ' R' F σ' H' m' hp hr S'
    by_cases hlt : i < items.length
    · have hd : items[i]? = some items[i] := List.getElem?_eq_getElem hlt
      obtain ⟨go, yl⟩ := ok'.2 _ hd
      refine .inr ⟨go, fun σ2 H2 => ∃ m2 ρ2 R2, ρ1 <+: ρ2 ∧ Same R1 R2 ∧ Sat C ρ2 R2 F σ2 H2 m2 ∧ PoS C W F D ρ2 R2 (loopFor gs b (items.drop (i + 1)) m2), fun σ2 H2 ⟨m2, ρ2, R2, a1, a2, a3, a4⟩ => ⟨items.length - (i + 1), by omega, rfl, hlt, m2, ρ2, R2, a1, a2, a3, a4⟩, fun x H2 y => ?_⟩
      obtain ⟨R2, r2, S2, rd⟩ := yl x H2 y
      rw [List.drop_eq_getElem_cons hlt] at q
      have q2 : PoS C W F D ρ' R2 (loopFor gs b (items[i] :: items.drop (i + 1)) m') := (poS_wish (σ := σ')).up _ _ _ _ _ (List.prefix_refl _) r2 q
      refine hg ρ' R2 F σ' H2 m' x _ _ S2 rd ?_
      unfold loopFor at q2
      match gs items[i] m', q2 with
      | none, q2 => exact q2
      | some (.exc x, m3), q2 => exact q2
      | some (.ok _, m3), q2 =>
        intro σ3 ρ3 R3 H3 p3 r3 S3
        have q3 := (poS_wish (σ := σ3)).up _ _ _ _ _ p3 r3 q2
        refine hb ρ3 R3 F σ3 H3 m3 _ S3 ?_
        simp only at q3
        have go : ∀ m4, PoS C W F D ρ3 R3 (loopFor gs b (items.drop (i + 1)) m4) → ∀ σ4 ρ4 R4 H4, ρ3 <+: ρ4 → Same R3 R4 → Sat C ρ4 R4 F σ4 H4 m4 →
            ∃ m2 ρ2 R2, ρ1 <+: ρ2 ∧ Same R1 R2 ∧ Sat C ρ2 R2 F σ4 H4 m2 ∧ PoS C W F D ρ2 R2 (loopFor gs b (items.drop (i + 1)) m2) := fun m4 z σ4 ρ4 R4 H4 p4 r4 S4 =>
          ⟨m4, ρ4, R4, (hp.trans p3).trans p4, ((hr.trans r2).trans r3).trans r4, S4, (poS_wish (σ := σ4)).up _ _ _ _ _ p4 r4 z⟩
        match b m3, q3 with
        | none, q3 => exact q3
        | some (.ok .nx, m4), q3 => exact go m4 q3
        | some (.ok .ct, m4), q3 => exact go m4 q3
        | some (.ok .bk, m4), q3 => exact q3
        | some (.ok (.rt (.val _)), m4), q3 => exact q3
        | some (.ok (.rt (.own _)), m4), q3 => exact q3
        | some (.exc _, m4), q3 => exact q3
    · have e : i = items.length := by omega
      subst e
      rw [List.drop_length] at q
      exact .inl ⟨ok'.1 (Nat.le_refl _), q σ' ρ' R' H' (List.prefix_refl _) (Same.refl _) S'⟩
theorem ss_while {n : Nat} {tc : TT} {c : EvB} {tb : TS} {b : Ex} (h : SB C W tc c) (hb : SS C W tb b) : SS C W (tWhile tc tb) (exWhile n c b) := fun ρ R F σ H m D S p => by
  refine ⟨fun k σ' H' => ∃ m' ρ' R', ρ <+: ρ' ∧ Same R R' ∧ Sat C ρ' R' F σ' H' m' ∧ PoS C W F D ρ' R' (loopW c b k m'), ⟨n, m, ρ, R, List.prefix_refl _, Same.refl _, S, p⟩, ?_⟩
  rintro k σ' H' ⟨m', ρ', R', hp, hr, S', q⟩
  cases k with
  | zero => exact q.elim
  | succ k =>
    refine h ρ' R' F σ' H' m' _ S' ?_
    unfold loopW at q
    match c m', q with
    | none, q => exact q
    | some (.exc x, m1), q => exact fun cls d ρ1 R1 H1 => q cls d σ' ρ1 R1 H1
    | some (.ok false, m1), q => exact fun ρ1 R1 H1 p1 r1 S1 => q σ' ρ1 R1 H1 p1 r1 S1
    | some (.ok true, m1), q =>
      intro ρ1 R1 H1 p1 r1 S1
      rw [if_pos rfl]
      have q1 := (poS_wish (σ := σ')).up _ _ _ _ _ p1 r1 q
      refine ⟨fun σ2 H2 => ∃ m2 ρ2 R2, ρ <+: ρ2 ∧ Same R R2 ∧ Sat C ρ2 R2 F σ2 H2 m2 ∧ PoS C W F D ρ2 R2 (loopW c b k m2), fun σ2 H2 z => ⟨k, Nat.lt_succ_self k, z⟩, ?_⟩
      refine hb ρ1 R1 F σ' H1 m1 _ S1 ?_
      simp only at q1
      have go : ∀ m4, PoS C W F D ρ1 R1 (loopW c b k m4) → ∀ σ4 ρ4 R4 H4, ρ1 <+: ρ4 → Same R1 R4 → Sat C ρ4 R4 F σ4 H4 m4 →
          ∃ m2 ρ2 R2, ρ <+: ρ2 ∧ Same R R2 ∧ Sat C ρ2 R2 F σ4 H4 m2 ∧ PoS C W F D ρ2 R2 (loopW c b k m2) := fun m4 z σ4 ρ4 R4 H4 p4 r4 S4 =>
        ⟨m4, ρ4, R4, (hp.trans p1).trans p4, (hr.trans r1).trans r4, S4, (poS_wish (σ := σ4)).up _ _ _ _ _ p4 r4 z⟩
      match b m1, q1 with
      | none, q1 => exact q1
      | some (.ok .nx, m4), q1 => exact go m4 q1
      | some (.ok .ct, m4), q1 => exact go m4 q1
      | some (.ok .bk, m4), q1 => exact q1
      | some (.ok (.rt (.val _)), m4), q1 => exact q1
      | some (.ok (.rt (.own _)), m4), q1 => exact q1
      | some (.exc _, m4), q1 => exact q1
end
end MP

set_option Elab.async false
set_option linter.all false
set_option maxRecDepth 100000
set_option maxHeartbeats 4000000
namespace MP
open PySem L2

/-! ### comprehensions -/
def wipeG (g : List Sl) : List Nat → List Sl
  | [] => g
  | v :: vs => (wipeG g vs).set v .u
def wipeM (m : MSt) (vs : List Nat) : MSt := { m with g := wipeG m.g vs }
abbrev W0 : WX := fun _ _ _ _ => False
def lcLoop (g : Gs) (tt : EvB) (te : Ev) (vs : List Nat) : List D → List D → MSt → Option (List D × MSt)
  | [], acc, m => some (acc, wipeM m vs)
  | d :: ds, acc, m => match g d (wipeM m vs) with
    | some (.ok _, m1) => match tt m1 with
      | some (.ok true, m2) => match bndD (te m2) (fun v m3 => some (.ok v, m3)) with
        | some (.ok v, m3) => if szOk (acc.length + 1) = true then lcLoop g tt te vs ds (acc ++ [v]) m3 else none
        | _ => none
      | some (.ok false, m2) => lcLoop g tt te vs ds acc m2
      | _ => none
    | _ => none
@[simp] def evLc (it : EvI) (g : Gs) (tt : EvB) (te : Ev) (vs : List Nat) : Ev := fun m => bnd (it m) fun items m1 =>
  match lcLoop g tt te vs items [] m1 with
  | some (acc, m2) => some (.ok (.own acc), m2)
  | none => none
@[simp] def evYes : EvB := fun m => some (.ok true, m)
section
variable {C : Ctx} {W : WX} {ρ : List Addr} {R H : Hp} {F : List Res} {σ σ2 : L2.St} {m : MSt}
theorem Sat.wipe (S : Sat C ρ R F σ H m) : ∀ vs : List Nat, Sat C ρ R F (L2.wipe σ vs) H (wipeM m vs)
  | [] => S
  | v :: vs => (Sat.wipe S vs).unset
theorem wipeG_at {g : List Sl} {i : Nat} : ∀ {vs : List Nat}, i ∈ vs → i < g.length → (wipeG g vs)[i]? = some .u
  | v :: vs, hm, hi => by
    have hl : ∀ us : List Nat, (wipeG g us).length = g.length := fun us => by
      induction us with
      | nil => rfl
      | cons u us ih => unfold wipeG; rw [List.length_set, ih]
    unfold wipeG
    by_cases e : v = i
    · subst e
      rw [List.getElem?_set_self (by rw [hl]; exact hi)]
    · rw [List.getElem?_set_ne e]
      refine wipeG_at ?_ hi
      rcases List.mem_cons.mp hm with h | h
      · exact absurd h.symm e
      · exact h
theorem slots_ext {K : PySem.W.Frag} : ∀ {σ σ' : L2.St} {g : List Sl} {ls : List Res}, All2 (SlR K ρ R) σ g ls → σ'.length = σ.length → (∀ i : Nat, σ'[i]? = σ[i]? ∨ g[i]? = some Sl.u) → All2 (SlR K ρ R) σ' g ls
  | _, [], _, _, .nil, _, _ => .nil
  | _, [], _, _, .cons _ _, hl, _ => by simp at hl
  | _, _ :: _, _, _, .nil, hl, _ => by simp at hl
  | _, x :: σ', _, _, .cons (a := a) (b := b) h t, hl, hx => by
    refine .cons ?_ (slots_ext t (by simpa using hl) fun i => by simpa using hx (i + 1))
    rcases hx 0 with e | e
    · have e' : x = a := by simpa using e
      rw [e']
      exact h
    · have e' : b = .u := by simpa using e
      rw [e'] at h ⊢
      cases h
      exact .u
theorem wipe_get {σ : L2.St} {i : Nat} : ∀ {vs : List Nat}, i ∉ vs → (L2.wipe σ vs)[i]? = σ[i]?
  | [], _ => rfl
  | v :: vs, h => by
    have h1 : v ≠ i := fun e => h (by rw [e]; exact List.mem_cons_self)
    have h2 : i ∉ vs := fun m => h (List.mem_cons_of_mem _ m)
    unfold L2.wipe
    rw [List.getElem?_set_ne h1]
    exact wipe_get h2
/-- back from a block: the block's own names are forgotten -/
theorem Sat.unwipe {vs : List Nat} (S : Sat C ρ R F σ2 H m) (h : L2.wipe σ2 vs = L2.wipe σ vs) : Sat C ρ R F σ H (wipeM m vs) := by
  have S2 := S.wipe vs
  rw [h] at S2
  obtain ⟨ls, lc, h1, h2, o⟩ := S2
  have hl : σ.length = (wipeM m vs).g.length := by rw [← h1.length, wipe_length]
  refine ⟨ls, lc, slots_ext h1 (by rw [wipe_length]) fun i => ?_, h2, o⟩
  by_cases hm : i ∈ vs
  · by_cases hi : i < σ.length
    · right
      have hg : ∀ us : List Nat, (wipeG m.g us).length = m.g.length := fun us => by
        induction us with
        | nil => rfl
        | cons u us ih => unfold wipeG; rw [List.length_set, ih]
      refine wipeG_at hm ?_
      rw [hl] at hi
      unfold wipeM at hi
      simp only [hg] at hi
      exact hi
    · left
      rw [List.getElem?_eq_none (by omega), List.getElem?_eq_none (by rw [wipe_length]; omega)]
  · left
    exact (wipe_get hm).symm
theorem wipe_wipe_len {σ : L2.St} {vs : List Nat} : ∀ (us : List Nat), (∀ u ∈ us, u ∈ vs) → L2.wipe (L2.wipe σ vs) us = L2.wipe σ vs
  | [], _ => rfl
  | u :: us, h => by
    show (L2.wipe (L2.wipe σ vs) us).set u none = L2.wipe σ vs
    rw [wipe_wipe_len us fun x hx => h x (List.mem_cons_of_mem _ hx)]
    have hn : ∀ {ws : List Nat}, u ∈ ws → (L2.wipe σ ws).set u none = L2.wipe σ ws := by
      intro ws
      induction ws with
      | nil => intro q; cases q
      | cons w ws ih =>
        intro q
        unfold L2.wipe
        by_cases e : u = w
        · subst e
          rw [List.set_set]
        · rcases List.mem_cons.mp q with q | q
          · exact absurd q e
          · rw [List.set_comm _ _ (Ne.symm e), ih q]
    exact hn (h u List.mem_cons_self)
/-- what the target leaves of the other slots -/
def Tg (g : TG) (vs : List Nat) : Prop := ∀ v σ H (Q : L2.St → Hp → Prop), (g v σ H fun σ' H' => L2.wipe σ' vs = L2.wipe σ vs → Q σ' H') → g v σ H fun σ' H' => L2.wipe σ' vs = L2.wipe σ vs ∧ Q σ' H'
theorem wipe_set {σ : L2.St} {i : Nat} {x : Option V} : ∀ {vs : List Nat}, i ∈ vs → L2.wipe (σ.set i x) vs = L2.wipe σ vs
  | v :: vs, h => by
    have go : ∀ (us : List Nat), (L2.wipe (σ.set i x) us).set i none = (L2.wipe σ us).set i none := by
      intro us
      induction us with
      | nil => unfold L2.wipe; rw [List.set_set]
      | cons w us ih =>
        unfold L2.wipe
        by_cases e : w = i
        · subst e
          rw [List.set_set, List.set_set, ih]
        · rw [List.set_comm _ _ e, ih, List.set_comm _ _ e]
    unfold L2.wipe
    by_cases e : v = i
    · subst e
      exact go vs
    · rcases List.mem_cons.mp h with q | q
      · exact absurd q.symm e
      · rw [wipe_set q]
theorem tg_name {i : Nat} {vs : List Nat} (h : i ∈ vs) : Tg (gName i) vs := fun v σ H Q q => ⟨wipe_set h, q (wipe_set h)⟩
def Tgs (g : TGs) (vs : List Nat) : Prop := ∀ v σ H (Q : L2.St → Hp → Prop), (g v σ H fun σ' H' => L2.wipe σ' vs = L2.wipe σ vs → Q σ' H') → g v σ H fun σ' H' => L2.wipe σ' vs = L2.wipe σ vs ∧ Q σ' H'
theorem tgs_nil {vs : List Nat} : Tgs gNil vs := fun v σ H Q ⟨e, q⟩ => ⟨e, rfl, q rfl⟩
def Mono (g : TG) : Prop := ∀ v σ H (Q Q' : L2.St → Hp → Prop), (∀ σ' H', Q σ' H' → Q' σ' H') → g v σ H Q → g v σ H Q'
theorem mono_name {i : Nat} : Mono (gName i) := fun v σ H Q Q' h q => h _ _ q
theorem tgs_cons {g : TG} {u : TGs} {vs : List Nat} (hm : Mono g) (h : Tg g vs) (hu : Tgs u vs) : Tgs (gCons g u) vs := fun v σ H Q ⟨a, r, e, q⟩ =>
  ⟨a, r, e, hm _ _ _ _ _ (fun σ' H' ⟨w, z⟩ => by
    have := hu r σ' H' Q (by rw [w]; exact z)
    rw [w] at this
    exact this) (h a σ H _ (hm _ _ _ _ _ (fun σ' H' z _ => z) q))⟩
theorem tg_tup {K : PySem.W.Frag} {n : Nat} {u : TGs} {vs : List Nat} (hu : Tgs u vs) : Tg (gTup K n u) vs := fun v σ H Q ⟨a, xs, e, h1, h2, q⟩ => ⟨a, xs, e, h1, h2, hu xs σ H Q q⟩

theorem sb_yes : SB C W tYes evYes := fun ρ R F σ H m Q S p => p.tst S
theorem se_lc {wi : TI} {it : EvI} {g : TG} {gs : Gs} {tt : TT} {bt : EvB} {te : TE} {e : Ev} {vs : List Nat} (h : SI C W wi it) (hg : SG C W0 g gs) (hgt : Tg g vs) (ht : SB C W0 tt bt) (he : SE C W0 te e) :
    SE C W (tLc wi g tt te vs) (evLc it gs bt e vs) := fun ρ R F σ H m Q S p =>
  h.bnd S po_wish p fun ρ1 R1 H1 J items m1 p1 r1 S1 ok q1 => by
    intro Dl hD
    -- the word of the turns
    refine ⟨fun i k H' => k = items.length - i ∧ i ≤ items.length ∧ ∃ m' ρ' R' σ' acc vs', L2.wipe σ' vs = L2.wipe σ vs ∧ ρ1 <+: ρ' ∧ Same R1 R' ∧ Sat C ρ' R' ((Dl, .lst vs') :: F) σ' H' m' ∧ RDs C.K ρ' R' vs' acc ∧
        Po C W F σ (hE C F σ Q) ρ' R' (match lcLoop gs bt e vs (items.drop i) acc m' with | some (acc, m2) => some (.ok (.own acc), m2) | none => none),
      ⟨_, rfl, Nat.zero_le _, m1, ρ1, R1, σ, [], [], rfl, List.prefix_refl _, Same.refl _, S1.res hD, .nil, q1⟩, ?_⟩
    rintro i k H' ⟨rfl, hi, m', ρ', R', σ', acc, vs', hw, hp, hr, S', rd, q⟩
    have ok' := ok i ρ' R' _ σ' H' m' hp hr S'
    by_cases hlt : i < items.length
    · have hd : items[i]? = some items[i] := List.getElem?_eq_getElem hlt
      obtain ⟨go, yl⟩ := ok'.2 _ hd
      refine .inr ⟨go, fun H2 => ∃ m' ρ' R' σ' acc vs', L2.wipe σ' vs = L2.wipe σ vs ∧ ρ1 <+: ρ' ∧ Same R1 R' ∧ Sat C ρ' R' ((Dl, .lst vs') :: F) σ' H2 m' ∧ RDs C.K ρ' R' vs' acc ∧
        Po C W F σ (hE C F σ Q) ρ' R' (match lcLoop gs bt e vs (items.drop (i + 1)) acc m' with | some (acc, m2) => some (.ok (.own acc), m2) | none => none),
        fun H2 ⟨a1, a2, a3, a4, a5, a6, a7⟩ => ⟨items.length - (i + 1), by omega, rfl, hlt, a1, a2, a3, a4, a5, a6, a7⟩, fun x H2 y => ?_⟩
      obtain ⟨R2, r2, S2, rx⟩ := yl x H2 y
      rw [List.drop_eq_getElem_cons hlt] at q
      have q2 := (po_wish (σ := σ)).up _ _ _ _ _ (List.prefix_refl _) r2 q
      unfold lcLoop at q2
      have S3 := S2.wipe vs
      rw [hw] at S3
      -- the target
      have W1 : L2.wipe (L2.wipe σ vs) vs = L2.wipe σ vs := wipe_wipe_len vs fun _ h => h
      refine (fun z => by
        rw [W1] at z
        exact z) (hgt x (L2.wipe σ vs) H2 (fun σ2 H2 => tt σ2 H2 fun b H3 => if b = true then te σ2 H3 fun y H4 => ∃ acc, H4 Dl = some (.lst acc) ∧ acc.length < sizeLine ∧
          (fun H2 => ∃ m' ρ' R' σ' acc vs', L2.wipe σ' vs = L2.wipe σ vs ∧ ρ1 <+: ρ' ∧ Same R1 R' ∧ Sat C ρ' R' ((Dl, .lst vs') :: F) σ' H2 m' ∧ RDs C.K ρ' R' vs' acc ∧
        Po C W F σ (hE C F σ Q) ρ' R' (match lcLoop gs bt e vs (items.drop (i + 1)) acc m' with | some (acc, m2) => some (.ok (.own acc), m2) | none => none)) (upd H4 Dl (.lst (acc ++ [y]))) else _) ?_)
      rw [W1]
      refine hg ρ' R2 _ _ H2 _ x _ _ S3 rx ?_
      match gs items[i] (wipeM m' vs), q2 with
      | none, q2 => exact q2
      | some (.exc x, m3), q2 => exact q2.elim
      | some (.ok _, m3), q2 =>
        intro σ3 ρ3 R3 H3 p3 r3 S3 hw3
        have q3 := (po_wish (σ := σ)).up _ _ _ _ _ p3 r3 q2
        simp only at q3
        refine ht ρ3 R3 _ σ3 H3 m3 _ S3 ?_
        match bt m3, q3 with
        | none, q3 => exact q3.elim
        | some (.exc x, m4), q3 => exact q3.elim
        | some (.ok false, m4), q3 =>
          intro ρ4 R4 H4 p4 r4 S4
          rw [if_neg Bool.false_ne_true]
          exact ⟨m4, ρ4, R4, σ3, acc, vs', hw3, (hp.trans p3).trans p4, ((hr.trans r2).trans r3).trans r4, S4, ((rd.up (List.prefix_refl _) r2).up p3 r3).up p4 r4, (po_wish (σ := σ)).up _ _ _ _ _ p4 r4 q3⟩
        | some (.ok true, m4), q3 =>
          intro ρ4 R4 H4 p4 r4 S4
          rw [if_pos rfl]
          have q4 := (po_wish (σ := σ)).up _ _ _ _ _ p4 r4 q3
          simp only at q4
          have rd4 := ((rd.up (List.prefix_refl _) r2).up p3 r3).up p4 r4
          -- the element
          let PP : List Addr → Hp → Option (Rs D × MSt) → Prop := fun ρ R r => match r with
            | some (.ok v, m5) => if szOk (acc.length + 1) = true then Po C W F σ (hE C F σ Q) ρ R (match lcLoop gs bt e vs (items.drop (i + 1)) (acc ++ [v]) m5 with | some (acc, m2) => some (.ok (.own acc), m2) | none => none) else False
            | _ => False
          have wi : Wish C W0 ((Dl, .lst vs') :: F) σ3 PP := {
            no := fun _ _ h => h
            up := fun ρ R ρ' R' r hp hr h => by
              match r, h with
              | some (.ok v, m5), h =>
                show if szOk (acc.length + 1) = true then _ else False
                have h : if szOk (acc.length + 1) = true then _ else False := h
                split at h
                · rename_i hz
                  rw [if_pos hz]
                  exact (po_wish (σ := σ)).up _ _ _ _ _ hp hr h
                · exact h.elim
            ex := fun ρ R x m h => h.elim }
          have q5 : PP ρ4 R4 (bndD (e m4) fun v m3 => some (.ok v, m3)) := by
            show match (bndD (e m4) fun v m3 => some (.ok v, m3)) with
              | some (.ok v, m5) => _
              | _ => False
            match bndD (e m4) (fun v m3 => some (Rs.ok v, m3)), q4 with
            | none, q4 => exact q4
            | some (.exc _, _), q4 => exact q4
            | some (.ok v, m5), q4 =>
              simp only at q4 ⊢
              by_cases hz : szOk (acc.length + 1) = true
              · rw [if_pos hz] at q4 ⊢
                exact q4
              · rw [if_neg hz] at q4
                exact q4.elim
          refine he.bndD S4 wi q5 fun ρ5 R5 H5 y v m5 p5 r5 S5 ry q6 => ?_
          have q6 : if szOk (acc.length + 1) = true then _ else False := q6
          split at q6
          · rename_i hz
            have rd5 := rd4.up p5 r5
            refine ⟨vs', S5.resAt.1, by rw [rd5.length]; exact szOk_lt hz, m5, ρ5, R5, σ3, acc ++ [v], vs' ++ [y], hw3, ((hp.trans p3).trans p4).trans p5, (((hr.trans r2).trans r3).trans r4).trans r5, S5.resSet, rd5.append (.cons ry .nil), q6⟩
          · exact q6.elim
    · have ei : i = items.length := by omega
      subst ei
      rw [List.drop_length] at q
      unfold lcLoop at q
      exact .inl ⟨ok'.1 (Nat.le_refl _), q.own (S'.unwipe hw) rd⟩
end
end MP

set_option Elab.async false
set_option linter.all false
set_option maxRecDepth 100000
set_option maxHeartbeats 4000000
namespace MP
open PySem L2

/-! ### raise, try -/
@[simp] def exRaise (c : Nat) : Ex := fun m => some (.exc ⟨c, []⟩, m)
/-- how a handler answers: an exception that leaves it is not carried -/
@[simp] def noExc (r : Option (Rs Ctl × MSt)) : Option (Rs Ctl × MSt) := match r with
  | some (.exc _, _) => none
  | r => r
theorem noExc_no {r : Option (Rs Ctl × MSt)} {x : Exc} {m : MSt} (h : noExc r = some (.exc x, m)) : False := by
  unfold noExc at h
  split at h
  · cases h
  · rename_i hn
    exact hn _ _ h
@[simp] def exTry (b : Ex) (cat : Nat → Option Bool) (hd : Exc → Ex) : Ex := fun m => match b m with
  | some (.exc x, m1) => match cat x.c with
    | some true => noExc (hd x m1)
    | some false => some (.exc x, m1)
    | none => none
  | r => r
/-- try .. except X as e, e in slot i -/
def exTryAs (i : Nat) (b : Ex) (cat : Nat → Option Bool) (hd : Exc → Ex) : Ex := fun m => match b m with
  | some (.exc x, m1) => match cat x.c with
    | some true => match noExc (hd x { m1 with g := m1.g.set i .u }) with
      | some (r, m2) => some (r, { m2 with g := m2.g.set i .u })
      | none => none
    | some false => some (.exc x, m1)
    | none => none
  | r => r
section
variable {C : Ctx} {W : WX}
theorem ss_raise {cl : Value} {c : Nat} (h : cl = .ref (C.cm c)) : SS C W (fun _ σ H => W cl none σ H) (exRaise c) := fun ρ R F σ H m D S p =>
  p cl none σ ρ R H (List.prefix_refl _) (Same.refl _) S ⟨h, .inl ⟨rfl, rfl⟩⟩
/-- a suite, by the exception that came -/
def SX (C : Ctx) (ts : Addr → Value → Option Addr → TS) (hd : Exc → Ex) : Prop := ∀ a cls d x ρ R F σ H m D, Sat C ρ R F σ H m → RX C ρ R cls d x → H a = none → PoS C W0 F D ρ R (hd x m) → ts a cls d D σ H
theorem noExc_po {F : List Res} {D : Ends} {ρ : List Addr} {R : Hp} {r : Option (Rs Ctl × MSt)} (p : PoS C W F D ρ R (noExc r)) : PoS C W0 F D ρ R r := by
  unfold noExc at p
  match r, p with
  | none, p => exact p
  | some (.ok .nx, _), p => exact p
  | some (.ok .bk, _), p => exact p
  | some (.ok .ct, _), p => exact p
  | some (.ok (.rt (.val _)), _), p => exact p
  | some (.ok (.rt (.own _)), _), p => exact p
  | some (.exc _, _), p => exact p.elim
theorem ss_try {c : Value} {tb : WX → TS} {ts : Addr → Value → Option Addr → TS} {b : Ex} {cat : Nat → Option Bool} {hd : Exc → Ex} (hb : ∀ W', SS C W' (tb W') b) (hc : ∀ k r, cat k = some r → PySem.W.exmOne C.K (.ref (C.cm k)) c = some r) (hs : SX C ts hd) :
    SS C W (fun D σ H => tb (wOnly C.K c ts W D) D σ H) (exTry b cat hd) := fun ρ R F σ H m D S p => by
  refine hb _ ρ R F σ H m D S ?_
  unfold exTry at p
  match b m, p with
  | none, p => exact p
  | some (.ok .nx, _), p => exact p
  | some (.ok .bk, _), p => exact p
  | some (.ok .ct, _), p => exact p
  | some (.ok (.rt (.val _)), _), p => exact p
  | some (.ok (.rt (.own _)), _), p => exact p
  | some (.exc x, m1), p =>
    intro cls d σ1 ρ1 R1 H1 p1 r1 S1 rx
    simp only at p
    have e := rx.1
    subst e
    match hk : cat x.c, p with
    | none, p => exact p.elim
    | some true, p => exact ⟨true, hc _ _ hk, fun _ a ha => hs a _ d x ρ1 R1 F σ1 H1 m1 D S1 rx ha (noExc_po ((poS_wish (σ := σ)).up _ _ _ _ _ p1 r1 p)), fun q => Bool.noConfusion q⟩
    | some false, p => exact ⟨false, hc _ _ hk, fun q => Bool.noConfusion q, fun _ => p _ d σ1 ρ1 R1 H1 p1 r1 S1 rx⟩
theorem ss_tryAs {i : Nat} {c : Value} {tb : WX → TS} {ts : Addr → Value → Option Addr → TS} {b : Ex} {cat : Nat → Option Bool} {hd : Exc → Ex} (hb : ∀ W', SS C W' (tb W') b) (hc : ∀ k r, cat k = some r → PySem.W.exmOne C.K (.ref (C.cm k)) c = some r) (hs : SX C ts hd) :
    SS C W (fun D σ H => tb (wAs C.K c i ts W D) D σ H) (exTryAs i b cat hd) := fun ρ R F σ H m D S p => by
  refine hb _ ρ R F σ H m D S ?_
  unfold exTryAs at p
  match b m, p with
  | none, p => exact p
  | some (.ok .nx, _), p => exact p
  | some (.ok .bk, _), p => exact p
  | some (.ok .ct, _), p => exact p
  | some (.ok (.rt (.val _)), _), p => exact p
  | some (.ok (.rt (.own _)), _), p => exact p
  | some (.exc x, m1), p =>
    intro cls d σ1 ρ1 R1 H1 p1 r1 S1 rx
    simp only at p
    have e := rx.1
    subst e
    match hk : cat x.c, p with
    | none, p => exact p.elim
    | some false, p => exact ⟨false, hc _ _ hk, fun q => Bool.noConfusion q, fun _ => p _ d σ1 ρ1 R1 H1 p1 r1 S1 rx⟩
    | some true, p =>
      refine ⟨true, hc _ _ hk, fun _ a ha => hs a _ d x ρ1 R1 F _ H1 _ _ (S1.unset (i := i) (x := some (.ref a))) rx ha (noExc_po (W := W) ?_), fun q => Bool.noConfusion q⟩
      have p := (poS_wish (σ := σ)).up _ _ _ _ _ p1 r1 p
      simp only at p
      match hh : noExc (hd x { m1 with g := m1.g.set i .u }), p with
      | none, p => exact p.elim
      | some (.ok .nx, m2), p => exact fun σ2 ρ2 R2 H2 p2 r2 S2 => p _ ρ2 R2 H2 p2 r2 S2.unset
      | some (.ok .bk, m2), p => exact fun σ2 ρ2 R2 H2 p2 r2 S2 => p _ ρ2 R2 H2 p2 r2 S2.unset
      | some (.ok .ct, m2), p => exact fun σ2 ρ2 R2 H2 p2 r2 S2 => p _ ρ2 R2 H2 p2 r2 S2.unset
      | some (.ok (.rt (.val _)), m2), p => exact fun σ2 ρ2 R2 H2 v p2 r2 S2 rv => p (σ2.set i none) ρ2 R2 H2 v p2 r2 S2.unset rv
      | some (.ok (.rt (.own _)), m2), p => exact fun σ2 ρ2 R2 H2 q vs p2 r2 S2 rv => p (σ2.set i none) ρ2 R2 H2 q vs p2 r2 S2.unset rv
      | some (.exc _, m2), p => exact (noExc_no hh).elim
theorem sx_of {ts : TS} {ex : Ex} (h : SS C W0 ts ex) : SX C (fun _ _ _ => ts) (fun _ => ex) := fun _ _ _ _ ρ R F σ H m D S _ _ p => h ρ R F σ H m D S p
end

/-! ### new cells -/
section
variable {C : Ctx} {W : WX} {ρ : List Addr} {R H : Hp} {F : List Res} {σ : L2.St} {m : MSt} {a : Addr} {o : HO} {ce : Cell}
theorem Sat.newCell (S : Sat C ρ R ((a, o) :: F) σ H m) (h : CeR C ρ R a ce [(a, o)]) : Sat C (ρ ++ [a]) R F σ H { m with c := m.c ++ [ce] } := by
  obtain ⟨ls, lc, h1, h2, ow⟩ := S
  have hp : ρ <+: ρ ++ [a] := List.prefix_append _ _
  refine ⟨ls, lc ++ ([(a, o)] ++ []), h1.imp fun _ _ _ x => x.up hp (Same.refl _), ?_, ?_⟩
  · exact (h2.imp fun _ _ _ x => x.up hp (Same.refl _)).append (.cons (h.up hp (Same.refl _)) .nil)
  · have e : ls ++ ((lc ++ ([(a, o)] ++ [])) ++ F) = ls ++ (lc ++ (a, o) :: F) := by simp
    rw [e]
    exact ow
end

/-! ### dicts -/
section
variable {κ : Type} [DecidableEq κ]
def valD (kvs : List (κ × D)) (k : κ) : Option D := (kvs.find? fun kv => decide (kv.1 = k)).map (·.2)
def putD (kvs : List (κ × D)) (k : κ) (v : D) : List (κ × D) :=
  if (kvs.any fun kv => decide (kv.1 = k)) = true then kvs.map (fun kv => if kv.1 = k then (kv.1, v) else kv) else kvs ++ [(k, v)]
def dropD (kvs : List (κ × D)) (k : κ) : List (κ × D) := kvs.filter fun kv => decide (kv.1 ≠ k)
variable {K : PySem.W.Frag} {ρ : List Addr} {R : Hp}
theorem RKs.val (k : κ) : ∀ {vs : List (κ × V)} {ds : List (κ × D)}, RKs K ρ R vs ds → (valV vs k = none ∧ valD ds k = none) ∨ ∃ v d, valV vs k = some v ∧ valD ds k = some d ∧ RD K ρ R v d
  | _, _, .nil => .inl ⟨rfl, rfl⟩
  | _, _, .cons (k := k') (v := v) (d := d) (vs := vs) (ds := ds) r t => by
    by_cases e : k' = k
    · exact .inr ⟨v, d, by simp [valV, e], by simp [valD, e], r⟩
    · rcases RKs.val k t with ⟨h1, h2⟩ | ⟨v', d', h1, h2, h3⟩
      · refine .inl ⟨?_, ?_⟩
        · unfold valV at h1 ⊢
          rw [List.find?_cons_of_neg (by simpa using e)]
          exact h1
        · unfold valD at h2 ⊢
          rw [List.find?_cons_of_neg (by simpa using e)]
          exact h2
      · refine .inr ⟨v', d', ?_, ?_, h3⟩
        · unfold valV at h1 ⊢
          rw [List.find?_cons_of_neg (by simpa using e)]
          exact h1
        · unfold valD at h2 ⊢
          rw [List.find?_cons_of_neg (by simpa using e)]
          exact h2
theorem RKs.any (k : κ) : ∀ {vs : List (κ × V)} {ds : List (κ × D)}, RKs K ρ R vs ds → (vs.any fun kv => decide (kv.1 = k)) = (ds.any fun kv => decide (kv.1 = k))
  | _, _, .nil => rfl
  | _, _, .cons r t => by
    rw [List.any_cons, List.any_cons, RKs.any k t]
theorem RKs.app : ∀ {vs us : List (κ × V)} {ds es : List (κ × D)}, RKs K ρ R vs ds → RKs K ρ R us es → RKs K ρ R (vs ++ us) (ds ++ es)
  | _, _, _, _, .nil, h => h
  | _, _, _, _, .cons r t, h => .cons r (RKs.app t h)
theorem RKs.mapP {k : κ} {v : V} {d : D} (h : RD K ρ R v d) : ∀ {vs : List (κ × V)} {ds : List (κ × D)}, RKs K ρ R vs ds → RKs K ρ R (vs.map fun kv => if kv.1 = k then (kv.1, v) else kv) (ds.map fun kv => if kv.1 = k then (kv.1, d) else kv)
  | _, _, .nil => .nil
  | _, _, .cons (k := k') r t => by
    rw [List.map_cons, List.map_cons]
    by_cases e : k' = k
    · rw [if_pos e, if_pos e]
      exact .cons h (RKs.mapP h t)
    · rw [if_neg e, if_neg e]
      exact .cons r (RKs.mapP h t)
theorem RKs.put {k : κ} {v : V} {d : D} {vs : List (κ × V)} {ds : List (κ × D)} (r : RKs K ρ R vs ds) (h : RD K ρ R v d) : RKs K ρ R (putK vs k v) (putD ds k d) := by
  unfold putK putD
  rw [r.any k]
  split
  · exact r.mapP h
  · exact r.app (.cons h .nil)
theorem RKs.drop {k : κ} : ∀ {vs : List (κ × V)} {ds : List (κ × D)}, RKs K ρ R vs ds → RKs K ρ R (dropK vs k) (dropD ds k)
  | _, _, .nil => .nil
  | _, _, .cons (k := k') r t => by
    have ih := RKs.drop (k := k) t
    unfold dropK dropD at ih ⊢
    rw [List.filter_cons, List.filter_cons]
    by_cases e : k' = k
    · simp only [e, ne_eq, not_true_eq_false, decide_false, Bool.false_eq_true, if_false]
      exact ih
    · simp only [ne_eq, e, not_false_eq_true, decide_true, if_true]
      exact .cons r ih
end
@[simp] def keyD : D → Option Key
  | .int i => some (.inl i)
  | .str s => some (.inr s)
  | _ => none
def keysD : List D → Option (List Key)
  | [] => some []
  | d :: ds => match keyD d, keysD ds with | some k, some ks => some (k :: ks) | _, _ => none
def keyT : D → Option (List Key)
  | .tup ds => keysD ds
  | _ => none
section
variable {C : Ctx} {W : WX} {K : PySem.W.Frag} {ρ : List Addr} {R H : Hp} {F : List Res} {σ : L2.St} {m : MSt}
theorem RD.key {v : V} {d : D} {k : Key} (r : RD K ρ R v d) (h : keyD d = some k) : v = kV k := by
  cases r <;> cases h <;> rfl
theorem RDs.keys : ∀ {vs : List V} {ds : List D} {ks : List Key}, RDs K ρ R vs ds → keysD ds = some ks → vs = ks.map kV
  | _, _, _, .nil, h => by cases h; rfl
  | _, _, _, .cons a b, h => by
    unfold keysD at h
    split at h
    · rename_i k ks h1 h2
      cases h
      rw [a.key h1, RDs.keys b h2]
      rfl
    · cases h
theorem RO.keyT {v : V} {d : D} {ks : List Key} (o : RO C.K ρ R σ v d) (S : Sat C ρ R F σ H m) (h : MP.keyT d = some ks) : ∃ b, v = .ref b ∧ H b = some (.tup (ks.map kV)) := by
  cases o with
  | d r =>
    cases r with
    | tup h1 h2 =>
      have e := h2.keys h
      subst e
      exact ⟨_, rfl, S.same _ _ h1⟩
    | _ => cases h
  | sl r => cases h
theorem RO.keyK {v : V} {d : D} {k : Key} (o : RO C.K ρ R σ v d) (h : keyD d = some k) : v = kV k := by
  cases o with
  | d r => exact r.key h
  | sl r => cases h
def optR (K : PySem.W.Frag) (ρ : List Addr) (R : Hp) (r : Option D) (o : Option V) : Prop := match r with | none => o = none | some d => ∃ v, o = some v ∧ RD K ρ R v d
theorem RKs.optR {κ : Type} [DecidableEq κ] {k : κ} {vs : List (κ × V)} {ds : List (κ × D)} (r : RKs K ρ R vs ds) : MP.optR K ρ R (valD ds k) (valV vs k) := by
  rcases r.val k with ⟨h1, h2⟩ | ⟨v, d, h1, h2, h3⟩
  · rw [h1, h2]
    rfl
  · rw [h1, h2]
    exact ⟨v, rfl, h3⟩
/-- what a dict holds at a key -/
@[simp] def getC (m : MSt) (d e : D) : Option (Option D) := match d with
  | .ref id => match m.c[id]? with
    | some (.dK kvs) => match keyD e with | some k => some (valD kvs k) | none => none
    | some (.dT kvs) => match keyT e with | some k => some (valD kvs k) | none => none
    | _ => none
  | _ => none
theorem getC_ok {x y : V} {d e : D} {r : Option D} (S : Sat C ρ R F σ H m) (o1 : RO C.K ρ R σ x d) (o2 : RO C.K ρ R σ y e) (h : getC m d e = some r) :
    ∃ a o, x = .ref a ∧ DGet H a y o ∧ optR C.K ρ R r o := by
  unfold getC at h
  cases o1 with
  | sl r => cases h
  | d r1 =>
    cases r1 with
    | ref hr =>
      rename_i a id
      simp only at h
      split at h
      · rename_i kvs hc
        obtain ⟨a', l, e1, ce, hl⟩ := S.cell hc
        rw [hr] at e1
        cases e1
        split at h
        · rename_i k hk
          cases h
          cases ce with
          | dK ck =>
            have hH := (hl _ (List.mem_singleton.mpr rfl)).1
            rw [o2.keyK hk]
            exact ⟨a, _, rfl, DGet.k hH, ck.optR⟩
        · cases h
      · rename_i kvs hc
        obtain ⟨a', l, e1, ce, hl⟩ := S.cell hc
        rw [hr] at e1
        cases e1
        split at h
        · rename_i k hk
          cases h
          cases ce with
          | dT ck =>
            have hH := (hl _ (List.mem_singleton.mpr rfl)).1
            obtain ⟨b, rfl, hb⟩ := o2.keyT S hk
            exact ⟨a, _, rfl, DGet.t hH hb, ck.optR⟩
        · cases h
      · cases h
    | _ => cases h
/-- a store -/
@[simp] def putC (m : MSt) (d e v : D) : Option MSt := match d with
  | .ref id => match m.c[id]? with
    | some (.dK kvs) => match keyD e with | some k => if szOk (kvs.length + 1) = true then some { m with c := m.c.set id (.dK (putD kvs k v)) } else none | none => none
    | some (.dT kvs) => match keyT e with | some k => if szOk (kvs.length + 1) = true then some { m with c := m.c.set id (.dT (putD kvs k v)) } else none | none => none
    | _ => none
  | _ => none
theorem putC_ok {x y v : V} {d e f : D} {m' : MSt} (S : Sat C ρ R F σ H m) (o1 : RO C.K ρ R σ x d) (o2 : RO C.K ρ R σ y e) (r3 : RD C.K ρ R v f) (h : putC m d e f = some m') :
    ∃ a H', x = .ref a ∧ DPut H a y v H' ∧ Sat C ρ R F σ H' m' := by
  unfold putC at h
  cases o1 with
  | sl r => cases h
  | d r1 =>
    cases r1 with
    | ref hr =>
      rename_i a id
      simp only at h
      split at h
      · rename_i kvs hc
        split at h
        · rename_i k hk
          split at h
          · rename_i hz
            cases h
            obtain ⟨o, ce, hH, hs⟩ := S.cellSet (o := .dK []) hc hr fun a' l q => by
              cases q
              exact ⟨_, rfl⟩
            cases ce with
            | dK ck =>
              rw [o2.keyK hk]
              exact ⟨a, _, rfl, DPut.k hH (by rw [ck.length]; exact szOk_lt hz), hs _ _ (.dK (ck.put r3))⟩
          · cases h
        · cases h
      · rename_i kvs hc
        split at h
        · rename_i k hk
          split at h
          · rename_i hz
            cases h
            obtain ⟨o, ce, hH, hs⟩ := S.cellSet (o := .dT []) hc hr fun a' l q => by
              cases q
              exact ⟨_, rfl⟩
            cases ce with
            | dT ck =>
              obtain ⟨b, rfl, hb⟩ := o2.keyT S hk
              exact ⟨a, _, rfl, DPut.t hH hb (by rw [ck.length]; exact szOk_lt hz), hs _ _ (.dT (ck.put r3))⟩
          · cases h
        · cases h
      · cases h
    | _ => cases h
@[simp] def fDGet : D → D → MSt → Option (Rs DV × MSt) := fun d e m => match getC m d e with
  | some (some v) => some (.ok (.val v), m)
  | _ => none
@[simp] def fDIn : D → D → MSt → Option (Rs DV × MSt) := fun e d m => match getC m d e with
  | some r => some (.ok (.val (.bl r.isSome)), m)
  | _ => none
@[simp] def fDNotIn : D → D → MSt → Option (Rs DV × MSt) := fun e d m => match getC m d e with
  | some r => some (.ok (.val (.bl (!r.isSome))), m)
  | _ => none
variable {td ty tv : TE} {a b c : Ev}
theorem se_dget (h1 : SE C W td a) (h2 : SE C W ty b) : SE C W (tDGet td ty) (ev2 fDGet a b) := fun ρ R F σ H m Q S p =>
  h1.bndO S po_wish p fun ρ1 R1 H1 x d m1 p1 r1 S1 o1 q1 => h2.bndO S1 po_wish q1 fun ρ2 R2 H2 y e m2 p2 r2 S2 o2 q2 => by
    unfold fDGet at q2
    split at q2
    · rename_i v hv
      obtain ⟨a, o, rfl, g, w⟩ := getC_ok S2 (o1.up p2 r2) o2 hv
      obtain ⟨u, rfl, ru⟩ := w
      exact ⟨a, u, rfl, g, q2.val S2 (.d ru)⟩
    · exact q2.elim
theorem isSome_of {r : Option D} {o : Option V} {K : PySem.W.Frag} {ρ : List Addr} {R : Hp} (w : optR K ρ R r o) : o.isSome = r.isSome := by
  cases r with
  | none =>
    have w : o = none := w
    rw [w]
    rfl
  | some d =>
    obtain ⟨v, w, _⟩ := w
    rw [w]
    rfl
theorem se_din (h1 : SE C W ty a) (h2 : SE C W td b) : SE C W (tDIn ty td) (ev2 fDIn a b) := fun ρ R F σ H m Q S p =>
  h1.bndO S po_wish p fun ρ1 R1 H1 x d m1 p1 r1 S1 o1 q1 => h2.bndO S1 po_wish q1 fun ρ2 R2 H2 y e m2 p2 r2 S2 o2 q2 => by
    unfold fDIn at q2
    split at q2
    · rename_i v hv
      obtain ⟨a, o, rfl, g, w⟩ := getC_ok S2 o2 (o1.up p2 r2) hv
      refine ⟨a, o, rfl, g, ?_⟩
      rw [isSome_of w]
      exact q2.val S2 (.d (.bl _))
    · exact q2.elim
theorem se_dnotin (h1 : SE C W ty a) (h2 : SE C W td b) : SE C W (tDNotIn ty td) (ev2 fDNotIn a b) := fun ρ R F σ H m Q S p =>
  h1.bndO S po_wish p fun ρ1 R1 H1 x d m1 p1 r1 S1 o1 q1 => h2.bndO S1 po_wish q1 fun ρ2 R2 H2 y e m2 p2 r2 S2 o2 q2 => by
    unfold fDNotIn at q2
    split at q2
    · rename_i v hv
      obtain ⟨a, o, rfl, g, w⟩ := getC_ok S2 o2 (o1.up p2 r2) hv
      refine ⟨a, o, rfl, g, ?_⟩
      rw [isSome_of w]
      exact q2.val S2 (.d (.bl _))
    · exact q2.elim
/-- d[k] = v: the value first -/
@[simp] def exDPut (d k v : Ev) : Ex := fun m => bndD (v m) fun f m1 => bndO (d m1) fun x m2 => bndO (k m2) fun y m3 => match putC m3 x y f with
  | some m4 => some (.ok .nx, m4)
  | none => none
theorem ss_dput (h1 : SE C W td a) (h2 : SE C W ty b) (h3 : SE C W tv c) : SS C W (sDPut td ty tv) (exDPut a b c) := fun ρ R F σ H m D S p =>
  h3.bndD S poS_wish p fun ρ0 R0 H0 v f m0 p0 r0 S0 o0 q0 => h1.bndO S0 poS_wish q0 fun ρ1 R1 H1 x d m1 p1 r1 S1 o1 q1 => h2.bndO S1 poS_wish q1 fun ρ2 R2 H2 y e m2 p2 r2 S2 o2 q2 => by
    split at q2
    · rename_i m4 hm
      obtain ⟨a, H', rfl, g, S4⟩ := putC_ok S2 (o1.up p2 r2) o2 ((o0.up p1 r1).up p2 r2) hm
      exact ⟨a, H', rfl, g, q2 σ ρ2 R2 H' (List.prefix_refl _) (Same.refl _) S4⟩
    · exact q2.elim
/-- {} -/
@[simp] def evDNewK : Ev := fun m => some (.ok (.val (.ref m.c.length)), { m with c := m.c ++ [.dK []] })
@[simp] def evDNewT : Ev := fun m => some (.ok (.val (.ref m.c.length)), { m with c := m.c ++ [.dT []] })
theorem Po.newC {Q : VK} {ce : Cell} {q : Addr} {o : HO} (p : Po C W F σ (hE C F σ Q) ρ R (some (.ok (.val (.ref m.c.length)), { m with c := m.c ++ [ce] }))) (S : Sat C ρ R ((q, o) :: F) σ H m) (h : CeR C ρ R q ce [(q, o)]) : Q (.ref q) H := by
  refine p (ρ ++ [q]) R H (List.prefix_append _ _) (Same.refl _) (.ref q) (S.newCell h) (.d (.ref ?_))
  rw [← S.clen, List.getElem?_append_right (Nat.le_refl _), Nat.sub_self]
  rfl
theorem se_dnewK : SE C W tDNewK evDNewK := fun ρ R F σ H m Q S p q hq => p.newC (S.res hq) (.dK .nil)
theorem se_dnewT : SE C W tDNewT evDNewT := fun ρ R F σ H m Q S p q hq => p.newC (S.res hq) (.dT .nil)
/-- a display with text or number keys -/
abbrev EvPs := MSt → Option (Rs (List (Key × D)) × MSt)
@[simp] def epNil : EvPs := fun m => some (.ok [], m)
@[simp] def epCons (k v : Ev) (r : EvPs) : EvPs := fun m => bndO (k m) fun x m1 => bndD (v m1) fun y m2 => bnd (r m2) fun ps m3 => match keyD x with
  | some k => some (.ok ((k, y) :: ps), m3)
  | none => none
def hP (C : Ctx) (F : List Res) (σ : L2.St) (Q : List (V × V) → Hp → Prop) : List (Key × D) → List Addr → Hp → Hp → MSt → Prop :=
  fun ps ρ R H m => ∀ kvs, Sat C ρ R F σ H m → RKs C.K ρ R kvs ps → Q (kvs.map fun kv => (kV kv.1, kv.2)) H
def SPs (C : Ctx) (W : WX) (trs : List (TE × TE)) (ev : EvPs) : Prop := ∀ ρ R F σ H m (Q : List (V × V) → Hp → Prop), Sat C ρ R F σ H m → Po C W F σ (hP C F σ Q) ρ R (ev m) → tPairs trs σ H Q
theorem SPs.bnd {β : Type} {P : List Addr → Hp → Option (Rs β × MSt) → Prop} {f : List (Key × D) → MSt → Option (Rs β × MSt)} {t : List (TE × TE)} {ev : EvPs} {k : List (V × V) → Hp → Prop} (h : SPs C W t ev) (S : Sat C ρ R F σ H m) (wi : Wish C W F σ P) (p : P ρ R (bnd (ev m) f))
    (K : ∀ ρ' R' H' kvs ps m', ρ <+: ρ' → Same R R' → Sat C ρ' R' F σ H' m' → RKs C.K ρ' R' kvs ps → P ρ' R' (f ps m') → k (kvs.map fun kv => (kV kv.1, kv.2)) H') : tPairs t σ H k := by
  refine h ρ R F σ H m k S ?_
  match ev m, p with
  | none, p => exact wi.no _ _ p
  | some (.ok ds, m'), p => exact fun ρ' R' H' hp hr kvs S' r => K ρ' R' H' kvs ds m' hp hr S' r (wi.up _ _ _ _ _ hp hr p)
  | some (.exc x, m'), p => exact wi.ex _ _ _ _ p
theorem sps_nil : SPs C W [] epNil := fun ρ R F σ H m Q S p => p ρ R H (List.prefix_refl _) (Same.refl _) [] S .nil
theorem sps_cons {trs : List (TE × TE)} {r : EvPs} (h1 : SE C W ty a) (h2 : SE C W tv b) (h3 : SPs C W trs r) : SPs C W ((ty, tv) :: trs) (epCons a b r) := fun ρ R F σ H m Q S p =>
  h1.bndO S po_wish p fun ρ1 R1 H1 x d m1 p1 r1 S1 o1 q1 => h2.bndD S1 po_wish q1 fun ρ2 R2 H2 y e m2 p2 r2 S2 o2 q2 => h3.bnd S2 po_wish q2 fun ρ3 R3 H3 kvs ps m3 p3 r3 S3 rk q3 => by
    split at q3
    · rename_i k hk
      have e := o1.keyK hk
      subst e
      exact q3 ρ3 R3 H3 (List.prefix_refl _) (Same.refl _) ((k, y) :: kvs) S3 (.cons (o2.up p3 r3) rk)
    · exact q3.elim
def mergeD (kvs more : List (Key × D)) : List (Key × D) := more.foldl (fun acc kv => putD acc kv.1 kv.2) kvs
theorem RKs.merge {K : PySem.W.Frag} {ρ : List Addr} {R : Hp} : ∀ {more : List (Key × V)} {ds : List (Key × D)} {kvs : List (Key × V)} {es : List (Key × D)}, RKs K ρ R more ds → RKs K ρ R kvs es → RKs K ρ R (mergeK kvs more) (mergeD es ds)
  | _, _, _, _, .nil, h => h
  | _, _, kvs, es, .cons (k := k) (v := v) (d := d) (vs := vs) (ds := ds) r t, h => by
    show RKs K ρ R (mergeK (putK kvs k v) vs) (mergeD (putD es k d) ds)
    exact RKs.merge t (h.put r)
@[simp] def evDisp (r : EvPs) : Ev := fun m => bnd (r m) fun ps m1 => if ps.length ≤ 15 then some (.ok (.val (.ref m1.c.length)), { m1 with c := m1.c ++ [.dK (mergeD [] ps)] }) else none
theorem se_disp {trs : List (TE × TE)} {r : EvPs} (h : SPs C W trs r) : SE C W (tDisp trs) (evDisp r) := fun ρ R F σ H m Q S p q hq => by
  have S0 := S.res (u := .dK []) hq
  refine h.bnd S0 po_wishF p fun ρ1 R1 H1 kvs ps m1 p1 r1 S1 rk q1 => ?_
  split at q1
  · rename_i hz
    refine ⟨S1.resAt.1, kvs, rfl, by rw [rk.length]; exact hz, ?_⟩
    exact q1.newC S1.resSet (.dK (rk.merge .nil))
  · exact q1.elim
end

/-! ### name op= e -/
@[simp] def exAug (f : Int → Int → Int) (i : Nat) (a : Ev) : Ex := fun m => match m.g[i]? with
  | some (.d (.int x)) => bndO (a m) fun d m1 => match d with
    | .int y => some (.ok .nx, { m1 with g := m1.g.set i (.d (.int (f x y))) })
    | _ => none
  | _ => none
theorem ss_aug {C : Ctx} {W : WX} {i : Nat} {te : TE} {a : Ev} {f : Int → Int → Int} (h : SE C W te a) : SS C W (tAug i te (ipI f)) (exAug f i a) := fun ρ R F σ H m D S p => by
  unfold exAug at p
  split at p
  · rename_i x e
    obtain ⟨v, h1, h2⟩ := S.slot e
    refine ⟨v, h1, ?_⟩
    refine h.bndO S poS_wish p fun ρ1 R1 H1 y d m1 p1 r1 S1 o1 q1 => ?_
    split at q1
    · cases h2
      exact ⟨_, _, rfl, o1.int, q1 _ ρ1 R1 H1 (List.prefix_refl _) (Same.refl _) (S1.set (.int _))⟩
    · exact q1.elim
  · exact p.elim

/-! ### -x -/
@[simp] def fNeg : D → MSt → Option (Rs DV × MSt) := fun d m => match d with | .int i => some (.ok (.val (.int (-i))), m) | _ => none
@[simp] def evNeg (a : Ev) : Ev := ev1 fNeg a
theorem se_neg {C : Ctx} {W : WX} {ta : TE} {a : Ev} (h : SE C W ta a) : SE C W (tUn (rU fun i => .int (-i)) ta) (evNeg a) := se_un h fun ρ R F σ H m Q x d S o p => by
  unfold fNeg at p
  split at p
  · exact ⟨_, o.int, p.val S (.d (.int _))⟩
  · exact p.elim

/-! ### isinstance -/
inductive T7 where
  | non | bl | int | str | lst | tup | dict
@[simp] def T7.name : T7 → String
  | .non => "NoneType" | .bl => "bool" | .int => "int" | .str => "str" | .lst => "list" | .tup => "tuple" | .dict => "dict"
@[simp] def is7 : T7 → T7 → Bool
  | .non, .non => true | .bl, .bl => true | .int, .int => true | .str, .str => true | .lst, .lst => true | .tup, .tup => true | .dict, .dict => true
  | .bl, .int => true
  | _, _ => false
theorem kit7 (a b : T7) : kitB a.name b.name = some (is7 a b) := by
  cases a <;> cases b <;> decide +kernel
@[simp] def tyD (m : MSt) : D → Option T7
  | .non => some .non
  | .bl _ => some .bl
  | .int _ => some .int
  | .str _ => some .str
  | .lst _ => some .lst
  | .tup _ => some .tup
  | .lstK _ => some .lst
  | .tupK _ => some .tup
  | .sl i => match m.g[i]? with | some (.own _) => some .lst | _ => none
  | .ref id => match m.c[id]? with
    | some (.lst _) => some .lst
    | some (.dK _) => some .dict
    | some (.dT _) => some .dict
    | _ => none
  | _ => none
theorem tyD_ok {C : Ctx} {ρ : List Addr} {R H : Hp} {F : List Res} {σ : L2.St} {m : MSt} {x : V} {d : D} {t : T7} (S : Sat C ρ R F σ H m) (o : RO C.K ρ R σ x d) (h : tyD m d = some t) : TyX C.K H x (.type t.name) := by
  cases o with
  | sl r =>
    unfold tyD at h
    simp only at h
    split at h
    · rename_i xs e
      cases h
      obtain ⟨p, vs, e1, hp, _⟩ := S.slotOwn e
      rw [r] at e1
      cases e1
      exact .base (.lst hp)
    · cases h
  | d r =>
    cases r with
    | non => cases h; exact .base .non
    | bl b => cases h; exact .base (.bl b)
    | int b => cases h; exact .base (.int b)
    | str b => cases h; exact .base (.str b)
    | ty _ => cases h
    | lst h1 _ => cases h; exact .base (.lst (S.same _ _ h1))
    | tup h1 _ => cases h; exact .base (.tup (S.same _ _ h1))
    | lstK h1 _ =>
      cases h
      rcases h1 with (h1 | ⟨o, h1⟩) | ⟨o, its, n, k, c, _⟩
      · exact .base (.lst (S.same _ _ h1))
      · exact .base (.frz (S.same _ _ h1))
      · exact .kList k c
    | tupK h1 _ =>
      cases h
      rcases h1 with (h1 | ⟨o, h1⟩) | ⟨o, its, n, k, c, _⟩
      · exact .base (.tup (S.same _ _ h1))
      · exact .fTuple (S.same _ _ h1)
      · exact .kTuple k c
    | ref hr =>
      unfold tyD at h
      simp only at h
      split at h
      · rename_i e
        cases h
        obtain ⟨a', l, e1, ce, hl⟩ := S.cell e
        rw [hr] at e1
        cases e1
        cases ce
        exact .base (.lst (hl _ (List.mem_singleton.mpr rfl)).1)
      · rename_i e
        cases h
        obtain ⟨a', l, e1, ce, hl⟩ := S.cell e
        rw [hr] at e1
        cases e1
        cases ce
        exact .base (.dK (hl _ (List.mem_singleton.mpr rfl)).1)
      · rename_i e
        cases h
        obtain ⟨a', l, e1, ce, hl⟩ := S.cell e
        rw [hr] at e1
        cases e1
        cases ce
        exact .base (.dT (hl _ (List.mem_singleton.mpr rfl)).1)
      · cases h
@[simp] def fIsi (t : T7) : List D → MSt → Option (Rs DV × MSt) := fun ds m => match ds with
  | [d, .ty n] => if n = t.name then match tyD m d with | some u => some (.ok (.val (.bl (is7 u t))), m) | none => none else none
  | _ => none
theorem soa_isi {C : Ctx} {W : WX} {t : T7} : SOA C W (rIsi C.K) (fIsi t) := fun ρ R F σ H m Q vs ds S o p => by
  unfold fIsi at p
  split at p
  · split at p
    · rename_i hn
      subst hn
      split at p
      · rename_i u hu
        obtain ⟨v, w, rfl, o1, o2⟩ := o.two
        have e : w = .ty t.name := by
          cases o2 with
          | d r => cases r; rfl
        subst e
        exact ⟨v, .ty t.name, _, _, _, rfl, .ty _, tyD_ok S o1 hu, kit_ty (kit7 u t), p.val S (.d (.bl _))⟩
      · exact p.elim
    · exact p.elim
  · exact p.elim
end MP
namespace MP
open PySem L2
/-! ### rules whose reading names the written part, by its own name (for blocks) -/
section
variable {X : Cx} {K : PySem.W.Frag}
theorem ix_seqK (h : X.K = K) : IxR X (rIx K) := h ▸ ix_seq
theorem op_addK (h : X.K = K) : OpR X (binaryOp .Add) (rAddA K) := h ▸ op_addA
theorem op_eqK (h : X.K = K) (hu : X.A.units + 64 < cLine) : OpR X (compareOp .Eq) (rOr rEq (rEqD K)) := h ▸ op_eqA hu
theorem op_neK (h : X.K = K) (hu : X.A.units + 64 < cLine) : OpR X (compareOp .NotEq) (rOr rNe (rNeD K)) := h ▸ op_neA hu
theorem sl_anyK (h : X.K = K) : L2.SlR X (rSlA K) := h ▸ sl_any
theorem call_lenK (h : X.K = K) : CallR X (.builtin "len") (rLen K) := h ▸ call_len
theorem call_listK (h : X.K = K) : CallR X (.type "list") (rListOf K) := h ▸ call_list_of
theorem cr_sumK (h : X.K = K) (hc : X.calm = true) : CallR X (.builtin "sum") (rSum K) := h ▸ cr_sum hc
theorem cr_allK (h : X.K = K) (hc : X.calm = true) : CallR X (.builtin "all") (rAll K) := h ▸ cr_all hc
theorem cr_anyK (h : X.K = K) (hc : X.calm = true) : CallR X (.builtin "any") (rAny K) := h ▸ cr_any hc
theorem call_isiK (h : X.K = K) : CallR X (.builtin "isinstance") (rIsi K) := h ▸ call_isi
theorem pt_truthK {a : Expr} {ta : TE} (h : X.K = K) (ha : PE X a ta) (he : ∀ whole, isTrue a X.env whole = (do let v ← whole; standAt a.pos; holding [v] (truthy v))) :
    PT X a (fun σ H Q => ta σ H fun x H' => ∃ k, TruV K x H' k ∧ Q k H') := h ▸ pt_truth ha he
theorem pi_listK {tg l : Expr} {tl : TE} (h : X.K = K) (hl : PE X l tl) : PI X tg l (iList K tl) := h ▸ pi_list hl
theorem pi_tupK {tg l : Expr} {tl : TE} (h : X.K = K) (hl : PE X l tl) : PI X tg l (iTup K tl) := h ▸ pi_tup hl
end
end MP
namespace MP
open PySem L2
/-- what the law's own row asks: a list of at most 63 whole numbers is handed in, True comes out -/
def spLaw (K : PySem.W.Frag) : Sp := fun vs H Q _ => ∃ (a : Addr) (ns : List Int), vs = [.ref a] ∧ SqL K H a (ns.map V.int) ∧ ns.length ≤ 63 ∧ ∀ H', Q (.bl true) H'
theorem law_imp {C : MP.Ctx} {sem : Sem0} (h : ∀ ns : List Int, ns.length ≤ 63 → ∃ c, sem [.lstK (ns.map D.int)] [] = some (.ok (.val (.bl true)), c)) (vs : List V) (H : Hp) (Q : VK) (E : XK) (q : spLaw C.K vs H Q E) : spOf C 1 sem vs H Q E := by
  obtain ⟨a, ns, rfl, hS, hl, k⟩ := q
  obtain ⟨c, hc⟩ := h ns hl
  refine ⟨rfl, [], H, [], [.lstK (ns.map D.int)], [], [], .cons (.lstK hS (RDs.of_ints ns)) .nil, .nil, ⟨Same.refl _, List.nodup_nil, fun _ z => nomatch z⟩, ?_⟩
  rw [hc]
  intro v ρ' R' H' lc _ _ _ _ rv
  cases rv
  exact k H'
theorem cx_none {P : Program} {w : World} {H : Hp} {s : Shared} {e : Value} {s' : Shared} (h : L2.CX P w [] H s (fun _ _ _ => False) e s') : False := by
  obtain ⟨_, _, _, _, _, _, _, _, _, _, _, _, z⟩ := h
  exact z.elim
end MP

set_option Elab.async false
set_option linter.all false
set_option maxRecDepth 100000
set_option maxHeartbeats 4000000
namespace MP
open PySem L2

/-! ### reckoning: plain equations for simp -/
section
variable {α β : Type} {m : MSt} {d e : D} {x : Exc} {a b c : Ev} {c' : List Cell} {g : List Sl}
@[simp] theorem bnd_ok {r : α} {f : α → MSt → Option (Rs β × MSt)} : bnd (some (.ok r, m)) f = f r m := rfl
@[simp] theorem bnd_exc {f : α → MSt → Option (Rs β × MSt)} : bnd (some (.exc x, m)) f = some (.exc x, m) := rfl
@[simp] theorem bnd_none {f : α → MSt → Option (Rs β × MSt)} : bnd none f = none := rfl
@[simp] theorem bndO_val {f : D → MSt → Option (Rs β × MSt)} : bndO (some (.ok (.val d), m)) f = f d m := rfl
@[simp] theorem bndO_own {xs : List D} {f : D → MSt → Option (Rs β × MSt)} : bndO (some (.ok (.own xs), m)) f = f (.lst xs) m := rfl
@[simp] theorem bndO_exc {f : D → MSt → Option (Rs β × MSt)} : bndO (some (.exc x, m)) f = some (.exc x, m) := rfl
@[simp] theorem bndW_own {xs : List D} {f : List D → MSt → Option (Rs β × MSt)} : bndW (some (.ok (.own xs), m)) f = f xs m := rfl
@[simp] theorem bndD_val {f : D → MSt → Option (Rs β × MSt)} : bndD (some (.ok (.val d), m)) f = if solid d = true then f d m else none := rfl
@[simp] theorem bndD_own {xs : List D} {f : D → MSt → Option (Rs β × MSt)} : bndD (some (.ok (.own xs), m)) f = f (.lst xs) m := rfl
@[simp] theorem bndD_exc {f : D → MSt → Option (Rs β × MSt)} : bndD (some (.exc x, m)) f = some (.exc x, m) := rfl
@[simp] theorem evC_at : evC d m = some (.ok (.val d), m) := rfl
@[simp] theorem ev2_at {f : D → D → MSt → Option (Rs DV × MSt)} : ev2 f a b m = bndO (a m) fun d m1 => bndO (b m1) fun e m2 => f d e m2 := rfl
@[simp] theorem ev1_at {f : D → MSt → Option (Rs DV × MSt)} : ev1 f a m = bndO (a m) f := rfl
@[simp] theorem fAdd_at {i j : Int} : fAddA (.int i) (.int j) m = some (.ok (.val (.int (i + j))), m) := rfl
@[simp] theorem fSub_at {i j : Int} : fSub (.int i) (.int j) m = some (.ok (.val (.int (i - j))), m) := rfl
@[simp] theorem fLt_at {i j : Int} : fLt (.int i) (.int j) m = some (.ok (.val (.bl (decide (i < j)))), m) := rfl
@[simp] theorem fLe_at {i j : Int} : fLe (.int i) (.int j) m = some (.ok (.val (.bl (decide (i ≤ j)))), m) := rfl
@[simp] theorem fGt_at {i j : Int} : fGt (.int i) (.int j) m = some (.ok (.val (.bl (decide (j < i)))), m) := rfl
@[simp] theorem fGe_at {i j : Int} : fGe (.int i) (.int j) m = some (.ok (.val (.bl (decide (j ≤ i)))), m) := rfl
@[simp] theorem fAnd_at {i j : Int} : fAnd (.int i) (.int j) m = some (.ok (.val (.int (Builtin.bitAnd i j))), m) := rfl
@[simp] theorem fOr_at {i j : Int} : fOr (.int i) (.int j) m = some (.ok (.val (.int (Builtin.bitOr i j))), m) := rfl
@[simp] theorem fXor_at {i j : Int} : fXor (.int i) (.int j) m = some (.ok (.val (.int (Builtin.bitXor i j))), m) := rfl
@[simp] theorem fMod_at {i j : Int} (h : 0 < j) : fMod (.int i) (.int j) m = some (.ok (.val (.int (i % j))), m) := by simp [fMod, fI, h]
@[simp] theorem fDiv_at {i j : Int} (h : 0 < j) (h2 : j < 1073741824) : fDiv (.int i) (.int j) m = some (.ok (.val (.int (i / j))), m) := by
  have h3 : j.natAbs < 1073741824 := by omega
  simp [fDiv, fI, cDiv, h, h3]
@[simp] theorem fMul_l {i j : Int} (h : -18446744073709551616 < i) (h2 : i < 18446744073709551616) : fMul (.int i) (.int j) m = some (.ok (.val (.int (i * j))), m) := by
  have e : i.natAbs < 18446744073709551616 := by omega
  simp [fMul, fI, cMul, e]
@[simp] theorem fMul_r {i j : Int} (h : -18446744073709551616 < j) (h2 : j < 18446744073709551616) : fMul (.int i) (.int j) m = some (.ok (.val (.int (i * j))), m) := by
  have e : j.natAbs < 18446744073709551616 := by omega
  simp [fMul, fI, cMul, e]
@[simp] theorem fMul_mod {i M j : Int} (h : 0 < M) (h2 : M < 18446744073709551616) : fMul (.int (i % M)) (.int j) m = some (.ok (.val (.int (i % M * j))), m) :=
  fMul_l (by have := Int.emod_nonneg i (show M ≠ 0 by omega); omega) (by have := Int.emod_lt_of_pos i h; omega)
@[simp] theorem fShr_at {i j : Int} (h : 0 ≤ j) : fShr (.int i) (.int j) m = some (.ok (.val (.int (i / 2 ^ j.toNat))), m) := by simp [fShr, fI, h]
@[simp] theorem fShl_at {i j : Int} (h : 0 ≤ j) (h1 : j ≤ 1000000) (h2 : i.natAbs < 18446744073709551616) : fShl (.int i) (.int j) m = some (.ok (.val (.int (i * 2 ^ j.toNat))), m) := by
  have e : (2 : Nat) ^ 64 = 18446744073709551616 := by decide
  simp [fShl, fI, cShl, e, h, h1, h2]
@[simp] theorem fPow_at {i j : Int} (h : 0 ≤ j) (h1 : j ≤ 1000000) (h2 : i.natAbs < 18446744073709551616) : fPow (.int i) (.int j) m = some (.ok (.val (.int (i ^ j.toNat))), m) := by
  have e : (2 : Nat) ^ 64 = 18446744073709551616 := by decide
  simp [fPow, fI, cShl, e, h, h1, h2]
@[simp] theorem fEq_str {s t : Str} : fEq (.str s) (.str t) m = some (.ok (.val (.bl (decide (s = t)))), m) := rfl
@[simp] theorem fNe_str {s t : Str} : fNe (.str s) (.str t) m = some (.ok (.val (.bl (!decide (s = t)))), m) := rfl
@[simp] theorem fEq_int {i j : Int} : fEq (.int i) (.int j) m = some (.ok (.val (.bl (decide (i = j)))), m) := by
  simp [fEq, topD, lsO, okD, eqB, pyD, PyData.eqv]
  rfl
@[simp] theorem fNe_int {i j : Int} : fNe (.int i) (.int j) m = some (.ok (.val (.bl (!decide (i = j)))), m) := by
  simp [fNe, topD, lsO, okD, eqB, pyD, PyData.eqv]
  rfl
end
@[simp] theorem solid_int {i : Int} : solid (.int i) = true := rfl
@[simp] theorem solid_bl {i : Bool} : solid (.bl i) = true := rfl
@[simp] theorem solid_str {i : Str} : solid (.str i) = true := rfl
@[simp] theorem solid_lst {i : List D} : solid (.lst i) = true := rfl
@[simp] theorem solid_lstK {i : List D} : solid (.lstK i) = true := rfl
@[simp] theorem solid_tup {i : List D} : solid (.tup i) = true := rfl
@[simp] theorem solid_tupK {i : List D} : solid (.tupK i) = true := rfl
@[simp] theorem solid_non : solid .non = true := rfl
@[simp] theorem solid_ty {n : String} : solid (.ty n) = true := rfl
@[simp] theorem solid_ref {n : Nat} : solid (.ref n) = true := rfl
@[simp] theorem solid_sl {n : Nat} : solid (.sl n) = false := rfl

@[simp] theorem topD_int {m : MSt} {i : Int} : topD m (.int i) = .int i := rfl
theorem szOk_of {n : Nat} (h : n ≤ 16777216) : szOk n = true := decide_eq_true h
@[simp] theorem szOk_add_lit {n : Nat} : szOk n = decide (n ≤ 16777216) := rfl

/-! ranges: the bound is never reckoned by the kernel -/
def fRng1 (ds : List D) (m1 : MSt) : Option (Rs (List D) × MSt) := match ds with
  | [.int j] => if c62 j then some (.ok (rngL 0 j.toNat), m1) else none
  | _ => none
def fRng2 (ds : List D) (m1 : MSt) : Option (Rs (List D) × MSt) := match ds with
  | [.int i, .int j] => if c62 i && c62 j then some (.ok (rngL i (j - i).toNat), m1) else none
  | _ => none
@[simp] theorem eiRng1_at {a : EvA} {m : MSt} : eiRng1 a m = bnd (a m) fRng1 := rfl
@[simp] theorem eiRng2_at {a : EvA} {m : MSt} : eiRng2 a m = bnd (a m) fRng2 := rfl
@[simp] theorem fRng1_at {j : Int} {m : MSt} (h : c62 j = true) : fRng1 [.int j] m = some (.ok (rngL 0 j.toNat), m) := by
  unfold fRng1
  exact if_pos h
@[simp] theorem fRng2_at {i j : Int} {m : MSt} (h0 : c62 i = true) (h : c62 j = true) : fRng2 [.int i, .int j] m = some (.ok (rngL i (j - i).toNat), m) := by
  unfold fRng2
  exact if_pos (by rw [h0, h]; rfl)
theorem c62_of {j : Int} (h1 : -1000000000 ≤ j) (h2 : j ≤ 1000000000) : c62 j = true := by
  unfold c62
  simp only [decide_eq_true_eq]
  omega
/-! ### loops -/
theorem loopFor_inv {g : Gs} {b : Ex} (I : Nat → MSt → Prop) {items : List D} (h : ∀ i d m, items[i]? = some d → I i m → ∃ m1 m2, g d m = some (.ok (), m1) ∧ (b m1 = some (.ok .nx, m2) ∨ b m1 = some (.ok .ct, m2)) ∧ I (i + 1) m2) {m : MSt} (h0 : I 0 m) :
    ∃ m', loopFor g b items m = some (.ok .nx, m') ∧ I items.length m' := by
  have key : ∀ (n i : Nat) (m : MSt), n + i = items.length → I i m → ∃ m', loopFor g b (items.drop i) m = some (.ok .nx, m') ∧ I items.length m' := by
    intro n
    induction n with
    | zero =>
      intro i m e hi
      have e : i = items.length := by omega
      subst e
      rw [List.drop_length]
      exact ⟨m, rfl, hi⟩
    | succ n ih =>
      intro i m e hi
      have hl : i < items.length := by omega
      rw [List.drop_eq_getElem_cons hl]
      obtain ⟨m1, m2, e1, e2, hi'⟩ := h i _ m (List.getElem?_eq_getElem hl) hi
      obtain ⟨m', q1, q2⟩ := ih (i + 1) m2 (by omega) hi'
      refine ⟨m', ?_, q2⟩
      unfold loopFor
      rw [e1]
      rcases e2 with e2 | e2
      · simp only [e2, q1]
      · simp only [e2, q1]
  have := key items.length 0 m (by omega) h0
  rwa [List.drop_zero] at this
/-- a fold -/
theorem loopFor_fold {g : Gs} {b : Ex} {τ : Type} (S : τ → MSt) (f : τ → D → τ) {items : List D} (h : ∀ d ∈ items, ∀ t, ∃ m1, g d (S t) = some (.ok (), m1) ∧ b m1 = some (.ok .nx, S (f t d))) (t : τ) :
    loopFor g b items (S t) = some (.ok .nx, S (items.foldl f t)) := by
  induction items generalizing t with
  | nil => rfl
  | cons d ds ih =>
    obtain ⟨m1, e1, e2⟩ := h d List.mem_cons_self t
    unfold loopFor
    rw [e1]
    simp only [e2]
    exact ih (fun d hd => h d (List.mem_cons_of_mem _ hd)) (f t d)
/-- a comprehension over one name whose block changes nothing else -/
theorem lcLoop_map {tt : EvB} {te : Ev} {i : Nat} {m0 : MSt} (p : D → Bool) (f : D → D) {items : List D}
    (ht : ∀ d ∈ items, tt { m0 with g := m0.g.set i (.d d) } = some (.ok (p d), { m0 with g := m0.g.set i (.d d) }))
    (he : ∀ d ∈ items, p d = true → te { m0 with g := m0.g.set i (.d d) } = some (.ok (.val (f d)), { m0 with g := m0.g.set i (.d d) }) ∧ solid (f d) = true) :
    ∀ (acc : List D) (m : MSt), wipeM m [i] = m0 → acc.length + items.length ≤ 16777216 → lcLoop (gsName i) tt te [i] items acc m = some (acc ++ (items.filter p).map f, m0) := by
  induction items with
  | nil =>
    intro acc m hm _
    simp [lcLoop, hm]
  | cons d ds ih =>
    intro acc m hm hz
    have hm1 : wipeM { m0 with g := m0.g.set i (.d d) } [i] = m0 := by
      rw [← hm]
      simp [wipeM, wipeG]
    have t := ht d List.mem_cons_self
    have ih' := ih (fun d hd => ht d (List.mem_cons_of_mem _ hd)) (fun d hd => he d (List.mem_cons_of_mem _ hd))
    rw [List.length_cons] at hz
    unfold lcLoop
    simp only [gsName, hm, t]
    cases hp : p d with
    | true =>
      obtain ⟨e1, e2⟩ := he d List.mem_cons_self hp
      have hz2 : szOk (acc.length + 1) = true := szOk_of (by omega)
      simp only [e1, bndD_val, e2, if_true, hz2]
      rw [ih' _ _ hm1 (by rw [List.length_append, List.length_singleton]; omega)]
      simp [List.filter_cons, hp]
    | false =>
      simp only
      rw [ih' _ _ hm1 (by omega)]
      simp [List.filter_cons, hp]
/-- a comprehension, any target, whose block changes nothing else -/
theorem lcLoop_gen {g : Gs} {tt : EvB} {te : Ev} {vs : List Nat} {m0 : MSt} (p : D → Bool) (f : D → D) {items : List D}
    (h : ∀ d ∈ items, ∃ m1, g d m0 = some (.ok (), m1) ∧ tt m1 = some (.ok (p d), m1) ∧ (p d = true → te m1 = some (.ok (.val (f d)), m1) ∧ solid (f d) = true) ∧ wipeM m1 vs = m0) :
    ∀ (acc : List D) (m : MSt), wipeM m vs = m0 → acc.length + items.length ≤ 16777216 → lcLoop g tt te vs items acc m = some (acc ++ (items.filter p).map f, m0) := by
  induction items with
  | nil =>
    intro acc m hm _
    simp [lcLoop, hm]
  | cons d ds ih =>
    intro acc m hm hz
    obtain ⟨m1, e1, e2, e3, e4⟩ := h d List.mem_cons_self
    have ih' := ih (fun d hd => h d (List.mem_cons_of_mem _ hd))
    rw [List.length_cons] at hz
    unfold lcLoop
    simp only [hm, e1, e2]
    cases hp : p d with
    | true =>
      obtain ⟨f1, f2⟩ := e3 hp
      have hz2 : szOk (acc.length + 1) = true := szOk_of (by omega)
      simp only [f1, bndD_val, f2, if_true, hz2]
      rw [ih' _ _ e4 (by rw [List.length_append, List.length_singleton]; omega)]
      simp [List.filter_cons, hp]
    | false =>
      simp only
      rw [ih' _ _ e4 (by omega)]
      simp [List.filter_cons, hp]
/-! plain lists of numbers -/
@[simp] theorem intsOf_map (ns : List Int) : intsOf (ns.map D.int) = some ns := by
  induction ns with
  | nil => rfl
  | cons a l ih => simp [intsOf, ih]
@[simp] theorem intsOf_map1 {α : Type} (f : α → Int) (l : List α) : intsOf (l.map fun x => D.int (f x)) = some (l.map f) := by
  induction l with
  | nil => rfl
  | cons a l ih => simp [intsOf, ih]
@[simp] theorem intsOf_map2 {α : Type} (f : α → Int) (l : List α) : intsOf (l.map (D.int ∘ f)) = some (l.map f) := intsOf_map1 f l
@[simp] theorem blsOf_map1 {α : Type} (f : α → Bool) (l : List α) : blsOf (l.map fun x => D.bl (f x)) = some (l.map f) := by
  induction l with
  | nil => rfl
  | cons a l ih => simp [blsOf, ih]
@[simp] theorem blsOf_map2 {α : Type} (f : α → Bool) (l : List α) : blsOf (l.map (D.bl ∘ f)) = some (l.map f) := blsOf_map1 f l
@[simp] theorem okDs_ints (n : Nat) (ns : List Int) : okDs n (ns.map D.int) = true := by
  induction ns with
  | nil => unfold List.map okDs; rfl
  | cons a l ih => rw [List.map_cons]; unfold okDs; rw [ih]; unfold okD; rfl
@[simp] theorem okD_int (n : Nat) (i : Int) : okD n (.int i) = true := by unfold okD; rfl
@[simp] theorem okD_bl (n : Nat) (i : Bool) : okD n (.bl i) = true := by unfold okD; rfl
@[simp] theorem okD_non (n : Nat) : okD n .non = true := by unfold okD; rfl
@[simp] theorem okD_str (n : Nat) (s : Str) : okD n (.str s) = PyData.strOk s := by unfold okD; rfl
@[simp] theorem okD_lst (n : Nat) (xs : List D) : okD (n + 1) (.lst xs) = okDs n xs := by unfold okD; rfl
@[simp] theorem okD_tup (n : Nat) (xs : List D) : okD (n + 1) (.tup xs) = okDs n xs := by unfold okD; rfl
@[simp] theorem okD_lst60 (xs : List D) : okD 60 (.lst xs) = okDs 59 xs := okD_lst 59 xs
@[simp] theorem okD_tup60 (xs : List D) : okD 60 (.tup xs) = okDs 59 xs := okD_tup 59 xs
@[simp] theorem okD_lst59 (xs : List D) : okD 59 (.lst xs) = okDs 58 xs := okD_lst 58 xs
@[simp] theorem okD_tup59 (xs : List D) : okD 59 (.tup xs) = okDs 58 xs := okD_tup 58 xs
@[simp] theorem okD_lst58 (xs : List D) : okD 58 (.lst xs) = okDs 57 xs := okD_lst 57 xs
@[simp] theorem okD_tup58 (xs : List D) : okD 58 (.tup xs) = okDs 57 xs := okD_tup 57 xs
@[simp] theorem okDs_nil (n : Nat) : okDs n [] = true := by unfold okDs; rfl
@[simp] theorem okDs_cons (n : Nat) (d : D) (ds : List D) : okDs n (d :: ds) = (okD n d && okDs n ds) := by rw [okDs.eq_def]
theorem eqv_self {n : Nat} {d : D} (h : okD n d = true) : PyData.eqv (pyD d) (pyD d) = true := SeqAt.eqv_refl _ (okD_lay n d h).1
@[simp] theorem topD_lst {m : MSt} {xs : List D} : topD m (.lst xs) = .lst xs := rfl
@[simp] theorem topD_tup {m : MSt} {xs : List D} : topD m (.tup xs) = .tup xs := rfl
@[simp] theorem topD_non {m : MSt} : topD m .non = .non := rfl
@[simp] theorem topD_bl {m : MSt} {b : Bool} : topD m (.bl b) = .bl b := rfl
theorem fEq_self {m : MSt} {d : D} (h : okD 60 d = true) (ht : topD m d = d) (hs : ∀ s, d ≠ .str s) : fEq d d m = some (.ok (.val (.bl true)), m) := by
  unfold fEq eqB
  cases d <;> simp_all [eqv_self h]
theorem fNe_self {m : MSt} {d : D} (h : okD 60 d = true) (ht : topD m d = d) (hs : ∀ s, d ≠ .str s) : fNe d d m = some (.ok (.val (.bl false)), m) := by
  unfold fNe eqB
  cases d <;> simp_all [eqv_self h]
@[simp] theorem fNe_non {m : MSt} : fNe .non .non m = some (.ok (.val (.bl false)), m) := fNe_self (by simp) rfl (by simp)
@[simp] theorem pyD_lst (xs : List D) : pyD (.lst xs) = .list (pyDs xs) := by unfold pyD; rfl
@[simp] theorem pyDs_nil : pyDs [] = [] := by unfold pyDs; rfl
@[simp] theorem pyDs_cons (d : D) (ds : List D) : pyDs (d :: ds) = pyD d :: pyDs ds := by rw [pyDs.eq_def]
/-- a list against the empty one -/
theorem fNe_nil {m : MSt} {xs : List D} (h : okDs 59 xs = true) : fNe (.lst xs) (.lst []) m = some (.ok (.val (.bl (!xs.isEmpty))), m) := by
  unfold fNe eqB
  cases xs with
  | nil => simp [PyData.eqv, PyData.eqvAll]
  | cons d ds =>
    simp only [topD_lst, okD_lst60, h, okDs_nil, Bool.and_self, if_true, pyD_lst, pyDs_cons, pyDs_nil, PyData.eqv, PyData.eqvAll]
    rfl
theorem fEq_nil {m : MSt} {xs : List D} (h : okDs 59 xs = true) : fEq (.lst xs) (.lst []) m = some (.ok (.val (.bl (xs.isEmpty))), m) := by
  unfold fEq eqB
  cases xs with
  | nil => simp [PyData.eqv, PyData.eqvAll]
  | cons d ds =>
    simp only [topD_lst, okD_lst60, h, okDs_nil, Bool.and_self, if_true, pyD_lst, pyDs_cons, pyDs_nil, PyData.eqv, PyData.eqvAll]
    rfl
theorem zipL_ints (xs ys : List Int) : zipL (xs.map D.int) (ys.map D.int) = (List.zip xs ys).map fun p => .tup [.int p.1, .int p.2] := by
  unfold zipL
  rw [List.zipWith_map, List.zip_eq_zipWith, List.map_zipWith]
@[simp] theorem atD_nat {xs : List D} {i : Int} (h0 : 0 ≤ i) (h1 : i < xs.length) : atD xs i = xs[i.toNat]? := by
  unfold atD L2.atI ixN
  rw [if_pos h0, if_pos h1]
  rfl
end MP

set_option linter.all false
set_option maxRecDepth 100000
set_option maxHeartbeats 4000000
namespace MP
open PySem L2
/-! ### one statement at a time -/
theorem seq_nx {a b : Ex} {m m' : MSt} (h : a m = some (.ok .nx, m')) : exSeq a b m = b m' := by
  unfold exSeq
  rw [h]
theorem seq_exc {a b : Ex} {m m' : MSt} {x : Exc} (h : a m = some (.exc x, m')) : exSeq a b m = some (.exc x, m') := by
  unfold exSeq
  rw [h]
theorem seq_rt {a b : Ex} {m m' : MSt} {v : DV} (h : a m = some (.ok (.rt v), m')) : exSeq a b m = some (.ok (.rt v), m') := by
  unfold exSeq
  rw [h]
theorem sem_nx {N n : Nat} {ex : Ex} {args : List D} {c : List Cell} {m : MSt} (hn : args.length = n) (h : ex ⟨args.map Sl.d ++ List.replicate (N - n) Sl.u, c⟩ = some (.ok .nx, m)) : semDef N n ex args c = some (.ok (.val .non), m.c) := by
  unfold semDef
  rw [if_pos hn, h]
theorem sem_rt {N n : Nat} {ex : Ex} {args : List D} {c : List Cell} {m : MSt} {a : DV} (hn : args.length = n) (h : ex ⟨args.map Sl.d ++ List.replicate (N - n) Sl.u, c⟩ = some (.ok (.rt a), m)) : semDef N n ex args c = some (.ok a, m.c) := by
  unfold semDef
  rw [if_pos hn, h]
theorem sem_exc {N n : Nat} {ex : Ex} {args : List D} {c : List Cell} {m : MSt} {x : Exc} (hn : args.length = n) (h : ex ⟨args.map Sl.d ++ List.replicate (N - n) Sl.u, c⟩ = some (.exc x, m)) : semDef N n ex args c = some (.exc x, m.c) := by
  unfold semDef
  rw [if_pos hn, h]
/-- a loop that may return at a turn -/
theorem loopFor_ret {g : Gs} {b : Ex} (I : MSt → Prop) (p : D → Bool) (v : DV) {items : List D}
    (h : ∀ d ∈ items, ∀ m, I m → ∃ m1, g d m = some (.ok (), m1) ∧ ∃ m2, I m2 ∧ b m1 = some (.ok (if p d = true then .rt v else .nx), m2)) {m : MSt} (h0 : I m) :
    ∃ m', I m' ∧ loopFor g b items m = some (.ok (if items.any p = true then .rt v else .nx), m') := by
  induction items generalizing m with
  | nil => exact ⟨m, h0, rfl⟩
  | cons d ds ih =>
    obtain ⟨m1, e1, m2, i2, e2⟩ := h d List.mem_cons_self m h0
    unfold loopFor
    rw [e1]
    simp only [e2]
    cases hp : p d with
    | true =>
      refine ⟨m2, i2, ?_⟩
      simp [hp]
    | false =>
      obtain ⟨m', i', e'⟩ := ih (fun d hd => h d (List.mem_cons_of_mem _ hd)) i2
      refine ⟨m', i', ?_⟩
      simp [hp, e']
end MP

set_option Elab.async false
set_option linter.all false
set_option maxRecDepth 100000
set_option maxHeartbeats 8000000
namespace Wk20
open PySem L2 MP
def top (i : Nat) : Stmt := PySem.Challenge.pw_tornshelf_k20_whole_bits_by_any_lengths.main.body.getD i (.Pass ⟨0, 0, 0, 0⟩)
def cat_BadTable : Nat → Option Bool
  | 0 => some false
  | 1 => some true
  | _ => none
structure Tx (C : MP.Ctx) (mg : Str → Option Value) where
  a_is_whole : Addr
  d_is_whole : FuncData
  F_is_whole : Fun C.K "is_whole" "is_whole" (top 7) a_is_whole d_is_whole
  b_is_whole : Binds C.K d_is_whole ["thing"] []
  g_is_whole : mg "is_whole" = some (.ref a_is_whole)
  a_is_list_of : Addr
  d_is_list_of : FuncData
  F_is_list_of : Fun C.K "is_list_of" "is_list_of" (top 8) a_is_list_of d_is_list_of
  b_is_list_of : Binds C.K d_is_list_of ["thing", "low", "high"] []
  g_is_list_of : mg "is_list_of" = some (.ref a_is_list_of)
  a_check_counts : Addr
  d_check_counts : FuncData
  F_check_counts : Fun C.K "check_counts" "check_counts" (top 9) a_check_counts d_check_counts
  b_check_counts : Binds C.K d_check_counts ["counts"] []
  g_check_counts : mg "check_counts" = some (.ref a_check_counts)
  a_room_of : Addr
  d_room_of : FuncData
  F_room_of : Fun C.K "room_of" "room_of" (top 10) a_room_of d_room_of
  b_room_of : Binds C.K d_room_of ["lengths"] []
  g_room_of : mg "room_of" = some (.ref a_room_of)
  a_fits : Addr
  d_fits : FuncData
  F_fits : Fun C.K "fits" "fits" (top 11) a_fits d_fits
  b_fits : Binds C.K d_fits ["lengths"] []
  g_fits : mg "fits" = some (.ref a_fits)
  a_check_lengths : Addr
  d_check_lengths : FuncData
  F_check_lengths : Fun C.K "check_lengths" "check_lengths" (top 12) a_check_lengths d_check_lengths
  b_check_lengths : Binds C.K d_check_lengths ["lengths"] []
  g_check_lengths : mg "check_lengths" = some (.ref a_check_lengths)
  a_bits_of : Addr
  d_bits_of : FuncData
  F_bits_of : Fun C.K "bits_of" "bits_of" (top 13) a_bits_of d_bits_of
  b_bits_of : Binds C.K d_bits_of ["counts", "lengths"] []
  g_bits_of : mg "bits_of" = some (.ref a_bits_of)
  a__law_cell_at : Addr
  d__law_cell_at : FuncData
  F__law_cell_at : Fun C.K "_law_cell_at" "_law_cell_at" (top 15) a__law_cell_at d__law_cell_at
  b__law_cell_at : Binds C.K d__law_cell_at ["script", "k"] []
  g__law_cell_at : mg "_law_cell_at" = some (.ref a__law_cell_at)
  a__law_mixed : Addr
  d__law_mixed : FuncData
  F__law_mixed : Fun C.K "_law_mixed" "_law_mixed" (top 16) a__law_mixed d__law_mixed
  b__law_mixed : Binds C.K d__law_mixed ["cell", "k"] []
  g__law_mixed : mg "_law_mixed" = some (.ref a__law_mixed)
  a__law_draw : Addr
  d__law_draw : FuncData
  F__law_draw : Fun C.K "_law_draw" "_law_draw" (top 17) a__law_draw d__law_draw
  b__law_draw : Binds C.K d__law_draw ["draw", "many"] []
  g__law_draw : mg "_law_draw" = some (.ref a__law_draw)
  a__law_one : Addr
  d__law_one : FuncData
  F__law_one : Fun C.K "_law_one" "_law_one" (top 18) a__law_one d__law_one
  b__law_one : Binds C.K d__law_one ["draw", "some"] []
  g__law_one : mg "_law_one" = some (.ref a__law_one)
  a__law_lengths : Addr
  d__law_lengths : FuncData
  F__law_lengths : Fun C.K "_law_lengths" "_law_lengths" (top 19) a__law_lengths d__law_lengths
  b__law_lengths : Binds C.K d__law_lengths ["draw", "many"] []
  g__law_lengths : mg "_law_lengths" = some (.ref a__law_lengths)
  a__law_due : Addr
  d__law_due : FuncData
  F__law_due : Fun C.K "_law_due" "_law_due" (top 20) a__law_due d__law_due
  b__law_due : Binds C.K d__law_due ["counts", "lengths"] []
  g__law_due : mg "_law_due" = some (.ref a__law_due)
  a__law_bits : Addr
  d__law_bits : FuncData
  F__law_bits : Fun C.K "_law_bits" "_law_bits" (top 21) a__law_bits d__law_bits
  b__law_bits : Binds C.K d__law_bits ["counts", "lengths"] []
  g__law_bits : mg "_law_bits" = some (.ref a__law_bits)
  a_law : Addr
  d_law : FuncData
  F_law : Fun C.K "law" "law" (top 22) a_law d_law
  b_law : Binds C.K d_law ["script"] []
  g_law : mg "law" = some (.ref a_law)
  z_all : mg "all" = none
  z_bool : mg "bool" = none
  z_int : mg "int" = none
  z_isinstance : mg "isinstance" = none
  z_len : mg "len" = none
  z_list : mg "list" = none
  z_range : mg "range" = none
  z_sum : mg "sum" = none
  z_zip : mg "zip" = none
  t_MOST_SYMBOLS : Tok
  v_MOST_SYMBOLS : mg "MOST_SYMBOLS" = some (.int 64 t_MOST_SYMBOLS)
  t_MOST_COUNT : Tok
  v_MOST_COUNT : mg "MOST_COUNT" = some (.int 1000 t_MOST_COUNT)
  t_LONGEST : Tok
  v_LONGEST : mg "LONGEST" = some (.int 15 t_LONGEST)
  A_ShelfError : Addr
  g_ShelfError : mg "ShelfError" = some (.ref A_ShelfError)
  x_ShelfError : PySem.W.excIn C.K A_ShelfError [.type "ValueError", .type "Exception", .type "BaseException", .type "object"] "ValueError.__new__" = true
  k_ShelfError : PySem.W.keepIn C.K (.ref A_ShelfError) = true
  s_ShelfError : PySem.W.subIn C.K (.ref A_ShelfError) (.type "BaseException") = some true
  t_ShelfError : PySem.W.typeIn C.K (.ref A_ShelfError) = some (.type "type")
  e_ShelfError : Value.ref A_ShelfError = .ref (C.cm 0)
  A_BadTable : Addr
  g_BadTable : mg "BadTable" = some (.ref A_BadTable)
  x_BadTable : PySem.W.excIn C.K A_BadTable [.type "ValueError", .type "Exception", .type "BaseException", .type "object"] "ValueError.__new__" = true
  k_BadTable : PySem.W.keepIn C.K (.ref A_BadTable) = true
  s_BadTable : PySem.W.subIn C.K (.ref A_BadTable) (.type "BaseException") = some true
  t_BadTable : PySem.W.typeIn C.K (.ref A_BadTable) = some (.type "type")
  e_BadTable : Value.ref A_BadTable = .ref (C.cm 1)
  c_BadTable : ∀ k r, cat_BadTable k = some r → PySem.W.exmOne C.K (.ref (C.cm k)) (.ref A_BadTable) = some r
/-! ### is_whole -/
abbrev s_is_whole : Stmt := top 7
def ex_is_whole : Ex := (exRet (evAndV (evCB (fIsi .int) (eaCons (evPeek 0) (eaCons (evC (.ty "int")) eaNil))) (evNotV (evCB (fIsi .bl) (eaCons (evPeek 0) (eaCons (evC (.ty "bool")) eaNil))))))
def sem_is_whole : Sem0 := semDef 1 1 ex_is_whole
theorem sc_is_whole : FnScope ["thing"] ["thing"] (defScope s_is_whole) := ⟨rfl, rfl, rfl, by decide +kernel, rfl, by decide +kernel, by decide +kernel⟩
theorem ok_is_whole {P : Program} {w : World} {C : MP.Ctx} {mg : Str → Option Value} {base : Heap} (T : Tx C mg) : FnOk P w C.K mg base (L2.CX P w) 1 T.a_is_whole T.d_is_whole ["thing"] (spOf C 1 sem_is_whole) := by
  have sc := sc_is_whole
  refine fn_ok T.F_is_whole sc fun cdv A outer s H E hr => ?_
  refine ⟨_, (pss_one (ps_ret (pe_and (pe_callB (call_isiK (K := C.K) rfl) (by rfl) T.z_isinstance (by decide +kernel) (pa_cons (pv 0) (pa_cons (pe_bltn (v := .ty "int") (u := .type "int") (by rfl) T.z_int (by decide +kernel) rfl) pa_nil))) (pe_one (pe_not (pe_callB (call_isiK (K := C.K) rfl) (by rfl) T.z_isinstance (by decide +kernel) (pa_cons (pv 0) (pa_cons (pe_bltn (v := .ty "bool") (u := .type "bool") (by rfl) T.z_bool (by decide +kernel) rfl) pa_nil)))))))), ?_⟩
  exact (ss_ret (se_andV (se_cb (sa_cons se_peek (sa_cons se_ty sa_nil)) (soa_isi (t := .int))) (se_notV (se_cb (sa_cons se_peek (sa_cons se_ty sa_nil)) (soa_isi (t := .bl))))))
/-! ### is_list_of -/
abbrev s_is_list_of : Stmt := top 8
def ex_is_list_of : Ex := (exSeq (exIf (evOr (evNot (evTru (evCB (fIsi .lst) (eaCons (evPeek 0) (eaCons (evC (.ty "list")) eaNil))))) (evNot (evT (evChain fLe fLe (evC (.int 1)) (evCB fLen (eaCons (evPeek 0) eaNil)) (evC (.int 64)))))) (exRet (evC (.bl false))) exNext)
    (exRet (evCB fAll (eaCons (evLc (eiList (evVar 0)) (gsName 3) evYes (evAndV (evCall 1 sem_is_whole (eaCons (evVar 3) eaNil)) (evChain fLe fLe (evPeek 1) (evPeek 3) (evPeek 2))) [3]) eaNil))))
def sem_is_list_of : Sem0 := semDef 4 3 ex_is_list_of
theorem sc_is_list_of : FnScope ["thing", "low", "high", "number"] ["thing", "low", "high"] (defScope s_is_list_of) := ⟨rfl, rfl, rfl, by decide +kernel, rfl, by decide +kernel, by decide +kernel⟩
theorem ok_is_list_of {P : Program} {w : World} {C : MP.Ctx} {mg : Str → Option Value} {base : Heap} (T : Tx C mg) : FnOk P w C.K mg base (L2.CX P w) 2 T.a_is_list_of T.d_is_list_of ["thing", "low", "high"] (spOf C 3 sem_is_list_of) := by
  have G_is_whole := ok_is_whole (P := P) (w := w) (base := base) T
  have sc := sc_is_list_of
  refine fn_ok T.F_is_list_of sc fun cdv A outer s H E hr => ?_
  refine ⟨_, (pss_cons (ps_if (PW.pt (pw_or (pt_not (pt_truthK (K := C.K) rfl (pe_callB (call_isiK (K := C.K) rfl) (by rfl) T.z_isinstance (by decide +kernel) (pa_cons (pv 0) (pa_cons (pe_bltn (v := .ty "list") (u := .type "list") (by rfl) T.z_list (by decide +kernel) rfl) pa_nil))) (by intro _; rfl))) (pw_or1 (pt_not (pt_chain op_le op_le pe_int (pe_callB (call_lenK (K := C.K) rfl) (by rfl) T.z_len (by decide +kernel) (pa_cons (pv 0) pa_nil)) (pe_glob (v := .int 64) (by rfl) T.v_MOST_SYMBOLS ⟨_, rfl⟩)))))) ((pss_one (ps_ret pe_bl))) (pss_nil))
      (pss_one (ps_ret (pe_callB (cr_allK (K := C.K) rfl rfl) (by rfl) T.z_all (by decide +kernel) (pa_cons (pe_lc (own := [("number", 3)]) (g := (gName 3)) rfl sc.nd (pi_listK (K := C.K) rfl (pv 0)) (blkOk_by (own := [("number", 3)]) (N := ["thing", "low", "high", "number"]) (sc := defScope s_is_list_of) (by decide +kernel)) (fun _ _ _ _ _ => (pg_name (i := 3) sc.nd rfl (by first | exact Or.inl rfl | exact Or.inr rfl))) (fun _ _ _ _ _ => pts_nil) (fun _ _ _ _ _ => (pe_and (pe_callS G_is_whole (hr.mono (by decide)) (by rfl) T.g_is_whole T.F_is_whole.kp T.b_is_whole (fun σ => passAt takes0 σ) (pa_cons (pv 3) pa_nil)) (pe_one (pe_chain op_le op_le (pv 1) (pv 3) (pv 2)))))) pa_nil))))), ?_⟩
  exact (ss_seq (ss_if (sb_or (sb_not (sb_tru (se_cb (sa_cons se_peek (sa_cons se_ty sa_nil)) (soa_isi (t := .lst))))) (sb_not (sb_T (se_chain se_int (se_cb (sa_cons se_peek sa_nil) soa_len) se_int so_le so_le)))) (ss_ret se_bl) ss_next)
      (ss_ret (se_cb (sa_cons (se_lc (si_list se_var) sg_name (tg_name (by decide)) sb_yes (se_andV (se_call (sa_cons se_var sa_nil)) (se_chain se_peek se_peek se_peek so_le so_le))) sa_nil) soa_all)))
/-! ### check_counts -/
abbrev s_check_counts : Stmt := top 9
def ex_check_counts : Ex := (exIf (evOr (evNot (evTru (evCall 3 sem_is_list_of (eaCons (evVar 0) (eaCons (evC (.int 0)) (eaCons (evC (.int 1000)) eaNil)))))) (evT (ev2 fGt (evCB fSum (eaCons (evPeek 0) eaNil)) (evC (.int 1000))))) (exRaise 1) exNext)
def sem_check_counts : Sem0 := semDef 1 1 ex_check_counts
theorem sc_check_counts : FnScope ["counts"] ["counts"] (defScope s_check_counts) := ⟨rfl, rfl, rfl, by decide +kernel, rfl, by decide +kernel, by decide +kernel⟩
theorem ok_check_counts {P : Program} {w : World} {C : MP.Ctx} {mg : Str → Option Value} {base : Heap} (T : Tx C mg) : FnOk P w C.K mg base (L2.CX P w) 3 T.a_check_counts T.d_check_counts ["counts"] (spOf C 1 sem_check_counts) := by
  have G_is_list_of := ok_is_list_of (P := P) (w := w) (base := base) T
  have sc := sc_check_counts
  refine fn_ok T.F_check_counts sc fun cdv A outer s H E hr => ?_
  have TK : Takes (cxOf (L2.CX P w) P w C.K mg base ["counts"] "check_counts" (defScope s_check_counts) T.a_check_counts cdv A outer s H E) (fun cls d _ H => E cls d H) := takes_of rfl rfl rfl rfl
  refine ⟨_, (pss_one (ps_if (PW.pt (pw_or (pt_not (pt_truthK (K := C.K) rfl (pe_callS G_is_list_of (hr.mono (by decide)) (by rfl) T.g_is_list_of T.F_is_list_of.kp T.b_is_list_of (fun σ => passAt TK σ) (pa_cons (pv 0) (pa_cons pe_int (pa_cons (pe_glob (v := .int 1000) (by rfl) T.v_MOST_COUNT ⟨_, rfl⟩) pa_nil)))) (by intro _; rfl))) (pw_or1 (pt_cmpR op_gt (pe_callB (cr_sumK (K := C.K) rfl rfl) (by rfl) T.z_sum (by decide +kernel) (pa_cons (pv 0) pa_nil)) (pe_glob (v := .int 1000) (by rfl) T.v_MOST_COUNT ⟨_, rfl⟩) (nomark _))))) ((pss_one (ps_raise rfl TK (pmk_own PySem.F.excBase_ValueError T.x_BadTable T.g_BadTable T.k_BadTable (raises_own T.s_BadTable T.t_BadTable) rfl)))) (pss_nil))), ?_⟩
  exact (ss_if (sb_or (sb_not (sb_tru (se_call (sa_cons se_var (sa_cons se_int (sa_cons se_int sa_nil)))))) (sb_T (se_op (se_cb (sa_cons se_peek sa_nil) soa_sum) se_int so_gt))) (ss_raise T.e_BadTable) ss_next)
/-! ### room_of -/
abbrev s_room_of : Stmt := top 10
def ex_room_of : Ex := (exRet (evCB fSum (eaCons (evLc (eiList (evVar 0)) (gsName 1) (evT (ev2 fGt (evPeek 1) (evC (.int 0)))) (ev2 fShl (evC (.int 1)) (ev2 fSub (evC (.int 15)) (evPeek 1))) [1]) eaNil)))
def sem_room_of : Sem0 := semDef 2 1 ex_room_of
theorem sc_room_of : FnScope ["lengths", "length"] ["lengths"] (defScope s_room_of) := ⟨rfl, rfl, rfl, by decide +kernel, rfl, by decide +kernel, by decide +kernel⟩
theorem ok_room_of {P : Program} {w : World} {C : MP.Ctx} {mg : Str → Option Value} {base : Heap} (T : Tx C mg) : FnOk P w C.K mg base (L2.CX P w) 1 T.a_room_of T.d_room_of ["lengths"] (spOf C 1 sem_room_of) := by
  have sc := sc_room_of
  refine fn_ok T.F_room_of sc fun cdv A outer s H E hr => ?_
  refine ⟨_, (pss_one (ps_ret (pe_callB (cr_sumK (K := C.K) rfl rfl) (by rfl) T.z_sum (by decide +kernel) (pa_cons (pe_lc (own := [("length", 1)]) (g := (gName 1)) rfl sc.nd (pi_listK (K := C.K) rfl (pv 0)) (blkOk_by (own := [("length", 1)]) (N := ["lengths", "length"]) (sc := defScope s_room_of) (by decide +kernel)) (fun _ _ _ _ _ => (pg_name (i := 1) sc.nd rfl (by first | exact Or.inl rfl | exact Or.inr rfl))) (fun _ _ _ _ _ => (pts_one (pt_cmpR op_gt (pv 1) pe_int (nomark _)))) (fun _ _ _ _ _ => (pe_op op_shl pe_int (pe_op op_sub (pe_glob (v := .int 15) (by rfl) T.v_LONGEST ⟨_, rfl⟩) (pv 1))))) pa_nil)))), ?_⟩
  exact (ss_ret (se_cb (sa_cons (se_lc (si_list se_var) sg_name (tg_name (by decide)) (sb_T (se_op se_peek se_int so_gt)) (se_op se_int (se_op se_int se_peek so_sub) so_shl)) sa_nil) soa_sum))
/-! ### fits -/
abbrev s_fits : Stmt := top 11
def ex_fits : Ex := (exSeq (exIf (evNot (evTru (evCall 3 sem_is_list_of (eaCons (evVar 0) (eaCons (evC (.int 0)) (eaCons (evC (.int 15)) eaNil)))))) (exRaise 1) exNext)
    (exRet (ev2 fLe (evCall 1 sem_room_of (eaCons (evVar 0) eaNil)) (ev2 fShl (evC (.int 1)) (evC (.int 15))))))
def sem_fits : Sem0 := semDef 1 1 ex_fits
theorem sc_fits : FnScope ["lengths"] ["lengths"] (defScope s_fits) := ⟨rfl, rfl, rfl, by decide +kernel, rfl, by decide +kernel, by decide +kernel⟩
theorem ok_fits {P : Program} {w : World} {C : MP.Ctx} {mg : Str → Option Value} {base : Heap} (T : Tx C mg) : FnOk P w C.K mg base (L2.CX P w) 3 T.a_fits T.d_fits ["lengths"] (spOf C 1 sem_fits) := by
  have G_is_list_of := ok_is_list_of (P := P) (w := w) (base := base) T
  have G_room_of := ok_room_of (P := P) (w := w) (base := base) T
  have sc := sc_fits
  refine fn_ok T.F_fits sc fun cdv A outer s H E hr => ?_
  have TK : Takes (cxOf (L2.CX P w) P w C.K mg base ["lengths"] "fits" (defScope s_fits) T.a_fits cdv A outer s H E) (fun cls d _ H => E cls d H) := takes_of rfl rfl rfl rfl
  refine ⟨_, (pss_cons (ps_if (pt_not (pt_truthK (K := C.K) rfl (pe_callS G_is_list_of (hr.mono (by decide)) (by rfl) T.g_is_list_of T.F_is_list_of.kp T.b_is_list_of (fun σ => passAt TK σ) (pa_cons (pv 0) (pa_cons pe_int (pa_cons (pe_glob (v := .int 15) (by rfl) T.v_LONGEST ⟨_, rfl⟩) pa_nil)))) (by intro _; rfl))) ((pss_one (ps_raise rfl TK (pmk_own PySem.F.excBase_ValueError T.x_BadTable T.g_BadTable T.k_BadTable (raises_own T.s_BadTable T.t_BadTable) rfl)))) (pss_nil))
      (pss_one (ps_ret (pe_cmpR op_le (pe_callS G_room_of (hr.mono (by decide)) (by rfl) T.g_room_of T.F_room_of.kp T.b_room_of (fun σ => passAt TK σ) (pa_cons (pv 0) pa_nil)) (pe_op op_shl pe_int (pe_glob (v := .int 15) (by rfl) T.v_LONGEST ⟨_, rfl⟩)) (nomark _))))), ?_⟩
  exact (ss_seq (ss_if (sb_not (sb_tru (se_call (sa_cons se_var (sa_cons se_int (sa_cons se_int sa_nil)))))) (ss_raise T.e_BadTable) ss_next)
      (ss_ret (se_op (se_call (sa_cons se_var sa_nil)) (se_op se_int se_int so_shl) so_le)))
/-! ### check_lengths -/
abbrev s_check_lengths : Stmt := top 12
def ex_check_lengths : Ex := (exIf (evNot (evTru (evCall 1 sem_fits (eaCons (evVar 0) eaNil)))) (exRaise 1) exNext)
def sem_check_lengths : Sem0 := semDef 1 1 ex_check_lengths
theorem sc_check_lengths : FnScope ["lengths"] ["lengths"] (defScope s_check_lengths) := ⟨rfl, rfl, rfl, by decide +kernel, rfl, by decide +kernel, by decide +kernel⟩
theorem ok_check_lengths {P : Program} {w : World} {C : MP.Ctx} {mg : Str → Option Value} {base : Heap} (T : Tx C mg) : FnOk P w C.K mg base (L2.CX P w) 4 T.a_check_lengths T.d_check_lengths ["lengths"] (spOf C 1 sem_check_lengths) := by
  have G_fits := ok_fits (P := P) (w := w) (base := base) T
  have sc := sc_check_lengths
  refine fn_ok T.F_check_lengths sc fun cdv A outer s H E hr => ?_
  have TK : Takes (cxOf (L2.CX P w) P w C.K mg base ["lengths"] "check_lengths" (defScope s_check_lengths) T.a_check_lengths cdv A outer s H E) (fun cls d _ H => E cls d H) := takes_of rfl rfl rfl rfl
  refine ⟨_, (pss_one (ps_if (pt_not (pt_truthK (K := C.K) rfl (pe_callS G_fits (hr.mono (by decide)) (by rfl) T.g_fits T.F_fits.kp T.b_fits (fun σ => passAt TK σ) (pa_cons (pv 0) pa_nil)) (by intro _; rfl))) ((pss_one (ps_raise rfl TK (pmk_own PySem.F.excBase_ValueError T.x_BadTable T.g_BadTable T.k_BadTable (raises_own T.s_BadTable T.t_BadTable) rfl)))) (pss_nil))), ?_⟩
  exact (ss_if (sb_not (sb_tru (se_call (sa_cons se_var sa_nil)))) (ss_raise T.e_BadTable) ss_next)
/-! ### bits_of -/
abbrev s_bits_of : Stmt := top 13
def ex_bits_of : Ex := (exSeq (exDrop (evCall 1 sem_check_counts (eaCons (evVar 0) eaNil)))
    (exSeq (exDrop (evCall 1 sem_check_lengths (eaCons (evVar 1) eaNil)))
    (exSeq (exIf (evT (ev2 fNe (evCB fLen (eaCons (evPeek 0) eaNil)) (evCB fLen (eaCons (evPeek 1) eaNil)))) (exRaise 1) exNext)
    (exSeq (exIf (evT (ev2 fNe (evLc (eiRng1 (eaCons (evCB fLen (eaCons (evPeek 0) eaNil)) eaNil)) (gsName 2) (evAnd (evT (ev2 fGt (ev2 fIx (evPeek 0) (evPeek 2)) (evC (.int 0)))) (evT (ev2 fEq (ev2 fIx (evPeek 1) (evPeek 2)) (evC (.int 0))))) (evVar 2) [2]) (evLst eaNil))) (exRaise 1) exNext)
    (exRet (evCB fSum (eaCons (evLc (eiZip (eaCons (evVar 0) (eaCons (evVar 1) eaNil))) (gsTup 2 (gsCons (gsName 3) (gsCons (gsName 4) gsNil))) evYes (ev2 fMul (evPeek 3) (evPeek 4)) [3, 4]) eaNil)))))))
def sem_bits_of : Sem0 := semDef 5 2 ex_bits_of
theorem sc_bits_of : FnScope ["counts", "lengths", "symbol", "count", "length"] ["counts", "lengths"] (defScope s_bits_of) := ⟨rfl, rfl, rfl, by decide +kernel, rfl, by decide +kernel, by decide +kernel⟩
theorem ok_bits_of {P : Program} {w : World} {C : MP.Ctx} {mg : Str → Option Value} {base : Heap} (T : Tx C mg) : FnOk P w C.K mg base (L2.CX P w) 5 T.a_bits_of T.d_bits_of ["counts", "lengths"] (spOf C 2 sem_bits_of) := by
  have G_check_counts := ok_check_counts (P := P) (w := w) (base := base) T
  have G_check_lengths := ok_check_lengths (P := P) (w := w) (base := base) T
  have sc := sc_bits_of
  refine fn_ok T.F_bits_of sc fun cdv A outer s H E hr => ?_
  have TK : Takes (cxOf (L2.CX P w) P w C.K mg base ["counts", "lengths", "symbol", "count", "length"] "bits_of" (defScope s_bits_of) T.a_bits_of cdv A outer s H E) (fun cls d _ H => E cls d H) := takes_of rfl rfl rfl rfl
  refine ⟨_, (pss_cons (ps_expr (pe_callS G_check_counts (hr.mono (by decide)) (by rfl) T.g_check_counts T.F_check_counts.kp T.b_check_counts (fun σ => passAt TK σ) (pa_cons (pv 0) pa_nil)))
      (pss_cons (ps_expr (pe_callS G_check_lengths (hr.mono (by decide)) (by rfl) T.g_check_lengths T.F_check_lengths.kp T.b_check_lengths (fun σ => passAt TK σ) (pa_cons (pv 1) pa_nil)))
      (pss_cons (ps_if (pt_cmpR (op_neK (K := C.K) rfl hr.units) (pe_callB (call_lenK (K := C.K) rfl) (by rfl) T.z_len (by decide +kernel) (pa_cons (pv 0) pa_nil)) (pe_callB (call_lenK (K := C.K) rfl) (by rfl) T.z_len (by decide +kernel) (pa_cons (pv 1) pa_nil)) (nomark _)) ((pss_one (ps_raise rfl TK (pmk_own PySem.F.excBase_ValueError T.x_BadTable T.g_BadTable T.k_BadTable (raises_own T.s_BadTable T.t_BadTable) rfl)))) (pss_nil))
      (pss_cons (ps_if (pt_cmpR (op_neK (K := C.K) rfl hr.units) (pe_lc (own := [("symbol", 2)]) (g := (gName 2)) rfl sc.nd (pi_range1 (by rfl) T.z_range (pa_cons (pe_callB (call_lenK (K := C.K) rfl) (by rfl) T.z_len (by decide +kernel) (pa_cons (pv 0) pa_nil)) pa_nil)) (blkOk_by (own := [("symbol", 2)]) (N := ["counts", "lengths", "symbol", "count", "length"]) (sc := defScope s_bits_of) (by decide +kernel)) (fun _ _ _ _ _ => (pg_name (i := 2) sc.nd rfl (by first | exact Or.inl rfl | exact Or.inr rfl))) (fun _ _ _ _ _ => (pts_one (PW.pt (pw_and (pt_cmpR op_gt (pe_ix (ix_seqK (K := C.K) rfl) (pv 0) (pv 2) (fun _ _ => rfl)) pe_int (nomark _)) (pw_and1 (pt_cmpR (op_eqK (K := C.K) rfl hr.units) (pe_ix (ix_seqK (K := C.K) rfl) (pv 1) (pv 2) (fun _ _ => rfl)) pe_int (nomark _))))))) (fun _ _ _ _ _ => (pv 2))) (pe_lst pa_nil) (nomark _)) ((pss_one (ps_raise rfl TK (pmk_own PySem.F.excBase_ValueError T.x_BadTable T.g_BadTable T.k_BadTable (raises_own T.s_BadTable T.t_BadTable) rfl)))) (pss_nil))
      (pss_one (ps_ret (pe_callB (cr_sumK (K := C.K) rfl rfl) (by rfl) T.z_sum (by decide +kernel) (pa_cons (pe_lc (own := [("count", 3), ("length", 4)]) (g := (gTup C.K 2 (gCons (gName 3) (gCons (gName 4) gNil)))) rfl sc.nd (pi_zip (by rfl) T.z_zip (pa_cons (pv 0) (pa_cons (pv 1) pa_nil))) (blkOk_by (own := [("count", 3), ("length", 4)]) (N := ["counts", "lengths", "symbol", "count", "length"]) (sc := defScope s_bits_of) (by decide +kernel)) (fun _ _ _ _ _ => (pg_tup rfl (pgs_cons (pg_name (i := 3) sc.nd rfl (by first | exact Or.inl rfl | exact Or.inr rfl)) (pgs_cons (pg_name (i := 4) sc.nd rfl (by first | exact Or.inl rfl | exact Or.inr rfl)) pgs_nil)))) (fun _ _ _ _ _ => pts_nil) (fun _ _ _ _ _ => (pe_op op_mul (pv 3) (pv 4)))) pa_nil)))))))), ?_⟩
  exact (ss_seq (ss_drop (se_call (sa_cons se_var sa_nil)))
      (ss_seq (ss_drop (se_call (sa_cons se_var sa_nil)))
      (ss_seq (ss_if (sb_T (se_op (se_cb (sa_cons se_peek sa_nil) soa_len) (se_cb (sa_cons se_peek sa_nil) soa_len) so_ne)) (ss_raise T.e_BadTable) ss_next)
      (ss_seq (ss_if (sb_T (se_op (se_lc (si_rng1 (sa_cons (se_cb (sa_cons se_peek sa_nil) soa_len) sa_nil)) sg_name (tg_name (by decide)) (sb_and (sb_T (se_op (se_op se_peek se_peek so_ix) se_int so_gt)) (sb_T (se_op (se_op se_peek se_peek so_ix) se_int so_eq))) se_var) (se_lst sa_nil) so_ne)) (ss_raise T.e_BadTable) ss_next)
      (ss_ret (se_cb (sa_cons (se_lc (si_zip (sa_cons se_var (sa_cons se_var sa_nil))) (sg_tup (sgs_cons sg_name (sgs_cons sg_name sgs_nil))) (tg_tup (tgs_cons mono_name (tg_name (by decide)) (tgs_cons mono_name (tg_name (by decide)) tgs_nil))) sb_yes (se_op se_peek se_peek so_mul)) sa_nil) soa_sum))))))
/-! ### _law_cell_at -/
abbrev s__law_cell_at : Stmt := top 15
def ex__law_cell_at : Ex := (exSeq (exIf (evT (ev2 fLt (evPeek 1) (evCB fLen (eaCons (evPeek 0) eaNil)))) (exRet (ev2 fIx (evPeek 0) (evPeek 1))) exNext)
    (exRet (evC (.int 0))))
def sem__law_cell_at : Sem0 := semDef 2 2 ex__law_cell_at
theorem sc__law_cell_at : FnScope ["script", "k"] ["script", "k"] (defScope s__law_cell_at) := ⟨rfl, rfl, rfl, by decide +kernel, rfl, by decide +kernel, by decide +kernel⟩
theorem ok__law_cell_at {P : Program} {w : World} {C : MP.Ctx} {mg : Str → Option Value} {base : Heap} (T : Tx C mg) : FnOk P w C.K mg base (L2.CX P w) 1 T.a__law_cell_at T.d__law_cell_at ["script", "k"] (spOf C 2 sem__law_cell_at) := by
  have sc := sc__law_cell_at
  refine fn_ok T.F__law_cell_at sc fun cdv A outer s H E hr => ?_
  refine ⟨_, (pss_cons (ps_if (pt_cmpR op_lt (pv 1) (pe_callB (call_lenK (K := C.K) rfl) (by rfl) T.z_len (by decide +kernel) (pa_cons (pv 0) pa_nil)) (nomark _)) ((pss_one (ps_ret (pe_ix (ix_seqK (K := C.K) rfl) (pv 0) (pv 1) (fun _ _ => rfl))))) (pss_nil))
      (pss_one (ps_ret pe_int))), ?_⟩
  exact (ss_seq (ss_if (sb_T (se_op se_peek (se_cb (sa_cons se_peek sa_nil) soa_len) so_lt)) (ss_ret (se_op se_peek se_peek so_ix)) ss_next)
      (ss_ret se_int))
/-! ### _law_mixed -/
abbrev s__law_mixed : Stmt := top 16
def ex__law_mixed : Ex := (exSeq (exIf (evAnd (evT (ev2 fGe (evPeek 0) (ev2 fShl (evC (.int 1)) (evC (.int 90))))) (evAnd (evT (ev2 fEq (ev2 fMod (evPeek 0) (evC (.int 2))) (evC (.int 1)))) (evT (ev2 fGt (ev2 fShr (evPeek 0) (ev2 fAddA (evC (.int 1)) (ev2 fMul (evC (.int 31)) (evPeek 1)))) (evC (.int 0)))))) (exRet (ev2 fMod (ev2 fShr (evPeek 0) (ev2 fAddA (evC (.int 1)) (ev2 fMul (evC (.int 31)) (evPeek 1)))) (evC (.int 2147483648)))) exNext)
    (exSeq (exSet 2 (ev2 fMod (ev2 fMul (ev2 fAddA (ev2 fAddA (ev2 fMod (evPeek 0) (evC (.int 2147483647))) (ev2 fMul (evC (.int 7919)) (evPeek 1))) (evC (.int 1))) (evC (.int 48271))) (evC (.int 2147483647))))
    (exSeq (exSet 2 (ev2 fMod (ev2 fMul (evPeek 2) (ev2 fAddA (ev2 fDiv (evPeek 2) (evC (.int 1009))) (evC (.int 69621)))) (evC (.int 2147483629))))
    (exRet (ev2 fMod (ev2 fMul (evPeek 2) (ev2 fAddA (ev2 fAddA (ev2 fDiv (evPeek 2) (evC (.int 2003))) (evC (.int 39373))) (ev2 fMul (evPeek 1) (evPeek 1)))) (evC (.int 2147483587)))))))
def sem__law_mixed : Sem0 := semDef 3 2 ex__law_mixed
theorem sc__law_mixed : FnScope ["cell", "k", "number"] ["cell", "k"] (defScope s__law_mixed) := ⟨rfl, rfl, rfl, by decide +kernel, rfl, by decide +kernel, by decide +kernel⟩
theorem ok__law_mixed {P : Program} {w : World} {C : MP.Ctx} {mg : Str → Option Value} {base : Heap} (T : Tx C mg) : FnOk P w C.K mg base (L2.CX P w) 1 T.a__law_mixed T.d__law_mixed ["cell", "k"] (spOf C 2 sem__law_mixed) := by
  have sc := sc__law_mixed
  refine fn_ok T.F__law_mixed sc fun cdv A outer s H E hr => ?_
  refine ⟨_, (pss_cons (ps_if (PW.pt (pw_and (pt_cmpR op_ge (pv 0) (pe_op op_shl pe_int pe_int) (nomark _)) (pw_and (pt_cmpR (op_eqK (K := C.K) rfl hr.units) (pe_op op_mod (pv 0) pe_int) pe_int (nomark _)) (pw_and1 (pt_cmpR op_gt (pe_op op_shr (pv 0) (pe_op (op_addK (K := C.K) rfl) pe_int (pe_op op_mul pe_int (pv 1)))) pe_int (nomark _)))))) ((pss_one (ps_ret (pe_op op_mod (pe_op op_shr (pv 0) (pe_op (op_addK (K := C.K) rfl) pe_int (pe_op op_mul pe_int (pv 1)))) pe_int)))) (pss_nil))
      (pss_cons (ps_set (i := 2) sc.nd rfl (by first | exact Or.inl rfl | exact Or.inr rfl) (pe_op op_mod (pe_op op_mul (pe_op (op_addK (K := C.K) rfl) (pe_op (op_addK (K := C.K) rfl) (pe_op op_mod (pv 0) pe_int) (pe_op op_mul pe_int (pv 1))) pe_int) pe_int) pe_int))
      (pss_cons (ps_set (i := 2) sc.nd rfl (by first | exact Or.inl rfl | exact Or.inr rfl) (pe_op op_mod (pe_op op_mul (pv 2) (pe_op (op_addK (K := C.K) rfl) (pe_op op_fdiv (pv 2) pe_int) pe_int)) pe_int))
      (pss_one (ps_ret (pe_op op_mod (pe_op op_mul (pv 2) (pe_op (op_addK (K := C.K) rfl) (pe_op (op_addK (K := C.K) rfl) (pe_op op_fdiv (pv 2) pe_int) pe_int) (pe_op op_mul (pv 1) (pv 1)))) pe_int)))))), ?_⟩
  exact (ss_seq (ss_if (sb_and (sb_T (se_op se_peek (se_op se_int se_int so_shl) so_ge)) (sb_and (sb_T (se_op (se_op se_peek se_int so_mod) se_int so_eq)) (sb_T (se_op (se_op se_peek (se_op se_int (se_op se_int se_peek so_mul) so_addA) so_shr) se_int so_gt)))) (ss_ret (se_op (se_op se_peek (se_op se_int (se_op se_int se_peek so_mul) so_addA) so_shr) se_int so_mod)) ss_next)
      (ss_seq (ss_set (se_op (se_op (se_op (se_op (se_op se_peek se_int so_mod) (se_op se_int se_peek so_mul) so_addA) se_int so_addA) se_int so_mul) se_int so_mod))
      (ss_seq (ss_set (se_op (se_op se_peek (se_op (se_op se_peek se_int so_div) se_int so_addA) so_mul) se_int so_mod))
      (ss_ret (se_op (se_op se_peek (se_op (se_op (se_op se_peek se_int so_div) se_int so_addA) (se_op se_peek se_peek so_mul) so_addA) so_mul) se_int so_mod)))))
/-! ### _law_draw -/
abbrev s__law_draw : Stmt := top 17
def ex__law_draw : Ex := (exSeq (exDPut (evPeek 0) (evC (.str "at")) (ev2 fAddA (ev2 fDGet (evPeek 0) (evC (.str "at"))) (evC (.int 1))))
    (exRet (ev2 fMod (ev2 fDiv (evCall 2 sem__law_mixed (eaCons (ev2 fDGet (evPeek 0) (evC (.str "cell"))) (eaCons (ev2 fDGet (evPeek 0) (evC (.str "at"))) eaNil))) (evC (.int 3))) (evPeek 1))))
def sem__law_draw : Sem0 := semDef 2 2 ex__law_draw
theorem sc__law_draw : FnScope ["draw", "many"] ["draw", "many"] (defScope s__law_draw) := ⟨rfl, rfl, rfl, by decide +kernel, rfl, by decide +kernel, by decide +kernel⟩
theorem ok__law_draw {P : Program} {w : World} {C : MP.Ctx} {mg : Str → Option Value} {base : Heap} (T : Tx C mg) : FnOk P w C.K mg base (L2.CX P w) 2 T.a__law_draw T.d__law_draw ["draw", "many"] (spOf C 2 sem__law_draw) := by
  have G__law_mixed := ok__law_mixed (P := P) (w := w) (base := base) T
  have sc := sc__law_draw
  refine fn_ok T.F__law_draw sc fun cdv A outer s H E hr => ?_
  have TK : Takes (cxOf (L2.CX P w) P w C.K mg base ["draw", "many"] "_law_draw" (defScope s__law_draw) T.a__law_draw cdv A outer s H E) (fun cls d _ H => E cls d H) := takes_of rfl rfl rfl rfl
  refine ⟨_, (pss_cons (ps_dput (hu_of hr) (pv 0) pe_str (pe_op (op_addK (K := C.K) rfl) (pe_dget (hu_of hr) (pv 0) pe_str (fun _ _ => rfl)) pe_int) rfl)
      (pss_one (ps_ret (pe_op op_mod (pe_op op_fdiv (pe_callS G__law_mixed (hr.mono (by decide)) (by rfl) T.g__law_mixed T.F__law_mixed.kp T.b__law_mixed (fun σ => passAt TK σ) (pa_cons (pe_dget (hu_of hr) (pv 0) pe_str (fun _ _ => rfl)) (pa_cons (pe_dget (hu_of hr) (pv 0) pe_str (fun _ _ => rfl)) pa_nil))) pe_int) (pv 1))))), ?_⟩
  exact (ss_seq (ss_dput se_peek se_str (se_op (se_dget se_peek se_str) se_int so_addA))
      (ss_ret (se_op (se_op (se_call (sa_cons (se_dget se_peek se_str) (sa_cons (se_dget se_peek se_str) sa_nil))) se_int so_div) se_peek so_mod)))
/-! ### _law_one -/
abbrev s__law_one : Stmt := top 18
def ex__law_one : Ex := (exRet (ev2 fIx (evPeek 1) (evCall 2 sem__law_draw (eaCons (evVar 0) (eaCons (evCB fLen (eaCons (evPeek 1) eaNil)) eaNil)))))
def sem__law_one : Sem0 := semDef 2 2 ex__law_one
theorem sc__law_one : FnScope ["draw", "some"] ["draw", "some"] (defScope s__law_one) := ⟨rfl, rfl, rfl, by decide +kernel, rfl, by decide +kernel, by decide +kernel⟩
theorem ok__law_one {P : Program} {w : World} {C : MP.Ctx} {mg : Str → Option Value} {base : Heap} (T : Tx C mg) : FnOk P w C.K mg base (L2.CX P w) 3 T.a__law_one T.d__law_one ["draw", "some"] (spOf C 2 sem__law_one) := by
  have G__law_draw := ok__law_draw (P := P) (w := w) (base := base) T
  have sc := sc__law_one
  refine fn_ok T.F__law_one sc fun cdv A outer s H E hr => ?_
  have TK : Takes (cxOf (L2.CX P w) P w C.K mg base ["draw", "some"] "_law_one" (defScope s__law_one) T.a__law_one cdv A outer s H E) (fun cls d _ H => E cls d H) := takes_of rfl rfl rfl rfl
  refine ⟨_, (pss_one (ps_ret (pe_ix (ix_seqK (K := C.K) rfl) (pv 1) (pe_callS G__law_draw (hr.mono (by decide)) (by rfl) T.g__law_draw T.F__law_draw.kp T.b__law_draw (fun σ => passAt TK σ) (pa_cons (pv 0) (pa_cons (pe_callB (call_lenK (K := C.K) rfl) (by rfl) T.z_len (by decide +kernel) (pa_cons (pv 1) pa_nil)) pa_nil))) (fun _ _ => rfl)))), ?_⟩
  exact (ss_ret (se_op se_peek (se_call (sa_cons se_var (sa_cons (se_cb (sa_cons se_peek sa_nil) soa_len) sa_nil))) so_ix))
/-! ### _law_lengths -/
abbrev s__law_lengths : Stmt := top 19
def ex__law_lengths_for1 : Ex := (exSeq (exSet 5 (ev2 fIx (evLst (eaCons (evCall 2 sem__law_draw (eaCons (evVar 0) (eaCons (evC (.int 16)) eaNil))) (eaCons (evCall 2 sem__law_draw (eaCons (evVar 0) (eaCons (evC (.int 7)) eaNil))) (eaCons (ev2 fAddA (evC (.int 6)) (evCall 2 sem__law_draw (eaCons (evVar 0) (eaCons (evC (.int 4)) eaNil)))) eaNil)))) (evCall 2 sem__law_draw (eaCons (evVar 0) (eaCons (evC (.int 3)) eaNil)))))
    (exSeq (exIf (evAnd (evT (ev2 fGt (evPeek 5) (evC (.int 0)))) (evT (ev2 fGt (ev2 fShl (evC (.int 1)) (ev2 fSub (evC (.int 15)) (evPeek 5))) (evPeek 3)))) (exSet 5 (evC (.int 0))) exNext)
    (exSeq (exIf (evT (ev2 fGt (evPeek 5) (evC (.int 0)))) (exSet 3 (ev2 fSub (evPeek 3) (ev2 fShl (evC (.int 1)) (ev2 fSub (evC (.int 15)) (evPeek 5))))) exNext)
    (exDrop (evMeth fApp (evPeek 2) (eaCons (evVar 5) eaNil))))))
def ex__law_lengths : Ex := (exSeq (exSet 2 (evLst eaNil))
    (exSeq (exSet 3 (ev2 fShl (evC (.int 1)) (evC (.int 15))))
    (exSeq (exFor (eiRng1 (eaCons (evPeek 1) eaNil)) (gsName 4) ex__law_lengths_for1)
    (exRet (evTake 2)))))
def sem__law_lengths : Sem0 := semDef 6 2 ex__law_lengths
theorem sc__law_lengths : FnScope ["draw", "many", "found", "room", "k", "length"] ["draw", "many"] (defScope s__law_lengths) := ⟨rfl, rfl, rfl, by decide +kernel, rfl, by decide +kernel, by decide +kernel⟩
theorem ok__law_lengths {P : Program} {w : World} {C : MP.Ctx} {mg : Str → Option Value} {base : Heap} (T : Tx C mg) : FnOk P w C.K mg base (L2.CX P w) 3 T.a__law_lengths T.d__law_lengths ["draw", "many"] (spOf C 2 sem__law_lengths) := by
  have G__law_draw := ok__law_draw (P := P) (w := w) (base := base) T
  have sc := sc__law_lengths
  refine fn_ok T.F__law_lengths sc fun cdv A outer s H E hr => ?_
  have TK : Takes (cxOf (L2.CX P w) P w C.K mg base ["draw", "many", "found", "room", "k", "length"] "_law_lengths" (defScope s__law_lengths) T.a__law_lengths cdv A outer s H E) (fun cls d _ H => E cls d H) := takes_of rfl rfl rfl rfl
  refine ⟨_, (pss_cons (ps_set (i := 2) sc.nd rfl (by first | exact Or.inl rfl | exact Or.inr rfl) (pe_lst pa_nil))
      (pss_cons (ps_set (i := 3) sc.nd rfl (by first | exact Or.inl rfl | exact Or.inr rfl) (pe_op op_shl pe_int pe_int))
      (pss_cons (ps_for (passes_of rfl) rfl (pi_range1 (by rfl) T.z_range (pa_cons (pv 1) pa_nil)) (pg_name (i := 4) sc.nd rfl (by first | exact Or.inl rfl | exact Or.inr rfl)) ((pss_cons (ps_set (i := 5) sc.nd rfl (by first | exact Or.inl rfl | exact Or.inr rfl) (pe_ix (ix_seqK (K := C.K) rfl) (pe_lst (pa_cons (pe_callS G__law_draw (hr.mono (by decide)) (by rfl) T.g__law_draw T.F__law_draw.kp T.b__law_draw (fun σ => passAt TK σ) (pa_cons (pv 0) (pa_cons pe_int pa_nil))) (pa_cons (pe_callS G__law_draw (hr.mono (by decide)) (by rfl) T.g__law_draw T.F__law_draw.kp T.b__law_draw (fun σ => passAt TK σ) (pa_cons (pv 0) (pa_cons pe_int pa_nil))) (pa_cons (pe_op (op_addK (K := C.K) rfl) pe_int (pe_callS G__law_draw (hr.mono (by decide)) (by rfl) T.g__law_draw T.F__law_draw.kp T.b__law_draw (fun σ => passAt TK σ) (pa_cons (pv 0) (pa_cons pe_int pa_nil)))) pa_nil)))) (pe_callS G__law_draw (hr.mono (by decide)) (by rfl) T.g__law_draw T.F__law_draw.kp T.b__law_draw (fun σ => passAt TK σ) (pa_cons (pv 0) (pa_cons pe_int pa_nil))) (fun _ _ => rfl)))
      (pss_cons (ps_if (PW.pt (pw_and (pt_cmpR op_gt (pv 5) pe_int (nomark _)) (pw_and1 (pt_cmpR op_gt (pe_op op_shl pe_int (pe_op op_sub pe_int (pv 5))) (pv 3) (nomark _))))) ((pss_one (ps_set (i := 5) sc.nd rfl (by first | exact Or.inl rfl | exact Or.inr rfl) pe_int))) (pss_nil))
      (pss_cons (ps_if (pt_cmpR op_gt (pv 5) pe_int (nomark _)) ((pss_one (ps_set (i := 3) sc.nd rfl (by first | exact Or.inl rfl | exact Or.inr rfl) (pe_op op_sub (pv 3) (pe_op op_shl pe_int (pe_op op_sub pe_int (pv 5))))))) (pss_nil))
      (pss_one (ps_expr (pe_bm PySem.F.plainAttrs_list PySem.F.slot_list_append PySem.F.type_list_append mt_append (pv 2) (pa_cons (pv 5) pa_nil)))))))))
      (pss_one (ps_ret (pv 2)))))), ?_⟩
  exact (ss_seq (ss_set (se_lst sa_nil))
      (ss_seq (ss_set (se_op se_int se_int so_shl))
      (ss_seq (ss_for (si_rng1 (sa_cons se_peek sa_nil)) sg_name (ss_seq (ss_set (se_op (se_lst (sa_cons (se_call (sa_cons se_var (sa_cons se_int sa_nil))) (sa_cons (se_call (sa_cons se_var (sa_cons se_int sa_nil))) (sa_cons (se_op se_int (se_call (sa_cons se_var (sa_cons se_int sa_nil))) so_addA) sa_nil)))) (se_call (sa_cons se_var (sa_cons se_int sa_nil))) so_ix))
      (ss_seq (ss_if (sb_and (sb_T (se_op se_peek se_int so_gt)) (sb_T (se_op (se_op se_int (se_op se_int se_peek so_sub) so_shl) se_peek so_gt))) (ss_set se_int) ss_next)
      (ss_seq (ss_if (sb_T (se_op se_peek se_int so_gt)) (ss_set (se_op se_peek (se_op se_int (se_op se_int se_peek so_sub) so_shl) so_sub)) ss_next)
      (ss_drop (se_bm se_peek (sa_cons se_var sa_nil) som_app))))))
      (ss_ret se_take))))
/-! ### _law_due -/
abbrev s__law_due : Stmt := top 20
def ex__law_due_for1 : Ex := (exIf (evAnd (evT (ev2 fGt (evPeek 2) (evC (.int 0)))) (evT (ev2 fEq (evPeek 3) (evC (.int 0))))) (exRet (evC .non)) exNext)
def ex__law_due : Ex := (exSeq (exIf (evT (ev2 fNe (evCB fLen (eaCons (evPeek 0) eaNil)) (evCB fLen (eaCons (evPeek 1) eaNil)))) (exRet (evC .non)) exNext)
    (exSeq (exFor (eiZip (eaCons (evVar 0) (eaCons (evVar 1) eaNil))) (gsTup 2 (gsCons (gsName 2) (gsCons (gsName 3) gsNil))) ex__law_due_for1)
    (exRet (evCB fSum (eaCons (evLc (eiZip (eaCons (evVar 0) (eaCons (evVar 1) eaNil))) (gsTup 2 (gsCons (gsName 2) (gsCons (gsName 3) gsNil))) evYes (ev2 fMul (evPeek 2) (evPeek 3)) [2, 3]) eaNil)))))
def sem__law_due : Sem0 := semDef 4 2 ex__law_due
theorem sc__law_due : FnScope ["counts", "lengths", "count", "length"] ["counts", "lengths"] (defScope s__law_due) := ⟨rfl, rfl, rfl, by decide +kernel, rfl, by decide +kernel, by decide +kernel⟩
theorem ok__law_due {P : Program} {w : World} {C : MP.Ctx} {mg : Str → Option Value} {base : Heap} (T : Tx C mg) : FnOk P w C.K mg base (L2.CX P w) 1 T.a__law_due T.d__law_due ["counts", "lengths"] (spOf C 2 sem__law_due) := by
  have sc := sc__law_due
  refine fn_ok T.F__law_due sc fun cdv A outer s H E hr => ?_
  refine ⟨_, (pss_cons (ps_if (pt_cmpR (op_neK (K := C.K) rfl hr.units) (pe_callB (call_lenK (K := C.K) rfl) (by rfl) T.z_len (by decide +kernel) (pa_cons (pv 0) pa_nil)) (pe_callB (call_lenK (K := C.K) rfl) (by rfl) T.z_len (by decide +kernel) (pa_cons (pv 1) pa_nil)) (nomark _)) ((pss_one (ps_ret pe_non))) (pss_nil))
      (pss_cons (ps_for (passes_of rfl) rfl (pi_zip (by rfl) T.z_zip (pa_cons (pv 0) (pa_cons (pv 1) pa_nil))) (pg_tup rfl (pgs_cons (pg_name (i := 2) sc.nd rfl (by first | exact Or.inl rfl | exact Or.inr rfl)) (pgs_cons (pg_name (i := 3) sc.nd rfl (by first | exact Or.inl rfl | exact Or.inr rfl)) pgs_nil))) ((pss_one (ps_if (PW.pt (pw_and (pt_cmpR op_gt (pv 2) pe_int (nomark _)) (pw_and1 (pt_cmpR (op_eqK (K := C.K) rfl hr.units) (pv 3) pe_int (nomark _))))) ((pss_one (ps_ret pe_non))) (pss_nil)))))
      (pss_one (ps_ret (pe_callB (cr_sumK (K := C.K) rfl rfl) (by rfl) T.z_sum (by decide +kernel) (pa_cons (pe_lc (own := [("count", 2), ("length", 3)]) (g := (gTup C.K 2 (gCons (gName 2) (gCons (gName 3) gNil)))) rfl sc.nd (pi_zip (by rfl) T.z_zip (pa_cons (pv 0) (pa_cons (pv 1) pa_nil))) (blkOk_by (own := [("count", 2), ("length", 3)]) (N := ["counts", "lengths", "count", "length"]) (sc := defScope s__law_due) (by decide +kernel)) (fun _ _ _ _ _ => (pg_tup rfl (pgs_cons (pg_name (i := 2) sc.nd rfl (by first | exact Or.inl rfl | exact Or.inr rfl)) (pgs_cons (pg_name (i := 3) sc.nd rfl (by first | exact Or.inl rfl | exact Or.inr rfl)) pgs_nil)))) (fun _ _ _ _ _ => pts_nil) (fun _ _ _ _ _ => (pe_op op_mul (pv 2) (pv 3)))) pa_nil)))))), ?_⟩
  exact (ss_seq (ss_if (sb_T (se_op (se_cb (sa_cons se_peek sa_nil) soa_len) (se_cb (sa_cons se_peek sa_nil) soa_len) so_ne)) (ss_ret se_non) ss_next)
      (ss_seq (ss_for (si_zip (sa_cons se_var (sa_cons se_var sa_nil))) (sg_tup (sgs_cons sg_name (sgs_cons sg_name sgs_nil))) (ss_if (sb_and (sb_T (se_op se_peek se_int so_gt)) (sb_T (se_op se_peek se_int so_eq))) (ss_ret se_non) ss_next))
      (ss_ret (se_cb (sa_cons (se_lc (si_zip (sa_cons se_var (sa_cons se_var sa_nil))) (sg_tup (sgs_cons sg_name (sgs_cons sg_name sgs_nil))) (tg_tup (tgs_cons mono_name (tg_name (by decide)) (tgs_cons mono_name (tg_name (by decide)) tgs_nil))) sb_yes (se_op se_peek se_peek so_mul)) sa_nil) soa_sum))))
/-! ### _law_bits -/
abbrev s__law_bits : Stmt := top 21
def ex__law_bits : Ex := (exSeq (exTry (exSet 2 (evCall 2 sem_bits_of (eaCons (evVar 0) (eaCons (evVar 1) eaNil)))) cat_BadTable (fun _ => (exSet 2 (evC .non))))
    (exRet (evTake 2)))
def sem__law_bits : Sem0 := semDef 3 2 ex__law_bits
theorem sc__law_bits : FnScope ["counts", "lengths", "found"] ["counts", "lengths"] (defScope s__law_bits) := ⟨rfl, rfl, rfl, by decide +kernel, rfl, by decide +kernel, by decide +kernel⟩
theorem ok__law_bits {P : Program} {w : World} {C : MP.Ctx} {mg : Str → Option Value} {base : Heap} (T : Tx C mg) : FnOk P w C.K mg base (L2.CX P w) 6 T.a__law_bits T.d__law_bits ["counts", "lengths"] (spOf C 2 sem__law_bits) := by
  have G_bits_of := ok_bits_of (P := P) (w := w) (base := base) T
  have sc := sc__law_bits
  refine fn_ok T.F__law_bits sc fun cdv A outer s H E hr => ?_
  have TK : Takes (cxOf (L2.CX P w) P w C.K mg base ["counts", "lengths", "found"] "_law_bits" (defScope s__law_bits) T.a__law_bits cdv A outer s H E) (fun cls d _ H => E cls d H) := takes_of rfl rfl rfl rfl
  refine ⟨_, (pss_cons (ps_try_only rfl rfl ⟨rfl, by decide, .inl T.g_BadTable⟩ TK (fun W pn xe tk PO => ((pss_one (ps_set (i := 2) sc.nd rfl (by first | exact Or.inl rfl | exact Or.inr rfl) (pe_callS G_bits_of (hr.mono (by decide)) (by rfl) T.g_bits_of T.F_bits_of.kp T.b_bits_of (fun σ => passAt tk σ) (pa_cons (pv 0) (pa_cons (pv 1) pa_nil))))))) (fun a oe cls d pn hz hf => ((pss_one (ps_set (i := 2) sc.nd rfl (by first | exact Or.inl rfl | exact Or.inr rfl) pe_non)))))
      (pss_one (ps_ret (pv 2)))), ?_⟩
  exact (ss_seq (ss_try (fun W' => (ss_set (se_call (sa_cons se_var (sa_cons se_var sa_nil))))) T.c_BadTable (sx_of (ss_set se_non)))
      (ss_ret se_take))
/-! ### law -/
abbrev s_law : Stmt := top 22
def ex_law_for1 : Ex := (exSeq (exSet 7 (ev2 fIx (evLst (eaCons (evC (.int 0)) (eaCons (evC (.int 1)) (eaCons (evCall 2 sem__law_draw (eaCons (evVar 2) (eaCons (evC (.int 16)) eaNil))) eaNil)))) (evCall 2 sem__law_draw (eaCons (evVar 2) (eaCons (evC (.int 3)) eaNil)))))
    (exDrop (evMeth fApp (evPeek 5) (eaCons (ev2 fMul (evPeek 7) (evCB fInt (eaCons (ev2 fGt (ev2 fIx (evPeek 4) (evPeek 6)) (evC (.int 0))) eaNil))) eaNil))))
def ex_law_for2 : Ex := (exSeq (exSet 2 (evDisp (epCons (evC (.str "cell")) (evVar 1) (epCons (evC (.str "at")) (evC (.int 0)) epNil))))
    (exSeq (exSet 3 (ev2 fAddA (evC (.int 1)) (evCall 2 sem__law_draw (eaCons (evVar 2) (eaCons (ev2 fIx (evLst (eaCons (evC (.int 6)) (eaCons (evC (.int 60)) eaNil))) (evCall 2 sem__law_draw (eaCons (evVar 2) (eaCons (evC (.int 2)) eaNil)))) eaNil)))))
    (exSeq (exSet 4 (evCall 2 sem__law_lengths (eaCons (evVar 2) (eaCons (evVar 3) eaNil))))
    (exSeq (exSet 5 (evLst eaNil))
    (exSeq (exFor (eiRng1 (eaCons (evPeek 3) eaNil)) (gsName 6) ex_law_for1)
    (exSeq (exSet 8 (evCall 2 sem__law_draw (eaCons (evVar 2) (eaCons (evC (.int 6)) eaNil))))
    (exSeq (exIf (evT (ev2 fEq (evPeek 8) (evC (.int 0)))) (exSet 4 (ev2 fAddA (evPeek 4) (evRep (evLst (eaCons (evC (.int 0)) eaNil)) (ev2 fAddA (evC (.int 1)) (evCall 2 sem__law_draw (eaCons (evVar 2) (eaCons (evC (.int 3)) eaNil))))))) (exIf (evAnd (evT (ev2 fEq (evPeek 8) (evC (.int 1)))) (evT (ev2 fGt (evPeek 3) (evC (.int 3))))) (exSet 4 (evSl (evPeek 4) evN (evP (ev2 fSub (ev2 fSub (evPeek 3) (evC (.int 1))) (evCall 2 sem__law_draw (eaCons (evVar 2) (eaCons (evC (.int 3)) eaNil))))))) (exIf (evT (ev2 fEq (evPeek 8) (evC (.int 2)))) (exSeq (exSet 9 (evCall 2 sem__law_draw (eaCons (evVar 2) (eaCons (evVar 3) eaNil))))
    (exSeq (exAsg (ev2 fAddA (evC (.int 1)) (evCall 2 sem__law_draw (eaCons (evVar 2) (eaCons (evC (.int 9)) eaNil)))) (gsSub (evPeek 5) (evPeek 9)))
    (exAsg (evC (.int 0)) (gsSub (evPeek 4) (evPeek 9))))) exNext)))
    (exSeq (exSet 10 (evTup (eaCons (evCB fList (eaCons (evPeek 5) eaNil)) (eaCons (evCB fList (eaCons (evPeek 4) eaNil)) eaNil))))
    (exSeq (exSet 11 (evCall 2 sem__law_bits (eaCons (ev2 fIx (evPeek 10) (evC (.int 0))) (eaCons (ev2 fIx (evPeek 10) (evC (.int 1))) eaNil))))
    (exIf (evOr (evT (ev2 fNe (evPeek 11) (evCall 2 sem__law_due (eaCons (evVar 5) (eaCons (evVar 4) eaNil))))) (evOr (evTru (evCB (fIsi .bl) (eaCons (evPeek 11) (eaCons (evC (.ty "bool")) eaNil)))) (evT (ev2 fNe (evPeek 10) (evTup (eaCons (evVar 5) (eaCons (evVar 4) eaNil))))))) (exRet (evC (.bl false))) exNext))))))))))
def ex_law : Ex := (exSeq (exFor (eiList (ev2 fAddA (evLst (eaCons (evCall 2 sem__law_cell_at (eaCons (evVar 0) (eaCons (evC (.int 0)) eaNil))) eaNil)) (evSl (evPeek 0) (evP (evC (.int 1))) (evP (evC (.int 12)))))) (gsName 1) ex_law_for2)
    (exRet (evC (.bl true))))
def sem_law : Sem0 := semDef 12 1 ex_law
theorem sc_law : FnScope ["script", "cell", "draw", "many", "lengths", "counts", "k", "count", "way", "at", "handed", "found"] ["script"] (defScope s_law) := ⟨rfl, rfl, rfl, by decide +kernel, rfl, by decide +kernel, by decide +kernel⟩
theorem ok_law {P : Program} {w : World} {C : MP.Ctx} {mg : Str → Option Value} {base : Heap} (T : Tx C mg) : FnOk P w C.K mg base (L2.CX P w) 7 T.a_law T.d_law ["script"] (spOf C 1 sem_law) := by
  have G__law_cell_at := ok__law_cell_at (P := P) (w := w) (base := base) T
  have G__law_draw := ok__law_draw (P := P) (w := w) (base := base) T
  have G__law_lengths := ok__law_lengths (P := P) (w := w) (base := base) T
  have G__law_due := ok__law_due (P := P) (w := w) (base := base) T
  have G__law_bits := ok__law_bits (P := P) (w := w) (base := base) T
  have sc := sc_law
  refine fn_ok T.F_law sc fun cdv A outer s H E hr => ?_
  have TK : Takes (cxOf (L2.CX P w) P w C.K mg base ["script", "cell", "draw", "many", "lengths", "counts", "k", "count", "way", "at", "handed", "found"] "law" (defScope s_law) T.a_law cdv A outer s H E) (fun cls d _ H => E cls d H) := takes_of rfl rfl rfl rfl
  refine ⟨_, (pss_cons (ps_for (passes_of rfl) rfl (pi_listK (K := C.K) rfl (pe_op (op_addK (K := C.K) rfl) (pe_lst (pa_cons (pe_callS G__law_cell_at (hr.mono (by decide)) (by rfl) T.g__law_cell_at T.F__law_cell_at.kp T.b__law_cell_at (fun σ => passAt TK σ) (pa_cons (pv 0) (pa_cons pe_int pa_nil))) pa_nil)) (pe_slice (sl_anyK (K := C.K) rfl) (pv 0) (po_some pe_int) (po_some pe_int)))) (pg_name (i := 1) sc.nd rfl (by first | exact Or.inl rfl | exact Or.inr rfl)) ((pss_cons (ps_set (i := 2) sc.nd rfl (by first | exact Or.inl rfl | exact Or.inr rfl) (pe_disp (pps_cons pe_str (pv 1) (pps_cons pe_str pe_int pps_nil)) (by rfl) (by rfl) (fun z => by cases z) (by decide)))
      (pss_cons (ps_set (i := 3) sc.nd rfl (by first | exact Or.inl rfl | exact Or.inr rfl) (pe_op (op_addK (K := C.K) rfl) pe_int (pe_callS G__law_draw (hr.mono (by decide)) (by rfl) T.g__law_draw T.F__law_draw.kp T.b__law_draw (fun σ => passAt TK σ) (pa_cons (pv 2) (pa_cons (pe_ix (ix_seqK (K := C.K) rfl) (pe_lst (pa_cons pe_int (pa_cons pe_int pa_nil))) (pe_callS G__law_draw (hr.mono (by decide)) (by rfl) T.g__law_draw T.F__law_draw.kp T.b__law_draw (fun σ => passAt TK σ) (pa_cons (pv 2) (pa_cons pe_int pa_nil))) (fun _ _ => rfl)) pa_nil)))))
      (pss_cons (ps_set (i := 4) sc.nd rfl (by first | exact Or.inl rfl | exact Or.inr rfl) (pe_callS G__law_lengths (hr.mono (by decide)) (by rfl) T.g__law_lengths T.F__law_lengths.kp T.b__law_lengths (fun σ => passAt TK σ) (pa_cons (pv 2) (pa_cons (pv 3) pa_nil))))
      (pss_cons (ps_set (i := 5) sc.nd rfl (by first | exact Or.inl rfl | exact Or.inr rfl) (pe_lst pa_nil))
      (pss_cons (ps_for (passes_of rfl) rfl (pi_range1 (by rfl) T.z_range (pa_cons (pv 3) pa_nil)) (pg_name (i := 6) sc.nd rfl (by first | exact Or.inl rfl | exact Or.inr rfl)) ((pss_cons (ps_set (i := 7) sc.nd rfl (by first | exact Or.inl rfl | exact Or.inr rfl) (pe_ix (ix_seqK (K := C.K) rfl) (pe_lst (pa_cons pe_int (pa_cons pe_int (pa_cons (pe_callS G__law_draw (hr.mono (by decide)) (by rfl) T.g__law_draw T.F__law_draw.kp T.b__law_draw (fun σ => passAt TK σ) (pa_cons (pv 2) (pa_cons pe_int pa_nil))) pa_nil)))) (pe_callS G__law_draw (hr.mono (by decide)) (by rfl) T.g__law_draw T.F__law_draw.kp T.b__law_draw (fun σ => passAt TK σ) (pa_cons (pv 2) (pa_cons pe_int pa_nil))) (fun _ _ => rfl)))
      (pss_one (ps_expr (pe_bm PySem.F.plainAttrs_list PySem.F.slot_list_append PySem.F.type_list_append mt_append (pv 5) (pa_cons (pe_op op_mul (pv 7) (pe_callTy call_int1 (by rfl) T.z_int (by decide +kernel) (pa_cons (pe_cmpR op_gt (pe_ix (ix_seqK (K := C.K) rfl) (pv 4) (pv 6) (fun _ _ => rfl)) pe_int (nomark _)) pa_nil))) pa_nil)))))))
      (pss_cons (ps_set (i := 8) sc.nd rfl (by first | exact Or.inl rfl | exact Or.inr rfl) (pe_callS G__law_draw (hr.mono (by decide)) (by rfl) T.g__law_draw T.F__law_draw.kp T.b__law_draw (fun σ => passAt TK σ) (pa_cons (pv 2) (pa_cons pe_int pa_nil))))
      (pss_cons (ps_if (pt_cmpR (op_eqK (K := C.K) rfl hr.units) (pv 8) pe_int (nomark _)) ((pss_one (ps_set (i := 4) sc.nd rfl (by first | exact Or.inl rfl | exact Or.inr rfl) (pe_op (op_addK (K := C.K) rfl) (pv 4) (pe_op op_rep (pe_lst (pa_cons pe_int pa_nil)) (pe_op (op_addK (K := C.K) rfl) pe_int (pe_callS G__law_draw (hr.mono (by decide)) (by rfl) T.g__law_draw T.F__law_draw.kp T.b__law_draw (fun σ => passAt TK σ) (pa_cons (pv 2) (pa_cons pe_int pa_nil))))))))) ((pss_one (ps_if (PW.pt (pw_and (pt_cmpR (op_eqK (K := C.K) rfl hr.units) (pv 8) pe_int (nomark _)) (pw_and1 (pt_cmpR op_gt (pv 3) pe_int (nomark _))))) ((pss_one (ps_set (i := 4) sc.nd rfl (by first | exact Or.inl rfl | exact Or.inr rfl) (pe_slice (sl_anyK (K := C.K) rfl) (pv 4) po_none (po_some (pe_op op_sub (pe_op op_sub (pv 3) pe_int) (pe_callS G__law_draw (hr.mono (by decide)) (by rfl) T.g__law_draw T.F__law_draw.kp T.b__law_draw (fun σ => passAt TK σ) (pa_cons (pv 2) (pa_cons pe_int pa_nil))))))))) ((pss_one (ps_if (pt_cmpR (op_eqK (K := C.K) rfl hr.units) (pv 8) pe_int (nomark _)) ((pss_cons (ps_set (i := 9) sc.nd rfl (by first | exact Or.inl rfl | exact Or.inr rfl) (pe_callS G__law_draw (hr.mono (by decide)) (by rfl) T.g__law_draw T.F__law_draw.kp T.b__law_draw (fun σ => passAt TK σ) (pa_cons (pv 2) (pa_cons (pv 3) pa_nil))))
      (pss_cons (ps_asg (pe_op (op_addK (K := C.K) rfl) pe_int (pe_callS G__law_draw (hr.mono (by decide)) (by rfl) T.g__law_draw T.F__law_draw.kp T.b__law_draw (fun σ => passAt TK σ) (pa_cons (pv 2) (pa_cons pe_int pa_nil)))) (pg_sub (pv 5) (pv 9) set_list))
      (pss_one (ps_asg pe_int (pg_sub (pv 4) (pv 9) set_list)))))) (pss_nil))))))))
      (pss_cons (ps_set (i := 10) sc.nd rfl (by first | exact Or.inl rfl | exact Or.inr rfl) (pe_tup (pa_cons (pe_callTy (call_listK (K := C.K) rfl) (by rfl) T.z_list (by decide +kernel) (pa_cons (pv 5) pa_nil)) (pa_cons (pe_callTy (call_listK (K := C.K) rfl) (by rfl) T.z_list (by decide +kernel) (pa_cons (pv 4) pa_nil)) pa_nil))))
      (pss_cons (ps_set (i := 11) sc.nd rfl (by first | exact Or.inl rfl | exact Or.inr rfl) (pe_callS G__law_bits (hr.mono (by decide)) (by rfl) T.g__law_bits T.F__law_bits.kp T.b__law_bits (fun σ => passAt TK σ) (pa_cons (pe_ix (ix_seqK (K := C.K) rfl) (pv 10) pe_int (fun _ _ => rfl)) (pa_cons (pe_ix (ix_seqK (K := C.K) rfl) (pv 10) pe_int (fun _ _ => rfl)) pa_nil))))
      (pss_one (ps_if (PW.pt (pw_or (pt_cmpR (op_neK (K := C.K) rfl hr.units) (pv 11) (pe_callS G__law_due (hr.mono (by decide)) (by rfl) T.g__law_due T.F__law_due.kp T.b__law_due (fun σ => passAt TK σ) (pa_cons (pv 5) (pa_cons (pv 4) pa_nil))) (nomark _)) (pw_or (pt_truthK (K := C.K) rfl (pe_callB (call_isiK (K := C.K) rfl) (by rfl) T.z_isinstance (by decide +kernel) (pa_cons (pv 11) (pa_cons (pe_bltn (v := .ty "bool") (u := .type "bool") (by rfl) T.z_bool (by decide +kernel) rfl) pa_nil))) (by intro _; rfl)) (pw_or1 (pt_cmpR (op_neK (K := C.K) rfl hr.units) (pv 10) (pe_tup (pa_cons (pv 5) (pa_cons (pv 4) pa_nil))) (nomark _)))))) ((pss_one (ps_ret pe_bl))) (pss_nil))))))))))))))
      (pss_one (ps_ret pe_bl))), ?_⟩
  exact (ss_seq (ss_for (si_list (se_op (se_lst (sa_cons (se_call (sa_cons se_var (sa_cons se_int sa_nil))) sa_nil)) (se_sl se_peek (sp_p se_int) (sp_p se_int)) so_addA)) sg_name (ss_seq (ss_set (se_disp (sps_cons se_str se_var (sps_cons se_str se_int sps_nil))))
      (ss_seq (ss_set (se_op se_int (se_call (sa_cons se_var (sa_cons (se_op (se_lst (sa_cons se_int (sa_cons se_int sa_nil))) (se_call (sa_cons se_var (sa_cons se_int sa_nil))) so_ix) sa_nil))) so_addA))
      (ss_seq (ss_set (se_call (sa_cons se_var (sa_cons se_var sa_nil))))
      (ss_seq (ss_set (se_lst sa_nil))
      (ss_seq (ss_for (si_rng1 (sa_cons se_peek sa_nil)) sg_name (ss_seq (ss_set (se_op (se_lst (sa_cons se_int (sa_cons se_int (sa_cons (se_call (sa_cons se_var (sa_cons se_int sa_nil))) sa_nil)))) (se_call (sa_cons se_var (sa_cons se_int sa_nil))) so_ix))
      (ss_drop (se_bm se_peek (sa_cons (se_op se_peek (se_cb (sa_cons (se_op (se_op se_peek se_peek so_ix) se_int so_gt) sa_nil) soa_int) so_mul) sa_nil) som_app))))
      (ss_seq (ss_set (se_call (sa_cons se_var (sa_cons se_int sa_nil))))
      (ss_seq (ss_if (sb_T (se_op se_peek se_int so_eq)) (ss_set (se_op se_peek (se_rep (se_lst (sa_cons se_int sa_nil)) (se_op se_int (se_call (sa_cons se_var (sa_cons se_int sa_nil))) so_addA)) so_addA)) (ss_if (sb_and (sb_T (se_op se_peek se_int so_eq)) (sb_T (se_op se_peek se_int so_gt))) (ss_set (se_sl se_peek sp_n (sp_p (se_op (se_op se_peek se_int so_sub) (se_call (sa_cons se_var (sa_cons se_int sa_nil))) so_sub)))) (ss_if (sb_T (se_op se_peek se_int so_eq)) (ss_seq (ss_set (se_call (sa_cons se_var (sa_cons se_var sa_nil))))
      (ss_seq (ss_asg (se_op se_int (se_call (sa_cons se_var (sa_cons se_int sa_nil))) so_addA) (sg_sub se_peek se_peek))
      (ss_asg se_int (sg_sub se_peek se_peek)))) ss_next)))
      (ss_seq (ss_set (se_tup (sa_cons (se_cb (sa_cons se_peek sa_nil) soa_list) (sa_cons (se_cb (sa_cons se_peek sa_nil) soa_list) sa_nil))))
      (ss_seq (ss_set (se_call (sa_cons (se_op se_peek se_int so_ix) (sa_cons (se_op se_peek se_int so_ix) sa_nil))))
      (ss_if (sb_or (sb_T (se_op se_peek (se_call (sa_cons se_var (sa_cons se_var sa_nil))) so_ne)) (sb_or (sb_tru (se_cb (sa_cons se_peek (sa_cons se_ty sa_nil)) (soa_isi (t := .bl)))) (sb_T (se_op se_peek (se_tup (sa_cons se_var (sa_cons se_var sa_nil))) so_ne)))) (ss_ret se_bl) ss_next)))))))))))
      (ss_ret se_bl))
end Wk20

set_option linter.all false
set_option maxRecDepth 100000
set_option maxHeartbeats 4000000
namespace Wk20
open PySem L2 MP
/-! ### the law's draws -/
def mix1 (z k : Int) : Int := z / 2 ^ (1 + 31 * k).toNat
def mix2 (z k : Int) : Int :=
  let n := (z % 2147483647 + 7919 * k + 1) * 48271 % 2147483647
  let n := n * (n / 1009 + 69621) % 2147483629
  n * (n / 2003 + 39373 + k * k) % 2147483587
def mix (z k : Int) : Int := if 1237940039285380274899124224 ≤ z ∧ z % 2 = 1 ∧ 0 < mix1 z k then mix1 z k % 2147483648 else mix2 z k
theorem mixed_eq (z k : Int) (hk : 0 ≤ k) (hk2 : k < 1000000) (c : List Cell) : sem__law_mixed [.int z, .int k] c = some (.ok (.val (.int (mix z k))), c) := by
  have hs : 0 ≤ 1 + 31 * k := by omega
  have hb1 : -18446744073709551616 < k := by omega
  have hb2 : k < 18446744073709551616 := by omega
  unfold mix
  by_cases h1 : 1237940039285380274899124224 ≤ z
  · by_cases h2 : z % 2 = 1
    · by_cases h3 : 0 < z / 2 ^ (1 + 31 * k).toNat
      · simp [sem__law_mixed, ex__law_mixed, h1, h2, h3, mix1, hs]
      · simp [sem__law_mixed, ex__law_mixed, h1, h2, h3, mix1, mix2, hs, fMul_l hb1 hb2]
    · simp [sem__law_mixed, ex__law_mixed, h1, h2, mix2, fMul_l hb1 hb2]
  · simp [sem__law_mixed, ex__law_mixed, h1, mix2, fMul_l hb1 hb2]
theorem mix_nn (z k : Int) : 0 ≤ mix z k := by
  unfold mix mix2
  split
  · exact Int.emod_nonneg _ (by decide)
  · exact Int.emod_nonneg _ (by decide)
/-- the draw's dict -/
def dr (z k : Int) : Cell := .dK [((.inr "cell" : Key), .int z), (.inr "at", .int k)]
theorem dr_new (z : Int) : mergeD [] [((.inr "cell" : Key), .int z), (.inr "at", .int 0)] = [((.inr "cell" : Key), .int z), (.inr "at", .int 0)] := rfl
theorem dr_at (z k : Int) : valD [((.inr "cell" : Key), D.int z), (.inr "at", .int k)] (.inr "at" : Key) = some (.int k) := rfl
theorem dr_cell (z k : Int) : valD [((.inr "cell" : Key), D.int z), (.inr "at", .int k)] (.inr "cell" : Key) = some (.int z) := rfl
theorem dr_put (z k j : Int) : putD [((.inr "cell" : Key), D.int z), (.inr "at", .int k)] (.inr "at" : Key) (.int j) = [((.inr "cell" : Key), D.int z), (.inr "at", .int j)] := rfl
theorem draw_eq {c : List Cell} {id : Nat} {z k m : Int} (h : c[id]? = some (dr z k)) (hk : 0 ≤ k) (hk2 : k < 900000) (hm : 0 < m) :
    sem__law_draw [.ref id, .int m] c = some (.ok (.val (.int (mix z (k + 1) / 3 % m))), c.set id (dr z (k + 1))) := by
  have hs : ∀ x, (c.set id x)[id]? = some x := fun x => List.getElem?_set_self (List.getElem?_eq_some_iff.mp h).1
  unfold dr at h
  have e := mixed_eq z (k + 1) (by omega) (by omega) (c.set id (dr z (k + 1)))
  unfold dr at e
  simp [sem__law_draw, ex__law_draw, h, dr_at, dr_put, dr_cell, hs, e, hm, dr]
/-- a draw stands at id, taken at most n times -/
def Dw (c : List Cell) (id : Nat) (n : Int) : Prop := ∃ z k, c[id]? = some (dr z k) ∧ 0 ≤ k ∧ k ≤ n
theorem draw_ex {c : List Cell} {id : Nat} {n m : Int} (h : Dw c id n) (hn : n < 900000) (hm : 0 < m) : ∃ r c', sem__law_draw [.ref id, .int m] c = some (.ok (.val (.int r)), c') ∧ 0 ≤ r ∧ r < m ∧ Dw c' id (n + 1) ∧ c'.length = c.length ∧ ∀ j, j ≠ id → c'[j]? = c[j]? := by
  obtain ⟨z, k, h1, h2, h3⟩ := h
  have hi : id < c.length := (List.getElem?_eq_some_iff.mp h1).1
  refine ⟨_, _, draw_eq h1 h2 (by omega) hm, Int.emod_nonneg _ (by omega), Int.emod_lt_of_pos _ hm, ⟨z, k + 1, ?_, by omega, by omega⟩, ?_, fun j hj => ?_⟩
  · rw [List.getElem?_set_self hi]
  · rw [List.length_set]
  · rw [List.getElem?_set_ne (Ne.symm hj)]
theorem is_whole_eq (i : Int) (c : List Cell) : sem_is_whole [.int i] c = some (.ok (.val (.bl true)), c) := by
  simp [sem_is_whole, ex_is_whole]
theorem is_list_of_eq {ns : List Int} {lo hi : Int} (h1 : 1 ≤ ns.length) (h2 : ns.length ≤ 64) (h3 : ∀ n ∈ ns, lo ≤ n ∧ n ≤ hi) (c : List Cell) :
    sem_is_list_of [.lst (ns.map D.int), .int lo, .int hi] c = some (.ok (.val (.bl true)), c) := by
  have g1 : (1 : Int) ≤ (ns.length : Int) := by omega
  have g2 : (ns.length : Int) ≤ 64 := by omega
  have L := lcLoop_map (tt := evYes) (te := (evAndV (evCall 1 sem_is_whole (eaCons (evVar 3) eaNil)) (evChain fLe fLe (evPeek 1) (evPeek 3) (evPeek 2)))) (i := 3)
    (m0 := ⟨[.d (.lst (ns.map D.int)), .d (.int lo), .d (.int hi), .u], c⟩) (fun _ => true) (fun _ => .bl true) (items := ns.map D.int) (by simp) (by
      intro d hd _
      obtain ⟨n, hn, rfl⟩ := List.mem_map.mp hd
      obtain ⟨a1, a2⟩ := h3 n hn
      simp [is_whole_eq, a1, a2]) [] ⟨[.d (.lst (ns.map D.int)), .d (.int lo), .d (.int hi), .u], c⟩ rfl (by simp; omega)
  simp [sem_is_list_of, ex_is_list_of, g1, g2]
  rw [L]
  simp [fAll, fBls]

theorem check_counts_eq {ns : List Int} (h1 : 1 ≤ ns.length) (h2 : ns.length ≤ 64) (h3 : ∀ n ∈ ns, 0 ≤ n ∧ n ≤ 1000) (h4 : ns.sum ≤ 1000) (c : List Cell) : sem_check_counts [.lst (ns.map D.int)] c = some (.ok (.val .non), c) := by
  have g : ¬ (1000 < ns.sum) := by omega
  simp [sem_check_counts, ex_check_counts, is_list_of_eq h1 h2 h3, fSum, fInts, g]
/-- how much the words take -/
def room (ns : List Int) : Int := ((ns.filter fun n => decide (0 < n)).map fun n => (2 : Int) ^ (15 - n).toNat).sum
theorem room_eq {ns : List Int} (h2 : ns.length ≤ 64) (h3 : ∀ n ∈ ns, 0 ≤ n ∧ n ≤ 15) (c : List Cell) : sem_room_of [.lst (ns.map D.int)] c = some (.ok (.val (.int (room ns))), c) := by
  have L := lcLoop_map (tt := (evT (ev2 fGt (evPeek 1) (evC (.int 0))))) (te := (ev2 fShl (evC (.int 1)) (ev2 fSub (evC (.int 15)) (evPeek 1)))) (i := 1)
    (m0 := ⟨[.d (.lst (ns.map D.int)), .u], c⟩) (fun d => match d with | .int n => decide (0 < n) | _ => false) (fun d => match d with | .int n => .int (2 ^ (15 - n).toNat) | _ => .non) (items := ns.map D.int) (by
      intro d hd
      obtain ⟨n, hn, rfl⟩ := List.mem_map.mp hd
      simp) (by
      intro d hd _
      obtain ⟨n, hn, rfl⟩ := List.mem_map.mp hd
      obtain ⟨a1, a2⟩ := h3 n hn
      have b1 : 0 ≤ 15 - n := by omega
      have b2 : 15 - n ≤ 1000000 := by omega
      simp [fShl_at b1 b2]) [] ⟨[.d (.lst (ns.map D.int)), .u], c⟩ rfl (by simp; omega)
  simp [sem_room_of, ex_room_of]
  rw [L]
  have e : (List.filter (fun d => match d with | .int n => decide (0 < n) | _ => false) (ns.map D.int)).map (fun d => match d with | .int n => .int (2 ^ (15 - n).toNat) | _ => D.non) = ((ns.filter fun n => decide (0 < n)).map fun n => (2 : Int) ^ (15 - n).toNat).map D.int := by
    rw [List.filter_map, List.map_map, List.map_map]
    rfl
  rw [List.nil_append, e]
  simp [fSum, fInts, room]
theorem fits_eq {ns : List Int} (h1 : 1 ≤ ns.length) (h2 : ns.length ≤ 64) (h3 : ∀ n ∈ ns, 0 ≤ n ∧ n ≤ 15) (c : List Cell) : sem_fits [.lst (ns.map D.int)] c = some (.ok (.val (.bl (decide (room ns ≤ 32768)))), c) := by
  simp [sem_fits, ex_fits, is_list_of_eq h1 h2 h3, room_eq h2 h3]
theorem check_lengths_eq {ns : List Int} (h1 : 1 ≤ ns.length) (h2 : ns.length ≤ 64) (h3 : ∀ n ∈ ns, 0 ≤ n ∧ n ≤ 15) (h4 : room ns ≤ 32768) (c : List Cell) : sem_check_lengths [.lst (ns.map D.int)] c = some (.ok (.val .non), c) := by
  simp [sem_check_lengths, ex_check_lengths, fits_eq h1 h2 h3, h4]
/-! ### the bits -/
def bad (p : Int × Int) : Bool := decide (0 < p.1) && decide (p.2 = 0)
def due (cs ls : List Int) : Option Int := if cs.length ≠ ls.length then none else if (cs.zip ls).any bad = true then none else some ((cs.zip ls).map fun p => p.1 * p.2).sum
structure Good (cs ls : List Int) : Prop where
  c1 : 1 ≤ cs.length
  c2 : cs.length ≤ 64
  c3 : ∀ n ∈ cs, 0 ≤ n ∧ n ≤ 1000
  c4 : cs.sum ≤ 1000
  l1 : 1 ≤ ls.length
  l2 : ls.length ≤ 64
  l3 : ∀ n ∈ ls, 0 ≤ n ∧ n ≤ 15
  l4 : room ls ≤ 32768
theorem sum_zip {i j : Nat} {n : Nat} {cs ls : List Int} (G : Good cs ls) {g : List Sl} {c : List Cell} (hi : g.length = n) (hij : i ≠ j) (h1 : i < n) (h2 : j < n) {m : MSt} (hg : wipeG g [i, j] = g) (hm : wipeM m [i, j] = ⟨g, c⟩) (acc : List D) (hz : acc.length ≤ 1000) :
    lcLoop (gsTup 2 (gsCons (gsName i) (gsCons (gsName j) gsNil))) evYes (ev2 fMul (evPeek i) (evPeek j)) [i, j] (zipL (cs.map D.int) (ls.map D.int)) acc m = some (acc ++ ((cs.zip ls).map fun p => p.1 * p.2).map D.int, ⟨g, c⟩) := by
  have key := lcLoop_gen (g := gsTup 2 (gsCons (gsName i) (gsCons (gsName j) gsNil))) (tt := evYes) (te := ev2 fMul (evPeek i) (evPeek j)) (vs := [i, j]) (m0 := ⟨g, c⟩) (fun _ => true) (fun d => match d with | .tup [.int a, .int b] => .int (a * b) | _ => .non)
    (items := zipL (cs.map D.int) (ls.map D.int)) (by
      intro d hd
      rw [zipL_ints] at hd
      obtain ⟨p, hp, rfl⟩ := List.mem_map.mp hd
      obtain ⟨a, b⟩ := p
      have hb := G.l3 b (List.of_mem_zip hp).2
      have e1 : (g.set i (Sl.d (D.int a)))[i]? = some (Sl.d (D.int a)) := by rw [List.getElem?_set_self (by omega)]
      have e2 : ((g.set i (Sl.d (D.int a))).set j (Sl.d (D.int b)))[i]? = some (Sl.d (D.int a)) := by rw [List.getElem?_set_ne (Ne.symm hij), e1]
      have e3 : ((g.set i (Sl.d (D.int a))).set j (Sl.d (D.int b)))[j]? = some (Sl.d (D.int b)) := by rw [List.getElem?_set_self (by simpa using by omega)]
      refine ⟨⟨(g.set i (.d (.int a))).set j (.d (.int b)), c⟩, by simp, by simp, fun _ => ?_, ?_⟩
      · have f1 : -18446744073709551616 < b := by omega
        have f2 : b < 18446744073709551616 := by omega
        simp [e2, e3, fMul_r f1 f2]
      · have hg' : (g.set j .u).set i .u = g := hg
        simp only [wipeM, wipeG, List.set_set]
        rw [List.set_comm _ _ hij, List.set_set, hg']) acc m hm (by
      rw [zipL_ints, List.length_map, List.length_zip]
      have := G.c2
      omega)
  rw [key, zipL_ints, List.filter_eq_self.mpr fun _ _ => rfl, List.map_map, List.map_map]
  rfl


def badAt (cs ls : List Int) (d : D) : Bool := match d with
  | .int i => match cs[i.toNat]?, ls[i.toNat]? with
    | some a, some b => bad (a, b)
    | _, _ => false
  | _ => false
theorem badAt_any : ∀ (cs ls : List Int), cs.length = ls.length → ((rngL 0 cs.length).filter (badAt cs ls)).isEmpty = !(cs.zip ls).any bad := by
  intro cs ls hl
  rw [Bool.eq_iff_iff]
  simp only [List.isEmpty_iff, Bool.not_eq_true', List.any_eq_false, List.filter_eq_nil_iff]
  constructor
  · intro h p hp
    obtain ⟨i, hi⟩ := List.mem_iff_getElem?.mp hp
    rw [List.getElem?_zip_eq_some] at hi
    have hc := (List.getElem?_eq_some_iff.mp hi.1).1
    have := h (.int (0 + (i : Int))) (List.mem_map.mpr ⟨i, List.mem_range.mpr hc, rfl⟩)
    simpa [badAt, hi.1, hi.2] using this
  · intro h d hd
    obtain ⟨i, hi, rfl⟩ := List.mem_map.mp hd
    have a1 : i < cs.length := by simpa using hi
    have a2 : i < ls.length := by omega
    have := h (cs[i], ls[i]) (List.mem_iff_getElem?.mpr ⟨i, by rw [List.getElem?_zip_eq_some]; exact ⟨List.getElem?_eq_getElem a1, List.getElem?_eq_getElem a2⟩⟩)
    simpa [badAt, a1, a2] using this
theorem okDs_all {n : Nat} : ∀ {xs : List D}, (∀ d ∈ xs, okD n d = true) → okDs n xs = true
  | [], _ => okDs_nil n
  | d :: ds, h => by
    rw [okDs_cons, h d List.mem_cons_self, okDs_all fun e he => h e (List.mem_cons_of_mem _ he)]
    rfl
theorem bits_of_eq {cs ls : List Int} (G : Good cs ls) (c : List Cell) : sem_bits_of [.lst (cs.map D.int), .lst (ls.map D.int)] c = match due cs ls with | none => some (.exc ⟨1, []⟩, c) | some v => some (.ok (.val (.int v)), c) := by
  have e1 := fun c => check_counts_eq G.c1 G.c2 G.c3 G.c4 c
  have e2 := fun c => check_lengths_eq G.l1 G.l2 G.l3 G.l4 c
  by_cases hl : cs.length = ls.length
  · have hc := G.c2
    have L := lcLoop_gen (g := gsName 2) (tt := (evAnd (evT (ev2 fGt (ev2 fIx (evPeek 0) (evPeek 2)) (evC (.int 0)))) (evT (ev2 fEq (ev2 fIx (evPeek 1) (evPeek 2)) (evC (.int 0)))))) (te := evVar 2) (vs := [2])
      (m0 := ⟨[.d (.lst (cs.map D.int)), .d (.lst (ls.map D.int)), .u, .u, .u], c⟩) (badAt cs ls) (fun d => d) (items := rngL 0 cs.length) (by
        intro d hd
        obtain ⟨i, hi, rfl⟩ := List.mem_map.mp hd
        have a1 : i < cs.length := by simpa using hi
        have a2 : i < ls.length := by omega
        obtain ⟨a, b1⟩ : ∃ a, cs[i]? = some a := ⟨_, List.getElem?_eq_getElem a1⟩
        obtain ⟨b, b2⟩ : ∃ a, ls[i]? = some a := ⟨_, List.getElem?_eq_getElem a2⟩
        have f1 : atD (cs.map D.int) (i : Int) = some (.int a) := by
          rw [atD_nat (by omega) (by simpa using a1)]
          simp [b1]
        have f2 : atD (ls.map D.int) (i : Int) = some (.int b) := by
          rw [atD_nat (by omega) (by simpa using a2)]
          simp [b2]
        clear hi a1 a2
        refine ⟨_, rfl, ?_, fun _ => ⟨?_, rfl⟩, rfl⟩
        · by_cases q : 0 < a
          · simp [f1, f2, q, badAt, b1, b2, bad]
          · simp [f1, f2, q, badAt, b1, b2, bad]
        · simp) [] ⟨[.d (.lst (cs.map D.int)), .d (.lst (ls.map D.int)), .u, .u, .u], c⟩ rfl (by rw [rngL_len]; simp; omega)
    have S := sum_zip (i := 3) (j := 4) (n := 5) G (g := [.d (.lst (cs.map D.int)), .d (.lst (ls.map D.int)), .u, .u, .u]) (m := ⟨[.d (.lst (cs.map D.int)), .d (.lst (ls.map D.int)), .u, .u, .u], c⟩) (c := c) rfl (by decide) (by decide) (by decide) rfl rfl [] (by simp)
    have c62' : c62 (cs.length : Int) = true := c62_of (by omega) (by omega)
    have okf : okDs 59 ([] ++ ((rngL 0 cs.length).filter (badAt cs ls)).map fun d => d) = true := okDs_all fun d hd => by
      rw [List.nil_append, List.map_id'] at hd
      obtain ⟨i, _, rfl⟩ := List.mem_map.mp (List.mem_filter.mp hd).1
      simp
    have nn := fun (m : MSt) => fNe_nil (m := m) okf
    have emp := badAt_any cs ls hl
    simp only [List.nil_append, List.map_id'] at L nn
    rw [hl] at L c62' nn emp
    have key : ex_bits_of ⟨[.d (.lst (cs.map D.int)), .d (.lst (ls.map D.int)), .u, .u, .u], c⟩ = match due cs ls with | none => some (.exc ⟨1, []⟩, ⟨[.d (.lst (cs.map D.int)), .d (.lst (ls.map D.int)), .u, .u, .u], c⟩) | some v => some (.ok (.rt (.val (.int v))), ⟨[.d (.lst (cs.map D.int)), .d (.lst (ls.map D.int)), .u, .u, .u], c⟩) := by
      unfold ex_bits_of
      rw [seq_nx (m' := ⟨[.d (.lst (cs.map D.int)), .d (.lst (ls.map D.int)), .u, .u, .u], c⟩) (by simp [e1]),
        seq_nx (m' := ⟨[.d (.lst (cs.map D.int)), .d (.lst (ls.map D.int)), .u, .u, .u], c⟩) (by simp [e2]),
        seq_nx (m' := ⟨[.d (.lst (cs.map D.int)), .d (.lst (ls.map D.int)), .u, .u, .u], c⟩) (by simp [hl])]
      cases hb : (cs.zip ls).any bad with
      | true =>
        rw [seq_exc (x := ⟨1, []⟩) (m' := ⟨[.d (.lst (cs.map D.int)), .d (.lst (ls.map D.int)), .u, .u, .u], c⟩) (by
          simp [hl, c62']
          rw [L]
          simp [nn, emp, hb])]
        simp [due, hl, hb]
      | false =>
        rw [seq_nx (m' := ⟨[.d (.lst (cs.map D.int)), .d (.lst (ls.map D.int)), .u, .u, .u], c⟩) (by
          simp [hl, c62']
          rw [L]
          simp [nn, emp, hb])]
        simp
        rw [S]
        simp [due, hl, hb, fSum, fInts]
    unfold sem_bits_of
    cases hd : due cs ls with
    | none =>
      rw [hd] at key
      exact sem_exc (args := [.lst (cs.map D.int), .lst (ls.map D.int)]) (N := 5) (n := 2) rfl key
    | some v =>
      rw [hd] at key
      exact sem_rt (args := [.lst (cs.map D.int), .lst (ls.map D.int)]) (N := 5) (n := 2) rfl key
  · have n1 : ¬ ((cs.length : Int) = (ls.length : Int)) := by omega
    simp [sem_bits_of, ex_bits_of, e1, e2, n1, due, hl]

theorem due_eq {cs ls : List Int} (G : Good cs ls) (c : List Cell) : sem__law_due [.lst (cs.map D.int), .lst (ls.map D.int)] c = some (.ok (.val (match due cs ls with | none => .non | some v => .int v)), c) := by
  unfold sem__law_due
  have hc := G.c2
  by_cases hl : cs.length = ls.length
  · obtain ⟨m', ⟨s, t, rfl⟩, L⟩ := loopFor_ret (g := gsTup 2 (gsCons (gsName 2) (gsCons (gsName 3) gsNil))) (b := ex__law_due_for1) (fun m => ∃ s t, m = ⟨[.d (.lst (cs.map D.int)), .d (.lst (ls.map D.int)), s, t], c⟩)
      (fun d => match d with | .tup [.int a, .int b] => bad (a, b) | _ => false) (.val .non) (items := zipL (cs.map D.int) (ls.map D.int)) (by
        intro d hd m ⟨s, t, hm⟩
        subst hm
        rw [zipL_ints] at hd
        obtain ⟨⟨a, b⟩, hp, rfl⟩ := List.mem_map.mp hd
        refine ⟨⟨[.d (.lst (cs.map D.int)), .d (.lst (ls.map D.int)), .d (.int a), .d (.int b)], c⟩, by simp, ⟨[.d (.lst (cs.map D.int)), .d (.lst (ls.map D.int)), .d (.int a), .d (.int b)], c⟩, ⟨_, _, rfl⟩, ?_⟩
        by_cases q : 0 < a
        · by_cases q2 : b = 0
          · simp [ex__law_due_for1, bad, q, q2]
          · simp [ex__law_due_for1, bad, q, q2]
        · simp [ex__law_due_for1, bad, q]) (m := ⟨[.d (.lst (cs.map D.int)), .d (.lst (ls.map D.int)), .u, .u], c⟩) ⟨_, _, rfl⟩
    have ha : ((zipL (cs.map D.int) (ls.map D.int)).any fun d => match d with | .tup [.int a, .int b] => bad (a, b) | _ => false) = (cs.zip ls).any bad := by
      rw [zipL_ints, List.any_map]
      rfl
    rw [ha] at L
    cases hb : (cs.zip ls).any bad with
    | true =>
      rw [hb] at L
      have key : ex__law_due ⟨[.d (.lst (cs.map D.int)), .d (.lst (ls.map D.int)), .u, .u], c⟩ = some (.ok (.rt (.val .non)), ⟨[.d (.lst (cs.map D.int)), .d (.lst (ls.map D.int)), s, t], c⟩) := by
        unfold ex__law_due
        rw [seq_nx (m' := ⟨[.d (.lst (cs.map D.int)), .d (.lst (ls.map D.int)), .u, .u], c⟩) (by simp [hl])]
        rw [seq_rt (m' := ⟨[.d (.lst (cs.map D.int)), .d (.lst (ls.map D.int)), s, t], c⟩) (v := .val .non) (by
          simp
          exact L)]
      have e : due cs ls = none := by simp [due, hl, hb]
      rw [e]
      exact sem_rt (args := [.lst (cs.map D.int), .lst (ls.map D.int)]) (N := 4) (n := 2) rfl key
    | false =>
      rw [hb] at L
      have S := sum_zip (i := 2) (j := 3) (n := 4) G (g := [.d (.lst (cs.map D.int)), .d (.lst (ls.map D.int)), .u, .u]) (m := ⟨[.d (.lst (cs.map D.int)), .d (.lst (ls.map D.int)), s, t], c⟩) (c := c) rfl (by decide) (by decide) (by decide) rfl rfl [] (by simp)
      have key : ex__law_due ⟨[.d (.lst (cs.map D.int)), .d (.lst (ls.map D.int)), .u, .u], c⟩ = some (.ok (.rt (.val (.int ((cs.zip ls).map fun p => p.1 * p.2).sum))), ⟨[.d (.lst (cs.map D.int)), .d (.lst (ls.map D.int)), .u, .u], c⟩) := by
        unfold ex__law_due
        rw [seq_nx (m' := ⟨[.d (.lst (cs.map D.int)), .d (.lst (ls.map D.int)), .u, .u], c⟩) (by simp [hl])]
        rw [seq_nx (m' := ⟨[.d (.lst (cs.map D.int)), .d (.lst (ls.map D.int)), s, t], c⟩) (by
          simp
          exact L)]
        simp
        rw [S]
        simp [fSum, fInts]
      have e : due cs ls = some ((cs.zip ls).map fun p => p.1 * p.2).sum := by simp [due, hl, hb]
      rw [e]
      exact sem_rt (args := [.lst (cs.map D.int), .lst (ls.map D.int)]) (N := 4) (n := 2) rfl key
  · have n1 : ¬ ((cs.length : Int) = (ls.length : Int)) := by omega
    have e : due cs ls = none := by simp [due, hl]
    rw [e]
    exact sem_rt (args := [.lst (cs.map D.int), .lst (ls.map D.int)]) (m := ⟨[.d (.lst (cs.map D.int)), .d (.lst (ls.map D.int)), .u, .u], c⟩) (N := 4) (n := 2) rfl (by
      unfold ex__law_due
      rw [seq_rt (v := .val .non) (m' := ⟨[.d (.lst (cs.map D.int)), .d (.lst (ls.map D.int)), .u, .u], c⟩) (by simp [n1])])
theorem bits_law {cs ls : List Int} (G : Good cs ls) (c : List Cell) : sem__law_bits [.lst (cs.map D.int), .lst (ls.map D.int)] c = some (.ok (.val (match due cs ls with | none => .non | some v => .int v)), c) := by
  have e := bits_of_eq G c
  cases hd : due cs ls with
  | none =>
    rw [hd] at e
    simp [sem__law_bits, ex__law_bits, e, cat_BadTable, noExc, evTake]
  | some v =>
    rw [hd] at e
    simp [sem__law_bits, ex__law_bits, e, cat_BadTable, noExc, evTake]
theorem cell_eq (ns : List Int) (c : List Cell) : ∃ v, sem__law_cell_at [.lstK (ns.map D.int), .int 0] c = some (.ok (.val (.int v)), c) := by
  cases ns with
  | nil => exact ⟨0, by simp [sem__law_cell_at, ex__law_cell_at]⟩
  | cons n ns => exact ⟨n, by simp [sem__law_cell_at, ex__law_cell_at]⟩

/-- nothing but the draw's cell has changed -/
def Fr (id : Nat) (c c' : List Cell) : Prop := c'.length = c.length ∧ ∀ j, j ≠ id → c'[j]? = c[j]?
theorem Fr.refl {id : Nat} {c : List Cell} : Fr id c c := ⟨rfl, fun _ _ => rfl⟩
theorem Fr.trans {id : Nat} {c c' c'' : List Cell} (h : Fr id c c') (h' : Fr id c' c'') : Fr id c c'' := ⟨h'.1.trans h.1, fun j hj => (h'.2 j hj).trans (h.2 j hj)⟩
theorem draw_fr {c : List Cell} {id : Nat} {n m : Int} (h : Dw c id n) (hn : n < 900000) (hm : 0 < m) : ∃ r c', sem__law_draw [.ref id, .int m] c = some (.ok (.val (.int r)), c') ∧ 0 ≤ r ∧ r < m ∧ Dw c' id (n + 1) ∧ Fr id c c' := by
  obtain ⟨r, c', a, b, d, e, f, g⟩ := draw_ex h hn hm
  exact ⟨r, c', a, b, d, e, f, g⟩
theorem room_add (ls : List Int) (L : Int) : room (ls ++ [L]) = room ls + if 0 < L then 2 ^ (15 - L).toNat else 0 := by
  unfold room
  rw [List.filter_append, List.map_append, List.sum_append]
  by_cases h : 0 < L <;> simp [List.filter_cons, h]
theorem len_step {id : Nat} {many : Int} {ls : List Int} {k s : Sl} {c : List Cell} {n : Int} (h : Dw c id n) (hn : n < 800000) (hl : ls.length ≤ 64) (hr0 : 0 ≤ 32768 - room ls) :
    ∃ L c', 0 ≤ L ∧ L ≤ 15 ∧ 0 ≤ 32768 - room (ls ++ [L]) ∧ Dw c' id (n + 4) ∧ Fr id c c' ∧
      ex__law_lengths_for1 ⟨[.d (.ref id), .d (.int many), .own (ls.map D.int), .d (.int (32768 - room ls)), k, s], c⟩ = some (.ok .nx, ⟨[.d (.ref id), .d (.int many), .own ((ls ++ [L]).map D.int), .d (.int (32768 - room (ls ++ [L]))), k, .d (.int L)], c'⟩) := by
  obtain ⟨r1, c1, e1, p1, q1, h1, f1⟩ := draw_fr (m := 16) h (by omega) (by decide)
  obtain ⟨r2, c2, e2, p2, q2, h2, f2⟩ := draw_fr (m := 7) h1 (by omega) (by decide)
  obtain ⟨r3, c3, e3, p3, q3, h3, f3⟩ := draw_fr (m := 4) h2 (by omega) (by decide)
  obtain ⟨r4, c4, e4, p4, q4, h4, f4⟩ := draw_fr (m := 3) h3 (by omega) (by decide)
  have ff : Fr id c c4 := ((f1.trans f2).trans f3).trans f4
  have h4' : Dw c4 id (n + 4) := by
    have e : n + 1 + 1 + 1 + 1 = n + 4 := by omega
    rw [e] at h4
    exact h4
  have first : ∃ L, 0 ≤ L ∧ L ≤ 15 ∧ (exSet 5 (ev2 fIx (evLst (eaCons (evCall 2 sem__law_draw (eaCons (evVar 0) (eaCons (evC (.int 16)) eaNil))) (eaCons (evCall 2 sem__law_draw (eaCons (evVar 0) (eaCons (evC (.int 7)) eaNil))) (eaCons (ev2 fAddA (evC (.int 6)) (evCall 2 sem__law_draw (eaCons (evVar 0) (eaCons (evC (.int 4)) eaNil)))) eaNil)))) (evCall 2 sem__law_draw (eaCons (evVar 0) (eaCons (evC (.int 3)) eaNil))))) ⟨[.d (.ref id), .d (.int many), .own (ls.map D.int), .d (.int (32768 - room ls)), k, s], c⟩ = some (.ok .nx, ⟨[.d (.ref id), .d (.int many), .own (ls.map D.int), .d (.int (32768 - room ls)), k, .d (.int L)], c4⟩) := by
    have r : r4 = 0 ∨ r4 = 1 ∨ r4 = 2 := by omega
    rcases r with rfl | rfl | rfl
    · exact ⟨r1, p1, by omega, by simp [e1, e2, e3, e4, atD, L2.atI, ixN]⟩
    · exact ⟨r2, p2, by omega, by simp [e1, e2, e3, e4, atD, L2.atI, ixN]⟩
    · exact ⟨6 + r3, by omega, by omega, by simp [e1, e2, e3, e4, atD, L2.atI, ixN]⟩
  obtain ⟨L, a1, a2, first⟩ := first
  have b1 : 0 ≤ 15 - L := by omega
  have b2 : 15 - L ≤ 1000000 := by omega
  have z : szOk (ls.length + 1) = true := szOk_of (by omega)
  unfold ex__law_lengths_for1
  rw [seq_nx first]
  by_cases c0 : 0 < L
  · by_cases c1 : 32768 - room ls < 2 ^ (15 - L).toNat
    · refine ⟨0, c4, by decide, by decide, ?_, h4', ff, ?_⟩
      · rw [room_add]
        simpa using hr0
      · have er : room (ls ++ [0]) = room ls := by rw [room_add]; simp
        rw [er]
        simp [c0, c1, fShl_at b1 b2, -szOk_add_lit, z]
    · refine ⟨L, c4, a1, a2, ?_, h4', ff, ?_⟩
      · rw [room_add, if_pos c0]
        omega
      · rw [room_add, if_pos c0]
        simp [c0, c1, fShl_at b1 b2, -szOk_add_lit, z]
        omega
  · refine ⟨L, c4, a1, a2, ?_, h4', ff, ?_⟩
    · rw [room_add, if_neg c0]
      omega
    · rw [room_add, if_neg c0]
      simp [c0, -szOk_add_lit, z]
theorem lengths_eq {id : Nat} {many : Int} {c : List Cell} {n : Int} (h : Dw c id n) (hn : n < 700000) (hm0 : 0 ≤ many) (hm : many ≤ 61) :
    ∃ ls c', sem__law_lengths [.ref id, .int many] c = some (.ok (.own (ls.map D.int)), c') ∧ (ls.length : Int) = many ∧ (∀ x ∈ ls, 0 ≤ x ∧ x ≤ 15) ∧ room ls ≤ 32768 ∧ Dw c' id (n + 4 * many) ∧ Fr id c c' := by
  have c62' : c62 many = true := c62_of (by omega) (by omega)
  obtain ⟨m', L, I⟩ := loopFor_inv (g := gsName 4) (b := ex__law_lengths_for1) (fun i m => ∃ (ls : List Int) (c' : List Cell) (k s : Sl), m = ⟨[.d (.ref id), .d (.int many), .own (ls.map D.int), .d (.int (32768 - room ls)), k, s], c'⟩ ∧ ls.length = i ∧ (∀ x ∈ ls, 0 ≤ x ∧ x ≤ 15) ∧ 0 ≤ 32768 - room ls ∧ Dw c' id (n + 4 * i) ∧ Fr id c c')
    (items := rngL 0 many.toNat) (by
      intro i d m hi ⟨ls, c', k, s, hm', hl, h3, hr, hD, hF⟩
      subst hm'
      obtain ⟨i1, i2⟩ := rngL_get hi
      obtain ⟨L, c'', a1, a2, a3, a4, a5, a6⟩ := len_step (id := id) (many := many) (ls := ls) (k := .d d) (s := s) hD (by omega) (by omega) hr
      refine ⟨_, _, rfl, .inl a6, ls ++ [L], c'', .d d, .d (.int L), rfl, by simp [hl], ?_, a3, ?_, hF.trans a5⟩
      · intro x hx
        rcases List.mem_append.mp hx with hx | hx
        · exact h3 x hx
        · rw [List.mem_singleton] at hx
          subst hx
          exact ⟨a1, a2⟩
      · have e : n + 4 * (i : Int) + 4 = n + 4 * ((i + 1 : Nat) : Int) := by omega
        rw [e] at a4
        exact a4) (m := ⟨[.d (.ref id), .d (.int many), .own [], .d (.int 32768), .u, .u], c⟩) ⟨[], c, .u, .u, rfl, rfl, by simp, by decide, by simpa using h, Fr.refl⟩
  rw [rngL_len] at I
  obtain ⟨ls, c', k, s, rfl, hl, h3, hr, hD, hF⟩ := I
  refine ⟨ls, c', ?_, by omega, h3, by omega, ?_, hF⟩
  · unfold sem__law_lengths
    refine sem_rt (args := [.ref id, .int many]) (m := ⟨[.d (.ref id), .d (.int many), .u, .d (.int (32768 - room ls)), k, s], c'⟩) (N := 6) (n := 2) rfl ?_
    show ex__law_lengths ⟨[.d (.ref id), .d (.int many), .u, .u, .u, .u], c⟩ = _
    unfold ex__law_lengths
    rw [seq_nx (m' := ⟨[.d (.ref id), .d (.int many), .own [], .u, .u, .u], c⟩) (by simp)]
    rw [seq_nx (m' := ⟨[.d (.ref id), .d (.int many), .own [], .d (.int 32768), .u, .u], c⟩) (by simp)]
    rw [seq_nx (m' := ⟨[.d (.ref id), .d (.int many), .own (ls.map D.int), .d (.int (32768 - room ls)), k, s], c'⟩) (by
      simp [c62']
      exact L)]
    simp [evTake]
  · have e : ((many.toNat : Nat) : Int) = many := by omega
    rw [e] at hD
    exact hD

theorem sum_nn : ∀ (l : List Int), (∀ x ∈ l, 0 ≤ x) → 0 ≤ l.sum
  | [], _ => by decide
  | a :: l, h => by
    have := sum_nn l fun x hx => h x (List.mem_cons_of_mem _ hx)
    have := h a List.mem_cons_self
    rw [List.sum_cons]
    omega
theorem room_nn (ls : List Int) : 0 ≤ room ls := by
  unfold room
  refine sum_nn _ ?_
  intro x hx
  obtain ⟨n, _, rfl⟩ := List.mem_map.mp hx
  exact Int.le_of_lt (Int.pow_pos (by decide))
theorem room_app (xs ys : List Int) : room (xs ++ ys) = room xs + room ys := by
  unfold room
  rw [List.filter_append, List.map_append, List.sum_append]
theorem room_take (ls : List Int) (t : Nat) : room (ls.take t) ≤ room ls := by
  have h := room_app (ls.take t) (ls.drop t)
  rw [List.take_append_drop] at h
  have := room_nn (ls.drop t)
  omega
theorem room_zero (ls : List Int) (t : Nat) : room (ls.set t 0) ≤ room ls := by
  by_cases ht : t < ls.length
  · have e1 : ls.set t 0 = ls.take t ++ ([0] ++ ls.drop (t + 1)) := by
      rw [List.set_eq_take_append_cons_drop, if_pos ht]
      rfl
    have e2 : ls = ls.take t ++ ([ls[t]] ++ ls.drop (t + 1)) := by
      rw [List.singleton_append, List.getElem_cons_drop, List.take_append_drop]
    have e3 := congrArg room e2
    rw [room_app, room_app] at e3
    rw [e1, room_app, room_app]
    have e4 : room [0] = 0 := rfl
    have := room_nn [ls[t]]
    omega
  · rw [List.set_eq_of_length_le (by omega)]
    exact Int.le_refl _
theorem sum_le (cs : List Int) (h : ∀ x ∈ cs, 0 ≤ x ∧ x ≤ 15) : cs.sum ≤ 15 * cs.length := by
  induction cs with
  | nil => decide
  | cons a l ih =>
    have := ih fun x hx => h x (List.mem_cons_of_mem _ hx)
    have := h a List.mem_cons_self
    rw [List.sum_cons, List.length_cons]
    omega
theorem sum_set (cs : List Int) (t : Nat) (v : Int) (h : ∀ x ∈ cs, 0 ≤ x ∧ x ≤ 15) (hv : 0 ≤ v) : (cs.set t v).sum ≤ cs.sum + v := by
  induction cs generalizing t with
  | nil => simpa using hv
  | cons a l ih =>
    have h0 := h a List.mem_cons_self
    cases t with
    | zero =>
      rw [List.set_cons_zero, List.sum_cons, List.sum_cons]
      omega
    | succ t =>
      rw [List.set_cons_succ, List.sum_cons, List.sum_cons]
      have := ih t fun x hx => h x (List.mem_cons_of_mem _ hx)
      omega
theorem cut_take (ls : List Int) (h : Int) (h0 : 0 ≤ h) : cutD (ls.map D.int) none (some h) = (ls.take (min h.toNat ls.length)).map D.int := by
  obtain ⟨k, rfl⟩ : ∃ k : Nat, h = k := ⟨h.toNat, by omega⟩
  unfold cutD
  rw [HT.sIx_nat, HT.sIx_none]
  simp
theorem count_step {id : Nat} {sc d0 : D} {many : Int} {ls cs : List Int} {i : Nat} {b : Int} {s s8 s9 s10 s11 : Sl} {c : List Cell} {n : Int} (h : Dw c id n) (hn : n < 800000) (hb : ls[i]? = some b) (hl : ls.length ≤ 64) (hc : cs.length ≤ 64) :
    ∃ v c', 0 ≤ v ∧ v ≤ 15 ∧ Dw c' id (n + 2) ∧ Fr id c c' ∧
      ex_law_for1 ⟨[.d sc, .d d0, .d (.ref id), .d (.int many), .own (ls.map D.int), .own (cs.map D.int), .d (.int i), s, s8, s9, s10, s11], c⟩ = some (.ok .nx, ⟨[.d sc, .d d0, .d (.ref id), .d (.int many), .own (ls.map D.int), .own ((cs ++ [v * (if 0 < b then 1 else 0)]).map D.int), .d (.int i), .d (.int v), s8, s9, s10, s11], c'⟩) := by
  obtain ⟨r1, c1, e1, p1, q1, h1, f1⟩ := draw_fr (m := 16) h (by omega) (by decide)
  obtain ⟨r2, c2, e2, p2, q2, h2, f2⟩ := draw_fr (m := 3) h1 (by omega) (by decide)
  have h2' : Dw c2 id (n + 2) := by
    have e : n + 1 + 1 = n + 2 := by omega
    rw [e] at h2
    exact h2
  have hi : i < ls.length := (List.getElem?_eq_some_iff.mp hb).1
  have z : szOk (cs.length + 1) = true := szOk_of (by omega)
  have f2' : atD (ls.map D.int) (i : Int) = some (.int b) := by
    rw [atD_nat (by omega) (by simpa using hi)]
    simp [hb]
  have first : ∃ v, 0 ≤ v ∧ v ≤ 15 ∧ (exSet 7 (ev2 fIx (evLst (eaCons (evC (.int 0)) (eaCons (evC (.int 1)) (eaCons (evCall 2 sem__law_draw (eaCons (evVar 2) (eaCons (evC (.int 16)) eaNil))) eaNil)))) (evCall 2 sem__law_draw (eaCons (evVar 2) (eaCons (evC (.int 3)) eaNil))))) ⟨[.d sc, .d d0, .d (.ref id), .d (.int many), .own (ls.map D.int), .own (cs.map D.int), .d (.int i), s, s8, s9, s10, s11], c⟩ = some (.ok .nx, ⟨[.d sc, .d d0, .d (.ref id), .d (.int many), .own (ls.map D.int), .own (cs.map D.int), .d (.int i), .d (.int v), s8, s9, s10, s11], c2⟩) := by
    have r : r2 = 0 ∨ r2 = 1 ∨ r2 = 2 := by omega
    rcases r with rfl | rfl | rfl
    · exact ⟨0, by decide, by decide, by simp [e1, e2, atD, L2.atI, ixN]⟩
    · exact ⟨1, by decide, by decide, by simp [e1, e2, atD, L2.atI, ixN]⟩
    · exact ⟨r1, p1, by omega, by simp [e1, e2, atD, L2.atI, ixN]⟩
  obtain ⟨v, a1, a2, first⟩ := first
  refine ⟨v, c2, a1, a2, h2', f1.trans f2, ?_⟩
  have g1 : -18446744073709551616 < v := by omega
  have g2 : v < 18446744073709551616 := by omega
  clear hb hi
  unfold ex_law_for1
  rw [seq_nx first]
  by_cases q : 0 < b
  · simp [f2', q, fMul_l g1 g2, -szOk_add_lit, z]
  · simp [f2', q, fMul_l g1 g2, -szOk_add_lit, z]
theorem counts_loop {id : Nat} {sc d0 : D} {many : Int} {ls : List Int} {s6 s s8 s9 s10 s11 : Sl} {c : List Cell} {n : Int} (h : Dw c id n) (hn : n < 700000) (hl : (ls.length : Int) = many) (hm : many ≤ 61) :
    ∃ (cs : List Int) (c' : List Cell) (k t : Sl), (∀ x ∈ cs, 0 ≤ x ∧ x ≤ 15) ∧ cs.length = ls.length ∧ Dw c' id (n + 2 * many) ∧ Fr id c c' ∧
      (exFor (eiRng1 (eaCons (evPeek 3) eaNil)) (gsName 6) ex_law_for1) ⟨[.d sc, .d d0, .d (.ref id), .d (.int many), .own (ls.map D.int), .own [], s6, s, s8, s9, s10, s11], c⟩ = some (.ok .nx, ⟨[.d sc, .d d0, .d (.ref id), .d (.int many), .own (ls.map D.int), .own (cs.map D.int), k, t, s8, s9, s10, s11], c'⟩) := by
  have c62' : c62 many = true := c62_of (by omega) (by omega)
  obtain ⟨m', L, I⟩ := loopFor_inv (g := gsName 6) (b := ex_law_for1) (fun i m => ∃ (cs : List Int) (c' : List Cell) (k t : Sl), m = ⟨[.d sc, .d d0, .d (.ref id), .d (.int many), .own (ls.map D.int), .own (cs.map D.int), k, t, s8, s9, s10, s11], c'⟩ ∧ cs.length = i ∧ (∀ x ∈ cs, 0 ≤ x ∧ x ≤ 15) ∧ Dw c' id (n + 2 * i) ∧ Fr id c c')
    (items := rngL 0 many.toNat) (by
      intro i d m hi ⟨cs, c', k, t, hm', hl', h3, hD, hF⟩
      subst hm'
      obtain ⟨i1, i2⟩ := rngL_get hi
      have hb : ls[i]? = some ls[i] := List.getElem?_eq_getElem (by omega)
      obtain ⟨v, c'', a1, a2, a3, a4, a5⟩ := count_step (id := id) (sc := sc) (d0 := d0) (many := many) (ls := ls) (cs := cs) (i := i) (s := t) (s8 := s8) (s9 := s9) (s10 := s10) (s11 := s11) hD (by omega) hb (by omega) (by omega)
      rw [Int.zero_add] at i2
      subst i2
      refine ⟨_, _, rfl, .inl a5, _, c'', _, _, rfl, by simp [hl'], ?_, ?_, hF.trans a4⟩
      · intro x hx
        rcases List.mem_append.mp hx with hx | hx
        · exact h3 x hx
        · rw [List.mem_singleton] at hx
          subst hx
          split
          · omega
          · omega
      · have e : n + 2 * (i : Int) + 2 = n + 2 * ((i + 1 : Nat) : Int) := by omega
        rw [e] at a3
        exact a3) (m := ⟨[.d sc, .d d0, .d (.ref id), .d (.int many), .own (ls.map D.int), .own [], s6, s, s8, s9, s10, s11], c⟩) ⟨[], c, _, _, rfl, rfl, by simp, by simpa using h, Fr.refl⟩
  rw [rngL_len] at I
  obtain ⟨cs, c', k, t, rfl, hl', h3, hD, hF⟩ := I
  refine ⟨cs, c', k, t, h3, by omega, ?_, hF, ?_⟩
  · have e : ((many.toNat : Nat) : Int) = many := by omega
    rw [e] at hD
    exact hD
  · simp [c62']
    exact L

theorem tail_eq {sc d0 d2 d3 : D} {cs ls : List Int} {s6 s7 s8 s9 s10 s11 : Sl} {c : List Cell} (G : Good cs ls) : ∃ a b, (exSeq (exSet 10 (evTup (eaCons (evCB fList (eaCons (evPeek 5) eaNil)) (eaCons (evCB fList (eaCons (evPeek 4) eaNil)) eaNil))))
    (exSeq (exSet 11 (evCall 2 sem__law_bits (eaCons (ev2 fIx (evPeek 10) (evC (.int 0))) (eaCons (ev2 fIx (evPeek 10) (evC (.int 1))) eaNil))))
    (exIf (evOr (evT (ev2 fNe (evPeek 11) (evCall 2 sem__law_due (eaCons (evVar 5) (eaCons (evVar 4) eaNil))))) (evOr (evTru (evCB (fIsi .bl) (eaCons (evPeek 11) (eaCons (evC (.ty "bool")) eaNil)))) (evT (ev2 fNe (evPeek 10) (evTup (eaCons (evVar 5) (eaCons (evVar 4) eaNil))))))) (exRet (evC (.bl false))) exNext))) ⟨[.d sc, .d d0, .d d2, .d d3, .own (ls.map D.int), .own (cs.map D.int), s6, s7, s8, s9, s10, s11], c⟩ = some (.ok .nx, ⟨[.d sc, .d d0, .d d2, .d d3, .d (.lst (ls.map D.int)), .d (.lst (cs.map D.int)), s6, s7, s8, s9, a, b], c⟩) := by
  have e1 := bits_law G c
  have e2 := due_eq G c
  have at0 : ∀ (x y : D), atD [x, y] 0 = some x := fun _ _ => rfl
  have at1 : ∀ (x y : D), atD [x, y] 1 = some y := fun _ _ => rfl
  have ne : ∀ m : MSt, fNe (.tup [.lst (cs.map D.int), .lst (ls.map D.int)]) (.tup [.lst (cs.map D.int), .lst (ls.map D.int)]) m = some (.ok (.val (.bl false)), m) := fun m => fNe_self (by simp) rfl (by simp)
  refine ⟨.d (.tup [.lst (cs.map D.int), .lst (ls.map D.int)]), .d (match due cs ls with | none => .non | some v => .int v), ?_⟩
  rw [seq_nx (m' := ⟨[.d sc, .d d0, .d d2, .d d3, .own (ls.map D.int), .own (cs.map D.int), s6, s7, s8, s9, .d (.tup [.lst (cs.map D.int), .lst (ls.map D.int)]), s11], c⟩) (by simp)]
  rw [seq_nx (m' := ⟨[.d sc, .d d0, .d d2, .d d3, .own (ls.map D.int), .own (cs.map D.int), s6, s7, s8, s9, .d (.tup [.lst (cs.map D.int), .lst (ls.map D.int)]), .d (match due cs ls with | none => .non | some v => .int v)], c⟩) (by
    simp [at0, at1, e1]
    cases due cs ls <;> first | exact ⟨rfl, rfl⟩ | rfl)]
  cases hd : due cs ls with
  | none =>
    rw [hd] at e2
    simp [e2, ne]
  | some v =>
    rw [hd] at e2
    simp [e2, ne]
theorem good_of {cs ls : List Int} (h1 : 1 ≤ cs.length) (h2 : cs.length ≤ 61) (h3 : ∀ x ∈ cs, 0 ≤ x ∧ x ≤ 15) (l1 : 1 ≤ ls.length) (l2 : ls.length ≤ 64) (l3 : ∀ x ∈ ls, 0 ≤ x ∧ x ≤ 15) (l4 : room ls ≤ 32768) : Good cs ls := by
  have := sum_le cs h3
  exact ⟨h1, by omega, fun x hx => ⟨(h3 x hx).1, by have := (h3 x hx).2; omega⟩, by omega, l1, l2, l3, l4⟩
theorem way_eq {sc d0 : D} {id : Nat} {many wy : Int} {cs ls : List Int} {s6 s7 s9 s10 s11 : Sl} {c : List Cell} {n : Int} (h : Dw c id n) (hn : n < 700000) (hm1 : 1 ≤ many) (hm2 : many ≤ 60) (hl : (ls.length : Int) = many) (hc : cs.length = ls.length)
    (h3 : ∀ x ∈ cs, 0 ≤ x ∧ x ≤ 15) (l3 : ∀ x ∈ ls, 0 ≤ x ∧ x ≤ 15) (l4 : room ls ≤ 32768) (w0 : 0 ≤ wy) : ∃ (cs' ls' : List Int) (c' : List Cell) (t : Sl), Good cs' ls' ∧ (exIf (evT (ev2 fEq (evPeek 8) (evC (.int 0)))) (exSet 4 (ev2 fAddA (evPeek 4) (evRep (evLst (eaCons (evC (.int 0)) eaNil)) (ev2 fAddA (evC (.int 1)) (evCall 2 sem__law_draw (eaCons (evVar 2) (eaCons (evC (.int 3)) eaNil))))))) (exIf (evAnd (evT (ev2 fEq (evPeek 8) (evC (.int 1)))) (evT (ev2 fGt (evPeek 3) (evC (.int 3))))) (exSet 4 (evSl (evPeek 4) evN (evP (ev2 fSub (ev2 fSub (evPeek 3) (evC (.int 1))) (evCall 2 sem__law_draw (eaCons (evVar 2) (eaCons (evC (.int 3)) eaNil))))))) (exIf (evT (ev2 fEq (evPeek 8) (evC (.int 2)))) (exSeq (exSet 9 (evCall 2 sem__law_draw (eaCons (evVar 2) (eaCons (evVar 3) eaNil))))
    (exSeq (exAsg (ev2 fAddA (evC (.int 1)) (evCall 2 sem__law_draw (eaCons (evVar 2) (eaCons (evC (.int 9)) eaNil)))) (gsSub (evPeek 5) (evPeek 9)))
    (exAsg (evC (.int 0)) (gsSub (evPeek 4) (evPeek 9))))) exNext))) ⟨[.d sc, .d d0, .d (.ref id), .d (.int many), .own (ls.map D.int), .own (cs.map D.int), s6, s7, .d (.int wy), s9, s10, s11], c⟩ = some (.ok .nx, ⟨[.d sc, .d d0, .d (.ref id), .d (.int many), .own (ls'.map D.int), .own (cs'.map D.int), s6, s7, .d (.int wy), t, s10, s11], c'⟩) := by
  by_cases a0 : wy = 0
  · obtain ⟨r, c1, e1, p1, q1, _, _⟩ := draw_fr (m := 3) h (by omega) (by decide)
    refine ⟨cs, ls ++ List.replicate (1 + r).toNat 0, c1, s9, good_of (by omega) (by omega) h3 ?_ ?_ ?_ ?_, ?_⟩
    · rw [List.length_append]; omega
    · rw [List.length_append, List.length_replicate]; omega
    · intro x hx
      rcases List.mem_append.mp hx with hx | hx
      · exact l3 x hx
      · rw [(List.mem_replicate.mp hx).2]; decide
    · rw [room_app]
      have e : ∀ k, room (List.replicate k 0) = 0 := by
        intro k
        unfold room
        rw [List.filter_eq_nil_iff.mpr (by intro x hx; rw [(List.mem_replicate.mp hx).2]; decide)]
        rfl
      rw [e]
      omega
    · have z1 : szOk (List.length [D.int 0] * (1 + r).toNat) = true := szOk_of (by rw [List.length_singleton]; omega)
      have z2 : szOk (ls.length + (1 + r).toNat) = true := szOk_of (by omega)
      have b1 : -9223372036854775808 ≤ 1 + r := by omega
      have b2 : 1 + r < 9223372036854775808 := by omega
      have fl : (List.replicate (1 + r).toNat [D.int 0]).flatten = List.replicate (1 + r).toNat (D.int 0) := by simp
      simp only [List.length_singleton, Nat.one_mul] at z1
      have z0 : szOk 1 = true := rfl
      simp [a0, e1, -szOk_add_lit, z0, z1, z2, b1, b2]
  · by_cases a1 : wy = 1 ∧ 3 < many
    · obtain ⟨a1, a2⟩ := a1
      obtain ⟨r, c1, e1, p1, q1, _, _⟩ := draw_fr (m := 3) h (by omega) (by decide)
      have ct := cut_take ls (many - 1 - r) (by omega)
      refine ⟨cs, ls.take (min (many - 1 - r).toNat ls.length), c1, s9, good_of (by omega) (by omega) h3 ?_ ?_ ?_ ?_, ?_⟩
      · rw [List.length_take]; omega
      · rw [List.length_take]; omega
      · exact fun x hx => l3 x (List.mem_of_mem_take hx)
      · have := room_take ls (min (many - 1 - r).toNat ls.length)
        omega
      · simp [a1, a2, e1, evN, evP, -List.map_take]
        rw [ct]
    · by_cases a2 : wy = 2
      · subst a2
        obtain ⟨r1, c1, e1, p1, q1, h1, _⟩ := draw_fr (m := many) h (by omega) (by omega)
        obtain ⟨r2, c2, e2, p2, q2, _, _⟩ := draw_fr (m := 9) h1 (by omega) (by decide)
        have s1 := sum_set cs r1.toNat (1 + r2) h3 (by omega)
        have s2 := sum_le cs h3
        refine ⟨cs.set r1.toNat (1 + r2), ls.set r1.toNat 0, c2, .d (.int r1), ⟨by rw [List.length_set]; omega, by rw [List.length_set]; omega, ?_, by omega, by rw [List.length_set]; omega, by rw [List.length_set]; omega, ?_, ?_⟩, ?_⟩
        · intro x hx
          rcases List.mem_or_eq_of_mem_set hx with hx | hx
          · have := h3 x hx
            omega
          · omega
        · intro x hx
          rcases List.mem_or_eq_of_mem_set hx with hx | hx
          · exact l3 x hx
          · omega
        · have := room_zero ls r1.toNat
          omega
        · have i1 : ixN cs.length r1 = some r1.toNat := by
            unfold ixN
            rw [if_pos p1, if_pos (by omega)]
          have i2 : ixN ls.length r1 = some r1.toNat := by
            unfold ixN
            rw [if_pos p1, if_pos (by omega)]
          simp [e1, e2, i1, i2, List.map_set]
      · refine ⟨cs, ls, c, s9, good_of (by omega) (by omega) h3 (by omega) (by omega) l3 l4, ?_⟩
        by_cases a3 : wy = 1
        · have : ¬ (3 < many) := fun q => a1 ⟨a3, q⟩
          simp [a3, this]
        · simp [a0, a2, a3]

theorem turn_eq {sc : D} {v : Int} {s2 s3 s4 s5 s6 s7 s8 s9 s10 s11 : Sl} {c : List Cell} : ∃ t2 t3 t4 t5 t6 t7 t8 t9 t10 t11 c', ex_law_for2 ⟨[.d sc, .d (.int v), s2, s3, s4, s5, s6, s7, s8, s9, s10, s11], c⟩ = some (.ok .nx, ⟨[.d sc, .d (.int v), t2, t3, t4, t5, t6, t7, t8, t9, t10, t11], c'⟩) := by
  have D0 : Dw (c ++ [dr v 0]) c.length 0 := ⟨v, 0, by rw [List.getElem?_append_right (Nat.le_refl _), Nat.sub_self]; rfl, by decide, by decide⟩
  obtain ⟨r1, c1, e1, p1, q1, h1, f1⟩ := draw_fr (m := 2) D0 (by decide) (by decide)
  have first : (exSet 2 (evDisp (epCons (evC (.str "cell")) (evVar 1) (epCons (evC (.str "at")) (evC (.int 0)) epNil)))) ⟨[.d sc, .d (.int v), s2, s3, s4, s5, s6, s7, s8, s9, s10, s11], c⟩ = some (.ok .nx, ⟨[.d sc, .d (.int v), .d (.ref c.length), s3, s4, s5, s6, s7, s8, s9, s10, s11], c ++ [dr v 0]⟩) := by
    simp [keyD, dr_new, dr]
  have second : ∃ many c2, 1 ≤ many ∧ many ≤ 60 ∧ Dw c2 c.length 2 ∧ (exSet 3 (ev2 fAddA (evC (.int 1)) (evCall 2 sem__law_draw (eaCons (evVar 2) (eaCons (ev2 fIx (evLst (eaCons (evC (.int 6)) (eaCons (evC (.int 60)) eaNil))) (evCall 2 sem__law_draw (eaCons (evVar 2) (eaCons (evC (.int 2)) eaNil)))) eaNil))))) ⟨[.d sc, .d (.int v), .d (.ref c.length), s3, s4, s5, s6, s7, s8, s9, s10, s11], c ++ [dr v 0]⟩ = some (.ok .nx, ⟨[.d sc, .d (.int v), .d (.ref c.length), .d (.int many), s4, s5, s6, s7, s8, s9, s10, s11], c2⟩) := by
    have r : r1 = 0 ∨ r1 = 1 := by omega
    rcases r with rfl | rfl
    · obtain ⟨r2, c2, e2, p2, q2, h2, f2⟩ := draw_fr (m := 6) h1 (by decide) (by decide)
      exact ⟨1 + r2, c2, by omega, by omega, h2, by simp [e1, e2, atD, L2.atI, ixN]⟩
    · obtain ⟨r2, c2, e2, p2, q2, h2, f2⟩ := draw_fr (m := 60) h1 (by decide) (by decide)
      exact ⟨1 + r2, c2, by omega, by omega, h2, by simp [e1, e2, atD, L2.atI, ixN]⟩
  obtain ⟨many, c2, m1, m2, D2, second⟩ := second
  obtain ⟨ls, c3, e3, hl, l3, l4, D3, _⟩ := lengths_eq (many := many) D2 (by decide) (by omega) (by omega)
  obtain ⟨cs, c4, k, t, h3, hc, D4, _, loop⟩ := counts_loop (sc := sc) (d0 := .int v) (many := many) (ls := ls) (s6 := s6) (s := s7) (s8 := s8) (s9 := s9) (s10 := s10) (s11 := s11) D3 (by omega) hl (by omega)
  obtain ⟨wy, c5, e5, p5, q5, D5, _⟩ := draw_fr (m := 6) D4 (by omega) (by decide)
  obtain ⟨cs', ls', c6, t9, G, way⟩ := way_eq (sc := sc) (d0 := .int v) (many := many) (wy := wy) (cs := cs) (ls := ls) (s6 := k) (s7 := t) (s9 := s9) (s10 := s10) (s11 := s11) D5 (by omega) m1 m2 hl hc h3 l3 l4 p5
  obtain ⟨a, b, tail⟩ := tail_eq (sc := sc) (d0 := .int v) (d2 := .ref c.length) (d3 := .int many) (s6 := k) (s7 := t) (s8 := .d (.int wy)) (s9 := t9) (s10 := s10) (s11 := s11) (c := c6) G
  have fin : ex_law_for2 ⟨[.d sc, .d (.int v), s2, s3, s4, s5, s6, s7, s8, s9, s10, s11], c⟩ = some (.ok .nx, ⟨[.d sc, .d (.int v), .d (.ref c.length), .d (.int many), .d (.lst (ls'.map D.int)), .d (.lst (cs'.map D.int)), k, t, .d (.int wy), t9, a, b], c6⟩) := by
    unfold ex_law_for2
    rw [seq_nx first, seq_nx second]
    rw [seq_nx (m' := ⟨[.d sc, .d (.int v), .d (.ref c.length), .d (.int many), .own (ls.map D.int), s5, s6, s7, s8, s9, s10, s11], c3⟩) (by simp [e3])]
    rw [seq_nx (m' := ⟨[.d sc, .d (.int v), .d (.ref c.length), .d (.int many), .own (ls.map D.int), .own [], s6, s7, s8, s9, s10, s11], c3⟩) (by simp)]
    rw [seq_nx loop]
    rw [seq_nx (m' := ⟨[.d sc, .d (.int v), .d (.ref c.length), .d (.int many), .own (ls.map D.int), .own (cs.map D.int), k, t, .d (.int wy), s9, s10, s11], c5⟩) (by simp [e5])]
    rw [seq_nx way]
    exact tail
  exact ⟨_, _, _, _, _, _, _, _, _, _, _, fin⟩
theorem cut_ints (ls : List Int) (a b : Option Int) : ∃ xs : List Int, cutD (ls.map D.int) a b = xs.map D.int ∧ xs.length ≤ ls.length := ⟨(ls.drop (HT.sIx (ls.map D.int).length 0 a)).take (HT.sIx (ls.map D.int).length (ls.map D.int).length b - HT.sIx (ls.map D.int).length 0 a), by
    unfold cutD
    rw [List.map_take, List.map_drop], by
    rw [List.length_take, List.length_drop]
    omega⟩
theorem law_true (ns : List Int) (hn : ns.length ≤ 63) : ∃ c, sem_law [.lstK (ns.map D.int)] [] = some (.ok (.val (.bl true)), c) := by
  obtain ⟨v, e1⟩ := cell_eq ns []
  obtain ⟨xs, e2, e3⟩ := cut_ints ns (some 1) (some 12)
  obtain ⟨m', L, s1, s2, s3, s4, s5, s6, s7, s8, s9, s10, s11, c', hm⟩ := loopFor_inv (g := gsName 1) (b := ex_law_for2) (fun _ m => ∃ s1 s2 s3 s4 s5 s6 s7 s8 s9 s10 s11 c', m = ⟨[.d (.lstK (ns.map D.int)), s1, s2, s3, s4, s5, s6, s7, s8, s9, s10, s11], c'⟩)
    (items := D.int v :: xs.map D.int) (by
      intro i d m hi ⟨s1, s2, s3, s4, s5, s6, s7, s8, s9, s10, s11, c', hm⟩
      subst hm
      have hd : d ∈ (v :: xs).map D.int := List.mem_of_getElem? (by rw [List.map_cons]; exact hi)
      obtain ⟨u, _, rfl⟩ := List.mem_map.mp hd
      obtain ⟨t2, t3, t4, t5, t6, t7, t8, t9, t10, t11, c'', e⟩ := turn_eq (sc := .lstK (ns.map D.int)) (v := u) (s2 := s2) (s3 := s3) (s4 := s4) (s5 := s5) (s6 := s6) (s7 := s7) (s8 := s8) (s9 := s9) (s10 := s10) (s11 := s11) (c := c')
      exact ⟨_, _, rfl, .inl e, _, _, _, _, _, _, _, _, _, _, _, _, rfl⟩) (m := ⟨[.d (.lstK (ns.map D.int)), .u, .u, .u, .u, .u, .u, .u, .u, .u, .u, .u], []⟩) ⟨_, _, _, _, _, _, _, _, _, _, _, _, rfl⟩
  subst hm
  refine ⟨c', ?_⟩
  unfold sem_law
  refine sem_rt (args := [.lstK (ns.map D.int)]) (m := ⟨[.d (.lstK (ns.map D.int)), s1, s2, s3, s4, s5, s6, s7, s8, s9, s10, s11], c'⟩) (N := 12) (n := 1) rfl ?_
  show ex_law ⟨[.d (.lstK (ns.map D.int)), .u, .u, .u, .u, .u, .u, .u, .u, .u, .u, .u], []⟩ = _
  have z0 : szOk 1 = true := rfl
  have z : szOk (1 + xs.length) = true := szOk_of (by omega)
  unfold ex_law
  rw [seq_nx (m' := ⟨[.d (.lstK (ns.map D.int)), s1, s2, s3, s4, s5, s6, s7, s8, s9, s10, s11], c'⟩) (by
    simp [e1, e2, -szOk_add_lit, z, z0]
    exact L)]
  simp
end Wk20

set_option Elab.async false
set_option linter.all false
set_option maxRecDepth 100000
set_option maxHeartbeats 8000000
namespace Wk20
open PySem L2 MP
theorem all_mk {l : PySem.W.OpenLaw} {w : World} {K : PySem.W.Frag} {h : Heap} {mg : Str → Option Value} {fa : Addr} (X : K.In h) (G : h.Ns mainGlobals mg) (hfa : mg "law" = some (.ref fa))
    {f1 : Addr} {od1 an1 : Option Addr} {sl1 : Array (Option Value)} {oc1 kV1 dc1 pm1 cd1 ct1 : Value} {f2 : Addr} {od2 an2 : Option Addr} {sl2 : Array (Option Value)} {oc2 kV2 dc2 pm2 cd2 ct2 : Value} {f3 : Addr} {od3 an3 : Option Addr} {sl3 : Array (Option Value)} {oc3 kV3 dc3 pm3 cd3 ct3 : Value} {f4 : Addr} {od4 an4 : Option Addr} {sl4 : Array (Option Value)} {oc4 kV4 dc4 pm4 cd4 ct4 : Value} {f5 : Addr} {od5 an5 : Option Addr} {sl5 : Array (Option Value)} {oc5 kV5 dc5 pm5 cd5 ct5 : Value} {f6 : Addr} {od6 an6 : Option Addr} {sl6 : Array (Option Value)} {oc6 kV6 dc6 pm6 cd6 ct6 : Value} {f7 : Addr} {od7 an7 : Option Addr} {sl7 : Array (Option Value)} {oc7 kV7 dc7 pm7 cd7 ct7 : Value} {f8 : Addr} {od8 an8 : Option Addr} {sl8 : Array (Option Value)} {oc8 kV8 dc8 pm8 cd8 ct8 : Value} {f9 : Addr} {od9 an9 : Option Addr} {sl9 : Array (Option Value)} {oc9 kV9 dc9 pm9 cd9 ct9 : Value} {f10 : Addr} {od10 an10 : Option Addr} {sl10 : Array (Option Value)} {oc10 kV10 dc10 pm10 cd10 ct10 : Value} {f11 : Addr} {od11 an11 : Option Addr} {sl11 : Array (Option Value)} {oc11 kV11 dc11 pm11 cd11 ct11 : Value} {f12 : Addr} {od12 an12 : Option Addr} {sl12 : Array (Option Value)} {oc12 kV12 dc12 pm12 cd12 ct12 : Value} {f13 : Addr} {od13 an13 : Option Addr} {sl13 : Array (Option Value)} {oc13 kV13 dc13 pm13 cd13 ct13 : Value} {f14 : Addr} {od14 an14 : Option Addr} {sl14 : Array (Option Value)} {oc14 kV14 dc14 pm14 cd14 ct14 : Value} {f15 : Addr} {od15 an15 : Option Addr} {sl15 : Array (Option Value)} {oc15 kV15 dc15 pm15 cd15 ct15 : Value} {tk25 : Tok} {tk26 : Tok} {tk27 : Tok} {A0 : Addr} {A1 : Addr}
    (a1 : PySem.W.nsIn K mainGlobals "is_whole" = some (some (.ref f1))) (l1 : K.lookup f1 = some ⟨oc1, od1, .func (PySem.W.fnOf "is_whole" "is_whole" (defArgs (top 7)) (defBody (top 7)) (defScope (top 7)) .none kV1 dc1 pm1 an1 cd1 ct1), sl1⟩) (c1 : PySem.W.codeIn K cd1 "is_whole" = true) (k1 : PySem.W.keepIn K (.ref f1) = true)
    (a2 : PySem.W.nsIn K mainGlobals "is_list_of" = some (some (.ref f2))) (l2 : K.lookup f2 = some ⟨oc2, od2, .func (PySem.W.fnOf "is_list_of" "is_list_of" (defArgs (top 8)) (defBody (top 8)) (defScope (top 8)) .none kV2 dc2 pm2 an2 cd2 ct2), sl2⟩) (c2 : PySem.W.codeIn K cd2 "is_list_of" = true) (k2 : PySem.W.keepIn K (.ref f2) = true)
    (a3 : PySem.W.nsIn K mainGlobals "check_counts" = some (some (.ref f3))) (l3 : K.lookup f3 = some ⟨oc3, od3, .func (PySem.W.fnOf "check_counts" "check_counts" (defArgs (top 9)) (defBody (top 9)) (defScope (top 9)) .none kV3 dc3 pm3 an3 cd3 ct3), sl3⟩) (c3 : PySem.W.codeIn K cd3 "check_counts" = true) (k3 : PySem.W.keepIn K (.ref f3) = true)
    (a4 : PySem.W.nsIn K mainGlobals "room_of" = some (some (.ref f4))) (l4 : K.lookup f4 = some ⟨oc4, od4, .func (PySem.W.fnOf "room_of" "room_of" (defArgs (top 10)) (defBody (top 10)) (defScope (top 10)) .none kV4 dc4 pm4 an4 cd4 ct4), sl4⟩) (c4 : PySem.W.codeIn K cd4 "room_of" = true) (k4 : PySem.W.keepIn K (.ref f4) = true)
    (a5 : PySem.W.nsIn K mainGlobals "fits" = some (some (.ref f5))) (l5 : K.lookup f5 = some ⟨oc5, od5, .func (PySem.W.fnOf "fits" "fits" (defArgs (top 11)) (defBody (top 11)) (defScope (top 11)) .none kV5 dc5 pm5 an5 cd5 ct5), sl5⟩) (c5 : PySem.W.codeIn K cd5 "fits" = true) (k5 : PySem.W.keepIn K (.ref f5) = true)
    (a6 : PySem.W.nsIn K mainGlobals "check_lengths" = some (some (.ref f6))) (l6 : K.lookup f6 = some ⟨oc6, od6, .func (PySem.W.fnOf "check_lengths" "check_lengths" (defArgs (top 12)) (defBody (top 12)) (defScope (top 12)) .none kV6 dc6 pm6 an6 cd6 ct6), sl6⟩) (c6 : PySem.W.codeIn K cd6 "check_lengths" = true) (k6 : PySem.W.keepIn K (.ref f6) = true)
    (a7 : PySem.W.nsIn K mainGlobals "bits_of" = some (some (.ref f7))) (l7 : K.lookup f7 = some ⟨oc7, od7, .func (PySem.W.fnOf "bits_of" "bits_of" (defArgs (top 13)) (defBody (top 13)) (defScope (top 13)) .none kV7 dc7 pm7 an7 cd7 ct7), sl7⟩) (c7 : PySem.W.codeIn K cd7 "bits_of" = true) (k7 : PySem.W.keepIn K (.ref f7) = true)
    (a8 : PySem.W.nsIn K mainGlobals "_law_cell_at" = some (some (.ref f8))) (l8 : K.lookup f8 = some ⟨oc8, od8, .func (PySem.W.fnOf "_law_cell_at" "_law_cell_at" (defArgs (top 15)) (defBody (top 15)) (defScope (top 15)) .none kV8 dc8 pm8 an8 cd8 ct8), sl8⟩) (c8 : PySem.W.codeIn K cd8 "_law_cell_at" = true) (k8 : PySem.W.keepIn K (.ref f8) = true)
    (a9 : PySem.W.nsIn K mainGlobals "_law_mixed" = some (some (.ref f9))) (l9 : K.lookup f9 = some ⟨oc9, od9, .func (PySem.W.fnOf "_law_mixed" "_law_mixed" (defArgs (top 16)) (defBody (top 16)) (defScope (top 16)) .none kV9 dc9 pm9 an9 cd9 ct9), sl9⟩) (c9 : PySem.W.codeIn K cd9 "_law_mixed" = true) (k9 : PySem.W.keepIn K (.ref f9) = true)
    (a10 : PySem.W.nsIn K mainGlobals "_law_draw" = some (some (.ref f10))) (l10 : K.lookup f10 = some ⟨oc10, od10, .func (PySem.W.fnOf "_law_draw" "_law_draw" (defArgs (top 17)) (defBody (top 17)) (defScope (top 17)) .none kV10 dc10 pm10 an10 cd10 ct10), sl10⟩) (c10 : PySem.W.codeIn K cd10 "_law_draw" = true) (k10 : PySem.W.keepIn K (.ref f10) = true)
    (a11 : PySem.W.nsIn K mainGlobals "_law_one" = some (some (.ref f11))) (l11 : K.lookup f11 = some ⟨oc11, od11, .func (PySem.W.fnOf "_law_one" "_law_one" (defArgs (top 18)) (defBody (top 18)) (defScope (top 18)) .none kV11 dc11 pm11 an11 cd11 ct11), sl11⟩) (c11 : PySem.W.codeIn K cd11 "_law_one" = true) (k11 : PySem.W.keepIn K (.ref f11) = true)
    (a12 : PySem.W.nsIn K mainGlobals "_law_lengths" = some (some (.ref f12))) (l12 : K.lookup f12 = some ⟨oc12, od12, .func (PySem.W.fnOf "_law_lengths" "_law_lengths" (defArgs (top 19)) (defBody (top 19)) (defScope (top 19)) .none kV12 dc12 pm12 an12 cd12 ct12), sl12⟩) (c12 : PySem.W.codeIn K cd12 "_law_lengths" = true) (k12 : PySem.W.keepIn K (.ref f12) = true)
    (a13 : PySem.W.nsIn K mainGlobals "_law_due" = some (some (.ref f13))) (l13 : K.lookup f13 = some ⟨oc13, od13, .func (PySem.W.fnOf "_law_due" "_law_due" (defArgs (top 20)) (defBody (top 20)) (defScope (top 20)) .none kV13 dc13 pm13 an13 cd13 ct13), sl13⟩) (c13 : PySem.W.codeIn K cd13 "_law_due" = true) (k13 : PySem.W.keepIn K (.ref f13) = true)
    (a14 : PySem.W.nsIn K mainGlobals "_law_bits" = some (some (.ref f14))) (l14 : K.lookup f14 = some ⟨oc14, od14, .func (PySem.W.fnOf "_law_bits" "_law_bits" (defArgs (top 21)) (defBody (top 21)) (defScope (top 21)) .none kV14 dc14 pm14 an14 cd14 ct14), sl14⟩) (c14 : PySem.W.codeIn K cd14 "_law_bits" = true) (k14 : PySem.W.keepIn K (.ref f14) = true)
    (a15 : PySem.W.nsIn K mainGlobals "law" = some (some (.ref f15))) (l15 : K.lookup f15 = some ⟨oc15, od15, .func (PySem.W.fnOf "law" "law" (defArgs (top 22)) (defBody (top 22)) (defScope (top 22)) .none kV15 dc15 pm15 an15 cd15 ct15), sl15⟩) (c15 : PySem.W.codeIn K cd15 "law" = true) (k15 : PySem.W.keepIn K (.ref f15) = true)
    (z16 : PySem.W.nsIn K mainGlobals "all" = some none)
    (z17 : PySem.W.nsIn K mainGlobals "bool" = some none)
    (z18 : PySem.W.nsIn K mainGlobals "int" = some none)
    (z19 : PySem.W.nsIn K mainGlobals "isinstance" = some none)
    (z20 : PySem.W.nsIn K mainGlobals "len" = some none)
    (z21 : PySem.W.nsIn K mainGlobals "list" = some none)
    (z22 : PySem.W.nsIn K mainGlobals "range" = some none)
    (z23 : PySem.W.nsIn K mainGlobals "sum" = some none)
    (z24 : PySem.W.nsIn K mainGlobals "zip" = some none)
    (v25 : PySem.W.nsIn K mainGlobals "MOST_SYMBOLS" = some (some (.int 64 tk25)))
    (v26 : PySem.W.nsIn K mainGlobals "MOST_COUNT" = some (some (.int 1000 tk26)))
    (v27 : PySem.W.nsIn K mainGlobals "LONGEST" = some (some (.int 15 tk27)))
    (ea0 : PySem.W.nsIn K mainGlobals "ShelfError" = some (some (.ref A0))) (ex0 : PySem.W.excIn K A0 [.type "ValueError", .type "Exception", .type "BaseException", .type "object"] "ValueError.__new__" = true) (ek0 : PySem.W.keepIn K (.ref A0) = true) (es0 : PySem.W.subIn K (.ref A0) (.type "BaseException") = some true) (et0 : PySem.W.typeIn K (.ref A0) = some (.type "type"))
    (ea1 : PySem.W.nsIn K mainGlobals "BadTable" = some (some (.ref A1))) (ex1 : PySem.W.excIn K A1 [.type "ValueError", .type "Exception", .type "BaseException", .type "object"] "ValueError.__new__" = true) (ek1 : PySem.W.keepIn K (.ref A1) = true) (es1 : PySem.W.subIn K (.ref A1) (.type "BaseException") = some true) (et1 : PySem.W.typeIn K (.ref A1) = some (.type "type"))
    (hd1 : PySem.W.hasDictIn K A1 = true)
    (ec0_1 : PySem.W.subIn K (.ref A0) (.ref A1) = some false)
    (ec1_1 : PySem.W.subIn K (.ref A1) (.ref A1) = some true) :
    ∃ fd : FuncData, (∀ (s : Shared) (v : Value), BindsTo s fd ⟨[v], []⟩ [("script", v)]) ∧ ∀ base : Heap, K.In base → base.Ns mainGlobals mg → FnOk l.prog w K mg base (L2.CX l.prog w) 7 fa fd ["script"] (spLaw K) := by
  have e := (PySem.W.mg_of X G a15).symm.trans hfa
  injection e with e
  injection e with e
  subst e
  let T : Tx ⟨K, fun k => match k with | 0 => A0 | 1 => A1 | _ => 0⟩ mg := {
    a_is_whole := f1, d_is_whole := (PySem.W.fnOf "is_whole" "is_whole" (defArgs (top 7)) (defBody (top 7)) (defScope (top 7)) .none kV1 dc1 pm1 an1 cd1 ct1), F_is_whole := fun_mk (st := top 7) l1 c1 k1, b_is_whole := (fun_mk (st := top 7) l1 c1 k1).binds (ps := ["thing"]) (fun _ _ _ _ _ _ us hl => match us, hl with | [_], _ => rfl), g_is_whole := PySem.W.mg_of X G a1,
    a_is_list_of := f2, d_is_list_of := (PySem.W.fnOf "is_list_of" "is_list_of" (defArgs (top 8)) (defBody (top 8)) (defScope (top 8)) .none kV2 dc2 pm2 an2 cd2 ct2), F_is_list_of := fun_mk (st := top 8) l2 c2 k2, b_is_list_of := (fun_mk (st := top 8) l2 c2 k2).binds (ps := ["thing", "low", "high"]) (fun _ _ _ _ _ _ us hl => match us, hl with | [_, _, _], _ => rfl), g_is_list_of := PySem.W.mg_of X G a2,
    a_check_counts := f3, d_check_counts := (PySem.W.fnOf "check_counts" "check_counts" (defArgs (top 9)) (defBody (top 9)) (defScope (top 9)) .none kV3 dc3 pm3 an3 cd3 ct3), F_check_counts := fun_mk (st := top 9) l3 c3 k3, b_check_counts := (fun_mk (st := top 9) l3 c3 k3).binds (ps := ["counts"]) (fun _ _ _ _ _ _ us hl => match us, hl with | [_], _ => rfl), g_check_counts := PySem.W.mg_of X G a3,
    a_room_of := f4, d_room_of := (PySem.W.fnOf "room_of" "room_of" (defArgs (top 10)) (defBody (top 10)) (defScope (top 10)) .none kV4 dc4 pm4 an4 cd4 ct4), F_room_of := fun_mk (st := top 10) l4 c4 k4, b_room_of := (fun_mk (st := top 10) l4 c4 k4).binds (ps := ["lengths"]) (fun _ _ _ _ _ _ us hl => match us, hl with | [_], _ => rfl), g_room_of := PySem.W.mg_of X G a4,
    a_fits := f5, d_fits := (PySem.W.fnOf "fits" "fits" (defArgs (top 11)) (defBody (top 11)) (defScope (top 11)) .none kV5 dc5 pm5 an5 cd5 ct5), F_fits := fun_mk (st := top 11) l5 c5 k5, b_fits := (fun_mk (st := top 11) l5 c5 k5).binds (ps := ["lengths"]) (fun _ _ _ _ _ _ us hl => match us, hl with | [_], _ => rfl), g_fits := PySem.W.mg_of X G a5,
    a_check_lengths := f6, d_check_lengths := (PySem.W.fnOf "check_lengths" "check_lengths" (defArgs (top 12)) (defBody (top 12)) (defScope (top 12)) .none kV6 dc6 pm6 an6 cd6 ct6), F_check_lengths := fun_mk (st := top 12) l6 c6 k6, b_check_lengths := (fun_mk (st := top 12) l6 c6 k6).binds (ps := ["lengths"]) (fun _ _ _ _ _ _ us hl => match us, hl with | [_], _ => rfl), g_check_lengths := PySem.W.mg_of X G a6,
    a_bits_of := f7, d_bits_of := (PySem.W.fnOf "bits_of" "bits_of" (defArgs (top 13)) (defBody (top 13)) (defScope (top 13)) .none kV7 dc7 pm7 an7 cd7 ct7), F_bits_of := fun_mk (st := top 13) l7 c7 k7, b_bits_of := (fun_mk (st := top 13) l7 c7 k7).binds (ps := ["counts", "lengths"]) (fun _ _ _ _ _ _ us hl => match us, hl with | [_, _], _ => rfl), g_bits_of := PySem.W.mg_of X G a7,
    a__law_cell_at := f8, d__law_cell_at := (PySem.W.fnOf "_law_cell_at" "_law_cell_at" (defArgs (top 15)) (defBody (top 15)) (defScope (top 15)) .none kV8 dc8 pm8 an8 cd8 ct8), F__law_cell_at := fun_mk (st := top 15) l8 c8 k8, b__law_cell_at := (fun_mk (st := top 15) l8 c8 k8).binds (ps := ["script", "k"]) (fun _ _ _ _ _ _ us hl => match us, hl with | [_, _], _ => rfl), g__law_cell_at := PySem.W.mg_of X G a8,
    a__law_mixed := f9, d__law_mixed := (PySem.W.fnOf "_law_mixed" "_law_mixed" (defArgs (top 16)) (defBody (top 16)) (defScope (top 16)) .none kV9 dc9 pm9 an9 cd9 ct9), F__law_mixed := fun_mk (st := top 16) l9 c9 k9, b__law_mixed := (fun_mk (st := top 16) l9 c9 k9).binds (ps := ["cell", "k"]) (fun _ _ _ _ _ _ us hl => match us, hl with | [_, _], _ => rfl), g__law_mixed := PySem.W.mg_of X G a9,
    a__law_draw := f10, d__law_draw := (PySem.W.fnOf "_law_draw" "_law_draw" (defArgs (top 17)) (defBody (top 17)) (defScope (top 17)) .none kV10 dc10 pm10 an10 cd10 ct10), F__law_draw := fun_mk (st := top 17) l10 c10 k10, b__law_draw := (fun_mk (st := top 17) l10 c10 k10).binds (ps := ["draw", "many"]) (fun _ _ _ _ _ _ us hl => match us, hl with | [_, _], _ => rfl), g__law_draw := PySem.W.mg_of X G a10,
    a__law_one := f11, d__law_one := (PySem.W.fnOf "_law_one" "_law_one" (defArgs (top 18)) (defBody (top 18)) (defScope (top 18)) .none kV11 dc11 pm11 an11 cd11 ct11), F__law_one := fun_mk (st := top 18) l11 c11 k11, b__law_one := (fun_mk (st := top 18) l11 c11 k11).binds (ps := ["draw", "some"]) (fun _ _ _ _ _ _ us hl => match us, hl with | [_, _], _ => rfl), g__law_one := PySem.W.mg_of X G a11,
    a__law_lengths := f12, d__law_lengths := (PySem.W.fnOf "_law_lengths" "_law_lengths" (defArgs (top 19)) (defBody (top 19)) (defScope (top 19)) .none kV12 dc12 pm12 an12 cd12 ct12), F__law_lengths := fun_mk (st := top 19) l12 c12 k12, b__law_lengths := (fun_mk (st := top 19) l12 c12 k12).binds (ps := ["draw", "many"]) (fun _ _ _ _ _ _ us hl => match us, hl with | [_, _], _ => rfl), g__law_lengths := PySem.W.mg_of X G a12,
    a__law_due := f13, d__law_due := (PySem.W.fnOf "_law_due" "_law_due" (defArgs (top 20)) (defBody (top 20)) (defScope (top 20)) .none kV13 dc13 pm13 an13 cd13 ct13), F__law_due := fun_mk (st := top 20) l13 c13 k13, b__law_due := (fun_mk (st := top 20) l13 c13 k13).binds (ps := ["counts", "lengths"]) (fun _ _ _ _ _ _ us hl => match us, hl with | [_, _], _ => rfl), g__law_due := PySem.W.mg_of X G a13,
    a__law_bits := f14, d__law_bits := (PySem.W.fnOf "_law_bits" "_law_bits" (defArgs (top 21)) (defBody (top 21)) (defScope (top 21)) .none kV14 dc14 pm14 an14 cd14 ct14), F__law_bits := fun_mk (st := top 21) l14 c14 k14, b__law_bits := (fun_mk (st := top 21) l14 c14 k14).binds (ps := ["counts", "lengths"]) (fun _ _ _ _ _ _ us hl => match us, hl with | [_, _], _ => rfl), g__law_bits := PySem.W.mg_of X G a14,
    a_law := f15, d_law := (PySem.W.fnOf "law" "law" (defArgs (top 22)) (defBody (top 22)) (defScope (top 22)) .none kV15 dc15 pm15 an15 cd15 ct15), F_law := fun_mk (st := top 22) l15 c15 k15, b_law := (fun_mk (st := top 22) l15 c15 k15).binds (ps := ["script"]) (fun _ _ _ _ _ _ us hl => match us, hl with | [_], _ => rfl), g_law := PySem.W.mg_of X G a15,
    z_all := PySem.W.mg_none_of X G z16,
    z_bool := PySem.W.mg_none_of X G z17,
    z_int := PySem.W.mg_none_of X G z18,
    z_isinstance := PySem.W.mg_none_of X G z19,
    z_len := PySem.W.mg_none_of X G z20,
    z_list := PySem.W.mg_none_of X G z21,
    z_range := PySem.W.mg_none_of X G z22,
    z_sum := PySem.W.mg_none_of X G z23,
    z_zip := PySem.W.mg_none_of X G z24,
    t_MOST_SYMBOLS := tk25, v_MOST_SYMBOLS := PySem.W.mg_of X G v25,
    t_MOST_COUNT := tk26, v_MOST_COUNT := PySem.W.mg_of X G v26,
    t_LONGEST := tk27, v_LONGEST := PySem.W.mg_of X G v27,
    A_ShelfError := A0, g_ShelfError := PySem.W.mg_of X G ea0, x_ShelfError := ex0, k_ShelfError := ek0, s_ShelfError := es0, t_ShelfError := et0, e_ShelfError := rfl,
    A_BadTable := A1, g_BadTable := PySem.W.mg_of X G ea1, x_BadTable := ex1, k_BadTable := ek1, s_BadTable := es1, t_BadTable := et1, e_BadTable := rfl,
    c_BadTable := (fun k r h => match k, r, h with | 0, _, h => (by cases h; exact PySem.W.exm_ref es1 hd1 et1 ec0_1) | 1, _, h => (by cases h; exact PySem.W.exm_ref es1 hd1 et1 ec1_1) | k + 2, _, h => nomatch h) }
  exact ⟨T.d_law, fun s v => .of_eq rfl, fun base _ _ => (ok_law (P := l.prog) (w := w) (base := base) T).imp (law_imp (C := ⟨K, fun k => match k with | 0 => A0 | 1 => A1 | _ => 0⟩) law_true)⟩
end Wk20
open PySem PySem.W PyProof.Rows
set_option maxHeartbeats 0 in
theorem PySem.Challenge.cw_tornshelf_k20_whole_bits_by_any_lengths_holds : PySem.Challenge.rw_tornshelf_k20_whole_bits_by_any_lengths.Holds := by
  w_on; o_law; k_head; (case hw => w_witness2)
  k_fill
  refine L2.walk_of (l := PySem.Challenge.rw_tornshelf_k20_whole_bits_by_any_lengths) (n := 63) (k := 7) (x := "script") (CX := fun w => L2.CX PySem.Challenge.rw_tornshelf_k20_whole_bits_by_any_lengths.prog w) (sp := fun w => MP.spLaw _) rfl (by decide) rfl ⟨rfl, by decide, by decide⟩ (fun w h Y => PySem.W.kIn_of Y) ?F (fun _ _ a ns hl _ hS => ⟨a, ns, rfl, hS, hl, fun _ => rfl⟩) (fun _ _ _ _ _ h => MP.cx_none h)
  case F =>
    intro w mg fa h KX G hmg
    refine' Wk20.all_mk KX G hmg ?a1 ?l1 ?c1 ?k1 ?a2 ?l2 ?c2 ?k2 ?a3 ?l3 ?c3 ?k3 ?a4 ?l4 ?c4 ?k4 ?a5 ?l5 ?c5 ?k5 ?a6 ?l6 ?c6 ?k6 ?a7 ?l7 ?c7 ?k7 ?a8 ?l8 ?c8 ?k8 ?a9 ?l9 ?c9 ?k9 ?a10 ?l10 ?c10 ?k10 ?a11 ?l11 ?c11 ?k11 ?a12 ?l12 ?c12 ?k12 ?a13 ?l13 ?c13 ?k13 ?a14 ?l14 ?c14 ?k14 ?a15 ?l15 ?c15 ?k15 ?z16 ?z17 ?z18 ?z19 ?z20 ?z21 ?z22 ?z23 ?z24 ?v25 ?v26 ?v27 ?ea0 ?ex0 ?ek0 ?es0 ?et0 ?ea1 ?ex1 ?ek1 ?es1 ?et1 ?hd1 ?ec0_1 ?ec1_1
    (case a1 => k_is); (case l1 => k_is); (case c1 => k_is); (case k1 => k_is); (case a2 => k_is); (case l2 => k_is); (case c2 => k_is); (case k2 => k_is); (case a3 => k_is); (case l3 => k_is); (case c3 => k_is); (case k3 => k_is); (case a4 => k_is); (case l4 => k_is); (case c4 => k_is); (case k4 => k_is); (case a5 => k_is); (case l5 => k_is); (case c5 => k_is); (case k5 => k_is); (case a6 => k_is); (case l6 => k_is); (case c6 => k_is); (case k6 => k_is); (case a7 => k_is); (case l7 => k_is); (case c7 => k_is); (case k7 => k_is); (case a8 => k_is); (case l8 => k_is); (case c8 => k_is); (case k8 => k_is); (case a9 => k_is); (case l9 => k_is); (case c9 => k_is); (case k9 => k_is); (case a10 => k_is); (case l10 => k_is); (case c10 => k_is); (case k10 => k_is); (case a11 => k_is); (case l11 => k_is); (case c11 => k_is); (case k11 => k_is); (case a12 => k_is); (case l12 => k_is); (case c12 => k_is); (case k12 => k_is); (case a13 => k_is); (case l13 => k_is); (case c13 => k_is); (case k13 => k_is); (case a14 => k_is); (case l14 => k_is); (case c14 => k_is); (case k14 => k_is); (case a15 => k_is); (case l15 => k_is); (case c15 => k_is); (case k15 => k_is); (case z16 => k_is); (case z17 => k_is); (case z18 => k_is); (case z19 => k_is); (case z20 => k_is); (case z21 => k_is); (case z22 => k_is); (case z23 => k_is); (case z24 => k_is); (case v25 => k_is); (case v26 => k_is); (case v27 => k_is); (case ea0 => k_is); (case ex0 => k_exc); (case ek0 => k_is); (case es0 => k_is); (case et0 => k_is); (case ea1 => k_is); (case ex1 => k_exc); (case ek1 => k_is); (case es1 => k_is); (case et1 => k_is); (case hd1 => k_is); (case ec0_1 => k_is); (case ec1_1 => k_is)

