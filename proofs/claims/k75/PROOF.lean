import PyProof.Rows.All
import Wide.All
import OpenK.AllK
import Wide.FinOn
import HandS.ForMost
import HandS.ForExc
import HandS.IsInst
import HandS.Flow
import HandS.Style
import HandS.More
import HandS.TryMany
import HandS.ExcInit
import HandS.ExcIs
import HandS.ExcField
import HandS.Strs
import HandS.Replace
import HandS.Text
import PySem.Challenge.RW_tornshelf_k75_whole_far_torn_rows
set_option Elab.async false
set_option linter.all false
set_option maxRecDepth 100000
set_option maxHeartbeats 4000000
namespace MP
open PySem L2

/-! ### plain data, cells, states -/
inductive D where
  | non | bl (b : Bool) | int (i : Int) | str (s : Str) | ty (n : String)
  | lst (xs : List D) | tup (xs : List D) | lstK (xs : List D) | tupK (xs : List D) | ref (id : Nat) | sl (i : Nat)

inductive Cell where
  | lst (xs : List D) | dK (kvs : List (Key × D)) | dT (kvs : List (List Key × D)) | ins (c : Nat) (fs : List (Str × D)) | gone

inductive Sl where
  | u | d (x : D) | own (xs : List D)

structure MSt where
  g : List Sl
  c : List Cell

structure Exc where
  c : Nat
  fs : List (Str × D)

inductive Rs (α : Type) where
  | ok (a : α) | exc (x : Exc)

inductive DV where
  | val (d : D) | own (xs : List D)

structure Ctx where
  K : PySem.W.Frag
  cm : Nat → Addr

/-! ### what a value means in a frozen heap -/
mutual
inductive RD (K : PySem.W.Frag) (ρ : List Addr) (R : Hp) : V → D → Prop
  | non : RD K ρ R .non .non
  | bl (b : Bool) : RD K ρ R (.bl b) (.bl b)
  | int (i : Int) : RD K ρ R (.int i) (.int i)
  | str (s : Str) : RD K ρ R (.str s) (.str s)
  | ty (n : String) : RD K ρ R (.ty n) (.ty n)
  | lst {a : Addr} {vs : List V} {ds : List D} : R a = some (.lst vs) → RDs K ρ R vs ds → RD K ρ R (.ref a) (.lst ds)
  | tup {a : Addr} {vs : List V} {ds : List D} : R a = some (.tup vs) → RDs K ρ R vs ds → RD K ρ R (.ref a) (.tup ds)
  | lstK {a : Addr} {vs : List V} {ds : List D} : SqL K R a vs → RDs K ρ R vs ds → RD K ρ R (.ref a) (.lstK ds)
  | tupK {a : Addr} {vs : List V} {ds : List D} : SqT K R a vs → RDs K ρ R vs ds → RD K ρ R (.ref a) (.tupK ds)
  | ref {a : Addr} {id : Nat} : ρ[id]? = some a → RD K ρ R (.ref a) (.ref id)
inductive RDs (K : PySem.W.Frag) (ρ : List Addr) (R : Hp) : List V → List D → Prop
  | nil : RDs K ρ R [] []
  | cons {v : V} {d : D} {vs : List V} {ds : List D} : RD K ρ R v d → RDs K ρ R vs ds → RDs K ρ R (v :: vs) (d :: ds)
end

theorem same_t {K : PySem.W.Frag} {H H' : Hp} {a : Addr} {xs : List V} (e : Same H H') (h : SqT K H a xs) : SqT K H' a xs := by
  rcases h with (h | ⟨o, h⟩) | h
  · exact .inl (.inl (e _ _ h))
  · exact .inl (.inr ⟨o, e _ _ h⟩)
  · exact .inr h

theorem pre_get {α : Type} {l l' : List α} (h : l <+: l') {i : Nat} {a : α} (e : l[i]? = some a) : l'[i]? = some a := by
  obtain ⟨t, rfl⟩ := h
  have hl : i < l.length := (List.getElem?_eq_some_iff.mp e).1
  rw [List.getElem?_append_left hl]
  exact e

mutual
theorem RD.up {K : PySem.W.Frag} {ρ ρ' : List Addr} {R R' : Hp} (hp : ρ <+: ρ') (hr : Same R R') : ∀ {v : V} {d : D}, RD K ρ R v d → RD K ρ' R' v d
  | _, _, .non => .non
  | _, _, .bl b => .bl b
  | _, _, .int i => .int i
  | _, _, .str s => .str s
  | _, _, .ty n => .ty n
  | _, _, .lst h hs => .lst (hr _ _ h) (RDs.up hp hr hs)
  | _, _, .tup h hs => .tup (hr _ _ h) (RDs.up hp hr hs)
  | _, _, .lstK h hs => .lstK (hr.seq h) (RDs.up hp hr hs)
  | _, _, .tupK h hs => .tupK (same_t hr h) (RDs.up hp hr hs)
  | _, _, .ref h => .ref (pre_get hp h)
theorem RDs.up {K : PySem.W.Frag} {ρ ρ' : List Addr} {R R' : Hp} (hp : ρ <+: ρ') (hr : Same R R') : ∀ {vs : List V} {ds : List D}, RDs K ρ R vs ds → RDs K ρ' R' vs ds
  | _, _, .nil => .nil
  | _, _, .cons h hs => .cons (RD.up hp hr h) (RDs.up hp hr hs)
end

section
variable {K : PySem.W.Frag} {ρ : List Addr} {R : Hp}
theorem RDs.length : ∀ {vs : List V} {ds : List D}, RDs K ρ R vs ds → vs.length = ds.length
  | _, _, .nil => rfl
  | _, _, .cons _ h => congrArg (· + 1) h.length
theorem RDs.append : ∀ {vs ws : List V} {ds es : List D}, RDs K ρ R vs ds → RDs K ρ R ws es → RDs K ρ R (vs ++ ws) (ds ++ es)
  | _, _, _, _, .nil, h => h
  | _, _, _, _, .cons a b, h => .cons a (RDs.append b h)
theorem RDs.get : ∀ {vs : List V} {ds : List D} {i : Nat} {v : V} , RDs K ρ R vs ds → vs[i]? = some v → ∃ d, ds[i]? = some d ∧ RD K ρ R v d
  | _, _, _, _, .nil, e => by simp at e
  | _, _, 0, _, .cons a _, e => by simp at e; subst e; exact ⟨_, rfl, a⟩
  | _, _, i + 1, _, .cons _ b, e => by
    obtain ⟨d, h1, h2⟩ := RDs.get (i := i) b (by simpa using e)
    exact ⟨d, by simpa using h1, h2⟩
theorem RDs.get' : ∀ {vs : List V} {ds : List D} {i : Nat} {d : D} , RDs K ρ R vs ds → ds[i]? = some d → ∃ v, vs[i]? = some v ∧ RD K ρ R v d
  | _, _, _, _, .nil, e => by simp at e
  | _, _, 0, _, .cons a _, e => by simp at e; subst e; exact ⟨_, rfl, a⟩
  | _, _, i + 1, _, .cons _ b, e => by
    obtain ⟨d, h1, h2⟩ := RDs.get' (i := i) b (by simpa using e)
    exact ⟨d, by simpa using h1, h2⟩
theorem RDs.set : ∀ {vs : List V} {ds : List D} (i : Nat) {v : V} {d : D}, RD K ρ R v d → RDs K ρ R vs ds → RDs K ρ R (vs.set i v) (ds.set i d)
  | _, _, _, _, _, _, .nil => .nil
  | _, _, 0, _, _, h, .cons _ b => .cons h b
  | _, _, i + 1, _, _, h, .cons a b => .cons a (RDs.set i h b)
theorem RDs.take : ∀ {vs : List V} {ds : List D} (i : Nat), RDs K ρ R vs ds → RDs K ρ R (vs.take i) (ds.take i)
  | _, _, 0, _ => .nil
  | _, _, i + 1, .nil => .nil
  | _, _, i + 1, .cons a b => .cons a (RDs.take i b)
theorem RDs.drop : ∀ {vs : List V} {ds : List D} (i : Nat), RDs K ρ R vs ds → RDs K ρ R (vs.drop i) (ds.drop i)
  | _, _, 0, h => h
  | _, _, i + 1, .nil => .nil
  | _, _, i + 1, .cons a b => RDs.drop i b
theorem RDs.eraseIdx : ∀ {vs : List V} {ds : List D} (i : Nat), RDs K ρ R vs ds → RDs K ρ R (vs.eraseIdx i) (ds.eraseIdx i)
  | _, _, _, .nil => .nil
  | _, _, 0, .cons _ b => b
  | _, _, i + 1, .cons a b => .cons a (RDs.eraseIdx i b)
theorem RDs.ints : ∀ {vs : List V} {ns : List Int}, RDs K ρ R vs (ns.map D.int) → vs = ns.map V.int
  | _, [], .nil => rfl
  | _, n :: ns, .cons a b => by
    cases a
    rw [RDs.ints b]
    rfl
theorem RDs.of_ints : ∀ (ns : List Int), RDs K ρ R (ns.map V.int) (ns.map D.int)
  | [] => .nil
  | n :: ns => .cons (.int n) (RDs.of_ints ns)
theorem RDs.of_rep {v : V} {d : D} (h : RD K ρ R v d) : ∀ n, RDs K ρ R (List.replicate n v) (List.replicate n d)
  | 0 => .nil
  | n + 1 => .cons h (RDs.of_rep h n)
theorem RDs.reverse : ∀ {vs : List V} {ds : List D}, RDs K ρ R vs ds → RDs K ρ R vs.reverse ds.reverse
  | _, _, .nil => .nil
  | _, _, .cons a b => by
    rw [List.reverse_cons, List.reverse_cons]
    exact (RDs.reverse b).append (.cons a .nil)
end

/-! ### what is owned -/
abbrev Res := Addr × HO
structure Own (R H : Hp) (L : List Res) : Prop where
  same : Same R H
  nd : (L.map (·.1)).Nodup
  at' : ∀ p ∈ L, H p.1 = some p.2 ∧ R p.1 = none

theorem Own.perm {R H : Hp} {L L' : List Res} (o : Own R H L) (p : L.Perm L') : Own R H L' :=
  ⟨o.same, (p.map _).nodup_iff.mp o.nd, fun q hq => o.at' q (p.mem_iff.mpr hq)⟩
theorem Own.sub {R H : Hp} {L L' : List Res} (o : Own R H L) (p : L'.Sublist L) : Own R H L' :=
  ⟨o.same, (p.map _).nodup o.nd, fun q hq => o.at' q (p.subset hq)⟩
theorem Own.free {R H : Hp} {L : List Res} (o : Own R H L) {p : Addr} (h : H p = none) : R p = none ∧ ∀ q ∈ L, q.1 ≠ p :=
  ⟨o.same.free h, fun q hq e => by
    have := (o.at' q hq).1
    rw [e, h] at this
    cases this⟩
theorem Own.alloc {R H : Hp} {L : List Res} (o : Own R H L) {p : Addr} {u : HO} (h : H p = none) : Own R (upd H p u) ((p, u) :: L) := by
  obtain ⟨f1, f2⟩ := o.free h
  refine ⟨fun b x e => ?_, ?_, fun q hq => ?_⟩
  · rw [upd_ne (ne_of_none e f1)]
    exact o.same b x e
  · rw [List.map_cons, List.nodup_cons]
    refine ⟨fun hm => ?_, o.nd⟩
    obtain ⟨q, hq, e⟩ := List.mem_map.mp hm
    exact f2 q hq e
  · rcases List.mem_cons.mp hq with rfl | hq
    · exact ⟨upd_same, f1⟩
    · rw [upd_ne (f2 q hq)]
      exact o.at' q hq
theorem Own.frz {R H : Hp} {L : List Res} (o : Own R H L) {p : Addr} {u : HO} (h : H p = none) : Own (upd R p u) (upd H p u) L := by
  obtain ⟨f1, f2⟩ := o.free h
  refine ⟨fun b x e => ?_, o.nd, fun q hq => ?_⟩
  · by_cases hb : b = p
    · subst hb
      rw [upd_same] at e ⊢
      exact e
    · rw [upd_ne hb] at e ⊢
      exact o.same b x e
  · rw [upd_ne (f2 q hq), upd_ne (f2 q hq)]
    exact o.at' q hq
theorem Own.freeze {R H : Hp} {L : List Res} {p : Addr} {u : HO} (o : Own R H ((p, u) :: L)) : Own (upd R p u) H L := by
  have hp := o.at' (p, u) List.mem_cons_self
  have nd := o.nd
  rw [List.map_cons, List.nodup_cons] at nd
  have f2 : ∀ q ∈ L, q.1 ≠ p := fun q hq e => nd.1 (List.mem_map.mpr ⟨q, hq, e⟩)
  refine ⟨fun b x e => ?_, nd.2, fun q hq => ?_⟩
  · by_cases hb : b = p
    · subst hb
      rw [upd_same] at e
      rw [← e]
      exact hp.1
    · rw [upd_ne hb] at e
      exact o.same b x e
  · rw [upd_ne (f2 q hq)]
    exact o.at' q (List.mem_cons_of_mem _ hq)
theorem Own.set {R H : Hp} {L : List Res} {p : Addr} {u u' : HO} (o : Own R H ((p, u) :: L)) : Own R (upd H p u') ((p, u') :: L) := by
  have hp := o.at' (p, u) List.mem_cons_self
  have nd := o.nd
  rw [List.map_cons, List.nodup_cons] at nd
  have f2 : ∀ q ∈ L, q.1 ≠ p := fun q hq e => nd.1 (List.mem_map.mpr ⟨q, hq, e⟩)
  refine ⟨fun b x e => ?_, o.nd, fun q hq => ?_⟩
  · rw [upd_ne (ne_of_none e hp.2)]
    exact o.same b x e
  · rcases List.mem_cons.mp hq with rfl | hq
    · exact ⟨upd_same, hp.2⟩
    · rw [upd_ne (f2 q hq)]
      exact o.at' q (List.mem_cons_of_mem _ hq)
theorem same_frz {R : Hp} {p : Addr} {u : HO} (h : R p = none) : Same R (upd R p u) := fun b x e => by
  rw [upd_ne (ne_of_none e h)]
  exact e

/-! ### two lists side by side with what they own -/
inductive All2 {α β : Type} (P : α → β → List Res → Prop) : List α → List β → List Res → Prop
  | nil : All2 P [] [] []
  | cons {a : α} {b : β} {l L : List Res} {as : List α} {bs : List β} : P a b l → All2 P as bs L → All2 P (a :: as) (b :: bs) (l ++ L)

section
variable {α β : Type} {P P' : α → β → List Res → Prop}
theorem All2.length : ∀ {as : List α} {bs : List β} {L : List Res}, All2 P as bs L → as.length = bs.length
  | _, _, _, .nil => rfl
  | _, _, _, .cons _ h => congrArg (· + 1) h.length
theorem All2.imp (h : ∀ a b l, P a b l → P' a b l) : ∀ {as : List α} {bs : List β} {L : List Res}, All2 P as bs L → All2 P' as bs L
  | _, _, _, .nil => .nil
  | _, _, _, .cons x y => .cons (h _ _ _ x) (All2.imp h y)
theorem All2.at : ∀ {as : List α} {bs : List β} {L : List Res} {i : Nat} {b : β}, All2 P as bs L → bs[i]? = some b →
    ∃ a l L1 L2, as[i]? = some a ∧ P a b l ∧ L = L1 ++ (l ++ L2) ∧ ∀ P' : α → β → List Res → Prop, (∀ a b l, P a b l → P' a b l) → ∀ a' b' l', P' a' b' l' → All2 P' (as.set i a') (bs.set i b') (L1 ++ (l' ++ L2))
  | _, _, _, _, _, .nil, e => by simp at e
  | _, _, _, 0, _, .cons (a := a) (l := l) (L := L) x y, e => by
    simp at e
    subst e
    exact ⟨a, l, [], L, rfl, x, rfl, fun P' hP a' b' l' h => by
      show All2 P' (a' :: _) (b' :: _) (l' ++ L)
      exact .cons h (All2.imp hP y)⟩
  | _, _, _, i + 1, b, .cons (a := a0) (l := l0) (L := L0) x y, e => by
    obtain ⟨a, l, L1, L2, h1, h2, h3, h4⟩ := All2.at (i := i) (b := b) y (by simpa using e)
    refine ⟨a, l, l0 ++ L1, L2, by simpa using h1, h2, by rw [h3, List.append_assoc], fun P' hP a' b' l' h => ?_⟩
    rw [List.append_assoc]
    exact .cons (hP _ _ _ x) (h4 P' hP a' b' l' h)
theorem All2.append : ∀ {as as' : List α} {bs bs' : List β} {L L' : List Res}, All2 P as bs L → All2 P as' bs' L' → All2 P (as ++ as') (bs ++ bs') (L ++ L')
  | _, _, _, _, _, _, .nil, h => h
  | _, _, _, _, _, _, .cons x y, h => by
    rw [List.append_assoc]
    exact .cons x (All2.append y h)
end

/-- a slot -/
inductive SlR (K : PySem.W.Frag) (ρ : List Addr) (R : Hp) : Option V → Sl → List Res → Prop
  | u {x : Option V} : SlR K ρ R x .u []
  | d {v : V} {x : D} : RD K ρ R v x → SlR K ρ R (some v) (.d x) []
  | own {p : Addr} {vs : List V} {xs : List D} : RDs K ρ R vs xs → SlR K ρ R (some (.ref p)) (.own xs) [(p, .lst vs)]

inductive RKs (K : PySem.W.Frag) (ρ : List Addr) (R : Hp) {κ : Type} : List (κ × V) → List (κ × D) → Prop
  | nil : RKs K ρ R [] []
  | cons {k : κ} {v : V} {d : D} {vs : List (κ × V)} {ds : List (κ × D)} : RD K ρ R v d → RKs K ρ R vs ds → RKs K ρ R ((k, v) :: vs) ((k, d) :: ds)

/-- a cell at an address -/
inductive CeR (C : Ctx) (ρ : List Addr) (R : Hp) : Addr → Cell → List Res → Prop
  | lst {a : Addr} {vs : List V} {xs : List D} : RDs C.K ρ R vs xs → CeR C ρ R a (.lst xs) [(a, .lst vs)]
  | dK {a : Addr} {vs : List (Key × V)} {xs : List (Key × D)} : RKs C.K ρ R vs xs → CeR C ρ R a (.dK xs) [(a, .dK vs)]
  | dT {a : Addr} {vs : List (List Key × V)} {xs : List (List Key × D)} : RKs C.K ρ R vs xs → CeR C ρ R a (.dT xs) [(a, .dT vs)]
  | ins {a dx : Addr} {c : Nat} {vs : List (Str × V)} {xs : List (Str × D)} : RKs C.K ρ R vs xs → CeR C ρ R a (.ins c xs) [(a, .ins (C.cm c) dx vs), (dx, .own a)]
  | gone {a : Addr} : CeR C ρ R a .gone []

section
variable {K : PySem.W.Frag} {ρ ρ' : List Addr} {R R' : Hp} {κ : Type}
theorem RKs.up (hp : ρ <+: ρ') (hr : Same R R') : ∀ {vs : List (κ × V)} {ds : List (κ × D)}, RKs K ρ R vs ds → RKs K ρ' R' vs ds
  | _, _, .nil => .nil
  | _, _, .cons h hs => .cons (h.up hp hr) (RKs.up hp hr hs)
theorem SlR.up (hp : ρ <+: ρ') (hr : Same R R') {x : Option V} {g : Sl} {l : List Res} : SlR K ρ R x g l → SlR K ρ' R' x g l
  | .u => .u
  | .d h => .d (h.up hp hr)
  | .own h => .own (h.up hp hr)
theorem CeR.up {C : Ctx} (hp : ρ <+: ρ') (hr : Same R R') {a : Addr} {g : Cell} {l : List Res} : CeR C ρ R a g l → CeR C ρ' R' a g l
  | .lst h => .lst (h.up hp hr)
  | .dK h => .dK (h.up hp hr)
  | .dT h => .dT (h.up hp hr)
  | .ins h => .ins (h.up hp hr)
  | .gone => .gone
theorem RKs.length : ∀ {vs : List (κ × V)} {ds : List (κ × D)}, RKs K ρ R vs ds → vs.length = ds.length
  | _, _, .nil => rfl
  | _, _, .cons _ h => congrArg (· + 1) h.length
end

/-- the state of a frame and all that is owned -/
def Sat (C : Ctx) (ρ : List Addr) (R : Hp) (F : List Res) (σ : St) (H : Hp) (m : MSt) : Prop :=
  ∃ ls lc, All2 (SlR C.K ρ R) σ m.g ls ∧ All2 (CeR C ρ R) ρ m.c lc ∧ Own R H (ls ++ (lc ++ F))

section
variable {C : Ctx} {ρ : List Addr} {R H : Hp} {F : List Res} {σ : St} {m : MSt} {p : Addr} {u : HO}
theorem Sat.same (S : Sat C ρ R F σ H m) : Same R H := by
  obtain ⟨_, _, _, _, o⟩ := S
  exact o.same
theorem Sat.len (S : Sat C ρ R F σ H m) : σ.length = m.g.length := by
  obtain ⟨_, _, h, _, _⟩ := S
  exact h.length
theorem Sat.clen (S : Sat C ρ R F σ H m) : ρ.length = m.c.length := by
  obtain ⟨_, _, _, h, _⟩ := S
  exact h.length
/-- a new object that never changes -/
theorem Sat.frz (S : Sat C ρ R F σ H m) (h : H p = none) : Sat C ρ (upd R p u) F σ (upd H p u) m ∧ Same R (upd R p u) := by
  obtain ⟨ls, lc, h1, h2, o⟩ := S
  have sm : Same R (upd R p u) := same_frz (o.free h).1
  exact ⟨⟨ls, lc, h1.imp fun _ _ _ x => x.up (List.prefix_refl _) sm, h2.imp fun _ _ _ x => x.up (List.prefix_refl _) sm, o.frz h⟩, sm⟩
theorem perm_front (A B : List Res) (x : Res) (F : List Res) : (x :: (A ++ (B ++ F))).Perm (A ++ (B ++ x :: F)) := by
  have h1 : (A ++ (B ++ x :: F)) = (A ++ B) ++ x :: F := by rw [List.append_assoc]
  have h2 : (x :: (A ++ (B ++ F))) = x :: ((A ++ B) ++ F) := by rw [List.append_assoc]
  rw [h1, h2]
  exact List.perm_middle.symm
/-- a new object that is owned by the one who holds it -/
theorem Sat.res (S : Sat C ρ R F σ H m) (h : H p = none) : Sat C ρ R ((p, u) :: F) σ (upd H p u) m := by
  obtain ⟨ls, lc, h1, h2, o⟩ := S
  exact ⟨ls, lc, h1, h2, (o.alloc h).perm (perm_front ls lc (p, u) F)⟩
theorem Sat.freeze (S : Sat C ρ R ((p, u) :: F) σ H m) : Sat C ρ (upd R p u) F σ H m ∧ Same R (upd R p u) := by
  obtain ⟨ls, lc, h1, h2, o⟩ := S
  have o' := o.perm (perm_front ls lc (p, u) F).symm
  have sm : Same R (upd R p u) := same_frz (o'.at' (p, u) List.mem_cons_self).2
  exact ⟨⟨ls, lc, h1.imp fun _ _ _ x => x.up (List.prefix_refl _) sm, h2.imp fun _ _ _ x => x.up (List.prefix_refl _) sm, o'.freeze⟩, sm⟩
theorem Sat.dropF {x : Res} (S : Sat C ρ R (x :: F) σ H m) : Sat C ρ R F σ H m := by
  obtain ⟨ls, lc, h1, h2, o⟩ := S
  refine ⟨ls, lc, h1, h2, o.sub ?_⟩
  exact (List.Sublist.refl ls).append ((List.Sublist.refl lc).append (List.sublist_cons_self _ _))
theorem Sat.resAt (S : Sat C ρ R ((p, u) :: F) σ H m) : H p = some u ∧ R p = none := by
  obtain ⟨ls, lc, h1, h2, o⟩ := S
  exact (o.perm (perm_front ls lc (p, u) F).symm).at' (p, u) List.mem_cons_self
theorem Sat.resSet {u' : HO} (S : Sat C ρ R ((p, u) :: F) σ H m) : Sat C ρ R ((p, u') :: F) σ (upd H p u') m := by
  obtain ⟨ls, lc, h1, h2, o⟩ := S
  exact ⟨ls, lc, h1, h2, (o.perm (perm_front ls lc (p, u) F).symm).set.perm (perm_front ls lc (p, u') F)⟩
/-- a slot that holds plain data -/
theorem Sat.slot {i : Nat} {d : D} (S : Sat C ρ R F σ H m) (h : m.g[i]? = some (.d d)) : ∃ v, σ[i]? = some (some v) ∧ RD C.K ρ R v d := by
  obtain ⟨ls, lc, h1, h2, o⟩ := S
  obtain ⟨a, l, L1, L2, e1, r, _, _⟩ := h1.at h
  cases r with
  | d r => exact ⟨_, e1, r⟩
theorem own_mid {L1 L2 M F : List Res} (x : Res) : (x :: (L1 ++ (L2 ++ (M ++ F)))).Perm ((L1 ++ ([x] ++ L2)) ++ (M ++ F)) := by
  have : (L1 ++ ([x] ++ L2)) ++ (M ++ F) = L1 ++ (x :: (L2 ++ (M ++ F))) := by simp
  rw [this]
  exact List.perm_middle.symm
theorem Sat.slotOwn {i : Nat} {xs : List D} (S : Sat C ρ R F σ H m) (h : m.g[i]? = some (.own xs)) : ∃ p vs, σ[i]? = some (some (.ref p)) ∧ H p = some (.lst vs) ∧ RDs C.K ρ R vs xs ∧
    (∀ vs' xs', RDs C.K ρ R vs' xs' → Sat C ρ R F σ (upd H p (.lst vs')) { m with g := m.g.set i (.own xs') }) ∧
    (Sat C ρ (upd R p (.lst vs)) F σ H { m with g := m.g.set i (.d (.lst xs)) } ∧ Same R (upd R p (.lst vs))) ∧ Sat C ρ R ((p, .lst vs) :: F) σ H { m with g := m.g.set i .u } := by
  obtain ⟨ls, lc, h1, h2, o⟩ := S
  obtain ⟨a, l, L1, L2, e1, r, eL, hs⟩ := h1.at h
  cases r with
  | @own p vs _ r =>
    have o' : Own R H ((p, HO.lst vs) :: (L1 ++ (L2 ++ (lc ++ F)))) := by
      rw [eL] at o
      exact o.perm (own_mid (p, HO.lst vs)).symm
    have hi : i < σ.length := (List.getElem?_eq_some_iff.mp e1).1
    have ea : σ.set i (some (V.ref p)) = σ := by
      apply List.ext_getElem?
      intro j
      by_cases hj : i = j
      · subst hj; rw [List.getElem?_set_self hi, e1]
      · rw [List.getElem?_set_ne hj]
    have hp := o'.at' (p, HO.lst vs) List.mem_cons_self
    refine ⟨p, vs, e1, hp.1, r, fun vs' xs' r' => ?_, ⟨?_, same_frz hp.2⟩, ?_⟩
    · have q := hs _ (fun _ _ _ x => x) (some (V.ref p)) (.own xs') [(p, .lst vs')] (.own r')
      rw [ea] at q
      exact ⟨_, lc, q, h2, o'.set.perm (own_mid (p, HO.lst vs'))⟩
    · have sm : Same R (upd R p (.lst vs)) := same_frz hp.2
      have q := hs (SlR C.K ρ (upd R p (.lst vs))) (fun _ _ _ x => x.up (List.prefix_refl _) sm) (some (V.ref p)) (.d (.lst xs)) [] (.d (.lst upd_same (r.up (List.prefix_refl _) sm)))
      rw [ea] at q
      refine ⟨_, lc, q, h2.imp fun _ _ _ x => x.up (List.prefix_refl _) sm, ?_⟩
      have := o'.freeze
      simpa using this
    · have q := hs _ (fun _ _ _ x => x) (some (V.ref p)) .u [] .u
      rw [ea] at q
      refine ⟨_, lc, q, h2, ?_⟩
      have e3 : (L1 ++ ([] ++ L2)) ++ (lc ++ (p, HO.lst vs) :: F) = (L1 ++ L2) ++ (lc ++ (p, HO.lst vs) :: F) := by simp
      rw [e3]
      have e4 : (p, HO.lst vs) :: (L1 ++ (L2 ++ (lc ++ F))) = (p, HO.lst vs) :: ((L1 ++ L2) ++ (lc ++ F)) := by simp
      rw [e4] at o'
      exact o'.perm (perm_front (L1 ++ L2) lc (p, HO.lst vs) F)
/-- a slot is stored -/
theorem Sat.set {i : Nat} {v : V} {d : D} (S : Sat C ρ R F σ H m) (r : RD C.K ρ R v d) : Sat C ρ R F (σ.set i (some v)) H { m with g := m.g.set i (.d d) } := by
  obtain ⟨ls, lc, h1, h2, o⟩ := S
  cases e : m.g[i]? with
  | none =>
    have hl := h1.length
    have hi : m.g.length ≤ i := List.getElem?_eq_none_iff.mp e
    rw [List.set_eq_of_length_le (by omega)]
    refine ⟨ls, lc, ?_, h2, o⟩
    show All2 _ σ (m.g.set i _) ls
    rw [List.set_eq_of_length_le hi]
    exact h1
  | some b =>
    obtain ⟨a, l, L1, L2, e1, r0, eL, hs⟩ := h1.at e
    refine ⟨_, lc, hs _ (fun _ _ _ x => x) (some v) (.d d) [] (.d r), h2, ?_⟩
    rw [eL] at o
    refine o.sub ?_
    exact ((List.Sublist.refl L1).append ((List.nil_sublist l).append (List.Sublist.refl L2))).append (List.Sublist.refl _)
theorem Sat.unset {i : Nat} {x : Option V} (S : Sat C ρ R F σ H m) : Sat C ρ R F (σ.set i x) H { m with g := m.g.set i .u } := by
  obtain ⟨ls, lc, h1, h2, o⟩ := S
  cases e : m.g[i]? with
  | none =>
    have hl := h1.length
    have hi : m.g.length ≤ i := List.getElem?_eq_none_iff.mp e
    rw [List.set_eq_of_length_le (by omega)]
    refine ⟨ls, lc, ?_, h2, o⟩
    show All2 _ σ (m.g.set i _) ls
    rw [List.set_eq_of_length_le hi]
    exact h1
  | some b =>
    obtain ⟨a, l, L1, L2, e1, r0, eL, hs⟩ := h1.at e
    refine ⟨_, lc, hs _ (fun _ _ _ x => x) x .u [] .u, h2, ?_⟩
    rw [eL] at o
    refine o.sub ?_
    exact ((List.Sublist.refl L1).append ((List.nil_sublist l).append (List.Sublist.refl L2))).append (List.Sublist.refl _)
theorem Sat.setOwn {i : Nat} {vs : List V} {xs : List D} (S : Sat C ρ R ((p, .lst vs) :: F) σ H m) (r : RDs C.K ρ R vs xs) : Sat C ρ R F (σ.set i (some (.ref p))) H { m with g := m.g.set i (.own xs) } := by
  obtain ⟨ls, lc, h1, h2, o⟩ := S
  cases e : m.g[i]? with
  | none =>
    have hl := h1.length
    have hi : m.g.length ≤ i := List.getElem?_eq_none_iff.mp e
    rw [List.set_eq_of_length_le (by omega)]
    refine ⟨ls, lc, ?_, h2, o.sub ?_⟩
    · show All2 _ σ (m.g.set i _) ls
      rw [List.set_eq_of_length_le hi]
      exact h1
    · exact (List.Sublist.refl ls).append ((List.Sublist.refl lc).append (List.sublist_cons_self _ _))
  | some b =>
    obtain ⟨a, l, L1, L2, e1, r0, eL, hs⟩ := h1.at e
    refine ⟨_, lc, hs _ (fun _ _ _ x => x) (some (.ref p)) (.own xs) [(p, .lst vs)] (.own r), h2, ?_⟩
    rw [eL] at o
    have o1 : Own R H ((L1 ++ L2) ++ (lc ++ (p, .lst vs) :: F)) := o.sub (by
      have : (L1 ++ L2).Sublist (L1 ++ (l ++ L2)) := (List.Sublist.refl L1).append (List.sublist_append_right l L2)
      exact this.append (List.Sublist.refl _))
    have o2 := o1.perm (perm_front (L1 ++ L2) lc (p, .lst vs) F).symm
    refine o2.perm ?_
    have e4 : (p, HO.lst vs) :: ((L1 ++ L2) ++ (lc ++ F)) = (p, HO.lst vs) :: (L1 ++ (L2 ++ (lc ++ F))) := by simp
    rw [e4]
    exact own_mid _
end
end MP

set_option Elab.async false
set_option linter.all false
set_option maxRecDepth 100000
set_option maxHeartbeats 4000000
namespace MP
open PySem L2

/-- an operand: plain data, or a slot's own list as it stands -/
inductive RO (K : PySem.W.Frag) (ρ : List Addr) (R : Hp) (σ : St) : V → D → Prop
  | d {v : V} {x : D} : RD K ρ R v x → RO K ρ R σ v x
  | sl {i : Nat} {v : V} : σ[i]? = some (some v) → RO K ρ R σ v (.sl i)
inductive ROs (K : PySem.W.Frag) (ρ : List Addr) (R : Hp) (σ : St) : List V → List D → Prop
  | nil : ROs K ρ R σ [] []
  | cons {v : V} {d : D} {vs : List V} {ds : List D} : RO K ρ R σ v d → ROs K ρ R σ vs ds → ROs K ρ R σ (v :: vs) (d :: ds)
/-- an exception's class and fields -/
def RX (C : Ctx) (ρ : List Addr) (R : Hp) (cls : Value) (d : Option Addr) (x : Exc) : Prop :=
  cls = .ref (C.cm x.c) ∧ ((d = none ∧ x.fs = []) ∨ ∃ dd vs, d = some dd ∧ R dd = some (.xd vs) ∧ RKs C.K ρ R vs x.fs)

section
variable {K : PySem.W.Frag} {ρ ρ' : List Addr} {R R' : Hp} {σ : St}
theorem RO.up (hp : ρ <+: ρ') (hr : Same R R') {v : V} {d : D} : RO K ρ R σ v d → RO K ρ' R' σ v d
  | .d h => .d (h.up hp hr)
  | .sl h => .sl h
theorem ROs.up (hp : ρ <+: ρ') (hr : Same R R') : ∀ {vs : List V} {ds : List D}, ROs K ρ R σ vs ds → ROs K ρ' R' σ vs ds
  | _, _, .nil => .nil
  | _, _, .cons a b => .cons (a.up hp hr) (ROs.up hp hr b)
theorem RX.up {C : Ctx} (hp : ρ <+: ρ') (hr : Same R R') {cls : Value} {d : Option Addr} {x : Exc} (h : RX C ρ R cls d x) : RX C ρ' R' cls d x := by
  obtain ⟨h1, h2⟩ := h
  refine ⟨h1, ?_⟩
  rcases h2 with h2 | ⟨dd, vs, e, h3, h4⟩
  · exact .inl h2
  · exact .inr ⟨dd, vs, e, hr _ _ h3, h4.up hp hr⟩
def solid : D → Bool
  | .sl _ => false
  | _ => true
theorem RO.rd {v : V} {d : D} (h : RO K ρ R σ v d) (s : solid d = true) : RD K ρ R v d := by
  cases h with
  | d h => exact h
  | sl h => cases s
end

/-! ### results -/
inductive Ctl where
  | nx | bk | ct | rt (a : DV)

def bnd {α β : Type} (r : Option (Rs α × MSt)) (f : α → MSt → Option (Rs β × MSt)) : Option (Rs β × MSt) :=
  match r with
  | none => none
  | some (.ok a, m) => f a m
  | some (.exc x, m) => some (.exc x, m)
/-- an operand comes: a new list counts as plain -/
def bndO {β : Type} (r : Option (Rs DV × MSt)) (f : D → MSt → Option (Rs β × MSt)) : Option (Rs β × MSt) :=
  match r with
  | none => none
  | some (.ok (.val d), m) => f d m
  | some (.ok (.own xs), m) => f (.lst xs) m
  | some (.exc x, m) => some (.exc x, m)
/-- plain data comes -/
def bndD {β : Type} (r : Option (Rs DV × MSt)) (f : D → MSt → Option (Rs β × MSt)) : Option (Rs β × MSt) :=
  bndO r fun d m => if solid d = true then f d m else none

/-- what a result must give -/
def Po {α : Type} (C : Ctx) (W : WX) (F : List Res) (σ : St) (hh : α → List Addr → Hp → Hp → MSt → Prop) (ρ : List Addr) (R : Hp) : Option (Rs α × MSt) → Prop
  | none => False
  | some (.ok a, m) => ∀ ρ' R' H', ρ <+: ρ' → Same R R' → hh a ρ' R' H' m
  | some (.exc x, m) => ∀ cls d ρ' R' H', ρ <+: ρ' → Same R R' → Sat C ρ' R' F σ H' m → RX C ρ' R' cls d x → W cls d σ H'
def hE (C : Ctx) (F : List Res) (σ : St) (Q : VK) : DV → List Addr → Hp → Hp → MSt → Prop
  | .val d => fun ρ R H m => ∀ v, Sat C ρ R F σ H m → RO C.K ρ R σ v d → Q v H
  | .own xs => fun ρ R H m => ∀ p vs, Sat C ρ R ((p, .lst vs) :: F) σ H m → RDs C.K ρ R vs xs → Q (.ref p) H
def hA (C : Ctx) (F : List Res) (σ : St) (Q : List V → Hp → Prop) : List D → List Addr → Hp → Hp → MSt → Prop :=
  fun ds ρ R H m => ∀ vs, Sat C ρ R F σ H m → ROs C.K ρ R σ vs ds → Q vs H
def hB (C : Ctx) (F : List Res) (σ : St) (Q : Bool → Hp → Prop) : Bool → List Addr → Hp → Hp → MSt → Prop :=
  fun b ρ R H m => Sat C ρ R F σ H m → Q b H
def PoS (C : Ctx) (W : WX) (F : List Res) (D : Ends) (ρ : List Addr) (R : Hp) : Option (Rs Ctl × MSt) → Prop
  | none => False
  | some (.ok .nx, m) => ∀ σ' ρ' R' H', ρ <+: ρ' → Same R R' → Sat C ρ' R' F σ' H' m → D.nx σ' H'
  | some (.ok .bk, m) => ∀ σ' ρ' R' H', ρ <+: ρ' → Same R R' → Sat C ρ' R' F σ' H' m → D.bk σ' H'
  | some (.ok .ct, m) => ∀ σ' ρ' R' H', ρ <+: ρ' → Same R R' → Sat C ρ' R' F σ' H' m → D.ct σ' H'
  | some (.ok (.rt (.val d)), m) => ∀ σ' ρ' R' H' v, ρ <+: ρ' → Same R R' → Sat C ρ' R' F σ' H' m → RD C.K ρ' R' v d → D.rt v H'
  | some (.ok (.rt (.own xs)), m) => ∀ σ' ρ' R' H' p vs, ρ <+: ρ' → Same R R' → Sat C ρ' R' ((p, .lst vs) :: F) σ' H' m → RDs C.K ρ' R' vs xs → D.rt (.ref p) H'
  | some (.exc x, m) => ∀ cls d σ' ρ' R' H', ρ <+: ρ' → Same R R' → Sat C ρ' R' F σ' H' m → RX C ρ' R' cls d x → W cls d σ' H'

/-- what bind needs of the wish -/
structure Wish {β : Type} (C : Ctx) (W : WX) (F : List Res) (σ : St) (P : List Addr → Hp → Option (Rs β × MSt) → Prop) : Prop where
  no : ∀ ρ R, ¬ P ρ R none
  up : ∀ ρ R ρ' R' r, ρ <+: ρ' → Same R R' → P ρ R r → P ρ' R' r
  ex : ∀ ρ R x m, P ρ R (some (.exc x, m)) → ∀ cls d ρ' R' H', ρ <+: ρ' → Same R R' → Sat C ρ' R' F σ H' m → RX C ρ' R' cls d x → W cls d σ H'
theorem po_wish {α : Type} {C : Ctx} {W : WX} {F : List Res} {σ : St} {hh : α → List Addr → Hp → Hp → MSt → Prop} : Wish C W F σ (Po C W F σ hh) where
  no := fun _ _ h => h
  up := fun ρ R ρ' R' r hp hr h => by
    match r, h with
    | some (.ok a, m), h => exact fun ρ2 R2 H2 p2 r2 => h ρ2 R2 H2 (hp.trans p2) (hr.trans r2)
    | some (.exc x, m), h => exact fun cls d ρ2 R2 H2 p2 r2 => h cls d ρ2 R2 H2 (hp.trans p2) (hr.trans r2)
  ex := fun ρ R x m h => h
theorem poS_wish {C : Ctx} {W : WX} {F : List Res} {σ : St} {D : Ends} : Wish C W F σ (PoS C W F D) where
  no := fun _ _ h => h
  up := fun ρ R ρ' R' r hp hr h => by
    match r, h with
    | some (.ok .nx, m), h => exact fun σ2 ρ2 R2 H2 p2 r2 => h σ2 ρ2 R2 H2 (hp.trans p2) (hr.trans r2)
    | some (.ok .bk, m), h => exact fun σ2 ρ2 R2 H2 p2 r2 => h σ2 ρ2 R2 H2 (hp.trans p2) (hr.trans r2)
    | some (.ok .ct, m), h => exact fun σ2 ρ2 R2 H2 p2 r2 => h σ2 ρ2 R2 H2 (hp.trans p2) (hr.trans r2)
    | some (.ok (.rt (.val d)), m), h => exact fun σ2 ρ2 R2 H2 v p2 r2 => h σ2 ρ2 R2 H2 v (hp.trans p2) (hr.trans r2)
    | some (.ok (.rt (.own d)), m), h => exact fun σ2 ρ2 R2 H2 p vs p2 r2 => h σ2 ρ2 R2 H2 p vs (hp.trans p2) (hr.trans r2)
    | some (.exc x, m), h => exact fun cls d σ2 ρ2 R2 H2 p2 r2 => h cls d σ2 ρ2 R2 H2 (hp.trans p2) (hr.trans r2)
  ex := fun ρ R x m h cls d ρ' R' H' => h cls d σ ρ' R' H'

abbrev Ev := MSt → Option (Rs DV × MSt)
abbrev EvA := MSt → Option (Rs (List D) × MSt)
abbrev EvB := MSt → Option (Rs Bool × MSt)
abbrev Ex := MSt → Option (Rs Ctl × MSt)

/-! ### the judgements: a reading follows a plain function -/
def SE (C : Ctx) (W : WX) (t : TE) (ev : Ev) : Prop := ∀ ρ R F σ H m (Q : VK), Sat C ρ R F σ H m → Po C W F σ (hE C F σ Q) ρ R (ev m) → t σ H Q
def SA (C : Ctx) (W : WX) (t : TA) (ev : EvA) : Prop := ∀ ρ R F σ H m (Q : List V → Hp → Prop), Sat C ρ R F σ H m → Po C W F σ (hA C F σ Q) ρ R (ev m) → t σ H Q
def SB (C : Ctx) (W : WX) (t : TT) (ev : EvB) : Prop := ∀ ρ R F σ H m (Q : Bool → Hp → Prop), Sat C ρ R F σ H m → Po C W F σ (hB C F σ Q) ρ R (ev m) → t σ H Q
def SS (C : Ctx) (W : WX) (t : TS) (ex : Ex) : Prop := ∀ ρ R F σ H m (D : Ends), Sat C ρ R F σ H m → PoS C W F D ρ R (ex m) → t D σ H

section
variable {C : Ctx} {W : WX} {ρ : List Addr} {R H : Hp} {F : List Res} {σ : St} {m : MSt}
theorem SE.bndO {β : Type} {P : List Addr → Hp → Option (Rs β × MSt) → Prop} {f : D → MSt → Option (Rs β × MSt)} {t : TE} {ev : Ev} {k : VK} (h : SE C W t ev) (S : Sat C ρ R F σ H m) (wi : Wish C W F σ P) (p : P ρ R (bndO (ev m) f))
    (K : ∀ ρ' R' H' v d m', ρ <+: ρ' → Same R R' → Sat C ρ' R' F σ H' m' → RO C.K ρ' R' σ v d → P ρ' R' (f d m') → k v H') : t σ H k := by
  refine h ρ R F σ H m k S ?_
  match ev m, p with
  | none, p => exact wi.no _ _ p
  | some (.ok (.val d), m'), p => exact fun ρ' R' H' hp hr v S' r => K ρ' R' H' v d m' hp hr S' r (wi.up _ _ _ _ _ hp hr p)
  | some (.ok (.own xs), m'), p =>
    intro ρ' R' H' hp hr q vs S' r
    obtain ⟨S2, sm⟩ := S'.freeze
    exact K ρ' _ H' (.ref q) (.lst xs) m' hp (hr.trans sm) S2 (.d (.lst upd_same (r.up (List.prefix_refl _) sm))) (wi.up _ _ _ _ _ hp (hr.trans sm) p)
  | some (.exc x, m'), p => exact wi.ex _ _ _ _ p
theorem SE.bndD {β : Type} {P : List Addr → Hp → Option (Rs β × MSt) → Prop} {f : D → MSt → Option (Rs β × MSt)} {t : TE} {ev : Ev} {k : VK} (h : SE C W t ev) (S : Sat C ρ R F σ H m) (wi : Wish C W F σ P) (p : P ρ R (bndD (ev m) f))
    (K : ∀ ρ' R' H' v d m', ρ <+: ρ' → Same R R' → Sat C ρ' R' F σ H' m' → RD C.K ρ' R' v d → P ρ' R' (f d m') → k v H') : t σ H k :=
  h.bndO S wi p fun ρ' R' H' v d m' hp hr S' r p' => by
    by_cases e : solid d = true
    · rw [if_pos e] at p'
      exact K ρ' R' H' v d m' hp hr S' (r.rd e) p'
    · rw [if_neg e] at p'
      exact (wi.no _ _ p').elim
theorem SA.bnd {β : Type} {P : List Addr → Hp → Option (Rs β × MSt) → Prop} {f : List D → MSt → Option (Rs β × MSt)} {t : TA} {ev : EvA} {k : List V → Hp → Prop} (h : SA C W t ev) (S : Sat C ρ R F σ H m) (wi : Wish C W F σ P) (p : P ρ R (bnd (ev m) f))
    (K : ∀ ρ' R' H' vs ds m', ρ <+: ρ' → Same R R' → Sat C ρ' R' F σ H' m' → ROs C.K ρ' R' σ vs ds → P ρ' R' (f ds m') → k vs H') : t σ H k := by
  refine h ρ R F σ H m k S ?_
  match ev m, p with
  | none, p => exact wi.no _ _ p
  | some (.ok ds, m'), p => exact fun ρ' R' H' hp hr vs S' r => K ρ' R' H' vs ds m' hp hr S' r (wi.up _ _ _ _ _ hp hr p)
  | some (.exc x, m'), p => exact wi.ex _ _ _ _ p
theorem SB.bnd {β : Type} {P : List Addr → Hp → Option (Rs β × MSt) → Prop} {f : Bool → MSt → Option (Rs β × MSt)} {t : TT} {ev : EvB} {k : Bool → Hp → Prop} (h : SB C W t ev) (S : Sat C ρ R F σ H m) (wi : Wish C W F σ P) (p : P ρ R (bnd (ev m) f))
    (K : ∀ ρ' R' H' b m', ρ <+: ρ' → Same R R' → Sat C ρ' R' F σ H' m' → P ρ' R' (f b m') → k b H') : t σ H k := by
  refine h ρ R F σ H m k S ?_
  match ev m, p with
  | none, p => exact wi.no _ _ p
  | some (.ok b, m'), p => exact fun ρ' R' H' hp hr S' => K ρ' R' H' b m' hp hr S' (wi.up _ _ _ _ _ hp hr p)
  | some (.exc x, m'), p => exact wi.ex _ _ _ _ p
/-- a value comes out -/
theorem Po.val {Q : VK} {d : D} {v : V} (p : Po C W F σ (hE C F σ Q) ρ R (some (.ok (.val d), m))) (S : Sat C ρ R F σ H m) (r : RO C.K ρ R σ v d) : Q v H := p ρ R H (List.prefix_refl _) (Same.refl _) v S r
theorem Po.own {Q : VK} {xs : List D} {q : Addr} {vs : List V} (p : Po C W F σ (hE C F σ Q) ρ R (some (.ok (.own xs), m))) (S : Sat C ρ R ((q, .lst vs) :: F) σ H m) (r : RDs C.K ρ R vs xs) : Q (.ref q) H := p ρ R H (List.prefix_refl _) (Same.refl _) q vs S r
/-- .. with the frozen part grown -/
theorem Po.valU {Q : VK} {d : D} {v : V} {R' : Hp} (p : Po C W F σ (hE C F σ Q) ρ R (some (.ok (.val d), m))) (sm : Same R R') (S : Sat C ρ R' F σ H m) (r : RO C.K ρ R' σ v d) : Q v H := p ρ R' H (List.prefix_refl _) sm v S r
end

/-! ### expressions -/
def evC (d : D) : Ev := fun m => some (.ok (.val d), m)
@[simp] def evVar (i : Nat) : Ev := fun m => match m.g[i]? with
  | some (.d d) => some (.ok (.val d), m)
  | some (.own xs) => some (.ok (.val (.lst xs)), { m with g := m.g.set i (.d (.lst xs)) })
  | _ => none
/-- the slot's own list is looked at, and stays its own -/
@[simp] def evPeek (i : Nat) : Ev := fun m => match m.g[i]? with
  | some (.d d) => some (.ok (.val d), m)
  | some (.own _) => some (.ok (.val (.sl i)), m)
  | _ => none
/-- the slot's own list goes out -/
@[simp] def evTake (i : Nat) : Ev := fun m => match m.g[i]? with
  | some (.d d) => some (.ok (.val d), m)
  | some (.own xs) => some (.ok (.own xs), { m with g := m.g.set i .u })
  | _ => none
def ev2 (f : D → D → MSt → Option (Rs DV × MSt)) (a b : Ev) : Ev := fun m => bndO (a m) fun d m1 => bndO (b m1) fun e m2 => f d e m2
def ev1 (f : D → MSt → Option (Rs DV × MSt)) (a : Ev) : Ev := fun m => bndO (a m) f

def SO1 (C : Ctx) (W : WX) (r : V → Hp → VK → Prop) (f : D → MSt → Option (Rs DV × MSt)) : Prop :=
  ∀ ρ R F σ H m (Q : VK) x d, Sat C ρ R F σ H m → RO C.K ρ R σ x d → Po C W F σ (hE C F σ Q) ρ R (f d m) → r x H Q
def SO2 (C : Ctx) (W : WX) (r : R2) (f : D → D → MSt → Option (Rs DV × MSt)) : Prop :=
  ∀ ρ R F σ H m (Q : VK) x d y e, Sat C ρ R F σ H m → RO C.K ρ R σ x d → RO C.K ρ R σ y e → Po C W F σ (hE C F σ Q) ρ R (f d e m) → r x y H Q
def SOA (C : Ctx) (W : WX) (r : List V → Hp → VK → Prop) (f : List D → MSt → Option (Rs DV × MSt)) : Prop :=
  ∀ ρ R F σ H m (Q : VK) xs ds, Sat C ρ R F σ H m → ROs C.K ρ R σ xs ds → Po C W F σ (hE C F σ Q) ρ R (f ds m) → r xs H Q

section
variable {C : Ctx} {W : WX} {ta tb te : TE} {a b e : Ev} {tt tu : TT} {bt bu : EvB} {tr : TA} {ar : EvA}
theorem se_c {v : V} {d : D} (h : ∀ ρ R, RD C.K ρ R v d) : SE C W (tC v) (evC d) := fun ρ R F σ H m Q S p => p.val S (.d (h ρ R))
theorem se_int {i : Int} : SE C W (tC (.int i)) (evC (.int i)) := se_c fun _ _ => .int i
theorem se_bl {i : Bool} : SE C W (tC (.bl i)) (evC (.bl i)) := se_c fun _ _ => .bl i
theorem se_str {i : Str} : SE C W (tC (.str i)) (evC (.str i)) := se_c fun _ _ => .str i
theorem se_non : SE C W (tC .non) (evC .non) := se_c fun _ _ => .non
theorem se_ty {i : String} : SE C W (tC (.ty i)) (evC (.ty i)) := se_c fun _ _ => .ty i
theorem se_var {i : Nat} : SE C W (tVar i) (evVar i) := fun ρ R F σ H m Q S p => by
  unfold evVar at p
  match e : m.g[i]?, p with
  | some (.d d), p =>
    obtain ⟨v, h1, h2⟩ := S.slot e
    exact ⟨v, h1, p.val S (.d h2)⟩
  | some (.own xs), p =>
    obtain ⟨q, vs, h1, h2, r, _, ⟨S2, sm⟩, _⟩ := S.slotOwn e
    exact ⟨.ref q, h1, p.valU sm S2 (.d (.lst upd_same (r.up (List.prefix_refl _) sm)))⟩
theorem se_peek {i : Nat} : SE C W (tVar i) (evPeek i) := fun ρ R F σ H m Q S p => by
  unfold evPeek at p
  match e : m.g[i]?, p with
  | some (.d d), p =>
    obtain ⟨v, h1, h2⟩ := S.slot e
    exact ⟨v, h1, p.val S (.d h2)⟩
  | some (.own xs), p =>
    obtain ⟨q, vs, h1, _⟩ := S.slotOwn e
    exact ⟨.ref q, h1, p.val S (.sl h1)⟩
theorem se_take {i : Nat} : SE C W (tVar i) (evTake i) := fun ρ R F σ H m Q S p => by
  unfold evTake at p
  match e : m.g[i]?, p with
  | some (.d d), p =>
    obtain ⟨v, h1, h2⟩ := S.slot e
    exact ⟨v, h1, p.val S (.d h2)⟩
  | some (.own xs), p =>
    obtain ⟨q, vs, h1, h2, r, _, _, S3⟩ := S.slotOwn e
    exact ⟨.ref q, h1, p.own S3 r⟩
theorem se_op {r : R2} {f : D → D → MSt → Option (Rs DV × MSt)} (h1 : SE C W ta a) (h2 : SE C W tb b) (h : SO2 C W r f) : SE C W (tOp r ta tb) (ev2 f a b) := fun ρ R F σ H m Q S p =>
  h1.bndO S po_wish p fun ρ1 R1 H1 x d m1 p1 r1 S1 o1 q1 => h2.bndO S1 po_wish q1 fun ρ2 R2 H2 y e m2 p2 r2 S2 o2 q2 => h ρ2 R2 F σ H2 m2 Q x d y e S2 (o1.up p2 r2) o2 q2
theorem se_un {r : V → Hp → VK → Prop} {f : D → MSt → Option (Rs DV × MSt)} (h1 : SE C W ta a) (h : SO1 C W r f) : SE C W (tUn r ta) (ev1 f a) := fun ρ R F σ H m Q S p =>
  h1.bndO S po_wish p fun ρ1 R1 H1 x d m1 p1 r1 S1 o1 q1 => h ρ1 R1 F σ H1 m1 Q x d S1 o1 q1

/-! whole numbers -/
def fI (g : Int → Int → D) (c : Int → Int → Bool) : D → D → MSt → Option (Rs DV × MSt)
  | .int i, .int j, m => if c i j = true then some (.ok (.val (g i j)), m) else none
  | _, _, _ => none
theorem RO.int {K : PySem.W.Frag} {ρ : List Addr} {R : Hp} {σ : St} {x : V} {i : Int} (h : RO K ρ R σ x (.int i)) : x = .int i := by
  cases h with
  | d h => cases h; rfl
theorem RO.bl {K : PySem.W.Frag} {ρ : List Addr} {R : Hp} {σ : St} {x : V} {i : Bool} (h : RO K ρ R σ x (.bl i)) : x = .bl i := by
  cases h with
  | d h => cases h; rfl
theorem RO.str {K : PySem.W.Frag} {ρ : List Addr} {R : Hp} {σ : St} {x : V} {i : Str} (h : RO K ρ R σ x (.str i)) : x = .str i := by
  cases h with
  | d h => cases h; rfl
theorem RO.non {K : PySem.W.Frag} {ρ : List Addr} {R : Hp} {σ : St} {x : V} (h : RO K ρ R σ x .non) : x = .non := by
  cases h with
  | d h => cases h; rfl
theorem so_I {c : Int → Int → Bool} {P : Int → Int → Prop} {gV : Int → Int → V} {g : Int → Int → D} (hc : ∀ i j, c i j = true → P i j) (hg : ∀ i j K ρ R, RD K ρ R (gV i j) (g i j)) : SO2 C W (rI P gV) (fI g c) := fun ρ R F σ H m Q x d y e S o1 o2 p => by
  unfold fI at p
  split at p
  · rename_i i j
    by_cases h : c i j = true
    · rw [if_pos h] at p
      exact ⟨i, j, o1.int, o2.int, hc _ _ h, p.val S (.d (hg _ _ _ _ _))⟩
    · rw [if_neg h] at p
      exact p.elim
  · exact p.elim
theorem so_I0 {c : Int → Int → Bool} {gV : Int → Int → V} {g : Int → Int → D} (hg : ∀ i j K ρ R, RD K ρ R (gV i j) (g i j)) : SO2 C W (rI0 gV) (fI g c) := fun ρ R F σ H m Q x d y e S o1 o2 p => by
  unfold fI at p
  split at p
  · rename_i i j
    by_cases h : c i j = true
    · rw [if_pos h] at p
      exact ⟨i, j, o1.int, o2.int, p.val S (.d (hg _ _ _ _ _))⟩
    · rw [if_neg h] at p
      exact p.elim
  · exact p.elim
def cT : Int → Int → Bool := fun _ _ => true
def fAdd := fI (fun i j => .int (i + j)) cT
def fSub := fI (fun i j => .int (i - j)) cT
def cMul : Int → Int → Bool := fun i j => decide (i.natAbs < 18446744073709551616) || decide (j.natAbs < 18446744073709551616)
def fMul := fI (fun i j => .int (i * j)) cMul
def cDiv : Int → Int → Bool := fun _ j => decide (0 < j) && decide (j.natAbs < 1073741824)
def fDiv := fI (fun i j => .int (i / j)) cDiv
def fMod := fI (fun i j => .int (i % j)) fun _ j => decide (0 < j)
def cShl : Int → Int → Bool := fun i j => decide (0 ≤ j) && decide (j ≤ 1000000) && decide (i.natAbs < 2 ^ 64)
def fShl := fI (fun i j => .int (i * 2 ^ j.toNat)) cShl
def fPow := fI (fun i j => .int (i ^ j.toNat)) cShl
def fShr := fI (fun i j => .int (i / 2 ^ j.toNat)) fun _ j => decide (0 ≤ j)
def fAnd := fI (fun i j => .int (Builtin.bitAnd i j)) cT
def fOr := fI (fun i j => .int (Builtin.bitOr i j)) cT
def fXor := fI (fun i j => .int (Builtin.bitXor i j)) cT
def fLt := fI (fun i j => .bl (decide (i < j))) cT
def fLe := fI (fun i j => .bl (decide (i ≤ j))) cT
def fGt := fI (fun i j => .bl (decide (j < i))) cT
def fGe := fI (fun i j => .bl (decide (j ≤ i))) cT
theorem so_add : SO2 C W (rI0 fun i j => .int (i + j)) fAdd := so_I0 fun _ _ _ _ _ => .int _
theorem so_sub : SO2 C W (rI0 fun i j => .int (i - j)) fSub := so_I0 fun _ _ _ _ _ => .int _
theorem so_mul : SO2 C W (rI CMul fun i j => .int (i * j)) fMul := so_I (fun i j h => by
  unfold cMul at h
  simp only [Bool.or_eq_true, decide_eq_true_eq] at h
  have e : (2 : Int) ^ 64 = 18446744073709551616 := by decide
  show (-(2 ^ 64) < i ∧ i < 2 ^ 64) ∨ (-(2 ^ 64) < j ∧ j < 2 ^ 64)
  rw [e]
  omega) fun _ _ _ _ _ => .int _
theorem so_div : SO2 C W (rI CDiv fun i j => .int (i / j)) fDiv := so_I (fun i j h => by
  unfold cDiv at h
  simp only [Bool.and_eq_true, decide_eq_true_eq] at h
  exact ⟨h.1, by omega⟩) fun _ _ _ _ _ => .int _
theorem so_mod : SO2 C W (rI (fun _ j => 0 < j) fun i j => .int (i % j)) fMod := so_I (fun i j h => of_decide_eq_true h) fun _ _ _ _ _ => .int _
theorem so_shl : SO2 C W (rI CPow fun i j => .int (i * 2 ^ j.toNat)) fShl := so_I (fun i j h => by
  unfold cShl at h
  simp only [Bool.and_eq_true, decide_eq_true_eq] at h
  exact ⟨h.1.1, h.1.2, h.2⟩) fun _ _ _ _ _ => .int _
theorem so_pow : SO2 C W (rI CPow fun i j => .int (i ^ j.toNat)) fPow := so_I (fun i j h => by
  unfold cShl at h
  simp only [Bool.and_eq_true, decide_eq_true_eq] at h
  exact ⟨h.1.1, h.1.2, h.2⟩) fun _ _ _ _ _ => .int _
theorem so_shr : SO2 C W (rI (fun _ j => 0 ≤ j) fun i j => .int (i / 2 ^ j.toNat)) fShr := so_I (fun i j h => of_decide_eq_true h) fun _ _ _ _ _ => .int _
theorem so_and : SO2 C W (rI0 fun i j => .int (Builtin.bitAnd i j)) fAnd := so_I0 fun _ _ _ _ _ => .int _
theorem so_or : SO2 C W (rI0 fun i j => .int (Builtin.bitOr i j)) fOr := so_I0 fun _ _ _ _ _ => .int _
theorem so_xor : SO2 C W (rI0 fun i j => .int (Builtin.bitXor i j)) fXor := so_I0 fun _ _ _ _ _ => .int _
theorem so_lt : SO2 C W (rI0 fun i j => .bl (decide (i < j))) fLt := so_I0 fun _ _ _ _ _ => .bl _
theorem so_le : SO2 C W (rI0 fun i j => .bl (decide (i ≤ j))) fLe := so_I0 fun _ _ _ _ _ => .bl _
theorem so_gt : SO2 C W (rI0 fun i j => .bl (decide (j < i))) fGt := so_I0 fun _ _ _ _ _ => .bl _
theorem so_ge : SO2 C W (rI0 fun i j => .bl (decide (j ≤ i))) fGe := so_I0 fun _ _ _ _ _ => .bl _

/-! equality of flat things -/
def scalD : D → D → Bool
  | .non, .non => true | .non, .int _ => true | .int _, .non => true | .non, .str _ => true | .str _, .non => true | .non, .bl _ => true | .bl _, .non => true
  | .int _, .int _ => true | .bl _, .bl _ => true | .str _, .str _ => true
  | _, _ => false
end
end MP

set_option Elab.async false
set_option linter.all false
set_option maxRecDepth 100000
set_option maxHeartbeats 4000000
namespace MP
open PySem L2

/-! ### lists and tuples as they may be read -/
@[simp] def lsO (m : MSt) : D → Option (List D)
  | .lst xs => some xs
  | .lstK xs => some xs
  | .ref id => match m.c[id]? with | some (.lst xs) => some xs | _ => none
  | .sl i => match m.g[i]? with | some (.own xs) => some xs | _ => none
  | _ => none
def szOk (n : Nat) : Bool := decide (n ≤ 16777216)
theorem szOk_le {n : Nat} (h : szOk n = true) : n ≤ sizeLine := by
  have := of_decide_eq_true h
  rw [sizeLine_eq]
  omega
theorem szOk_lt {n : Nat} (h : szOk (n + 1) = true) : n < sizeLine := by
  have := of_decide_eq_true h
  rw [sizeLine_eq]
  omega

section
variable {C : Ctx} {W : WX} {ρ : List Addr} {R H : Hp} {F : List Res} {σ : St} {m : MSt}
theorem Sat.cell {id : Nat} {ce : Cell} (S : Sat C ρ R F σ H m) (h : m.c[id]? = some ce) : ∃ a l, ρ[id]? = some a ∧ CeR C ρ R a ce l ∧ (∀ p ∈ l, H p.1 = some p.2 ∧ R p.1 = none) := by
  obtain ⟨ls, lc, h1, h2, o⟩ := S
  obtain ⟨a, l, L1, L2, e1, r, eL, _⟩ := h2.at h
  refine ⟨a, l, e1, r, fun p hp => o.at' p ?_⟩
  rw [eL]
  exact List.mem_append_right _ (List.mem_append_left _ (List.mem_append_right _ (List.mem_append_left _ hp)))
theorem lsO_ref {id : Nat} {xs : List D} (h : lsO m (.ref id) = some xs) : m.c[id]? = some (.lst xs) := by
  unfold lsO at h
  simp only at h
  split at h
  · rename_i ys e
    cases h
    exact e
  · cases h
theorem lsO_sl {i : Nat} {xs : List D} (h : lsO m (.sl i) = some xs) : m.g[i]? = some (.own xs) := by
  unfold lsO at h
  simp only at h
  split at h
  · rename_i ys e
    cases h
    exact e
  · cases h
theorem ls_ok {v : V} {d : D} {xs : List D} (S : Sat C ρ R F σ H m) (r : RO C.K ρ R σ v d) (h : lsO m d = some xs) : ∃ a vs, v = .ref a ∧ SqL C.K H a vs ∧ RDs C.K ρ R vs xs := by
  cases r with
  | d r =>
    cases r with
    | lst h1 h2 =>
      cases h
      exact ⟨_, _, rfl, SqL.of (S.same _ _ h1), h2⟩
    | lstK h1 h2 =>
      cases h
      exact ⟨_, _, rfl, S.same.seq h1, h2⟩
    | ref h1 =>
      have e2 := lsO_ref h
      obtain ⟨a, l, e3, r3, hl⟩ := S.cell e2
      rw [h1] at e3
      cases e3
      cases r3 with
      | lst r3 => exact ⟨_, _, rfl, SqL.of (hl _ (List.mem_singleton.mpr rfl)).1, r3⟩
    | _ => cases h
  | sl r =>
    have e := lsO_sl h
    obtain ⟨p, vs, e1, hp, r1, _⟩ := S.slotOwn e
    rw [r] at e1
    cases e1
    exact ⟨_, _, rfl, SqL.of hp, r1⟩
@[simp] def tpO : D → Option (List D)
  | .tup xs => some xs
  | .tupK xs => some xs
  | _ => none
theorem tup_ok {v : V} {d : D} {xs : List D} (S : Sat C ρ R F σ H m) (r : RO C.K ρ R σ v d) (h : tpO d = some xs) : ∃ a vs, v = .ref a ∧ SqT C.K H a vs ∧ RDs C.K ρ R vs xs := by
  cases r with
  | d r =>
    cases r with
    | tup h1 h2 =>
      cases h
      exact ⟨_, _, rfl, SqT.of (S.same _ _ h1), h2⟩
    | tupK h1 h2 =>
      cases h
      exact ⟨_, _, rfl, same_t S.same h1, h2⟩
    | _ => cases h
  | sl r => cases h
/-- a new list comes out -/
theorem Po.newL {Q : VK} {xs : List D} {p : Addr} {vs : List V} (P : Po C W F σ (hE C F σ Q) ρ R (some (.ok (.own xs), m))) (S : Sat C ρ R F σ H m) (h : H p = none) (r : RDs C.K ρ R vs xs) : Q (.ref p) (upd H p (.lst vs)) :=
  P.own (S.res h) r
/-- a new tuple comes out -/
theorem Po.newT {Q : VK} {xs : List D} {p : Addr} {vs : List V} (P : Po C W F σ (hE C F σ Q) ρ R (some (.ok (.val (.tup xs)), m))) (S : Sat C ρ R F σ H m) (h : H p = none) (r : RDs C.K ρ R vs xs) : Q (.ref p) (upd H p (.tup vs)) := by
  obtain ⟨S2, sm⟩ := S.frz (u := .tup vs) h
  exact P.valU sm S2 (.d (.tup upd_same (r.up (List.prefix_refl _) sm)))
end

/-! ### == and != -/
mutual
def pyD : D → PyData
  | .non => .none
  | .bl b => .bool b
  | .int i => .int i
  | .str s => .str s
  | .lst xs => .list (pyDs xs)
  | .tup xs => .tuple (pyDs xs)
  | .lstK xs => .list (pyDs xs)
  | .tupK xs => .tuple (pyDs xs)
  | _ => .none
def pyDs : List D → List PyData
  | [] => []
  | d :: ds => pyD d :: pyDs ds
end
mutual
/-- plain through and through, not deeper than n -/
def okD : Nat → D → Bool
  | _, .non => true
  | _, .bl _ => true
  | _, .int _ => true
  | _, .str s => PyData.strOk s
  | n + 1, .lst xs => okDs n xs
  | n + 1, .tup xs => okDs n xs
  | n + 1, .lstK xs => okDs n xs
  | n + 1, .tupK xs => okDs n xs
  | _, _ => false
def okDs : Nat → List D → Bool
  | _, [] => true
  | n, d :: ds => okD n d && okDs n ds
end
mutual
theorem RD.dp {K : PySem.W.Frag} {ρ : List Addr} {R : Hp} : ∀ {n : Nat} {v : V} {d : D}, RD K ρ R v d → okD n d = true → Dp K R v (pyD d)
  | _, _, _, .non, _ => by unfold pyD; exact .non
  | _, _, _, .bl b, _ => by unfold pyD; exact .bl b
  | _, _, _, .int i, _ => by unfold pyD; exact .int i
  | _, _, _, .str s, _ => by unfold pyD; exact .str s
  | n, _, _, .ty _, h => by cases n <;> simp [okD] at h
  | 0, _, _, .lst h1 h2, h => by simp [okD] at h
  | n + 1, _, _, .lst h1 h2, h => by
    unfold okD at h
    unfold pyD
    exact .lst (SqL.of h1) (RDs.dp h2 h)
  | 0, _, _, .lstK h1 h2, h => by simp [okD] at h
  | n + 1, _, _, .lstK h1 h2, h => by
    unfold okD at h
    unfold pyD
    exact .lst h1 (RDs.dp h2 h)
  | 0, _, _, .tup h1 h2, h => by simp [okD] at h
  | n + 1, _, _, .tup h1 h2, h => by
    unfold okD at h
    unfold pyD
    exact .tup (SqT.of h1) (RDs.dp h2 h)
  | 0, _, _, .tupK h1 h2, h => by simp [okD] at h
  | n + 1, _, _, .tupK h1 h2, h => by
    unfold okD at h
    unfold pyD
    exact .tup h1 (RDs.dp h2 h)
  | n, _, _, .ref _, h => by cases n <;> simp [okD] at h
theorem RDs.dp {K : PySem.W.Frag} {ρ : List Addr} {R : Hp} : ∀ {n : Nat} {vs : List V} {ds : List D}, RDs K ρ R vs ds → okDs n ds = true → DpAll K R vs (pyDs ds)
  | _, _, _, .nil, _ => by unfold pyDs; exact .nil
  | n, _, _, .cons a b, h => by
    unfold okDs at h
    obtain ⟨h1, h2⟩ := Bool.and_eq_true_iff.mp h
    unfold pyDs
    exact .cons (RD.dp a h1) (RDs.dp b h2)
end
mutual
theorem okD_lay : ∀ (n : Nat) (d : D), okD n d = true → (pyD d).canLay0 = true ∧ (pyD d).depth ≤ n
  | n, .non, _ => by simp [pyD, PyData.canLay0, PyData.depth]
  | n, .bl b, _ => by simp [pyD, PyData.canLay0, PyData.depth]
  | n, .int b, _ => by simp [pyD, PyData.canLay0, PyData.depth]
  | n, .str s, h => by
    unfold okD at h
    simp [pyD, PyData.canLay0, PyData.depth, h]
  | n, .ty _, h => by cases n <;> simp [okD] at h
  | 0, .lst xs, h => by simp [okD] at h
  | n + 1, .lst xs, h => by
    unfold okD at h
    obtain ⟨h1, h2⟩ := okDs_lay n xs h
    simp [pyD, PyData.canLay0, PyData.depth, h1]
    omega
  | 0, .tup xs, h => by simp [okD] at h
  | n + 1, .tup xs, h => by
    unfold okD at h
    obtain ⟨h1, h2⟩ := okDs_lay n xs h
    simp [pyD, PyData.canLay0, PyData.depth, h1]
    omega
  | 0, .lstK xs, h => by simp [okD] at h
  | n + 1, .lstK xs, h => by
    unfold okD at h
    obtain ⟨h1, h2⟩ := okDs_lay n xs h
    simp [pyD, PyData.canLay0, PyData.depth, h1]
    omega
  | 0, .tupK xs, h => by simp [okD] at h
  | n + 1, .tupK xs, h => by
    unfold okD at h
    obtain ⟨h1, h2⟩ := okDs_lay n xs h
    simp [pyD, PyData.canLay0, PyData.depth, h1]
    omega
  | n, .ref _, h => by cases n <;> simp [okD] at h
  | n, .sl _, h => by cases n <;> simp [okD] at h
theorem okDs_lay : ∀ (n : Nat) (ds : List D), okDs n ds = true → PyData.canLayAll0 (pyDs ds) = true ∧ PyData.depthAll (pyDs ds) ≤ n
  | n, [], _ => by simp [pyDs, PyData.canLayAll0, PyData.depthAll]
  | n, d :: ds, h => by
    unfold okDs at h
    obtain ⟨h1, h2⟩ := Bool.and_eq_true_iff.mp h
    obtain ⟨a1, a2⟩ := okD_lay n d h1
    obtain ⟨b1, b2⟩ := okDs_lay n ds h2
    simp [pyDs, PyData.canLayAll0, PyData.depthAll, a1, b1]
    omega
end
theorem okD_shaped {d : D} (h : okD 60 d = true) : SeqAt.shaped (pyD d) = true := by
  obtain ⟨h1, h2⟩ := okD_lay 60 d h
  unfold SeqAt.shaped
  rw [h1, decide_eq_true (by omega)]
  rfl
mutual
theorem Dp.upS {K : PySem.W.Frag} {H H' : Hp} (hs : Same H H') : ∀ {v : V} {d : PyData}, Dp K H v d → Dp K H' v d
  | _, _, .non => .non
  | _, _, .bl b => .bl b
  | _, _, .int b => .int b
  | _, _, .str b => .str b
  | _, _, .lst h1 h2 => .lst (hs.seq h1) (DpAll.upS hs h2)
  | _, _, .tup h1 h2 => .tup (same_t hs h1) (DpAll.upS hs h2)
theorem DpAll.upS {K : PySem.W.Frag} {H H' : Hp} (hs : Same H H') : ∀ {v : List V} {d : List PyData}, DpAll K H v d → DpAll K H' v d
  | _, _, .nil => .nil
  | _, _, .cons a b => .cons (Dp.upS hs a) (DpAll.upS hs b)
end
/-- an operand as plain data, its own list opened -/
def topD (m : MSt) (d : D) : D := match lsO m d with
  | some xs => .lst xs
  | none => d
theorem dp_ok {C : Ctx} {ρ : List Addr} {R H : Hp} {F : List Res} {σ : St} {m : MSt} {v : V} {d : D} (S : Sat C ρ R F σ H m) (r : RO C.K ρ R σ v d) (h : okD 60 (topD m d) = true) : Dp C.K H v (pyD (topD m d)) := by
  unfold topD at h ⊢
  cases e : lsO m d with
  | some xs =>
    rw [e] at h
    obtain ⟨a, vs, rfl, h1, h2⟩ := ls_ok S r e
    unfold pyD
    unfold okD at h
    exact .lst h1 (DpAll.upS S.same (h2.dp h))
  | none =>
    rw [e] at h
    cases r with
    | d r => exact Dp.upS S.same (r.dp h)
    | sl r => simp [okD] at h
def eqB (m : MSt) (d e : D) : Bool := PyData.eqv (pyD (topD m d)) (pyD (topD m e))
def fEq : D → D → MSt → Option (Rs DV × MSt) := fun d e m => match d, e with
  | .str a, .str b => some (.ok (.val (.bl (decide (a = b)))), m)
  | d, e => if okD 60 (topD m d) && okD 60 (topD m e) then some (.ok (.val (.bl (eqB m d e))), m) else none
def fNe : D → D → MSt → Option (Rs DV × MSt) := fun d e m => match d, e with
  | .str a, .str b => some (.ok (.val (.bl (!decide (a = b)))), m)
  | d, e => if okD 60 (topD m d) && okD 60 (topD m e) then some (.ok (.val (.bl (!eqB m d e))), m) else none
/-- two rules for one operation -/
def rOr (r r' : R2) : R2 := fun x y H Q => r x y H Q ∨ r' x y H Q
theorem OpR.or {X : Cx} {f : Value → Value → Sem Value} {r r' : R2} (h : OpR X f r) (h' : OpR X f r') : OpR X f (rOr r r') := by
  intro pins s σ H x y v u Q I rx ry q
  rcases q with q | q
  · exact h pins s σ H x y v u Q I rx ry q
  · exact h' pins s σ H x y v u Q I rx ry q
theorem op_eqA {X : Cx} (hu : X.A.units + 64 < cLine) : OpR X (compareOp .Eq) (rOr rEq (rEqD X.K)) := OpR.or op_eq (op_eqD hu)
theorem op_neA {X : Cx} (hu : X.A.units + 64 < cLine) : OpR X (compareOp .NotEq) (rOr rNe (rNeD X.K)) := OpR.or op_ne (op_neD hu)
section
variable {C : Ctx} {W : WX}
theorem so_eq : SO2 C W (rOr rEq (rEqD C.K)) fEq := fun ρ R F σ H m Q x d y e S o1 o2 p => by
  unfold fEq at p
  split at p
  · rename_i a b
    have e1 := o1.str
    have e2 := o2.str
    subst e1 e2
    refine .inl ⟨rfl, ?_⟩
    have : decide (V.str a = V.str b) = decide (a = b) := by
      rw [Bool.eq_iff_iff]
      simp
    rw [this]
    exact p.val S (.d (.bl _))
  · split at p
    · rename_i h
      obtain ⟨h1, h2⟩ := Bool.and_eq_true_iff.mp h
      exact .inr ⟨_, _, dp_ok S o1 h1, dp_ok S o2 h2, okD_shaped h1, okD_shaped h2, p.val S (.d (.bl _))⟩
    · exact p.elim
theorem so_ne : SO2 C W (rOr rNe (rNeD C.K)) fNe := fun ρ R F σ H m Q x d y e S o1 o2 p => by
  unfold fNe at p
  split at p
  · rename_i a b
    have e1 := o1.str
    have e2 := o2.str
    subst e1 e2
    refine .inl ⟨rfl, ?_⟩
    have : decide (V.str a = V.str b) = decide (a = b) := by
      rw [Bool.eq_iff_iff]
      simp
    rw [this]
    exact p.val S (.d (.bl _))
  · split at p
    · rename_i h
      obtain ⟨h1, h2⟩ := Bool.and_eq_true_iff.mp h
      exact .inr ⟨_, _, dp_ok S o1 h1, dp_ok S o2 h2, okD_shaped h1, okD_shaped h2, p.val S (.d (.bl _))⟩
    · exact p.elim
end

/-! ### list + list, [..] * n -/
def rCatS (K : PySem.W.Frag) : R2 := fun x y H Q => ∃ l b xs zs, x = .ref l ∧ y = .ref b ∧ SqL K H l xs ∧ SqL K H b zs ∧ xs.length + zs.length ≤ sizeLine ∧ ∀ p, H p = none → Q (.ref p) (upd H p (.lst (xs ++ zs)))
theorem op_catS {X : Cx} : OpR X (binaryOp .Add) (rCatS X.K) := by
  intro pins s σ H x y v u Q I rx ry h
  obtain ⟨l, b, xs, zs, rfl, rfl, hH, hB, hz, q⟩ := h
  cases rx
  cases ry
  obtain ⟨its, r, ⟨o, n, e, ec, ed, es⟩, _⟩ := I.list hH
  obtain ⟨its2, r2, ⟨o2, n2, e2, ec2, ed2, es2⟩, _⟩ := I.list hB
  obtain ⟨oc, od, dt, sl⟩ := o
  obtain ⟨oc2, od2, dt2, sl2⟩ := o2
  simp only at ec ed es ec2 ed2 es2
  subst ec ed es ec2 ed2 es2
  refine concat_meets ⟨_, e, rfl⟩ ⟨_, e2, rfl⟩ noFill_list_add seq_list_add F.slot_list_add F.entry_list_add (F.args_list_add_2 _ _)
    (PyProof.Rows.list_addW l b its.toArray its2.toArray n n2 _ _ sl sl2 (by rw [List.size_toArray, List.size_toArray, ← r.length, ← r2.length]; exact hz)) ⟨e, e2, ?_⟩
  have ea : its.toArray ++ its2.toArray = (its ++ its2).toArray := by simp
  rw [ea]
  exact ⟨.ref _, _, I.lnew (t' := s.toks) (r.append r2) (by rw [List.length_append]; omega), rfl, q _ I.fresh⟩
/-- + of whole numbers, lists, texts -/
def rAddA (K : PySem.W.Frag) : R2 := rOr (rI0 fun i j => .int (i + j)) (rOr (rCatS K) (fun x y H Q => ∃ i j, x = .str i ∧ y = .str j ∧ i.length + j.length ≤ sizeLine ∧ Q (.str (i ++ j)) H))
theorem op_addA {X : Cx} : OpR X (binaryOp .Add) (rAddA X.K) := OpR.or op_add (OpR.or op_catS op_add_str)
@[simp] def fAddA : D → D → MSt → Option (Rs DV × MSt) := fun d e m => match d, e with
  | .int i, .int j => some (.ok (.val (.int (i + j))), m)
  | .str i, .str j => if szOk (i.length + j.length) = true then some (.ok (.val (.str (i ++ j))), m) else none
  | d, e => match lsO m d, lsO m e with
    | some xs, some ys => if szOk (xs.length + ys.length) = true then some (.ok (.own (xs ++ ys)), m) else none
    | _, _ => none
section
variable {C : Ctx} {W : WX}
theorem so_addA : SO2 C W (rAddA C.K) fAddA := fun ρ R F σ H m Q x d y e S o1 o2 p => by
  unfold fAddA at p
  split at p
  · exact .inl ⟨_, _, o1.int, o2.int, p.val S (.d (.int _))⟩
  · split at p
    · rename_i h
      exact .inr (.inr ⟨_, _, o1.str, o2.str, szOk_le h, p.val S (.d (.str _))⟩)
    · exact p.elim
  · split at p
    · rename_i xs ys h1 h2
      split at p
      · rename_i h
        obtain ⟨a, vs, rfl, q1, r1⟩ := ls_ok S o1 h1
        obtain ⟨b, ws, rfl, q2, r2⟩ := ls_ok S o2 h2
        refine .inr (.inl ⟨a, b, vs, ws, rfl, rfl, q1, q2, ?_, fun q hq => p.newL S hq (r1.append r2)⟩)
        rw [r1.length, r2.length]
        exact szOk_le h
      · exact p.elim
    · exact p.elim
end
/-- a new list comes, times a number -/
@[simp] def fRep (xs : List D) : D → MSt → Option (Rs DV × MSt) := fun e m2 => match e with
  | .int k => if decide (-(2 ^ 63) ≤ k) && decide (k < 2 ^ 63) && szOk (xs.length * k.toNat) then some (.ok (.own (List.replicate k.toNat xs).flatten), m2) else none
  | _ => none
def bndW {β : Type} (r : Option (Rs DV × MSt)) (f : List D → MSt → Option (Rs β × MSt)) : Option (Rs β × MSt) :=
  match r with
  | none => none
  | some (.ok (.val d), m) => none
  | some (.ok (.own xs), m) => f xs m
  | some (.exc x, m) => some (.exc x, m)
@[simp] def evRep (a b : Ev) : Ev := fun m => bndW (a m) fun xs m1 => bndO (b m1) (fRep xs)
theorem RDs.rep {K : PySem.W.Frag} {ρ : List Addr} {R : Hp} {vs : List V} {xs : List D} (r : RDs K ρ R vs xs) : ∀ n, RDs K ρ R (List.replicate n vs).flatten (List.replicate n xs).flatten
  | 0 => .nil
  | n + 1 => by
    rw [List.replicate_succ, List.replicate_succ, List.flatten_cons, List.flatten_cons]
    exact r.append (RDs.rep r n)
theorem SE.bndW {C : Ctx} {W : WX} {ρ : List Addr} {R H : Hp} {F : List Res} {σ : St} {m : MSt} {β : Type} {P : List Addr → Hp → Option (Rs β × MSt) → Prop} {f : List D → MSt → Option (Rs β × MSt)} {t : TE} {ev : Ev} {k : VK} (h : SE C W t ev) (S : Sat C ρ R F σ H m) (wi : Wish C W F σ P) (p : P ρ R (MP.bndW (ev m) f))
    (K : ∀ ρ' R' H' q vs xs m', ρ <+: ρ' → Same R R' → Sat C ρ' R' ((q, .lst vs) :: F) σ H' m' → RDs C.K ρ' R' vs xs → P ρ' R' (f xs m') → k (.ref q) H') : t σ H k := by
  refine h ρ R F σ H m k S ?_
  match ev m, p with
  | none, p => exact wi.no _ _ p
  | some (.ok (.val d), m'), p => exact (wi.no _ _ p).elim
  | some (.ok (.own xs), m'), p => exact fun ρ' R' H' hp hr q vs S' r => K ρ' R' H' q vs xs m' hp hr S' r (wi.up _ _ _ _ _ hp hr p)
  | some (.exc x, m'), p => exact wi.ex _ _ _ _ p
theorem po_wishF {α : Type} {C : Ctx} {W : WX} {F : List Res} {x : Res} {σ : St} {hh : α → List Addr → Hp → Hp → MSt → Prop} : Wish C W (x :: F) σ (Po C W F σ hh) where
  no := po_wish.no
  up := po_wish.up
  ex := fun ρ R y m h cls d ρ' R' H' p r S rx => h cls d ρ' R' H' p r S.dropF rx
theorem se_rep {C : Ctx} {W : WX} {ta tb : TE} {a b : Ev} (h1 : SE C W ta a) (h2 : SE C W tb b) : SE C W (tOp rRep ta tb) (evRep a b) := fun ρ R F σ H m Q S p =>
  h1.bndW S po_wish p fun ρ1 R1 H1 q vs xs m1 p1 r1 S1 rd1 q1 => h2.bndO S1 po_wishF q1 fun ρ2 R2 H2 y e m2 p2 r2 S2 o2 q2 => by
    unfold fRep at q2
    split at q2
    · split at q2
      · rename_i k hk
        simp only [Bool.and_eq_true, decide_eq_true_eq] at hk
        obtain ⟨⟨k1, k2⟩, k3⟩ := hk
        have rd2 := rd1.up p2 r2
        refine ⟨q, k, vs, rfl, o2.int, S2.resAt.1, k1, k2, ?_, fun q' hq' => q2.newL S2.dropF hq' (rd2.rep _)⟩
        rw [rd2.length]
        exact szOk_le k3
      · exact q2.elim
    · exact q2.elim

/-! ### an item -/
def atD (xs : List D) (i : Int) : Option D := atI xs i
@[simp] def fIx : D → D → MSt → Option (Rs DV × MSt) := fun d e m => match d, e with
  | .str z, .int i => if szOk z.length = true then match atI z.cps.toList i with | some c => some (.ok (.val (.str ⟨#[c]⟩)), m) | none => none else none
  | d, .int i => match lsO m d with
    | some xs => match atD xs i with | some v => some (.ok (.val v), m) | none => none
    | none => match tpO d with
      | some xs => match atD xs i with | some v => some (.ok (.val v), m) | none => none
      | none => none
  | _, _ => none
theorem RDs.atI {K : PySem.W.Frag} {ρ : List Addr} {R : Hp} {vs : List V} {xs : List D} {i : Int} {d : D} (r : RDs K ρ R vs xs) (h : atD xs i = some d) : ∃ v, L2.atI vs i = some v ∧ RD K ρ R v d := by
  unfold atD L2.atI at h
  unfold L2.atI
  rw [r.length]
  cases e : ixN xs.length i with
  | none => rw [e] at h; cases h
  | some j =>
    rw [e] at h
    exact r.get' h
theorem so_ix {C : Ctx} {W : WX} : SO2 C W (rIx C.K) fIx := fun ρ R F σ H m Q x d y e S o1 o2 p => by
  unfold fIx at p
  split at p
  · split at p
    · rename_i hz
      split at p
      · rename_i h
        exact .inr (.inr ⟨_, _, _, o1.str, o2.int, szOk_le hz, h, p.val S (.d (.str _))⟩)
      · exact p.elim
    · exact p.elim
  · split at p
    · rename_i xs hx
      split at p
      · rename_i h
        obtain ⟨a, vs, rfl, q1, r1⟩ := ls_ok S o1 hx
        obtain ⟨v, hv, rv⟩ := r1.atI h
        exact .inl ⟨a, vs, _, v, rfl, o2.int, q1, hv, p.val S (.d rv)⟩
      · exact p.elim
    · split at p
      · rename_i xs hx
        split at p
        · rename_i h
          obtain ⟨a, vs, rfl, q1, r1⟩ := tup_ok S o1 hx
          obtain ⟨v, hv, rv⟩ := r1.atI h
          exact .inr (.inl ⟨a, vs, _, v, rfl, o2.int, q1, hv, p.val S (.d rv)⟩)
        · exact p.elim
      · exact p.elim
  · exact p.elim

/-! ### slices -/
abbrev EvO := MSt → Option (Rs (Option Int) × MSt)
def hO (C : Ctx) (F : List Res) (σ : St) (Q : Option Int → Hp → Prop) : Option Int → List Addr → Hp → Hp → MSt → Prop :=
  fun b ρ R H m => Sat C ρ R F σ H m → Q b H
def SPt (C : Ctx) (W : WX) (t : TO) (ev : EvO) : Prop := ∀ ρ R F σ H m (Q : Option Int → Hp → Prop), Sat C ρ R F σ H m → Po C W F σ (hO C F σ Q) ρ R (ev m) → t σ H Q
@[simp] def evN : EvO := fun m => some (.ok none, m)
@[simp] def evP (a : Ev) : EvO := fun m => bndO (a m) fun d m1 => match d with | .int i => some (.ok (some i), m1) | _ => none
def cutD (xs : List D) (lo hi : Option Int) : List D := (xs.drop (HT.sIx xs.length 0 lo)).take (HT.sIx xs.length xs.length hi - HT.sIx xs.length 0 lo)
@[simp] def fSl (d : D) (lo hi : Option Int) : MSt → Option (Rs DV × MSt) := fun m => match d with
  | .str z => if szOk z.length = true then some (.ok (.val (.str (cutS z lo hi))), m) else none
  | d => match lsO m d with
    | some xs => some (.ok (.own (cutD xs lo hi)), m)
    | none => none
@[simp] def evSl (a : Ev) (lo hi : EvO) : Ev := fun m => bndO (a m) fun d m1 => bnd (lo m1) fun l m2 => bnd (hi m2) fun h m3 => fSl d l h m3
def rSlA (K : PySem.W.Frag) : V → Option Int → Option Int → Hp → VK → Prop := fun x lo hi H Q => rSlL K x lo hi H Q ∨ rSlS x lo hi H Q
theorem sl_any {X : Cx} : L2.SlR X (rSlA X.K) := L2.SlR.or sl_list sl_str
section
variable {C : Ctx} {W : WX}
theorem sp_n : SPt C W tNoPart evN := fun ρ R F σ H m Q S p => p ρ R H (List.prefix_refl _) (Same.refl _) S
theorem sp_p {ta : TE} {a : Ev} (h : SE C W ta a) : SPt C W (tPart ta) (evP a) := fun ρ R F σ H m Q S p =>
  h.bndO S po_wish p fun ρ1 R1 H1 x d m1 p1 r1 S1 o1 q1 => by
    cases d with
    | int i => exact ⟨i, o1.int, q1 ρ1 R1 H1 (List.prefix_refl _) (Same.refl _) S1⟩
    | _ => exact q1.elim
theorem SPt.bnd {β : Type} {ρ : List Addr} {R H : Hp} {F : List Res} {σ : St} {m : MSt} {P : List Addr → Hp → Option (Rs β × MSt) → Prop} {f : Option Int → MSt → Option (Rs β × MSt)} {t : TO} {ev : EvO} {k : Option Int → Hp → Prop} (h : SPt C W t ev) (S : Sat C ρ R F σ H m) (wi : Wish C W F σ P) (p : P ρ R (bnd (ev m) f))
    (K : ∀ ρ' R' H' b m', ρ <+: ρ' → Same R R' → Sat C ρ' R' F σ H' m' → P ρ' R' (f b m') → k b H') : t σ H k := by
  refine h ρ R F σ H m k S ?_
  match ev m, p with
  | none, p => exact wi.no _ _ p
  | some (.ok b, m'), p => exact fun ρ' R' H' hp hr S' => K ρ' R' H' b m' hp hr S' (wi.up _ _ _ _ _ hp hr p)
  | some (.exc x, m'), p => exact wi.ex _ _ _ _ p
theorem RDs.cut {K : PySem.W.Frag} {ρ : List Addr} {R : Hp} {vs : List V} {xs : List D} (r : RDs K ρ R vs xs) (lo hi : Option Int) : RDs K ρ R (cutV vs lo hi) (cutD xs lo hi) := by
  unfold cutV cutD
  rw [r.length]
  exact (r.drop _).take _
theorem se_sl {ta : TE} {a : Ev} {tl th : TO} {lo hi : EvO} (h : SE C W ta a) (h1 : SPt C W tl lo) (h2 : SPt C W th hi) : SE C W (tSl (rSlA C.K) ta tl th) (evSl a lo hi) := fun ρ R F σ H m Q S p =>
  h.bndO S po_wish p fun ρ1 R1 H1 x d m1 p1 r1 S1 o1 q1 => h1.bnd S1 po_wish q1 fun ρ2 R2 H2 l m2 p2 r2 S2 q2 => h2.bnd S2 po_wish q2 fun ρ3 R3 H3 u m3 p3 r3 S3 q3 => by
    have o3 := (o1.up p2 r2).up p3 r3
    unfold fSl at q3
    split at q3
    · split at q3
      · rename_i hz
        exact .inr ⟨_, o3.str, szOk_le hz, q3.val S3 (.d (.str _))⟩
      · exact q3.elim
    · split at q3
      · rename_i xs hx
        obtain ⟨a, vs, rfl, hq, rd⟩ := ls_ok S3 o3 hx
        exact .inl ⟨a, vs, rfl, hq, fun q hq => q3.newL S3 hq (rd.cut l u)⟩
      · exact q3.elim
end

/-! ### arguments, displays, calls of built-ins -/
@[simp] def eaNil : EvA := fun m => some (.ok [], m)
@[simp] def eaCons (a : Ev) (r : EvA) : EvA := fun m => bndO (a m) fun d m1 => bnd (r m1) fun ds m2 => some (.ok (d :: ds), m2)
@[simp] def evLst (a : EvA) : Ev := fun m => bnd (a m) fun ds m1 => if ds.all solid && szOk ds.length then some (.ok (.own ds), m1) else none
@[simp] def evTup (a : EvA) : Ev := fun m => bnd (a m) fun ds m1 => if ds.all solid && szOk ds.length then some (.ok (.val (.tup ds)), m1) else none
@[simp] def evCB (f : List D → MSt → Option (Rs DV × MSt)) (a : EvA) : Ev := fun m => bnd (a m) f
theorem ROs.rds {K : PySem.W.Frag} {ρ : List Addr} {R : Hp} {σ : St} : ∀ {vs : List V} {ds : List D}, ROs K ρ R σ vs ds → ds.all solid = true → RDs K ρ R vs ds
  | _, _, .nil, _ => .nil
  | _, _, .cons a b, h => by
    rw [List.all_cons] at h
    obtain ⟨h1, h2⟩ := Bool.and_eq_true_iff.mp h
    exact .cons (a.rd h1) (ROs.rds b h2)
section
variable {C : Ctx} {W : WX} {ta : TE} {a : Ev} {tr : TA} {ar : EvA}
theorem sa_nil : SA C W tNil eaNil := fun ρ R F σ H m Q S p => p ρ R H (List.prefix_refl _) (Same.refl _) [] S .nil
theorem sa_cons (h : SE C W ta a) (hr : SA C W tr ar) : SA C W (tCons ta tr) (eaCons a ar) := fun ρ R F σ H m Q S p =>
  h.bndO S po_wish p fun ρ1 R1 H1 x d m1 p1 r1 S1 o1 q1 => hr.bnd S1 po_wish q1 fun ρ2 R2 H2 vs ds m2 p2 r2 S2 o2 q2 => q2 ρ2 R2 H2 (List.prefix_refl _) (Same.refl _) (x :: vs) S2 (.cons (o1.up p2 r2) o2)
theorem se_lst (hr : SA C W tr ar) : SE C W (tLst tr) (evLst ar) := fun ρ R F σ H m Q S p =>
  hr.bnd S po_wish p fun ρ1 R1 H1 vs ds m1 p1 r1 S1 o1 q1 => by
    split at q1
    · rename_i h
      obtain ⟨h1, h2⟩ := Bool.and_eq_true_iff.mp h
      have rd := o1.rds h1
      exact ⟨by rw [rd.length]; exact szOk_le h2, fun p hp => q1.newL S1 hp rd⟩
    · exact q1.elim
theorem se_tup (hr : SA C W tr ar) : SE C W (tTup tr) (evTup ar) := fun ρ R F σ H m Q S p =>
  hr.bnd S po_wish p fun ρ1 R1 H1 vs ds m1 p1 r1 S1 o1 q1 => by
    split at q1
    · rename_i h
      obtain ⟨h1, h2⟩ := Bool.and_eq_true_iff.mp h
      have rd := o1.rds h1
      exact ⟨by rw [rd.length]; exact szOk_le h2, fun p hp => q1.newT S1 hp rd⟩
    · exact q1.elim
theorem se_cb {r : List V → Hp → VK → Prop} {f : List D → MSt → Option (Rs DV × MSt)} (hr : SA C W tr ar) (h : SOA C W r f) : SE C W (tCB r tr) (evCB f ar) := fun ρ R F σ H m Q S p =>
  hr.bnd S po_wish p fun ρ1 R1 H1 vs ds m1 p1 r1 S1 o1 q1 => h ρ1 R1 F σ H1 m1 Q vs ds S1 o1 q1
end
theorem ROs.one {K : PySem.W.Frag} {ρ : List Addr} {R : Hp} {σ : St} {vs : List V} {d : D} (h : ROs K ρ R σ vs [d]) : ∃ v, vs = [v] ∧ RO K ρ R σ v d := by
  cases h with
  | cons a b => cases b; exact ⟨_, rfl, a⟩
theorem ROs.two {K : PySem.W.Frag} {ρ : List Addr} {R : Hp} {σ : St} {vs : List V} {d e : D} (h : ROs K ρ R σ vs [d, e]) : ∃ v u, vs = [v, u] ∧ RO K ρ R σ v d ∧ RO K ρ R σ u e := by
  cases h with
  | cons a b =>
    obtain ⟨u, rfl, c⟩ := b.one
    exact ⟨_, _, rfl, a, c⟩
/-! len -/
@[simp] def fLen : List D → MSt → Option (Rs DV × MSt) := fun ds m => match ds with
  | [.str z] => if szOk z.length = true then some (.ok (.val (.int z.length)), m) else none
  | [d] => match lsO m d with
    | some xs => some (.ok (.val (.int xs.length)), m)
    | none => match tpO d with | some xs => some (.ok (.val (.int xs.length)), m) | none => none
  | _ => none
def rLen (K : PySem.W.Frag) : List V → Hp → VK → Prop := fun xs H Q => ∃ x n, xs = [x] ∧ LenV K x H n ∧ Q (.int n) H
theorem soa_len {C : Ctx} {W : WX} : SOA C W (rLen C.K) fLen := fun ρ R F σ H m Q vs ds S o p => by
  unfold fLen at p
  split at p
  · split at p
    · rename_i h
      obtain ⟨v, rfl, o1⟩ := o.one
      have e := o1.str
      subst e
      exact ⟨_, _, rfl, ⟨szOk_le h, rfl⟩, p.val S (.d (.int _))⟩
    · exact p.elim
  · split at p
    · rename_i xs hx
      obtain ⟨v, rfl, o1⟩ := o.one
      obtain ⟨a, us, rfl, q, r⟩ := ls_ok S o1 hx
      refine ⟨_, _, rfl, .inl ⟨us, q, rfl⟩, ?_⟩
      rw [r.length]
      exact p.val S (.d (.int _))
    · split at p
      · rename_i xs hx
        obtain ⟨v, rfl, o1⟩ := o.one
        obtain ⟨a, us, rfl, q, r⟩ := tup_ok S o1 hx
        refine ⟨_, _, rfl, .inr ⟨us, q, rfl⟩, ?_⟩
        rw [r.length]
        exact p.val S (.d (.int _))
      · exact p.elim
  · exact p.elim
/-! list(..) of a list or tuple -/
@[simp] def fList : List D → MSt → Option (Rs DV × MSt) := fun ds m => match ds with
  | [d] => match lsO m d with
    | some xs => some (.ok (.own xs), m)
    | none => match tpO d with | some xs => some (.ok (.own xs), m) | none => none
  | _ => none
def rListOf (K : PySem.W.Frag) : List V → Hp → VK → Prop := fun xs H Q => ∃ p ys, xs = [.ref p] ∧ (SqL K H p ys ∨ SqT K H p ys) ∧ ∀ l, H l = none → Q (.ref l) (upd H l (.lst ys))
theorem soa_list {C : Ctx} {W : WX} : SOA C W (rListOf C.K) fList := fun ρ R F σ H m Q vs ds S o p => by
  unfold fList at p
  split at p
  · split at p
    · rename_i xs hx
      obtain ⟨v, rfl, o1⟩ := o.one
      obtain ⟨a, us, rfl, q, r⟩ := ls_ok S o1 hx
      exact ⟨a, us, rfl, .inl q, fun l hl => p.newL S hl r⟩
    · split at p
      · rename_i xs hx
        obtain ⟨v, rfl, o1⟩ := o.one
        obtain ⟨a, us, rfl, q, r⟩ := tup_ok S o1 hx
        exact ⟨a, us, rfl, .inr q, fun l hl => p.newL S hl r⟩
      · exact p.elim
  · exact p.elim
/-! sum, all, any of lists -/
def intsOf : List D → Option (List Int)
  | [] => some []
  | .int i :: r => (intsOf r).map (i :: ·)
  | _ => none
def blsOf : List D → Option (List Bool)
  | [] => some []
  | .bl i :: r => (blsOf r).map (i :: ·)
  | _ => none
theorem RDs.intsOf {K : PySem.W.Frag} {ρ : List Addr} {R : Hp} : ∀ {vs : List V} {ds : List D} {ns : List Int}, RDs K ρ R vs ds → MP.intsOf ds = some ns → vs = ns.map V.int
  | _, _, _, .nil, h => by cases h; rfl
  | _, _, _, .cons (d := d) a b, h => by
    cases d with
    | int i =>
      simp only [MP.intsOf, Option.map_eq_some_iff] at h
      obtain ⟨r, h1, rfl⟩ := h
      cases a
      rw [List.map_cons, RDs.intsOf b h1]
    | _ => cases h
theorem RDs.blsOf {K : PySem.W.Frag} {ρ : List Addr} {R : Hp} : ∀ {vs : List V} {ds : List D} {ns : List Bool}, RDs K ρ R vs ds → MP.blsOf ds = some ns → vs = ns.map V.bl
  | _, _, _, .nil, h => by cases h; rfl
  | _, _, _, .cons (d := d) a b, h => by
    cases d with
    | bl i =>
      simp only [MP.blsOf, Option.map_eq_some_iff] at h
      obtain ⟨r, h1, rfl⟩ := h
      cases a
      rw [List.map_cons, RDs.blsOf b h1]
    | _ => cases h
def fInts (g : List Int → Option D) : List D → MSt → Option (Rs DV × MSt) := fun ds m => match ds with
  | [d] => match lsO m d with
    | some xs => match intsOf xs with
      | some ns => match g ns with | some r => some (.ok (.val r), m) | none => none
      | none => none
    | none => none
  | _ => none
def fBls (g : List Bool → D) : List D → MSt → Option (Rs DV × MSt) := fun ds m => match ds with
  | [d] => match lsO m d with
    | some xs => match blsOf xs with
      | some ns => some (.ok (.val (g ns)), m)
      | none => none
    | none => none
  | _ => none
def fSum := fInts fun ns => some (.int ns.sum)
def fAll := fBls fun bs => .bl (bs.all id)
def fAny := fBls fun bs => .bl (bs.any id)
theorem soa_sum {C : Ctx} {W : WX} : SOA C W (rSum C.K) fSum := fun ρ R F σ H m Q vs ds S o p => by
  unfold fSum fInts at p
  split at p
  · split at p
    · rename_i xs hx
      split at p
      · rename_i ns hn
        obtain ⟨v, rfl, o1⟩ := o.one
        obtain ⟨a, us, rfl, q, r⟩ := ls_ok S o1 hx
        have e := r.intsOf hn
        subst e
        exact ⟨a, ns, rfl, q, p.val S (.d (.int _))⟩
      · exact p.elim
    · exact p.elim
  · exact p.elim
theorem soa_all {C : Ctx} {W : WX} : SOA C W (rAll C.K) fAll := fun ρ R F σ H m Q vs ds S o p => by
  unfold fAll fBls at p
  split at p
  · split at p
    · rename_i xs hx
      split at p
      · rename_i ns hn
        obtain ⟨v, rfl, o1⟩ := o.one
        obtain ⟨a, us, rfl, q, r⟩ := ls_ok S o1 hx
        have e := r.blsOf hn
        subst e
        exact ⟨a, ns, rfl, q, p.val S (.d (.bl _))⟩
      · exact p.elim
    · exact p.elim
  · exact p.elim
theorem soa_any {C : Ctx} {W : WX} : SOA C W (rAny C.K) fAny := fun ρ R F σ H m Q vs ds S o p => by
  unfold fAny fBls at p
  split at p
  · split at p
    · rename_i xs hx
      split at p
      · rename_i ns hn
        obtain ⟨v, rfl, o1⟩ := o.one
        obtain ⟨a, us, rfl, q, r⟩ := ls_ok S o1 hx
        have e := r.blsOf hn
        subst e
        exact ⟨a, ns, rfl, q, p.val S (.d (.bl _))⟩
      · exact p.elim
    · exact p.elim
  · exact p.elim
/-! max, min of two; int(..) -/
@[simp] def fII (g : Int → Int → Int) : List D → MSt → Option (Rs DV × MSt) := fun ds m => match ds with
  | [.int i, .int j] => some (.ok (.val (.int (g i j))), m)
  | _ => none
def rII (g : Int → Int → Int) : List V → Hp → VK → Prop := fun xs H Q => ∃ i j, xs = [.int i, .int j] ∧ Q (.int (g i j)) H
theorem soa_II {C : Ctx} {W : WX} {g : Int → Int → Int} : SOA C W (rII g) (fII g) := fun ρ R F σ H m Q vs ds S o p => by
  unfold fII at p
  split at p
  · obtain ⟨v, u, rfl, o1, o2⟩ := o.two
    have e1 := o1.int
    have e2 := o2.int
    subst e1 e2
    exact ⟨_, _, rfl, p.val S (.d (.int _))⟩
  · exact p.elim
@[simp] def gMax : Int → Int → Int := fun i j => if j > i then j else i
@[simp] def gMin : Int → Int → Int := fun i j => if j < i then j else i
def rInt : List V → Hp → VK → Prop := fun xs H Q => (∃ i, xs = [.int i] ∧ Q (.int i) H) ∨ ∃ k, xs = [.bl k] ∧ Q (.int (if k then 1 else 0)) H
@[simp] def fInt : List D → MSt → Option (Rs DV × MSt) := fun ds m => match ds with
  | [.int i] => some (.ok (.val (.int i)), m)
  | [.bl k] => some (.ok (.val (.int (if k then 1 else 0))), m)
  | _ => none
theorem soa_int {C : Ctx} {W : WX} : SOA C W rInt fInt := fun ρ R F σ H m Q vs ds S o p => by
  unfold fInt at p
  split at p
  · obtain ⟨v, rfl, o1⟩ := o.one
    have e1 := o1.int
    subst e1
    exact .inl ⟨_, rfl, p.val S (.d (.int _))⟩
  · obtain ⟨v, rfl, o1⟩ := o.one
    have e1 := o1.bl
    subst e1
    exact .inr ⟨_, rfl, p.val S (.d (.int _))⟩
  · exact p.elim
end MP

set_option Elab.async false
set_option linter.all false
set_option maxRecDepth 100000
set_option maxHeartbeats 4000000
namespace MP
open PySem L2

/-! ### calls of defs -/
abbrev Sem0 := List D → List Cell → Option (Rs DV × List Cell)
def PoC (C : Ctx) (F : List Res) (Q : VK) (E : XK) (ρ : List Addr) (R : Hp) : Option (Rs DV × List Cell) → Prop
  | none => False
  | some (.ok (.val d), c) => ∀ v ρ' R' H' lc, ρ <+: ρ' → Same R R' → All2 (CeR C ρ' R') ρ' c lc → Own R' H' (lc ++ F) → RD C.K ρ' R' v d → Q v H'
  | some (.ok (.own xs), c) => ∀ p vs ρ' R' H' lc, ρ <+: ρ' → Same R R' → All2 (CeR C ρ' R') ρ' c lc → Own R' H' (lc ++ (p, .lst vs) :: F) → RDs C.K ρ' R' vs xs → Q (.ref p) H'
  | some (.exc x, c) => ∀ cls d ρ' R' H' lc, ρ <+: ρ' → Same R R' → All2 (CeR C ρ' R') ρ' c lc → Own R' H' (lc ++ F) → RX C ρ' R' cls d x → E cls d H'
def spOf (C : Ctx) (n : Nat) (sem : Sem0) : Sp := fun vs H Q E => vs.length = n ∧ ∃ ρ R F args cells lc, RDs C.K ρ R vs args ∧ All2 (CeR C ρ R) ρ cells lc ∧ Own R H (lc ++ F) ∧ PoC C F Q E ρ R (sem args cells)
@[simp] def evSem (sem : Sem0) (ds : List D) : MSt → Option (Rs DV × MSt) := fun m =>
  match sem ds m.c with
  | none => none
  | some (.ok r, c) => some (.ok r, { m with c := c })
  | some (.exc x, c) => some (.exc x, { m with c := c })
@[simp] def evCall (n : Nat) (sem : Sem0) (a : EvA) : Ev := fun m => bnd (a m) fun ds m1 => if ds.all solid && decide (ds.length = n) then evSem sem ds m1 else none

section
variable {C : Ctx} {W : WX} {ρ : List Addr} {R H : Hp} {F : List Res} {σ : St} {m : MSt}
theorem mid_perm (A B F : List Res) : (A ++ (B ++ F)).Perm (B ++ (A ++ F)) := by
  rw [← List.append_assoc, ← List.append_assoc]
  exact (List.perm_append_comm).append_right F
theorem mid_perm1 (A B F : List Res) (x : Res) : (B ++ x :: (A ++ F)).Perm (A ++ (B ++ x :: F)) := by
  refine List.Perm.trans ?_ (mid_perm B A (x :: F))
  exact (List.Perm.refl B).append List.perm_middle.symm
/-- a callee's end, seen by the caller -/
theorem sem_ok {n : Nat} {sem : Sem0} {ds : List D} {vs : List V} {Q : VK} {E : XK} (S : Sat C ρ R F σ H m) (r : RDs C.K ρ R vs ds) (hn : ds.length = n) (p : Po C W F σ (hE C F σ Q) ρ R (evSem sem ds m)) (hE' : ∀ cls d H', W cls d σ H' → E cls d H') : spOf C n sem vs H Q E := by
  obtain ⟨ls, lc, h1, h2, o⟩ := S
  refine ⟨by rw [r.length]; exact hn, ρ, R, ls ++ F, ds, m.c, lc, r, h2, o.perm (mid_perm ls lc F), ?_⟩
  unfold evSem at p
  match sem ds m.c, p with
  | some (.ok (.val d), c), p =>
    intro v ρ' R' H' lc' hp hr h2' o' rv
    exact p ρ' R' H' hp hr v ⟨ls, lc', h1.imp fun _ _ _ x => x.up hp hr, h2', o'.perm (mid_perm lc' ls F)⟩ (.d rv)
  | some (.ok (.own xs), c), p =>
    intro q us ρ' R' H' lc' hp hr h2' o' rv
    exact p ρ' R' H' hp hr q us ⟨ls, lc', h1.imp fun _ _ _ x => x.up hp hr, h2', o'.perm (mid_perm1 ls lc' F _)⟩ rv
  | some (.exc x, c), p =>
    intro cls d ρ' R' H' lc' hp hr h2' o' rx
    exact hE' _ _ _ (p cls d ρ' R' H' hp hr ⟨ls, lc', h1.imp fun _ _ _ x => x.up hp hr, h2', o'.perm (mid_perm lc' ls F)⟩ rx)
theorem se_call {n : Nat} {sem : Sem0} {tr : TA} {ar : EvA} (hr : SA C W tr ar) : SE C W (tCallS (spOf C n sem) (WE W) tr) (evCall n sem ar) := fun ρ R F σ H m Q S p =>
  hr.bnd S po_wish p fun ρ1 R1 H1 vs ds m1 p1 r1 S1 o1 q1 => by
    split at q1
    · rename_i h
      simp only [Bool.and_eq_true, decide_eq_true_eq] at h
      exact sem_ok S1 (o1.rds h.1) h.2 q1 fun _ _ _ z => z
    · exact q1.elim
end

/-! ### a def's body -/
@[simp] def semDef (N n : Nat) (ex : Ex) : Sem0 := fun args cells =>
  if args.length = n then
    match ex ⟨args.map Sl.d ++ List.replicate (N - n) Sl.u, cells⟩ with
    | some (.ok .nx, m) => some (.ok (.val .non), m.c)
    | some (.ok (.rt a), m) => some (.ok a, m.c)
    | some (.exc x, m) => some (.exc x, m.c)
    | _ => none
  else none
theorem slots_args {K : PySem.W.Frag} {ρ : List Addr} {R : Hp} : ∀ {vs : List V} {ds : List D}, RDs K ρ R vs ds → All2 (SlR K ρ R) (vs.map some) (ds.map Sl.d) []
  | _, _, .nil => .nil
  | _, _, .cons a b => All2.cons (l := []) (.d a) (slots_args b)
theorem slots_u {K : PySem.W.Frag} {ρ : List Addr} {R : Hp} : ∀ n, All2 (SlR K ρ R) (List.replicate n none) (List.replicate n Sl.u) []
  | 0 => .nil
  | n + 1 => All2.cons (l := []) .u (slots_u n)
theorem body_ok {C : Ctx} {N : List Str} {n : Nat} {t : TS} {ex : Ex} {vs : List V} {H : Hp} {Q : VK} {E : XK} (h : SS C (fun cls d _ H => E cls d H) t ex) (hs : spOf C n (semDef N.length n ex) vs H Q E) : t { nx := fun _ H' => Q .non H', rt := Q } (L2.start N vs) H := by
  obtain ⟨hn, ρ, R, F, args, cells, lc, r, h2, o, p⟩ := hs
  have hl := r.length
  have S : Sat C ρ R F (L2.start N vs) H ⟨args.map Sl.d ++ List.replicate (N.length - n) Sl.u, cells⟩ := by
    refine ⟨[], lc, ?_, h2, o⟩
    unfold L2.start
    rw [hn]
    exact (slots_args r).append (slots_u _)
  refine h ρ R F _ H _ _ S ?_
  unfold semDef at p
  rw [if_pos (by omega)] at p
  match ex ⟨args.map Sl.d ++ List.replicate (N.length - n) Sl.u, cells⟩, p with
  | some (.ok .nx, m), p => exact fun σ' ρ' R' H' hp hr ⟨ls, lc', h1', h2', o'⟩ => p .non ρ' R' H' lc' hp hr h2' (o'.sub (List.sublist_append_right _ _)) .non
  | some (.ok (.rt (.val d)), m), p => exact fun σ' ρ' R' H' v hp hr ⟨ls, lc', h1', h2', o'⟩ rv => p v ρ' R' H' lc' hp hr h2' (o'.sub (List.sublist_append_right _ _)) rv
  | some (.ok (.rt (.own xs)), m), p => exact fun σ' ρ' R' H' q us hp hr ⟨ls, lc', h1', h2', o'⟩ rv => p q us ρ' R' H' lc' hp hr h2' (o'.sub (List.sublist_append_right _ _)) rv
  | some (.exc x, m), p => exact fun cls d σ' ρ' R' H' hp hr ⟨ls, lc', h1', h2', o'⟩ rx => p cls d ρ' R' H' lc' hp hr h2' (o'.sub (List.sublist_append_right _ _)) rx
/-- THE RULE for a def -/
theorem fn_ok {P : Program} {w : World} {C : Ctx} {mg : Str → Option Value} {base : Heap} {x qual : Str} {st : Stmt} {f : Addr} {fd : FuncData} {N ps : List Str} {k : Nat} {ex : Ex} (F : Fun C.K x qual st f fd) (S : FnScope N ps (defScope st))
    (h : ∀ (cdv : Value) (A : Around) (outer : List Env) (s : Shared) (H : Hp) (E : XK), Room k (A.deeper (PyProof.Rows.envOfC qual (defScope st) s.heap.objs.size f cdv)) →
      ∃ t, PSs (cxOf (L2.CX P w) P w C.K mg base N qual (defScope st) f cdv A outer s H E) (defBody st) t ∧ SS C (fun cls d _ H => E cls d H) t ex) :
    FnOk P w C.K mg base (L2.CX P w) (k + 1) f fd ps (spOf C ps.length (semDef N.length ps.length ex)) := by
  refine F.okX S (fun vs H Q E h => h.1) (fun cdv A outer s H vs Q E hr hs => ?_)
  obtain ⟨t, h1, h2⟩ := h cdv A outer s H E hr
  exact ⟨t, h1, body_ok h2 hs⟩

/-! ### tests -/
@[simp] def evT (a : Ev) : EvB := fun m => bndO (a m) fun d m1 => match d with | .bl b => some (.ok b, m1) | _ => none
@[simp] def evTru (a : Ev) : EvB := fun m => bndO (a m) fun d m1 => match d with
  | .bl b => some (.ok b, m1)
  | .int i => some (.ok (i != 0), m1)
  | .non => some (.ok false, m1)
  | d => match lsO m1 d with | some xs => some (.ok (!xs.isEmpty), m1) | none => none
@[simp] def evAnd (a b : EvB) : EvB := fun m => bnd (a m) fun x m1 => if x = true then b m1 else some (.ok false, m1)
@[simp] def evOr (a b : EvB) : EvB := fun m => bnd (a m) fun x m1 => if x = true then some (.ok true, m1) else b m1
@[simp] def evNot (a : EvB) : EvB := fun m => bnd (a m) fun x m1 => some (.ok (!x), m1)
@[simp] def evAndV (a b : Ev) : Ev := fun m => bndO (a m) fun d m1 => match d with | .bl true => b m1 | .bl false => some (.ok (.val (.bl false)), m1) | _ => none
@[simp] def evOrV (a b : Ev) : Ev := fun m => bndO (a m) fun d m1 => match d with | .bl true => some (.ok (.val (.bl true)), m1) | .bl false => b m1 | _ => none
@[simp] def evNotV (a : Ev) : Ev := fun m => bndO (a m) fun d m1 => match d with | .bl b => some (.ok (.val (.bl (!b))), m1) | _ => none
@[simp] def evIf (c : EvB) (a b : Ev) : Ev := fun m => bnd (c m) fun x m1 => if x = true then a m1 else b m1
@[simp] def evChain (f f' : D → D → MSt → Option (Rs DV × MSt)) (a b c : Ev) : Ev := fun m => bndO (a m) fun x m1 => bndO (b m1) fun y m2 => bndO (f x y m2) fun z m3 => match z with
  | .bl true => bndO (c m3) fun u m4 => f' y u m4
  | .bl false => some (.ok (.val (.bl false)), m3)
  | _ => none
section
variable {C : Ctx} {W : WX} {ta tb tc : TE} {a b c : Ev} {tt tu : TT} {bt bu : EvB}
theorem Po.tst {F : List Res} {σ : St} {Q : Bool → Hp → Prop} {ρ : List Addr} {R H : Hp} {m : MSt} {k : Bool} (p : Po C W F σ (hB C F σ Q) ρ R (some (.ok k, m))) (S : Sat C ρ R F σ H m) : Q k H := p ρ R H (List.prefix_refl _) (Same.refl _) S
theorem sb_T (h : SE C W ta a) : SB C W (tTest ta) (evT a) := fun ρ R F σ H m Q S p =>
  h.bndO S po_wish p fun ρ1 R1 H1 x d m1 p1 r1 S1 o1 q1 => by
    cases d with
    | bl k => exact ⟨k, o1.bl, q1.tst S1⟩
    | _ => exact q1.elim
theorem sb_B (h : SE C W ta a) : SB C W (tB ta) (evT a) := sb_T h
theorem sb_tru (h : SE C W ta a) : SB C W (fun σ H Q => ta σ H fun x H' => ∃ k, TruV C.K x H' k ∧ Q k H') (evTru a) := fun ρ R F σ H m Q S p =>
  h.bndO S po_wish p fun ρ1 R1 H1 x d m1 p1 r1 S1 o1 q1 => by
    split at q1
    · have e := o1.bl
      subst e
      exact ⟨_, rfl, q1.tst S1⟩
    · have e := o1.int
      subst e
      exact ⟨_, rfl, q1.tst S1⟩
    · have e := o1.non
      subst e
      exact ⟨_, rfl, q1.tst S1⟩
    · split at q1
      · rename_i xs hx
        obtain ⟨l, vs, rfl, hq, rd⟩ := ls_ok S1 o1 hx
        refine ⟨_, .inl ⟨vs, hq, rfl⟩, ?_⟩
        have : vs.isEmpty = xs.isEmpty := by
          cases rd <;> rfl
        rw [this]
        exact q1.tst S1
      · exact q1.elim
theorem sb_and (h1 : SB C W tt bt) (h2 : SB C W tu bu) : SB C W (tAnd tt tu) (evAnd bt bu) := fun ρ R F σ H m Q S p =>
  h1.bnd S po_wish p fun ρ1 R1 H1 k m1 p1 r1 S1 q1 => by
    cases k with
    | true => exact h2 ρ1 R1 F σ H1 m1 Q S1 q1
    | false => exact q1.tst S1
theorem sb_or (h1 : SB C W tt bt) (h2 : SB C W tu bu) : SB C W (tOr tt tu) (evOr bt bu) := fun ρ R F σ H m Q S p =>
  h1.bnd S po_wish p fun ρ1 R1 H1 k m1 p1 r1 S1 q1 => by
    cases k with
    | true => exact q1.tst S1
    | false => exact h2 ρ1 R1 F σ H1 m1 Q S1 q1
theorem sb_not (h1 : SB C W tt bt) : SB C W (tNot tt) (evNot bt) := fun ρ R F σ H m Q S p =>
  h1.bnd S po_wish p fun ρ1 R1 H1 k m1 p1 r1 S1 q1 => q1.tst S1
theorem se_andV (h1 : SE C W ta a) (h2 : SE C W tb b) : SE C W (tAndV ta tb) (evAndV a b) := fun ρ R F σ H m Q S p =>
  h1.bndO S po_wish p fun ρ1 R1 H1 x d m1 p1 r1 S1 o1 q1 => by
    split at q1
    · exact ⟨true, o1.bl, h2 ρ1 R1 F σ H1 m1 Q S1 q1⟩
    · exact ⟨false, o1.bl, q1.val S1 (.d (.bl _))⟩
    · exact q1.elim
theorem se_orV (h1 : SE C W ta a) (h2 : SE C W tb b) : SE C W (tOrV ta tb) (evOrV a b) := fun ρ R F σ H m Q S p =>
  h1.bndO S po_wish p fun ρ1 R1 H1 x d m1 p1 r1 S1 o1 q1 => by
    split at q1
    · exact ⟨true, o1.bl, q1.val S1 (.d (.bl _))⟩
    · exact ⟨false, o1.bl, h2 ρ1 R1 F σ H1 m1 Q S1 q1⟩
    · exact q1.elim
theorem se_notV (h1 : SE C W ta a) : SE C W (tNotV ta) (evNotV a) := fun ρ R F σ H m Q S p =>
  h1.bndO S po_wish p fun ρ1 R1 H1 x d m1 p1 r1 S1 o1 q1 => by
    split at q1
    · exact ⟨_, o1.bl, q1.val S1 (.d (.bl _))⟩
    · exact q1.elim
theorem se_if (h : SB C W tt bt) (h1 : SE C W ta a) (h2 : SE C W tb b) : SE C W (tIf tt ta tb) (evIf bt a b) := fun ρ R F σ H m Q S p =>
  h.bnd S po_wish p fun ρ1 R1 H1 k m1 p1 r1 S1 q1 => by
    cases k with
    | true => exact h1 ρ1 R1 F σ H1 m1 Q S1 q1
    | false => exact h2 ρ1 R1 F σ H1 m1 Q S1 q1
@[simp] def fIsN : D → MSt → Option (Rs DV × MSt) := fun d m1 => match d with | .non => some (.ok (.val (.bl true)), m1) | .sl _ => none | _ => some (.ok (.val (.bl false)), m1)
@[simp] def fNotN : D → MSt → Option (Rs DV × MSt) := fun d m1 => match d with | .non => some (.ok (.val (.bl false)), m1) | .sl _ => none | _ => some (.ok (.val (.bl true)), m1)
theorem se_isN (h : SE C W ta a) : SE C W (tIsN ta) (ev1 fIsN a) := fun ρ R F σ H m Q S p =>
  h.bndO S po_wish p fun ρ1 R1 H1 x d m1 p1 r1 S1 o1 q1 => by
    unfold fIsN at q1
    split at q1
    · have e := o1.non
      subst e
      exact q1.val S1 (.d (.bl true))
    · exact q1.elim
    · rename_i h1 h2
      have : decide (x = .non) = false := by
        cases o1 with
        | d r => cases r <;> first | exact absurd rfl h1 | (apply decide_eq_false; intro z; cases z)
        | sl r => exact absurd rfl (h2 _)
      show Q (.bl (decide (x = .non))) H1
      rw [this]
      exact q1.val S1 (.d (.bl false))
theorem se_notN (h : SE C W ta a) : SE C W (tNotN ta) (ev1 fNotN a) := fun ρ R F σ H m Q S p =>
  h.bndO S po_wish p fun ρ1 R1 H1 x d m1 p1 r1 S1 o1 q1 => by
    unfold fNotN at q1
    split at q1
    · have e := o1.non
      subst e
      exact q1.val S1 (.d (.bl false))
    · exact q1.elim
    · rename_i h1 h2
      have : decide (x = .non) = false := by
        cases o1 with
        | d r => cases r <;> first | exact absurd rfl h1 | (apply decide_eq_false; intro z; cases z)
        | sl r => exact absurd rfl (h2 _)
      show Q (.bl (!decide (x = .non))) H1
      rw [this]
      exact q1.val S1 (.d (.bl true))
theorem SO2.bndO {r : R2} {f : D → D → MSt → Option (Rs DV × MSt)} {ρ : List Addr} {R H : Hp} {F : List Res} {σ : St} {m : MSt} {β : Type} {P : List Addr → Hp → Option (Rs β × MSt) → Prop} {g : D → MSt → Option (Rs β × MSt)} {k : VK} {x y : V} {d e : D} (h : SO2 C W r f) (S : Sat C ρ R F σ H m)
    (o1 : RO C.K ρ R σ x d) (o2 : RO C.K ρ R σ y e) (wi : Wish C W F σ P) (p : P ρ R (MP.bndO (f d e m) g))
    (K : ∀ ρ' R' H' v d m', ρ <+: ρ' → Same R R' → Sat C ρ' R' F σ H' m' → RO C.K ρ' R' σ v d → P ρ' R' (g d m') → k v H') : r x y H k := by
  refine h ρ R F σ H m k x d y e S o1 o2 ?_
  match f d e m, p with
  | none, p => exact wi.no _ _ p
  | some (.ok (.val d), m'), p => exact fun ρ' R' H' hp hr v S' r => K ρ' R' H' v d m' hp hr S' r (wi.up _ _ _ _ _ hp hr p)
  | some (.ok (.own xs), m'), p =>
    intro ρ' R' H' hp hr q vs S' r
    obtain ⟨S2, sm⟩ := S'.freeze
    exact K ρ' _ H' (.ref q) (.lst xs) m' hp (hr.trans sm) S2 (.d (.lst upd_same (r.up (List.prefix_refl _) sm))) (wi.up _ _ _ _ _ hp (hr.trans sm) p)
  | some (.exc x, m'), p => exact wi.ex _ _ _ _ p
theorem se_chain {r r' : R2} {f f' : D → D → MSt → Option (Rs DV × MSt)} (h1 : SE C W ta a) (h2 : SE C W tb b) (h3 : SE C W tc c) (hf : SO2 C W r f) (hf' : SO2 C W r' f') : SE C W (tChain r r' ta tb tc) (evChain f f' a b c) := fun ρ R F σ H m Q S p =>
  h1.bndO S po_wish p fun ρ1 R1 H1 x d m1 p1 r1 S1 o1 q1 => h2.bndO S1 po_wish q1 fun ρ2 R2 H2 y e m2 p2 r2 S2 o2 q2 => hf.bndO S2 (o1.up p2 r2) o2 po_wish q2 fun ρ3 R3 H3 z g m3 p3 r3 S3 o3 q3 => by
    split at q3
    · have e := o3.bl
      subst e
      refine ⟨true, rfl, ?_⟩
      rw [if_pos rfl]
      exact h3.bndO S3 po_wish q3 fun ρ4 R4 H4 u w m4 p4 r4 S4 o4 q4 => hf' ρ4 R4 F σ H4 m4 Q y _ u w S4 ((o2.up p3 r3).up p4 r4) o4 q4
    · have e := o3.bl
      subst e
      refine ⟨false, rfl, ?_⟩
      rw [if_neg Bool.false_ne_true]
      exact q3.val S3 (.d (.bl _))
    · exact q3.elim
end

/-! ### statements -/
@[simp] def exNext : Ex := fun m => some (.ok .nx, m)
@[simp] def exSeq (a b : Ex) : Ex := fun m => match a m with
  | some (.ok .nx, m1) => b m1
  | r => r
@[simp] def exIf (c : EvB) (a b : Ex) : Ex := fun m => bnd (c m) fun x m1 => if x = true then a m1 else b m1
@[simp] def exDrop (a : Ev) : Ex := fun m => bndO (a m) fun _ m1 => some (.ok .nx, m1)
@[simp] def exRet (a : Ev) : Ex := fun m => bnd (a m) fun r m1 => match r with
  | .val d => if solid d = true then some (.ok (.rt (.val d)), m1) else none
  | .own xs => some (.ok (.rt (.own xs)), m1)
@[simp] def exRetN : Ex := fun m => some (.ok (.rt (.val .non)), m)
@[simp] def exBrk : Ex := fun m => some (.ok .bk, m)
@[simp] def exCnt : Ex := fun m => some (.ok .ct, m)
@[simp] def exNever : Ex := fun _ => none
@[simp] def exSet (i : Nat) (a : Ev) : Ex := fun m => bnd (a m) fun r m1 => match r with
  | .val d => if solid d = true then some (.ok .nx, { m1 with g := m1.g.set i (.d d) }) else none
  | .own xs => some (.ok .nx, { m1 with g := m1.g.set i (.own xs) })
section
variable {C : Ctx} {W : WX} {ta tb te : TE} {a b e : Ev} {tt : TT} {bt : EvB} {t u : TS} {ex ey : Ex}
theorem SE.bndV {ρ : List Addr} {R H : Hp} {F : List Res} {σ : St} {m : MSt} {β : Type} {P : List Addr → Hp → Option (Rs β × MSt) → Prop} {f : DV → MSt → Option (Rs β × MSt)} {k : VK} (h : SE C W ta a) (S : Sat C ρ R F σ H m) (wi : Wish C W F σ P) (p : P ρ R (bnd (a m) f))
    (K1 : ∀ ρ' R' H' v d m', ρ <+: ρ' → Same R R' → Sat C ρ' R' F σ H' m' → RO C.K ρ' R' σ v d → P ρ' R' (f (.val d) m') → k v H')
    (K2 : ∀ ρ' R' H' q vs xs m', ρ <+: ρ' → Same R R' → Sat C ρ' R' ((q, .lst vs) :: F) σ H' m' → RDs C.K ρ' R' vs xs → P ρ' R' (f (.own xs) m') → k (.ref q) H') : ta σ H k := by
  refine h ρ R F σ H m k S ?_
  match a m, p with
  | none, p => exact wi.no _ _ p
  | some (.ok (.val d), m'), p => exact fun ρ' R' H' hp hr v S' r => K1 ρ' R' H' v d m' hp hr S' r (wi.up _ _ _ _ _ hp hr p)
  | some (.ok (.own xs), m'), p => exact fun ρ' R' H' hp hr q vs S' r => K2 ρ' R' H' q vs xs m' hp hr S' r (wi.up _ _ _ _ _ hp hr p)
  | some (.exc x, m'), p => exact wi.ex _ _ _ _ p
theorem ss_next : SS C W tNext exNext := fun ρ R F σ H m D S p => p σ ρ R H (List.prefix_refl _) (Same.refl _) S
theorem ss_brk : SS C W tBreak exBrk := fun ρ R F σ H m D S p => p σ ρ R H (List.prefix_refl _) (Same.refl _) S
theorem ss_cnt : SS C W tCont exCnt := fun ρ R F σ H m D S p => p σ ρ R H (List.prefix_refl _) (Same.refl _) S
theorem ss_never : SS C W tNever exNever := fun ρ R F σ H m D S p => p.elim
theorem ss_retN : SS C W tRetN exRetN := fun ρ R F σ H m D S p => p σ ρ R H .non (List.prefix_refl _) (Same.refl _) S .non
theorem ss_seq (h1 : SS C W t ex) (h2 : SS C W u ey) : SS C W (tSeq t u) (exSeq ex ey) := fun ρ R F σ H m D S p => by
  refine h1 ρ R F σ H m _ S ?_
  unfold exSeq at p
  match ex m, p with
  | some (.ok .nx, m1), p => exact fun σ' ρ' R' H' hp hr S' => h2 ρ' R' F σ' H' m1 D S' (poS_wish.up (σ := σ) _ _ _ _ _ hp hr p)
  | some (.ok .bk, m1), p => exact p
  | some (.ok .ct, m1), p => exact p
  | some (.ok (.rt (.val d)), m1), p => exact p
  | some (.ok (.rt (.own d)), m1), p => exact p
  | some (.exc x, m1), p => exact p
  | none, p => exact p
theorem ss_if (h : SB C W tt bt) (h1 : SS C W t ex) (h2 : SS C W u ey) : SS C W (tIfS tt t u) (exIf bt ex ey) := fun ρ R F σ H m D S p =>
  h.bnd S poS_wish p fun ρ1 R1 H1 k m1 p1 r1 S1 q1 => by
    cases k with
    | true => exact h1 ρ1 R1 F σ H1 m1 D S1 q1
    | false => exact h2 ρ1 R1 F σ H1 m1 D S1 q1
theorem ss_drop (h : SE C W te e) : SS C W (tDrop te) (exDrop e) := fun ρ R F σ H m D S p =>
  h.bndO S poS_wish p fun ρ1 R1 H1 x d m1 p1 r1 S1 o1 q1 => q1 σ ρ1 R1 H1 (List.prefix_refl _) (Same.refl _) S1
theorem ss_ret (h : SE C W te e) : SS C W (tRet te) (exRet e) := fun ρ R F σ H m D S p =>
  h.bndV S poS_wish p (fun ρ1 R1 H1 x d m1 p1 r1 S1 o1 q1 => by
    split at q1
    · rename_i hs
      cases hs
      split at q1
      · rename_i hs
        exact q1 σ ρ1 R1 H1 x (List.prefix_refl _) (Same.refl _) S1 (o1.rd hs)
      · exact q1.elim
    · rename_i hs
      cases hs) fun ρ1 R1 H1 q vs xs m1 p1 r1 S1 rd q1 => q1 σ ρ1 R1 H1 q vs (List.prefix_refl _) (Same.refl _) S1 rd
theorem ss_set {i : Nat} (h : SE C W te e) : SS C W (tAsg te (gName i)) (exSet i e) := fun ρ R F σ H m D S p =>
  h.bndV S poS_wish p (fun ρ1 R1 H1 x d m1 p1 r1 S1 o1 q1 => by
    split at q1
    · rename_i hs
      cases hs
      split at q1
      · rename_i hs
        exact q1 _ ρ1 R1 H1 (List.prefix_refl _) (Same.refl _) (S1.set (o1.rd hs))
      · exact q1.elim
    · rename_i hs
      cases hs) fun ρ1 R1 H1 q vs xs m1 p1 r1 S1 rd q1 => q1 _ ρ1 R1 H1 (List.prefix_refl _) (Same.refl _) (S1.setOwn rd)
end
end MP

set_option Elab.async false
set_option linter.all false
set_option maxRecDepth 100000
set_option maxHeartbeats 4000000
namespace MP
open PySem L2

/-! ### a cell that changes -/
section
variable {C : Ctx} {W : WX} {ρ : List Addr} {R H : Hp} {F : List Res} {σ : L2.St} {m : MSt}
theorem cell_mid {A L1 L2 F : List Res} (x : Res) : (x :: (A ++ ((L1 ++ L2) ++ F))).Perm (A ++ ((L1 ++ ([x] ++ L2)) ++ F)) := by
  have e : A ++ ((L1 ++ ([x] ++ L2)) ++ F) = (A ++ L1) ++ x :: (L2 ++ F) := by simp
  have e2 : A ++ ((L1 ++ L2) ++ F) = (A ++ L1) ++ (L2 ++ F) := by simp
  rw [e, e2]
  exact List.perm_middle.symm
theorem Sat.cellSet {id : Nat} {ce : Cell} {a : Addr} {o : HO} (S : Sat C ρ R F σ H m) (h : m.c[id]? = some ce) (hr : ρ[id]? = some a) (h1 : ∀ a' l, CeR C ρ R a' ce l → ∃ o, l = [(a', o)]) :
    ∃ o, CeR C ρ R a ce [(a, o)] ∧ H a = some o ∧ ∀ ce' o', CeR C ρ R a ce' [(a, o')] → Sat C ρ R F σ (upd H a o') { m with c := m.c.set id ce' } := by
  obtain ⟨ls, lc, q1, q2, ow⟩ := S
  obtain ⟨a2, l, L1, L2, e1, r, eL, hs⟩ := q2.at h
  rw [hr] at e1
  cases e1
  obtain ⟨o, rfl⟩ := h1 a l r
  rw [eL] at ow
  have ow' := ow.perm (cell_mid (a, o)).symm
  have hp := ow'.at' (a, o) List.mem_cons_self
  refine ⟨o, r, hp.1, fun ce' o' r' => ?_⟩
  have q := hs _ (fun _ _ _ x => x) a ce' [(a, o')] r'
  have ea : ρ.set id a = ρ := by
    apply List.ext_getElem?
    intro j
    have hi : id < ρ.length := (List.getElem?_eq_some_iff.mp hr).1
    by_cases hj : id = j
    · subst hj; rw [List.getElem?_set_self hi, hr]
    · rw [List.getElem?_set_ne hj]
  rw [ea] at q
  exact ⟨ls, _, q1, q, ow'.set.perm (cell_mid (a, o'))⟩
end

/-! ### lists that may change -/
@[simp] def lsM (m : MSt) : D → Option (List D)
  | .ref id => match m.c[id]? with | some (.lst xs) => some xs | _ => none
  | .sl i => match m.g[i]? with | some (.own xs) => some xs | _ => none
  | _ => none
@[simp] def putL (m : MSt) (d : D) (xs : List D) : MSt := match d with
  | .ref id => { m with c := m.c.set id (.lst xs) }
  | .sl i => { m with g := m.g.set i (.own xs) }
  | _ => m
section
variable {C : Ctx} {W : WX} {ρ : List Addr} {R H : Hp} {F : List Res} {σ : L2.St} {m : MSt}
theorem lm_ok {v : V} {d : D} {xs : List D} (S : Sat C ρ R F σ H m) (r : RO C.K ρ R σ v d) (h : lsM m d = some xs) :
    ∃ a vs, v = .ref a ∧ H a = some (.lst vs) ∧ RDs C.K ρ R vs xs ∧ ∀ vs' xs', RDs C.K ρ R vs' xs' → Sat C ρ R F σ (upd H a (.lst vs')) (putL m d xs') := by
  cases r with
  | d r =>
    cases r with
    | ref h1 =>
      rename_i a id
      have e : m.c[id]? = some (.lst xs) := lsO_ref h
      obtain ⟨o, r2, hH, hs⟩ := S.cellSet (o := .lst []) e h1 fun a' l q => by
        cases q
        exact ⟨_, rfl⟩
      cases r2 with
      | lst r2 => exact ⟨a, _, rfl, hH, r2, fun vs' xs' r' => hs (.lst xs') (.lst vs') (.lst r')⟩
    | _ => cases h
  | sl r =>
    have e := lsO_sl h
    obtain ⟨p, vs, e1, hp, r1, hs, _⟩ := S.slotOwn e
    rw [r] at e1
    cases e1
    exact ⟨p, vs, rfl, hp, r1, hs⟩
end

/-! ### targets -/
def PoG (C : Ctx) (W : WX) (F : List Res) (Q : L2.St → Hp → Prop) (ρ : List Addr) (R : Hp) : Option (Rs Unit × MSt) → Prop
  | none => False
  | some (.ok _, m) => ∀ σ' ρ' R' H', ρ <+: ρ' → Same R R' → Sat C ρ' R' F σ' H' m → Q σ' H'
  | some (.exc x, m) => ∀ cls d σ' ρ' R' H', ρ <+: ρ' → Same R R' → Sat C ρ' R' F σ' H' m → RX C ρ' R' cls d x → W cls d σ' H'
theorem poG_wish {C : Ctx} {W : WX} {F : List Res} {σ : L2.St} {Q : L2.St → Hp → Prop} : Wish C W F σ (PoG C W F Q) where
  no := fun _ _ h => h
  up := fun ρ R ρ' R' r hp hr h => by
    match r, h with
    | some (.ok _, m), h => exact fun σ2 ρ2 R2 H2 p2 r2 => h σ2 ρ2 R2 H2 (hp.trans p2) (hr.trans r2)
    | some (.exc x, m), h => exact fun cls d σ2 ρ2 R2 H2 p2 r2 => h cls d σ2 ρ2 R2 H2 (hp.trans p2) (hr.trans r2)
  ex := fun ρ R x m h cls d ρ' R' H' => h cls d σ ρ' R' H'
abbrev Gs := D → MSt → Option (Rs Unit × MSt)
abbrev Gss := List D → MSt → Option (Rs Unit × MSt)
def SG (C : Ctx) (W : WX) (g : TG) (gs : Gs) : Prop := ∀ ρ R F σ H m v d (Q : L2.St → Hp → Prop), Sat C ρ R F σ H m → RD C.K ρ R v d → PoG C W F Q ρ R (gs d m) → g v σ H Q
def SGs (C : Ctx) (W : WX) (g : TGs) (gs : Gss) : Prop := ∀ ρ R F σ H m vs ds (Q : L2.St → Hp → Prop), Sat C ρ R F σ H m → RDs C.K ρ R vs ds → PoG C W F Q ρ R (gs ds m) → g vs σ H Q
@[simp] def gsName (i : Nat) : Gs := fun d m => some (.ok (), { m with g := m.g.set i (.d d) })
@[simp] def gsNil : Gss := fun ds m => match ds with | [] => some (.ok (), m) | _ => none
@[simp] def gsCons (a : Gs) (r : Gss) : Gss := fun ds m => match ds with
  | d :: ds => bnd (a d m) fun _ m1 => r ds m1
  | [] => none
@[simp] def gsTup (n : Nat) (r : Gss) : Gs := fun d m => match d with | .tup xs => if xs.length = n then r xs m else none | _ => none
section
variable {C : Ctx} {W : WX}
theorem sg_name {i : Nat} : SG C W (gName i) (gsName i) := fun ρ R F σ H m v d Q S r p => p _ ρ R H (List.prefix_refl _) (Same.refl _) (S.set r)
theorem sgs_nil : SGs C W gNil gsNil := fun ρ R F σ H m vs ds Q S r p => by
  unfold gsNil at p
  split at p
  · cases r
    exact ⟨rfl, p σ ρ R H (List.prefix_refl _) (Same.refl _) S⟩
  · exact p.elim
theorem PoG.bnd {F : List Res} {Q : L2.St → Hp → Prop} {ρ : List Addr} {R H : Hp} {m : MSt} {σ : L2.St} {g : TG} {gs : Gs} {v : V} {d : D} {f : Unit → MSt → Option (Rs Unit × MSt)} {k : L2.St → Hp → Prop} (h : SG C W g gs) (S : Sat C ρ R F σ H m) (r : RD C.K ρ R v d) (p : PoG C W F Q ρ R (bnd (gs d m) f))
    (K : ∀ σ' ρ' R' H' m', ρ <+: ρ' → Same R R' → Sat C ρ' R' F σ' H' m' → PoG C W F Q ρ' R' (f () m') → k σ' H') : g v σ H k := by
  refine h ρ R F σ H m v d k S r ?_
  match gs d m, p with
  | none, p => exact p
  | some (.ok _, m'), p => exact fun σ' ρ' R' H' hp hr S' => K σ' ρ' R' H' m' hp hr S' ((poG_wish (σ := σ)).up _ _ _ _ _ hp hr p)
  | some (.exc x, m'), p => exact p
theorem sgs_cons {g : TG} {gs : Gs} {u : TGs} {us : Gss} (h1 : SG C W g gs) (h2 : SGs C W u us) : SGs C W (gCons g u) (gsCons gs us) := fun ρ R F σ H m vs ds Q S r p => by
  unfold gsCons at p
  split at p
  · cases r with
    | cons r1 r2 => exact ⟨_, _, rfl, PoG.bnd h1 S r1 p fun σ' ρ' R' H' m' hp hr S' p' => h2 ρ' R' F σ' H' m' _ _ Q S' (r2.up hp hr) p'⟩
  · exact p.elim
theorem sg_tup {n : Nat} {u : TGs} {us : Gss} (h : SGs C W u us) : SG C W (gTup C.K n u) (gsTup n us) := fun ρ R F σ H m v d Q S r p => by
  unfold gsTup at p
  split at p
  · split at p
    · rename_i hn
      cases r with
      | tup h1 h2 => exact ⟨_, _, rfl, SqT.of (S.same _ _ h1), by rw [h2.length]; exact hn, h ρ R F σ H m _ _ Q S h2 p⟩
    · exact p.elim
  · exact p.elim
/-! o[i] = v of a list -/
@[simp] def fSetL (o i v : D) (m : MSt) : Option (Rs Unit × MSt) := match i with
  | .int k => match lsM m o with
    | some xs => match ixN xs.length k with
      | some j => some (.ok (), putL m o (xs.set j v))
      | none => none
    | none => none
  | _ => none
@[simp] def gsSub (a b : Ev) : Gs := fun d m => bndO (a m) fun o m1 => bndO (b m1) fun i m2 => fSetL o i d m2
theorem sg_sub {to ti : TE} {a b : Ev} (h1 : SE C W to a) (h2 : SE C W ti b) : SG C W (gSub to ti rSetL) (gsSub a b) := fun ρ R F σ H m v d Q S r p =>
  h1.bndO S poG_wish p fun ρ1 R1 H1 o e m1 p1 r1 S1 o1 q1 => h2.bndO S1 poG_wish q1 fun ρ2 R2 H2 i f m2 p2 r2 S2 o2 q2 => by
    unfold fSetL at q2
    split at q2
    · split at q2
      · rename_i xs hx
        split at q2
        · rename_i j hj
          obtain ⟨a, vs, rfl, hH, rd, hs⟩ := lm_ok S2 (o1.up p2 r2) hx
          refine ⟨a, vs, _, j, rfl, o2.int, hH, by rw [rd.length]; exact hj, ?_⟩
          exact q2 σ ρ2 R2 _ (List.prefix_refl _) (Same.refl _) (hs _ _ (rd.set j ((r.up p1 r1).up p2 r2)))
        · exact q2.elim
      · exact q2.elim
    · exact q2.elim
@[simp] def exAsg (a : Ev) (g : Gs) : Ex := fun m => bndD (a m) fun d m1 => bnd (g d m1) fun _ m2 => some (.ok .nx, m2)
theorem SG.bndS {D' : Ends} {F : List Res} {ρ : List Addr} {R H : Hp} {m : MSt} {σ : L2.St} {g : TG} {gs : Gs} {v : V} {d : D} {f : Unit → MSt → Option (Rs Ctl × MSt)} {k : L2.St → Hp → Prop} (h : SG C W g gs) (S : Sat C ρ R F σ H m) (r : RD C.K ρ R v d) (p : PoS C W F D' ρ R (bnd (gs d m) f))
    (K : ∀ σ' ρ' R' H' m', ρ <+: ρ' → Same R R' → Sat C ρ' R' F σ' H' m' → PoS C W F D' ρ' R' (f () m') → k σ' H') : g v σ H k := by
  refine h ρ R F σ H m v d k S r ?_
  match gs d m, p with
  | none, p => exact p
  | some (.ok _, m'), p => exact fun σ' ρ' R' H' hp hr S' => K σ' ρ' R' H' m' hp hr S' ((poS_wish (σ := σ)).up _ _ _ _ _ hp hr p)
  | some (.exc x, m'), p => exact p
theorem ss_asg {te : TE} {e : Ev} {g : TG} {gs : Gs} (h : SE C W te e) (hg : SG C W g gs) : SS C W (tAsg te g) (exAsg e gs) := fun ρ R F σ H m D S p =>
  h.bndD S poS_wish p fun ρ1 R1 H1 x d m1 p1 r1 S1 o1 q1 => SG.bndS hg S1 o1 q1 fun σ' ρ' R' H' m' hp hr S' p' => p' σ' ρ' R' H' (List.prefix_refl _) (Same.refl _) S'
end

/-! ### methods of lists -/
@[simp] def isLs (m : MSt) (d : D) : Bool := (lsO m d).isSome
@[simp] def evMeth (f : D → List D → MSt → Option (Rs DV × MSt)) (a : Ev) (r : EvA) : Ev := fun m => bndO (a m) fun d m1 => if isLs m1 d then bnd (r m1) fun ds m2 => f d ds m2 else none
def SOM (C : Ctx) (W : WX) (r : V → List V → Hp → VK → Prop) (f : D → List D → MSt → Option (Rs DV × MSt)) : Prop :=
  ∀ ρ R F σ H m (Q : VK) x d ys es, Sat C ρ R F σ H m → RO C.K ρ R σ x d → ROs C.K ρ R σ ys es → Po C W F σ (hE C F σ Q) ρ R (f d es m) → r x ys H Q
section
variable {C : Ctx} {W : WX} {ta : TE} {a : Ev} {tr : TA} {ar : EvA}
theorem isLs_ty {ρ : List Addr} {R H : Hp} {F : List Res} {σ : L2.St} {m : MSt} {x : V} {d : D} (S : Sat C ρ R F σ H m) (o : RO C.K ρ R σ x d) (h : isLs m d = true) : tyV C.K "list" x H := by
  unfold isLs at h
  obtain ⟨xs, hx⟩ := Option.isSome_iff_exists.mp h
  obtain ⟨p, vs, rfl, hq, _⟩ := ls_ok S o hx
  exact .inl ⟨rfl, vs, hq⟩
theorem se_bm {r : V → List V → Hp → VK → Prop} {f : D → List D → MSt → Option (Rs DV × MSt)} (h1 : SE C W ta a) (h2 : SA C W tr ar) (h : SOM C W r f) : SE C W (tBM C.K "list" r ta tr) (evMeth f a ar) := fun ρ R F σ H m Q S p =>
  h1.bndO S po_wish p fun ρ1 R1 H1 x d m1 p1 r1 S1 o1 q1 => by
    split at q1
    · rename_i hl
      exact ⟨isLs_ty S1 o1 hl, h2.bnd S1 po_wish q1 fun ρ2 R2 H2 vs ds m2 p2 r2 S2 o2 q2 => h ρ2 R2 F σ H2 m2 Q x d vs ds S2 (o1.up p2 r2) o2 q2⟩
    · exact q1.elim
theorem se_bm0 {r : V → List V → Hp → VK → Prop} {f : D → List D → MSt → Option (Rs DV × MSt)} (h1 : SE C W ta a) (h : SOM C W r f) : SE C W (tBM0 C.K "list" r ta) (evMeth f a eaNil) := fun ρ R F σ H m Q S p =>
  h1.bndO S po_wish p fun ρ1 R1 H1 x d m1 p1 r1 S1 o1 q1 => by
    split at q1
    · rename_i hl
      exact ⟨isLs_ty S1 o1 hl, h ρ1 R1 F σ H1 m1 Q x d [] [] S1 o1 .nil q1⟩
    · exact q1.elim
@[simp] def fApp : D → List D → MSt → Option (Rs DV × MSt) := fun d es m => match es with
  | [e] => match lsM m d with
    | some xs => if solid e && szOk (xs.length + 1) then some (.ok (.val .non), putL m d (xs ++ [e])) else none
    | none => none
  | _ => none
theorem som_app : SOM C W rAppend fApp := fun ρ R F σ H m Q x d ys es S o os p => by
  unfold fApp at p
  split at p
  · split at p
    · rename_i xs hx
      split at p
      · rename_i h
        obtain ⟨h1, h2⟩ := Bool.and_eq_true_iff.mp h
        obtain ⟨v, rfl, o1⟩ := os.one
        obtain ⟨l, vs, rfl, hH, rd, hs⟩ := lm_ok S o hx
        refine ⟨l, vs, v, rfl, rfl, hH, by rw [rd.length]; exact szOk_lt h2, p.val (hs _ _ (rd.append (.cons (o1.rd h1) .nil))) (.d .non)⟩
      · exact p.elim
    · exact p.elim
  · exact p.elim
@[simp] def fPop : D → List D → MSt → Option (Rs DV × MSt) := fun d es m => match es with
  | [] => match lsM m d with
    | some xs => match xs[xs.length - 1]? with
      | some v => some (.ok (.val v), putL m d xs.dropLast)
      | none => none
    | none => none
  | _ => none
theorem RDs.dropLast {K : PySem.W.Frag} {ρ : List Addr} {R : Hp} {vs : List V} {ds : List D} (r : RDs K ρ R vs ds) : RDs K ρ R vs.dropLast ds.dropLast := by
  rw [List.dropLast_eq_take, List.dropLast_eq_take, r.length]
  exact r.take _
theorem som_pop : SOM C W rPop fPop := fun ρ R F σ H m Q x d ys es S o os p => by
  unfold fPop at p
  split at p
  · split at p
    · rename_i xs hx
      split at p
      · rename_i v hv
        cases os
        obtain ⟨l, vs, rfl, hH, rd, hs⟩ := lm_ok S o hx
        obtain ⟨u, hu, ru⟩ := rd.get' hv
        refine ⟨l, vs, u, rfl, rfl, hH, by rw [rd.length]; exact hu, p.val (hs _ _ rd.dropLast) (.d ru)⟩
      · exact p.elim
    · exact p.elim
  · exact p.elim
def fPopAt : D → List D → MSt → Option (Rs DV × MSt) := fun d es m => match es with
  | [.int i] => match lsM m d with
    | some xs => if decide (-(2 ^ 63) ≤ i) && decide (i < 2 ^ 63) then
        match seqIndex? i xs.length with
        | some k => match xs[k]? with
          | some v => some (.ok (.val v), putL m d (xs.eraseIdx k))
          | none => none
        | none => none
      else none
    | none => none
  | _ => none
theorem som_popAt : SOM C W rPopAt fPopAt := fun ρ R F σ H m Q x d ys es S o os p => by
  unfold fPopAt at p
  split at p
  · split at p
    · rename_i xs hx
      split at p
      · rename_i h
        simp only [Bool.and_eq_true, decide_eq_true_eq] at h
        split at p
        · rename_i k hk
          split at p
          · rename_i v hv
            obtain ⟨y, rfl, o1⟩ := os.one
            have e := o1.int
            subst e
            obtain ⟨l, vs, rfl, hH, rd, hs⟩ := lm_ok S o hx
            obtain ⟨u, hu, ru⟩ := rd.get' hv
            exact ⟨l, vs, _, k, u, rfl, rfl, hH, h.1, h.2, by rw [rd.length]; exact hk, hu, p.val (hs _ _ (rd.eraseIdx k)) (.d ru)⟩
          · exact p.elim
        · exact p.elim
      · exact p.elim
    · exact p.elim
  · exact p.elim
end

/-! ### what a loop walks -/
def ItOk (C : Ctx) (J : It) (items : List D) (ρ : List Addr) (R : Hp) : Prop := ∀ i ρ' R' F σ H m, ρ <+: ρ' → Same R R' → Sat C ρ' R' F σ H m →
  (items.length ≤ i → J.stop i H) ∧ ∀ d, items[i]? = some d → J.go i H ∧ ∀ x H', J.yld i H x H' → ∃ R'', Same R' R'' ∧ Sat C ρ' R'' F σ H' m ∧ RD C.K ρ' R'' x d
theorem ItOk.up {C : Ctx} {J : It} {items : List D} {ρ ρ1 : List Addr} {R R1 : Hp} (h : ItOk C J items ρ R) (p : ρ <+: ρ1) (r : Same R R1) : ItOk C J items ρ1 R1 := fun i ρ' R' F σ H m hp hr => h i ρ' R' F σ H m (p.trans hp) (r.trans hr)
abbrev EvI := MSt → Option (Rs (List D) × MSt)
def hI (C : Ctx) (F : List Res) (σ : L2.St) (K : It → Hp → Prop) : List D → List Addr → Hp → Hp → MSt → Prop :=
  fun items ρ R H m => ∀ J, Sat C ρ R F σ H m → ItOk C J items ρ R → K J H
def SI (C : Ctx) (W : WX) (t : TI) (ev : EvI) : Prop := ∀ ρ R F σ H m (K : It → Hp → Prop), Sat C ρ R F σ H m → Po C W F σ (hI C F σ K) ρ R (ev m) → t σ H K
theorem SI.bnd {C : Ctx} {W : WX} {ρ : List Addr} {R H : Hp} {F : List Res} {σ : L2.St} {m : MSt} {β : Type} {P : List Addr → Hp → Option (Rs β × MSt) → Prop} {f : List D → MSt → Option (Rs β × MSt)} {t : TI} {ev : EvI} {k : It → Hp → Prop} (h : SI C W t ev) (S : Sat C ρ R F σ H m) (wi : Wish C W F σ P) (p : P ρ R (MP.bnd (ev m) f))
    (K : ∀ ρ' R' H' J ds m', ρ <+: ρ' → Same R R' → Sat C ρ' R' F σ H' m' → ItOk C J ds ρ' R' → P ρ' R' (f ds m') → k J H') : t σ H k := by
  refine h ρ R F σ H m k S ?_
  match ev m, p with
  | none, p => exact wi.no _ _ p
  | some (.ok ds, m'), p => exact fun ρ' R' H' hp hr J S' ok => K ρ' R' H' J ds m' hp hr S' ok (wi.up _ _ _ _ _ hp hr p)
  | some (.exc x, m'), p => exact wi.ex _ _ _ _ p
/-! a list that stands (frozen); a tuple -/
@[simp] def eiList (a : Ev) : EvI := fun m => bndD (a m) fun d m1 => match d with | .lst xs => some (.ok xs, m1) | .lstK xs => some (.ok xs, m1) | _ => none
@[simp] def eiTup (a : Ev) : EvI := fun m => bndD (a m) fun d m1 => match d with | .tup xs => some (.ok xs, m1) | .tupK xs => some (.ok xs, m1) | _ => none
section
variable {C : Ctx} {W : WX} {ta : TE} {a : Ev}
theorem itl_ok {ρ : List Addr} {R : Hp} {l : Addr} {vs : List V} {xs : List D} (h1 : SqL C.K R l vs) (h2 : RDs C.K ρ R vs xs) : ItOk C (Itl C.K l) xs ρ R := fun i ρ' R' F σ H m hp hr S => by
  have q := S.same.seq (hr.seq h1)
  refine ⟨fun hi => ⟨vs, q, by rw [h2.length]; exact hi⟩, fun d hd => ?_⟩
  obtain ⟨v, hv, rv⟩ := (h2.up hp hr).get' hd
  refine ⟨⟨vs, v, q, hv⟩, fun x H' y => ?_⟩
  obtain ⟨rfl, y⟩ := y
  have e := y vs q
  rw [hv] at e
  cases e
  exact ⟨R', Same.refl _, S, rv⟩
theorem itt_ok {ρ : List Addr} {R : Hp} {l : Addr} {vs : List V} {xs : List D} (h1 : SqT C.K R l vs) (h2 : RDs C.K ρ R vs xs) : ItOk C (Itt C.K l) xs ρ R := fun i ρ' R' F σ H m hp hr S => by
  have q := same_t S.same (same_t hr h1)
  refine ⟨fun hi => ⟨vs, q, by rw [h2.length]; exact hi⟩, fun d hd => ?_⟩
  obtain ⟨v, hv, rv⟩ := (h2.up hp hr).get' hd
  refine ⟨⟨vs, v, q, hv⟩, fun x H' y => ?_⟩
  obtain ⟨rfl, y⟩ := y
  have e := y vs q
  rw [hv] at e
  cases e
  exact ⟨R', Same.refl _, S, rv⟩
theorem si_list (h : SE C W ta a) : SI C W (iList C.K ta) (eiList a) := fun ρ R F σ H m K S p =>
  h.bndD S po_wish p fun ρ1 R1 H1 x d m1 p1 r1 S1 o1 q1 => by
    split at q1
    · cases o1 with
      | lst h1 h2 => exact ⟨_, rfl, ⟨_, SqL.of (S1.same _ _ h1)⟩, q1 ρ1 R1 H1 (List.prefix_refl _) (Same.refl _) _ S1 (itl_ok (SqL.of h1) h2)⟩
    · cases o1 with
      | lstK h1 h2 => exact ⟨_, rfl, ⟨_, S1.same.seq h1⟩, q1 ρ1 R1 H1 (List.prefix_refl _) (Same.refl _) _ S1 (itl_ok h1 h2)⟩
    · exact q1.elim
theorem si_tup (h : SE C W ta a) : SI C W (iTup C.K ta) (eiTup a) := fun ρ R F σ H m K S p =>
  h.bndD S po_wish p fun ρ1 R1 H1 x d m1 p1 r1 S1 o1 q1 => by
    split at q1
    · cases o1 with
      | tup h1 h2 => exact ⟨_, rfl, ⟨_, SqT.of (S1.same _ _ h1)⟩, q1 ρ1 R1 H1 (List.prefix_refl _) (Same.refl _) _ S1 (itt_ok (SqT.of h1) h2)⟩
    · cases o1 with
      | tupK h1 h2 => exact ⟨_, rfl, ⟨_, same_t S1.same h1⟩, q1 ρ1 R1 H1 (List.prefix_refl _) (Same.refl _) _ S1 (itt_ok h1 h2)⟩
    · exact q1.elim
/-! ranges -/
def rngL (lo : Int) (n : Nat) : List D := (List.range n).map fun (i : Nat) => D.int (lo + (i : Int))
theorem rngL_len (lo : Int) (n : Nat) : (rngL lo n).length = n := by
  unfold rngL
  rw [List.length_map, List.length_range]
theorem rngL_get {lo : Int} {n i : Nat} {d : D} (h : (rngL lo n)[i]? = some d) : i < n ∧ d = .int (lo + (i : Int)) := by
  unfold rngL at h
  rw [List.getElem?_map] at h
  obtain ⟨j, hj, rfl⟩ := Option.map_eq_some_iff.mp h
  obtain ⟨h1, h2⟩ := List.getElem?_eq_some_iff.mp hj
  rw [List.length_range] at h1
  rw [List.getElem_range] at h2
  subst h2
  exact ⟨h1, rfl⟩
theorem itr_ok {ρ : List Addr} {R : Hp} {lo : Int} {n : Nat} : ItOk C (Itr lo n) (rngL lo n) ρ R := fun i ρ' R' F σ H m hp hr S => by
  refine ⟨fun hi => by rw [rngL_len] at hi; exact hi, fun d hd => ?_⟩
  obtain ⟨h1, rfl⟩ := rngL_get hd
  refine ⟨h1, fun x H' y => ?_⟩
  obtain ⟨rfl, rfl⟩ := y
  exact ⟨R', Same.refl _, S, .int _⟩
def c62 (i : Int) : Bool := decide (i.natAbs < 4611686018427387904)
theorem c62_ok {i : Int} (h : c62 i = true) : -(2 ^ 62) ≤ i ∧ i < 2 ^ 62 := by
  have e : (2 : Int) ^ 62 = 4611686018427387904 := by decide
  have h := of_decide_eq_true h
  rw [e]
  omega
def eiRng1 (a : EvA) : EvI := fun m => bnd (a m) fun ds m1 => match ds with
  | [.int j] => if c62 j then some (.ok (rngL 0 j.toNat), m1) else none
  | _ => none
def eiRng2 (a : EvA) : EvI := fun m => bnd (a m) fun ds m1 => match ds with
  | [.int i, .int j] => if c62 i && c62 j then some (.ok (rngL i (j - i).toNat), m1) else none
  | _ => none
theorem si_rng1 {tr : TA} {ar : EvA} (h : SA C W tr ar) : SI C W (iRng1 tr) (eiRng1 ar) := fun ρ R F σ H m K S p =>
  h.bnd S po_wish p fun ρ1 R1 H1 vs ds m1 p1 r1 S1 o1 q1 => by
    split at q1
    · split at q1
      · rename_i h
        have h := c62_ok h
        obtain ⟨v, rfl, o⟩ := o1.one
        have e := o.int
        subst e
        exact ⟨_, rfl, h.1, h.2, q1 ρ1 R1 H1 (List.prefix_refl _) (Same.refl _) _ S1 itr_ok⟩
      · exact q1.elim
    · exact q1.elim
theorem si_rng2 {tr : TA} {ar : EvA} (h : SA C W tr ar) : SI C W (iRng2 tr) (eiRng2 ar) := fun ρ R F σ H m K S p =>
  h.bnd S po_wish p fun ρ1 R1 H1 vs ds m1 p1 r1 S1 o1 q1 => by
    split at q1
    · split at q1
      · rename_i h
        have h := (Bool.and_eq_true _ _).mp h
        have h := And.intro (c62_ok h.1) (c62_ok h.2)
        obtain ⟨v, u, rfl, o, o'⟩ := o1.two
        have e := o.int
        have e' := o'.int
        subst e e'
        exact ⟨_, _, rfl, ⟨h.1.1, h.1.2, h.2.1, h.2.2⟩, q1 ρ1 R1 H1 (List.prefix_refl _) (Same.refl _) _ S1 itr_ok⟩
      · exact q1.elim
    · exact q1.elim
/-! enumerate, zip of lists that stand; the signs of a text -/
def enumL (xs : List D) : List D := xs.mapIdx fun i x => .tup [.int (i : Int), x]
def zipL (xs ys : List D) : List D := List.zipWith (fun x y => .tup [x, y]) xs ys
theorem ite_ok {ρ : List Addr} {R : Hp} {l : Addr} {vs : List V} {xs : List D} (h1 : SqL C.K R l vs) (h2 : RDs C.K ρ R vs xs) : ItOk C (Ite C.K l) (enumL xs) ρ R := fun i ρ' R' F σ H m hp hr S => by
  have q := S.same.seq (hr.seq h1)
  unfold enumL
  refine ⟨fun hi => ⟨vs, q, by rw [List.length_mapIdx] at hi; rw [h2.length]; exact hi⟩, fun d hd => ?_⟩
  rw [List.getElem?_mapIdx] at hd
  obtain ⟨e, he, rfl⟩ := Option.map_eq_some_iff.mp hd
  obtain ⟨v, hv, rv⟩ := (h2.up hp hr).get' he
  refine ⟨⟨vs, v, q, hv⟩, fun x H' y => ?_⟩
  obtain ⟨T, z, rfl, hT, rfl, y⟩ := y
  have e2 := y vs q
  rw [hv] at e2
  cases e2
  obtain ⟨S2, sm⟩ := S.frz (u := .tup [.int (i : Nat), v]) hT
  exact ⟨_, sm, S2, .tup upd_same (.cons (.int _) (.cons (rv.up (List.prefix_refl _) sm) .nil))⟩
theorem itz_ok {ρ : List Addr} {R : Hp} {l l' : Addr} {vs ws : List V} {xs ys : List D} (h1 : SqL C.K R l vs) (h2 : RDs C.K ρ R vs xs) (g1 : SqL C.K R l' ws) (g2 : RDs C.K ρ R ws ys) : ItOk C (Itz C.K l l') (zipL xs ys) ρ R := fun i ρ' R' F σ H m hp hr S => by
  have q := S.same.seq (hr.seq h1)
  have q' := S.same.seq (hr.seq g1)
  unfold zipL
  refine ⟨fun hi => ⟨vs, ws, q, q', by rw [List.length_zipWith] at hi; rw [h2.length, g2.length]; omega⟩, fun d hd => ?_⟩
  rw [List.getElem?_zipWith_eq_some] at hd
  obtain ⟨x, y, hx, hy, rfl⟩ := hd
  obtain ⟨v, hv, rv⟩ := (h2.up hp hr).get' hx
  obtain ⟨u, hu, ru⟩ := (g2.up hp hr).get' hy
  refine ⟨⟨vs, ws, v, u, q, q', hv, hu⟩, fun x H' y => ?_⟩
  obtain ⟨T, z1, z2, rfl, hT, rfl, y1, y2⟩ := y
  have e1 := y1 vs q
  have e2 := y2 ws q'
  rw [hv] at e1
  rw [hu] at e2
  cases e1
  cases e2
  obtain ⟨S2, sm⟩ := S.frz (u := .tup [v, u]) hT
  exact ⟨_, sm, S2, .tup upd_same (.cons (rv.up (List.prefix_refl _) sm) (.cons (ru.up (List.prefix_refl _) sm) .nil))⟩
@[simp] def frL : D → Option (List D)
  | .lst xs => some xs
  | .lstK xs => some xs
  | _ => none
theorem frL_ok {ρ : List Addr} {R : Hp} {σ : L2.St} {v : V} {d : D} {xs : List D} (o : RO C.K ρ R σ v d) (h : frL d = some xs) : ∃ a vs, v = .ref a ∧ SqL C.K R a vs ∧ RDs C.K ρ R vs xs := by
  cases o with
  | d r =>
    cases r with
    | lst h1 h2 => cases h; exact ⟨_, _, rfl, SqL.of h1, h2⟩
    | lstK h1 h2 => cases h; exact ⟨_, _, rfl, h1, h2⟩
    | _ => cases h
  | sl r => cases h
@[simp] def eiEnum (a : EvA) : EvI := fun m => bnd (a m) fun ds m1 => match ds with | [d] => (match frL d with | some xs => some (.ok (enumL xs), m1) | none => none) | _ => none
@[simp] def eiZip (a : EvA) : EvI := fun m => bnd (a m) fun ds m1 => match ds with | [d, e] => (match frL d, frL e with | some xs, some ys => some (.ok (zipL xs ys), m1) | _, _ => none) | _ => none
theorem si_enum {tr : TA} {ar : EvA} (h : SA C W tr ar) : SI C W (iEnum C.K tr) (eiEnum ar) := fun ρ R F σ H m K S p =>
  h.bnd S po_wish p fun ρ1 R1 H1 vs ds m1 p1 r1 S1 o1 q1 => by
    split at q1
    · split at q1
      · rename_i xs hx
        obtain ⟨v, rfl, o⟩ := o1.one
        obtain ⟨a, vs, rfl, h1, h2⟩ := frL_ok o hx
        exact ⟨_, _, rfl, S1.same.seq h1, q1 ρ1 R1 H1 (List.prefix_refl _) (Same.refl _) _ S1 (ite_ok h1 h2)⟩
      · exact q1.elim
    · exact q1.elim
theorem si_zip {tr : TA} {ar : EvA} (h : SA C W tr ar) : SI C W (iZip C.K tr) (eiZip ar) := fun ρ R F σ H m K S p =>
  h.bnd S po_wish p fun ρ1 R1 H1 vs ds m1 p1 r1 S1 o1 q1 => by
    split at q1
    · split at q1
      · rename_i xs ys hx hy
        obtain ⟨v, u, rfl, o, o'⟩ := o1.two
        obtain ⟨a, vs, rfl, h1, h2⟩ := frL_ok o hx
        obtain ⟨b, ws, rfl, g1, g2⟩ := frL_ok o' hy
        exact ⟨_, _, _, _, rfl, S1.same.seq h1, S1.same.seq g1, q1 ρ1 R1 H1 (List.prefix_refl _) (Same.refl _) _ S1 (itz_ok h1 h2 g1 g2)⟩
      · exact q1.elim
    · exact q1.elim
def signsL (x : Str) : List D := x.cps.toList.map fun c => .str ⟨#[c]⟩
theorem its_ok {ρ : List Addr} {R : Hp} {x : Str} : ItOk C (Its x) (signsL x) ρ R := fun i ρ' R' F σ H m hp hr S => by
  unfold signsL
  refine ⟨fun hi => by
    rw [List.length_map] at hi
    show x.cps.size ≤ i
    simpa using hi, fun d hd => ?_⟩
  rw [List.getElem?_map] at hd
  obtain ⟨c, hc, rfl⟩ := Option.map_eq_some_iff.mp hd
  have hi : i < x.cps.size := by simpa using (List.getElem?_eq_some_iff.mp hc).1
  refine ⟨hi, fun y H' hy => ?_⟩
  obtain ⟨rfl, c', hc', rfl⟩ := hy
  have e : c' = c := by
    rw [Array.getElem?_toList] at hc
    rw [hc] at hc'
    exact (Option.some.inj hc').symm
  subst e
  exact ⟨R', Same.refl _, S, .str _⟩
@[simp] def eiStr (a : Ev) : EvI := fun m => bndD (a m) fun d m1 => match d with | .str x => some (.ok (signsL x), m1) | _ => none
theorem si_str (h : SE C W ta a) : SI C W (iStr ta) (eiStr a) := fun ρ R F σ H m K S p =>
  h.bndD S po_wish p fun ρ1 R1 H1 x d m1 p1 r1 S1 o1 q1 => by
    split at q1
    · cases o1
      exact ⟨_, rfl, q1 ρ1 R1 H1 (List.prefix_refl _) (Same.refl _) _ S1 its_ok⟩
    · exact q1.elim
end

/-! ### for, while -/
def loopFor (g : Gs) (b : Ex) : List D → MSt → Option (Rs Ctl × MSt)
  | [], m => some (.ok .nx, m)
  | d :: ds, m => match g d m with
    | none => none
    | some (.exc x, m1) => some (.exc x, m1)
    | some (.ok _, m1) => match b m1 with
      | some (.ok .nx, m2) => loopFor g b ds m2
      | some (.ok .ct, m2) => loopFor g b ds m2
      | some (.ok .bk, m2) => some (.ok .nx, m2)
      | r => r
@[simp] def exFor (it : EvI) (g : Gs) (b : Ex) : Ex := fun m => bnd (it m) fun items m1 => loopFor g b items m1
def loopW (c : EvB) (b : Ex) : Nat → MSt → Option (Rs Ctl × MSt)
  | 0, _ => none
  | n + 1, m => match c m with
    | none => none
    | some (.exc x, m1) => some (.exc x, m1)
    | some (.ok false, m1) => some (.ok .nx, m1)
    | some (.ok true, m1) => match b m1 with
      | some (.ok .nx, m2) => loopW c b n m2
      | some (.ok .ct, m2) => loopW c b n m2
      | some (.ok .bk, m2) => some (.ok .nx, m2)
      | r => r
@[simp] def exWhile (n : Nat) (c : EvB) (b : Ex) : Ex := fun m => loopW c b n m
section
variable {C : Ctx} {W : WX}
theorem ss_for {wi : TI} {it : EvI} {g : TG} {gs : Gs} {tb : TS} {b : Ex} (h : SI C W wi it) (hg : SG C W g gs) (hb : SS C W tb b) : SS C W (tFor wi g tb) (exFor it gs b) := fun ρ R F σ H m D S p =>
  h.bnd S poS_wish p fun ρ1 R1 H1 J items m1 p1 r1 S1 ok q1 => by
    refine ⟨fun i k σ' H' => k = items.length - i ∧ i ≤ items.length ∧ ∃ m' ρ' R', ρ1 <+: ρ' ∧ Same R1 R' ∧ Sat C ρ' R' F σ' H' m' ∧ PoS C W F D ρ' R' (loopFor gs b (items.drop i) m'),
      ⟨_, rfl, Nat.zero_le _, m1, ρ1, R1, List.prefix_refl _, Same.refl _, S1, q1⟩, ?_⟩
    rintro i k σ' H' ⟨rfl, hi, m', ρ', R', hp, hr, S', q⟩
    have ok' := ok i ρ' R' F σ' H' m' hp hr S'
    by_cases hlt : i < items.length
    · have hd : items[i]? = some items[i] := List.getElem?_eq_getElem hlt
      obtain ⟨go, yl⟩ := ok'.2 _ hd
      refine .inr ⟨go, fun σ2 H2 => ∃ m2 ρ2 R2, ρ1 <+: ρ2 ∧ Same R1 R2 ∧ Sat C ρ2 R2 F σ2 H2 m2 ∧ PoS C W F D ρ2 R2 (loopFor gs b (items.drop (i + 1)) m2), fun σ2 H2 ⟨m2, ρ2, R2, a1, a2, a3, a4⟩ => ⟨items.length - (i + 1), by omega, rfl, hlt, m2, ρ2, R2, a1, a2, a3, a4⟩, fun x H2 y => ?_⟩
      obtain ⟨R2, r2, S2, rd⟩ := yl x H2 y
      rw [List.drop_eq_getElem_cons hlt] at q
      have q2 : PoS C W F D ρ' R2 (loopFor gs b (items[i] :: items.drop (i + 1)) m') := (poS_wish (σ := σ')).up _ _ _ _ _ (List.prefix_refl _) r2 q
      refine hg ρ' R2 F σ' H2 m' x _ _ S2 rd ?_
      unfold loopFor at q2
      match gs items[i] m', q2 with
      | none, q2 => exact q2
      | some (.exc x, m3), q2 => exact q2
      | some (.ok _, m3), q2 =>
        intro σ3 ρ3 R3 H3 p3 r3 S3
        have q3 := (poS_wish (σ := σ3)).up _ _ _ _ _ p3 r3 q2
        refine hb ρ3 R3 F σ3 H3 m3 _ S3 ?_
        simp only at q3
        have go : ∀ m4, PoS C W F D ρ3 R3 (loopFor gs b (items.drop (i + 1)) m4) → ∀ σ4 ρ4 R4 H4, ρ3 <+: ρ4 → Same R3 R4 → Sat C ρ4 R4 F σ4 H4 m4 →
            ∃ m2 ρ2 R2, ρ1 <+: ρ2 ∧ Same R1 R2 ∧ Sat C ρ2 R2 F σ4 H4 m2 ∧ PoS C W F D ρ2 R2 (loopFor gs b (items.drop (i + 1)) m2) := fun m4 z σ4 ρ4 R4 H4 p4 r4 S4 =>
          ⟨m4, ρ4, R4, (hp.trans p3).trans p4, ((hr.trans r2).trans r3).trans r4, S4, (poS_wish (σ := σ4)).up _ _ _ _ _ p4 r4 z⟩
        match b m3, q3 with
        | none, q3 => exact q3
        | some (.ok .nx, m4), q3 => exact go m4 q3
        | some (.ok .ct, m4), q3 => exact go m4 q3
        | some (.ok .bk, m4), q3 => exact q3
        | some (.ok (.rt (.val _)), m4), q3 => exact q3
        | some (.ok (.rt (.own _)), m4), q3 => exact q3
        | some (.exc _, m4), q3 => exact q3
    · have e : i = items.length := by omega
      subst e
      rw [List.drop_length] at q
      exact .inl ⟨ok'.1 (Nat.le_refl _), q σ' ρ' R' H' (List.prefix_refl _) (Same.refl _) S'⟩
theorem ss_while {n : Nat} {tc : TT} {c : EvB} {tb : TS} {b : Ex} (h : SB C W tc c) (hb : SS C W tb b) : SS C W (tWhile tc tb) (exWhile n c b) := fun ρ R F σ H m D S p => by
  refine ⟨fun k σ' H' => ∃ m' ρ' R', ρ <+: ρ' ∧ Same R R' ∧ Sat C ρ' R' F σ' H' m' ∧ PoS C W F D ρ' R' (loopW c b k m'), ⟨n, m, ρ, R, List.prefix_refl _, Same.refl _, S, p⟩, ?_⟩
  rintro k σ' H' ⟨m', ρ', R', hp, hr, S', q⟩
  cases k with
  | zero => exact q.elim
  | succ k =>
    refine h ρ' R' F σ' H' m' _ S' ?_
    unfold loopW at q
    match c m', q with
    | none, q => exact q
    | some (.exc x, m1), q => exact fun cls d ρ1 R1 H1 => q cls d σ' ρ1 R1 H1
    | some (.ok false, m1), q => exact fun ρ1 R1 H1 p1 r1 S1 => q σ' ρ1 R1 H1 p1 r1 S1
    | some (.ok true, m1), q =>
      intro ρ1 R1 H1 p1 r1 S1
      rw [if_pos rfl]
      have q1 := (poS_wish (σ := σ')).up _ _ _ _ _ p1 r1 q
      refine ⟨fun σ2 H2 => ∃ m2 ρ2 R2, ρ <+: ρ2 ∧ Same R R2 ∧ Sat C ρ2 R2 F σ2 H2 m2 ∧ PoS C W F D ρ2 R2 (loopW c b k m2), fun σ2 H2 z => ⟨k, Nat.lt_succ_self k, z⟩, ?_⟩
      refine hb ρ1 R1 F σ' H1 m1 _ S1 ?_
      simp only at q1
      have go : ∀ m4, PoS C W F D ρ1 R1 (loopW c b k m4) → ∀ σ4 ρ4 R4 H4, ρ1 <+: ρ4 → Same R1 R4 → Sat C ρ4 R4 F σ4 H4 m4 →
          ∃ m2 ρ2 R2, ρ <+: ρ2 ∧ Same R R2 ∧ Sat C ρ2 R2 F σ4 H4 m2 ∧ PoS C W F D ρ2 R2 (loopW c b k m2) := fun m4 z σ4 ρ4 R4 H4 p4 r4 S4 =>
        ⟨m4, ρ4, R4, (hp.trans p1).trans p4, (hr.trans r1).trans r4, S4, (poS_wish (σ := σ4)).up _ _ _ _ _ p4 r4 z⟩
      match b m1, q1 with
      | none, q1 => exact q1
      | some (.ok .nx, m4), q1 => exact go m4 q1
      | some (.ok .ct, m4), q1 => exact go m4 q1
      | some (.ok .bk, m4), q1 => exact q1
      | some (.ok (.rt (.val _)), m4), q1 => exact q1
      | some (.ok (.rt (.own _)), m4), q1 => exact q1
      | some (.exc _, m4), q1 => exact q1
end
end MP

set_option Elab.async false
set_option linter.all false
set_option maxRecDepth 100000
set_option maxHeartbeats 4000000
namespace MP
open PySem L2

/-! ### comprehensions -/
def wipeG (g : List Sl) : List Nat → List Sl
  | [] => g
  | v :: vs => (wipeG g vs).set v .u
def wipeM (m : MSt) (vs : List Nat) : MSt := { m with g := wipeG m.g vs }
abbrev W0 : WX := fun _ _ _ _ => False
def lcLoop (g : Gs) (tt : EvB) (te : Ev) (vs : List Nat) : List D → List D → MSt → Option (List D × MSt)
  | [], acc, m => some (acc, wipeM m vs)
  | d :: ds, acc, m => match g d (wipeM m vs) with
    | some (.ok _, m1) => match tt m1 with
      | some (.ok true, m2) => match bndD (te m2) (fun v m3 => some (.ok v, m3)) with
        | some (.ok v, m3) => if szOk (acc.length + 1) = true then lcLoop g tt te vs ds (acc ++ [v]) m3 else none
        | _ => none
      | some (.ok false, m2) => lcLoop g tt te vs ds acc m2
      | _ => none
    | _ => none
@[simp] def evLc (it : EvI) (g : Gs) (tt : EvB) (te : Ev) (vs : List Nat) : Ev := fun m => bnd (it m) fun items m1 =>
  match lcLoop g tt te vs items [] m1 with
  | some (acc, m2) => some (.ok (.own acc), m2)
  | none => none
@[simp] def evYes : EvB := fun m => some (.ok true, m)
section
variable {C : Ctx} {W : WX} {ρ : List Addr} {R H : Hp} {F : List Res} {σ σ2 : L2.St} {m : MSt}
theorem Sat.wipe (S : Sat C ρ R F σ H m) : ∀ vs : List Nat, Sat C ρ R F (L2.wipe σ vs) H (wipeM m vs)
  | [] => S
  | v :: vs => (Sat.wipe S vs).unset
theorem wipeG_at {g : List Sl} {i : Nat} : ∀ {vs : List Nat}, i ∈ vs → i < g.length → (wipeG g vs)[i]? = some .u
  | v :: vs, hm, hi => by
    have hl : ∀ us : List Nat, (wipeG g us).length = g.length := fun us => by
      induction us with
      | nil => rfl
      | cons u us ih => unfold wipeG; rw [List.length_set, ih]
    unfold wipeG
    by_cases e : v = i
    · subst e
      rw [List.getElem?_set_self (by rw [hl]; exact hi)]
    · rw [List.getElem?_set_ne e]
      refine wipeG_at ?_ hi
      rcases List.mem_cons.mp hm with h | h
      · exact absurd h.symm e
      · exact h
theorem slots_ext {K : PySem.W.Frag} : ∀ {σ σ' : L2.St} {g : List Sl} {ls : List Res}, All2 (SlR K ρ R) σ g ls → σ'.length = σ.length → (∀ i : Nat, σ'[i]? = σ[i]? ∨ g[i]? = some Sl.u) → All2 (SlR K ρ R) σ' g ls
  | _, [], _, _, .nil, _, _ => .nil
  | _, [], _, _, .cons _ _, hl, _ => by simp at hl
  | _, _ :: _, _, _, .nil, hl, _ => by simp at hl
  | _, x :: σ', _, _, .cons (a := a) (b := b) h t, hl, hx => by
    refine .cons ?_ (slots_ext t (by simpa using hl) fun i => by simpa using hx (i + 1))
    rcases hx 0 with e | e
    · have e' : x = a := by simpa using e
      rw [e']
      exact h
    · have e' : b = .u := by simpa using e
      rw [e'] at h ⊢
      cases h
      exact .u
theorem wipe_get {σ : L2.St} {i : Nat} : ∀ {vs : List Nat}, i ∉ vs → (L2.wipe σ vs)[i]? = σ[i]?
  | [], _ => rfl
  | v :: vs, h => by
    have h1 : v ≠ i := fun e => h (by rw [e]; exact List.mem_cons_self)
    have h2 : i ∉ vs := fun m => h (List.mem_cons_of_mem _ m)
    unfold L2.wipe
    rw [List.getElem?_set_ne h1]
    exact wipe_get h2
/-- back from a block: the block's own names are forgotten -/
theorem Sat.unwipe {vs : List Nat} (S : Sat C ρ R F σ2 H m) (h : L2.wipe σ2 vs = L2.wipe σ vs) : Sat C ρ R F σ H (wipeM m vs) := by
  have S2 := S.wipe vs
  rw [h] at S2
  obtain ⟨ls, lc, h1, h2, o⟩ := S2
  have hl : σ.length = (wipeM m vs).g.length := by rw [← h1.length, wipe_length]
  refine ⟨ls, lc, slots_ext h1 (by rw [wipe_length]) fun i => ?_, h2, o⟩
  by_cases hm : i ∈ vs
  · by_cases hi : i < σ.length
    · right
      have hg : ∀ us : List Nat, (wipeG m.g us).length = m.g.length := fun us => by
        induction us with
        | nil => rfl
        | cons u us ih => unfold wipeG; rw [List.length_set, ih]
      refine wipeG_at hm ?_
      rw [hl] at hi
      unfold wipeM at hi
      simp only [hg] at hi
      exact hi
    · left
      rw [List.getElem?_eq_none (by omega), List.getElem?_eq_none (by rw [wipe_length]; omega)]
  · left
    exact (wipe_get hm).symm
theorem wipe_wipe_len {σ : L2.St} {vs : List Nat} : ∀ (us : List Nat), (∀ u ∈ us, u ∈ vs) → L2.wipe (L2.wipe σ vs) us = L2.wipe σ vs
  | [], _ => rfl
  | u :: us, h => by
    show (L2.wipe (L2.wipe σ vs) us).set u none = L2.wipe σ vs
    rw [wipe_wipe_len us fun x hx => h x (List.mem_cons_of_mem _ hx)]
    have hn : ∀ {ws : List Nat}, u ∈ ws → (L2.wipe σ ws).set u none = L2.wipe σ ws := by
      intro ws
      induction ws with
      | nil => intro q; cases q
      | cons w ws ih =>
        intro q
        unfold L2.wipe
        by_cases e : u = w
        · subst e
          rw [List.set_set]
        · rcases List.mem_cons.mp q with q | q
          · exact absurd q e
          · rw [List.set_comm _ _ (Ne.symm e), ih q]
    exact hn (h u List.mem_cons_self)
/-- what the target leaves of the other slots -/
def Tg (g : TG) (vs : List Nat) : Prop := ∀ v σ H (Q : L2.St → Hp → Prop), (g v σ H fun σ' H' => L2.wipe σ' vs = L2.wipe σ vs → Q σ' H') → g v σ H fun σ' H' => L2.wipe σ' vs = L2.wipe σ vs ∧ Q σ' H'
theorem wipe_set {σ : L2.St} {i : Nat} {x : Option V} : ∀ {vs : List Nat}, i ∈ vs → L2.wipe (σ.set i x) vs = L2.wipe σ vs
  | v :: vs, h => by
    have go : ∀ (us : List Nat), (L2.wipe (σ.set i x) us).set i none = (L2.wipe σ us).set i none := by
      intro us
      induction us with
      | nil => unfold L2.wipe; rw [List.set_set]
      | cons w us ih =>
        unfold L2.wipe
        by_cases e : w = i
        · subst e
          rw [List.set_set, List.set_set, ih]
        · rw [List.set_comm _ _ e, ih, List.set_comm _ _ e]
    unfold L2.wipe
    by_cases e : v = i
    · subst e
      exact go vs
    · rcases List.mem_cons.mp h with q | q
      · exact absurd q.symm e
      · rw [wipe_set q]
theorem tg_name {i : Nat} {vs : List Nat} (h : i ∈ vs) : Tg (gName i) vs := fun v σ H Q q => ⟨wipe_set h, q (wipe_set h)⟩
def Tgs (g : TGs) (vs : List Nat) : Prop := ∀ v σ H (Q : L2.St → Hp → Prop), (g v σ H fun σ' H' => L2.wipe σ' vs = L2.wipe σ vs → Q σ' H') → g v σ H fun σ' H' => L2.wipe σ' vs = L2.wipe σ vs ∧ Q σ' H'
theorem tgs_nil {vs : List Nat} : Tgs gNil vs := fun v σ H Q ⟨e, q⟩ => ⟨e, rfl, q rfl⟩
def Mono (g : TG) : Prop := ∀ v σ H (Q Q' : L2.St → Hp → Prop), (∀ σ' H', Q σ' H' → Q' σ' H') → g v σ H Q → g v σ H Q'
theorem mono_name {i : Nat} : Mono (gName i) := fun v σ H Q Q' h q => h _ _ q
theorem tgs_cons {g : TG} {u : TGs} {vs : List Nat} (hm : Mono g) (h : Tg g vs) (hu : Tgs u vs) : Tgs (gCons g u) vs := fun v σ H Q ⟨a, r, e, q⟩ =>
  ⟨a, r, e, hm _ _ _ _ _ (fun σ' H' ⟨w, z⟩ => by
    have := hu r σ' H' Q (by rw [w]; exact z)
    rw [w] at this
    exact this) (h a σ H _ (hm _ _ _ _ _ (fun σ' H' z _ => z) q))⟩
theorem tg_tup {K : PySem.W.Frag} {n : Nat} {u : TGs} {vs : List Nat} (hu : Tgs u vs) : Tg (gTup K n u) vs := fun v σ H Q ⟨a, xs, e, h1, h2, q⟩ => ⟨a, xs, e, h1, h2, hu xs σ H Q q⟩

theorem sb_yes : SB C W tYes evYes := fun ρ R F σ H m Q S p => p.tst S
theorem se_lc {wi : TI} {it : EvI} {g : TG} {gs : Gs} {tt : TT} {bt : EvB} {te : TE} {e : Ev} {vs : List Nat} (h : SI C W wi it) (hg : SG C W0 g gs) (hgt : Tg g vs) (ht : SB C W0 tt bt) (he : SE C W0 te e) :
    SE C W (tLc wi g tt te vs) (evLc it gs bt e vs) := fun ρ R F σ H m Q S p =>
  h.bnd S po_wish p fun ρ1 R1 H1 J items m1 p1 r1 S1 ok q1 => by
    intro Dl hD
    -- the word of the turns
    refine ⟨fun i k H' => k = items.length - i ∧ i ≤ items.length ∧ ∃ m' ρ' R' σ' acc vs', L2.wipe σ' vs = L2.wipe σ vs ∧ ρ1 <+: ρ' ∧ Same R1 R' ∧ Sat C ρ' R' ((Dl, .lst vs') :: F) σ' H' m' ∧ RDs C.K ρ' R' vs' acc ∧
        Po C W F σ (hE C F σ Q) ρ' R' (match lcLoop gs bt e vs (items.drop i) acc m' with | some (acc, m2) => some (.ok (.own acc), m2) | none => none),
      ⟨_, rfl, Nat.zero_le _, m1, ρ1, R1, σ, [], [], rfl, List.prefix_refl _, Same.refl _, S1.res hD, .nil, q1⟩, ?_⟩
    rintro i k H' ⟨rfl, hi, m', ρ', R', σ', acc, vs', hw, hp, hr, S', rd, q⟩
    have ok' := ok i ρ' R' _ σ' H' m' hp hr S'
    by_cases hlt : i < items.length
    · have hd : items[i]? = some items[i] := List.getElem?_eq_getElem hlt
      obtain ⟨go, yl⟩ := ok'.2 _ hd
      refine .inr ⟨go, fun H2 => ∃ m' ρ' R' σ' acc vs', L2.wipe σ' vs = L2.wipe σ vs ∧ ρ1 <+: ρ' ∧ Same R1 R' ∧ Sat C ρ' R' ((Dl, .lst vs') :: F) σ' H2 m' ∧ RDs C.K ρ' R' vs' acc ∧
        Po C W F σ (hE C F σ Q) ρ' R' (match lcLoop gs bt e vs (items.drop (i + 1)) acc m' with | some (acc, m2) => some (.ok (.own acc), m2) | none => none),
        fun H2 ⟨a1, a2, a3, a4, a5, a6, a7⟩ => ⟨items.length - (i + 1), by omega, rfl, hlt, a1, a2, a3, a4, a5, a6, a7⟩, fun x H2 y => ?_⟩
      obtain ⟨R2, r2, S2, rx⟩ := yl x H2 y
      rw [List.drop_eq_getElem_cons hlt] at q
      have q2 := (po_wish (σ := σ)).up _ _ _ _ _ (List.prefix_refl _) r2 q
      unfold lcLoop at q2
      have S3 := S2.wipe vs
      rw [hw] at S3
      -- the target
      have W1 : L2.wipe (L2.wipe σ vs) vs = L2.wipe σ vs := wipe_wipe_len vs fun _ h => h
      refine (fun z => by
        rw [W1] at z
        exact z) (hgt x (L2.wipe σ vs) H2 (fun σ2 H2 => tt σ2 H2 fun b H3 => if b = true then te σ2 H3 fun y H4 => ∃ acc, H4 Dl = some (.lst acc) ∧ acc.length < sizeLine ∧
          (fun H2 => ∃ m' ρ' R' σ' acc vs', L2.wipe σ' vs = L2.wipe σ vs ∧ ρ1 <+: ρ' ∧ Same R1 R' ∧ Sat C ρ' R' ((Dl, .lst vs') :: F) σ' H2 m' ∧ RDs C.K ρ' R' vs' acc ∧
        Po C W F σ (hE C F σ Q) ρ' R' (match lcLoop gs bt e vs (items.drop (i + 1)) acc m' with | some (acc, m2) => some (.ok (.own acc), m2) | none => none)) (upd H4 Dl (.lst (acc ++ [y]))) else _) ?_)
      rw [W1]
      refine hg ρ' R2 _ _ H2 _ x _ _ S3 rx ?_
      match gs items[i] (wipeM m' vs), q2 with
      | none, q2 => exact q2
      | some (.exc x, m3), q2 => exact q2.elim
      | some (.ok _, m3), q2 =>
        intro σ3 ρ3 R3 H3 p3 r3 S3 hw3
        have q3 := (po_wish (σ := σ)).up _ _ _ _ _ p3 r3 q2
        simp only at q3
        refine ht ρ3 R3 _ σ3 H3 m3 _ S3 ?_
        match bt m3, q3 with
        | none, q3 => exact q3.elim
        | some (.exc x, m4), q3 => exact q3.elim
        | some (.ok false, m4), q3 =>
          intro ρ4 R4 H4 p4 r4 S4
          rw [if_neg Bool.false_ne_true]
          exact ⟨m4, ρ4, R4, σ3, acc, vs', hw3, (hp.trans p3).trans p4, ((hr.trans r2).trans r3).trans r4, S4, ((rd.up (List.prefix_refl _) r2).up p3 r3).up p4 r4, (po_wish (σ := σ)).up _ _ _ _ _ p4 r4 q3⟩
        | some (.ok true, m4), q3 =>
          intro ρ4 R4 H4 p4 r4 S4
          rw [if_pos rfl]
          have q4 := (po_wish (σ := σ)).up _ _ _ _ _ p4 r4 q3
          simp only at q4
          have rd4 := ((rd.up (List.prefix_refl _) r2).up p3 r3).up p4 r4
          -- the element
          let PP : List Addr → Hp → Option (Rs D × MSt) → Prop := fun ρ R r => match r with
            | some (.ok v, m5) => if szOk (acc.length + 1) = true then Po C W F σ (hE C F σ Q) ρ R (match lcLoop gs bt e vs (items.drop (i + 1)) (acc ++ [v]) m5 with | some (acc, m2) => some (.ok (.own acc), m2) | none => none) else False
            | _ => False
          have wi : Wish C W0 ((Dl, .lst vs') :: F) σ3 PP := {
            no := fun _ _ h => h
            up := fun ρ R ρ' R' r hp hr h => by
              match r, h with
              | some (.ok v, m5), h =>
                show if szOk (acc.length + 1) = true then _ else False
                have h : if szOk (acc.length + 1) = true then _ else False := h
                split at h
                · rename_i hz
                  rw [if_pos hz]
                  exact (po_wish (σ := σ)).up _ _ _ _ _ hp hr h
                · exact h.elim
            ex := fun ρ R x m h => h.elim }
          have q5 : PP ρ4 R4 (bndD (e m4) fun v m3 => some (.ok v, m3)) := by
            show match (bndD (e m4) fun v m3 => some (.ok v, m3)) with
              | some (.ok v, m5) => _
              | _ => False
            match bndD (e m4) (fun v m3 => some (Rs.ok v, m3)), q4 with
            | none, q4 => exact q4
            | some (.exc _, _), q4 => exact q4
            | some (.ok v, m5), q4 =>
              simp only at q4 ⊢
              by_cases hz : szOk (acc.length + 1) = true
              · rw [if_pos hz] at q4 ⊢
                exact q4
              · rw [if_neg hz] at q4
                exact q4.elim
          refine he.bndD S4 wi q5 fun ρ5 R5 H5 y v m5 p5 r5 S5 ry q6 => ?_
          have q6 : if szOk (acc.length + 1) = true then _ else False := q6
          split at q6
          · rename_i hz
            have rd5 := rd4.up p5 r5
            refine ⟨vs', S5.resAt.1, by rw [rd5.length]; exact szOk_lt hz, m5, ρ5, R5, σ3, acc ++ [v], vs' ++ [y], hw3, ((hp.trans p3).trans p4).trans p5, (((hr.trans r2).trans r3).trans r4).trans r5, S5.resSet, rd5.append (.cons ry .nil), q6⟩
          · exact q6.elim
    · have ei : i = items.length := by omega
      subst ei
      rw [List.drop_length] at q
      unfold lcLoop at q
      exact .inl ⟨ok'.1 (Nat.le_refl _), q.own (S'.unwipe hw) rd⟩
end
end MP

set_option Elab.async false
set_option linter.all false
set_option maxRecDepth 100000
set_option maxHeartbeats 4000000
namespace MP
open PySem L2

/-! ### raise, try -/
@[simp] def exRaise (c : Nat) : Ex := fun m => some (.exc ⟨c, []⟩, m)
/-- how a handler answers: an exception that leaves it is not carried -/
@[simp] def noExc (r : Option (Rs Ctl × MSt)) : Option (Rs Ctl × MSt) := match r with
  | some (.exc _, _) => none
  | r => r
theorem noExc_no {r : Option (Rs Ctl × MSt)} {x : Exc} {m : MSt} (h : noExc r = some (.exc x, m)) : False := by
  unfold noExc at h
  split at h
  · cases h
  · rename_i hn
    exact hn _ _ h
@[simp] def exTry (b : Ex) (cat : Nat → Option Bool) (hd : Exc → Ex) : Ex := fun m => match b m with
  | some (.exc x, m1) => match cat x.c with
    | some true => noExc (hd x m1)
    | some false => some (.exc x, m1)
    | none => none
  | r => r
/-- try .. except X as e, e in slot i -/
def exTryAs (i : Nat) (b : Ex) (cat : Nat → Option Bool) (hd : Exc → Ex) : Ex := fun m => match b m with
  | some (.exc x, m1) => match cat x.c with
    | some true => match noExc (hd x { m1 with g := m1.g.set i .u }) with
      | some (r, m2) => some (r, { m2 with g := m2.g.set i .u })
      | none => none
    | some false => some (.exc x, m1)
    | none => none
  | r => r
section
variable {C : Ctx} {W : WX}
theorem ss_raise {cl : Value} {c : Nat} (h : cl = .ref (C.cm c)) : SS C W (fun _ σ H => W cl none σ H) (exRaise c) := fun ρ R F σ H m D S p =>
  p cl none σ ρ R H (List.prefix_refl _) (Same.refl _) S ⟨h, .inl ⟨rfl, rfl⟩⟩
/-- a suite, by the exception that came -/
def SX (C : Ctx) (ts : Addr → Value → Option Addr → TS) (hd : Exc → Ex) : Prop := ∀ a cls d x ρ R F σ H m D, Sat C ρ R F σ H m → RX C ρ R cls d x → H a = none → PoS C W0 F D ρ R (hd x m) → ts a cls d D σ H
theorem noExc_po {F : List Res} {D : Ends} {ρ : List Addr} {R : Hp} {r : Option (Rs Ctl × MSt)} (p : PoS C W F D ρ R (noExc r)) : PoS C W0 F D ρ R r := by
  unfold noExc at p
  match r, p with
  | none, p => exact p
  | some (.ok .nx, _), p => exact p
  | some (.ok .bk, _), p => exact p
  | some (.ok .ct, _), p => exact p
  | some (.ok (.rt (.val _)), _), p => exact p
  | some (.ok (.rt (.own _)), _), p => exact p
  | some (.exc _, _), p => exact p.elim
theorem ss_try {c : Value} {tb : WX → TS} {ts : Addr → Value → Option Addr → TS} {b : Ex} {cat : Nat → Option Bool} {hd : Exc → Ex} (hb : ∀ W', SS C W' (tb W') b) (hc : ∀ k r, cat k = some r → PySem.W.exmOne C.K (.ref (C.cm k)) c = some r) (hs : SX C ts hd) :
    SS C W (fun D σ H => tb (wOnly C.K c ts W D) D σ H) (exTry b cat hd) := fun ρ R F σ H m D S p => by
  refine hb _ ρ R F σ H m D S ?_
  unfold exTry at p
  match b m, p with
  | none, p => exact p
  | some (.ok .nx, _), p => exact p
  | some (.ok .bk, _), p => exact p
  | some (.ok .ct, _), p => exact p
  | some (.ok (.rt (.val _)), _), p => exact p
  | some (.ok (.rt (.own _)), _), p => exact p
  | some (.exc x, m1), p =>
    intro cls d σ1 ρ1 R1 H1 p1 r1 S1 rx
    simp only at p
    have e := rx.1
    subst e
    match hk : cat x.c, p with
    | none, p => exact p.elim
    | some true, p => exact ⟨true, hc _ _ hk, fun _ a ha => hs a _ d x ρ1 R1 F σ1 H1 m1 D S1 rx ha (noExc_po ((poS_wish (σ := σ)).up _ _ _ _ _ p1 r1 p)), fun q => Bool.noConfusion q⟩
    | some false, p => exact ⟨false, hc _ _ hk, fun q => Bool.noConfusion q, fun _ => p _ d σ1 ρ1 R1 H1 p1 r1 S1 rx⟩
theorem ss_tryAs {i : Nat} {c : Value} {tb : WX → TS} {ts : Addr → Value → Option Addr → TS} {b : Ex} {cat : Nat → Option Bool} {hd : Exc → Ex} (hb : ∀ W', SS C W' (tb W') b) (hc : ∀ k r, cat k = some r → PySem.W.exmOne C.K (.ref (C.cm k)) c = some r) (hs : SX C ts hd) :
    SS C W (fun D σ H => tb (wAs C.K c i ts W D) D σ H) (exTryAs i b cat hd) := fun ρ R F σ H m D S p => by
  refine hb _ ρ R F σ H m D S ?_
  unfold exTryAs at p
  match b m, p with
  | none, p => exact p
  | some (.ok .nx, _), p => exact p
  | some (.ok .bk, _), p => exact p
  | some (.ok .ct, _), p => exact p
  | some (.ok (.rt (.val _)), _), p => exact p
  | some (.ok (.rt (.own _)), _), p => exact p
  | some (.exc x, m1), p =>
    intro cls d σ1 ρ1 R1 H1 p1 r1 S1 rx
    simp only at p
    have e := rx.1
    subst e
    match hk : cat x.c, p with
    | none, p => exact p.elim
    | some false, p => exact ⟨false, hc _ _ hk, fun q => Bool.noConfusion q, fun _ => p _ d σ1 ρ1 R1 H1 p1 r1 S1 rx⟩
    | some true, p =>
      refine ⟨true, hc _ _ hk, fun _ a ha => hs a _ d x ρ1 R1 F _ H1 _ _ (S1.unset (i := i) (x := some (.ref a))) rx ha (noExc_po (W := W) ?_), fun q => Bool.noConfusion q⟩
      have p := (poS_wish (σ := σ)).up _ _ _ _ _ p1 r1 p
      simp only at p
      match hh : noExc (hd x { m1 with g := m1.g.set i .u }), p with
      | none, p => exact p.elim
      | some (.ok .nx, m2), p => exact fun σ2 ρ2 R2 H2 p2 r2 S2 => p _ ρ2 R2 H2 p2 r2 S2.unset
      | some (.ok .bk, m2), p => exact fun σ2 ρ2 R2 H2 p2 r2 S2 => p _ ρ2 R2 H2 p2 r2 S2.unset
      | some (.ok .ct, m2), p => exact fun σ2 ρ2 R2 H2 p2 r2 S2 => p _ ρ2 R2 H2 p2 r2 S2.unset
      | some (.ok (.rt (.val _)), m2), p => exact fun σ2 ρ2 R2 H2 v p2 r2 S2 rv => p (σ2.set i none) ρ2 R2 H2 v p2 r2 S2.unset rv
      | some (.ok (.rt (.own _)), m2), p => exact fun σ2 ρ2 R2 H2 q vs p2 r2 S2 rv => p (σ2.set i none) ρ2 R2 H2 q vs p2 r2 S2.unset rv
      | some (.exc _, m2), p => exact (noExc_no hh).elim
theorem sx_of {ts : TS} {ex : Ex} (h : SS C W0 ts ex) : SX C (fun _ _ _ => ts) (fun _ => ex) := fun _ _ _ _ ρ R F σ H m D S _ _ p => h ρ R F σ H m D S p
end

/-! ### new cells -/
section
variable {C : Ctx} {W : WX} {ρ : List Addr} {R H : Hp} {F : List Res} {σ : L2.St} {m : MSt} {a : Addr} {o : HO} {ce : Cell}
theorem Sat.newCell (S : Sat C ρ R ((a, o) :: F) σ H m) (h : CeR C ρ R a ce [(a, o)]) : Sat C (ρ ++ [a]) R F σ H { m with c := m.c ++ [ce] } := by
  obtain ⟨ls, lc, h1, h2, ow⟩ := S
  have hp : ρ <+: ρ ++ [a] := List.prefix_append _ _
  refine ⟨ls, lc ++ ([(a, o)] ++ []), h1.imp fun _ _ _ x => x.up hp (Same.refl _), ?_, ?_⟩
  · exact (h2.imp fun _ _ _ x => x.up hp (Same.refl _)).append (.cons (h.up hp (Same.refl _)) .nil)
  · have e : ls ++ ((lc ++ ([(a, o)] ++ [])) ++ F) = ls ++ (lc ++ (a, o) :: F) := by simp
    rw [e]
    exact ow
end

/-! ### dicts -/
section
variable {κ : Type} [DecidableEq κ]
def valD (kvs : List (κ × D)) (k : κ) : Option D := (kvs.find? fun kv => decide (kv.1 = k)).map (·.2)
def putD (kvs : List (κ × D)) (k : κ) (v : D) : List (κ × D) :=
  if (kvs.any fun kv => decide (kv.1 = k)) = true then kvs.map (fun kv => if kv.1 = k then (kv.1, v) else kv) else kvs ++ [(k, v)]
def dropD (kvs : List (κ × D)) (k : κ) : List (κ × D) := kvs.filter fun kv => decide (kv.1 ≠ k)
variable {K : PySem.W.Frag} {ρ : List Addr} {R : Hp}
theorem RKs.val (k : κ) : ∀ {vs : List (κ × V)} {ds : List (κ × D)}, RKs K ρ R vs ds → (valV vs k = none ∧ valD ds k = none) ∨ ∃ v d, valV vs k = some v ∧ valD ds k = some d ∧ RD K ρ R v d
  | _, _, .nil => .inl ⟨rfl, rfl⟩
  | _, _, .cons (k := k') (v := v) (d := d) (vs := vs) (ds := ds) r t => by
    by_cases e : k' = k
    · exact .inr ⟨v, d, by simp [valV, e], by simp [valD, e], r⟩
    · rcases RKs.val k t with ⟨h1, h2⟩ | ⟨v', d', h1, h2, h3⟩
      · refine .inl ⟨?_, ?_⟩
        · unfold valV at h1 ⊢
          rw [List.find?_cons_of_neg (by simpa using e)]
          exact h1
        · unfold valD at h2 ⊢
          rw [List.find?_cons_of_neg (by simpa using e)]
          exact h2
      · refine .inr ⟨v', d', ?_, ?_, h3⟩
        · unfold valV at h1 ⊢
          rw [List.find?_cons_of_neg (by simpa using e)]
          exact h1
        · unfold valD at h2 ⊢
          rw [List.find?_cons_of_neg (by simpa using e)]
          exact h2
theorem RKs.any (k : κ) : ∀ {vs : List (κ × V)} {ds : List (κ × D)}, RKs K ρ R vs ds → (vs.any fun kv => decide (kv.1 = k)) = (ds.any fun kv => decide (kv.1 = k))
  | _, _, .nil => rfl
  | _, _, .cons r t => by
    rw [List.any_cons, List.any_cons, RKs.any k t]
theorem RKs.app : ∀ {vs us : List (κ × V)} {ds es : List (κ × D)}, RKs K ρ R vs ds → RKs K ρ R us es → RKs K ρ R (vs ++ us) (ds ++ es)
  | _, _, _, _, .nil, h => h
  | _, _, _, _, .cons r t, h => .cons r (RKs.app t h)
theorem RKs.mapP {k : κ} {v : V} {d : D} (h : RD K ρ R v d) : ∀ {vs : List (κ × V)} {ds : List (κ × D)}, RKs K ρ R vs ds → RKs K ρ R (vs.map fun kv => if kv.1 = k then (kv.1, v) else kv) (ds.map fun kv => if kv.1 = k then (kv.1, d) else kv)
  | _, _, .nil => .nil
  | _, _, .cons (k := k') r t => by
    rw [List.map_cons, List.map_cons]
    by_cases e : k' = k
    · rw [if_pos e, if_pos e]
      exact .cons h (RKs.mapP h t)
    · rw [if_neg e, if_neg e]
      exact .cons r (RKs.mapP h t)
theorem RKs.put {k : κ} {v : V} {d : D} {vs : List (κ × V)} {ds : List (κ × D)} (r : RKs K ρ R vs ds) (h : RD K ρ R v d) : RKs K ρ R (putK vs k v) (putD ds k d) := by
  unfold putK putD
  rw [r.any k]
  split
  · exact r.mapP h
  · exact r.app (.cons h .nil)
theorem RKs.drop {k : κ} : ∀ {vs : List (κ × V)} {ds : List (κ × D)}, RKs K ρ R vs ds → RKs K ρ R (dropK vs k) (dropD ds k)
  | _, _, .nil => .nil
  | _, _, .cons (k := k') r t => by
    have ih := RKs.drop (k := k) t
    unfold dropK dropD at ih ⊢
    rw [List.filter_cons, List.filter_cons]
    by_cases e : k' = k
    · simp only [e, ne_eq, not_true_eq_false, decide_false, Bool.false_eq_true, if_false]
      exact ih
    · simp only [ne_eq, e, not_false_eq_true, decide_true, if_true]
      exact .cons r ih
end
@[simp] def keyD : D → Option Key
  | .int i => some (.inl i)
  | .str s => some (.inr s)
  | _ => none
def keysD : List D → Option (List Key)
  | [] => some []
  | d :: ds => match keyD d, keysD ds with | some k, some ks => some (k :: ks) | _, _ => none
def keyT : D → Option (List Key)
  | .tup ds => keysD ds
  | _ => none
section
variable {C : Ctx} {W : WX} {K : PySem.W.Frag} {ρ : List Addr} {R H : Hp} {F : List Res} {σ : L2.St} {m : MSt}
theorem RD.key {v : V} {d : D} {k : Key} (r : RD K ρ R v d) (h : keyD d = some k) : v = kV k := by
  cases r <;> cases h <;> rfl
theorem RDs.keys : ∀ {vs : List V} {ds : List D} {ks : List Key}, RDs K ρ R vs ds → keysD ds = some ks → vs = ks.map kV
  | _, _, _, .nil, h => by cases h; rfl
  | _, _, _, .cons a b, h => by
    unfold keysD at h
    split at h
    · rename_i k ks h1 h2
      cases h
      rw [a.key h1, RDs.keys b h2]
      rfl
    · cases h
theorem RO.keyT {v : V} {d : D} {ks : List Key} (o : RO C.K ρ R σ v d) (S : Sat C ρ R F σ H m) (h : MP.keyT d = some ks) : ∃ b, v = .ref b ∧ H b = some (.tup (ks.map kV)) := by
  cases o with
  | d r =>
    cases r with
    | tup h1 h2 =>
      have e := h2.keys h
      subst e
      exact ⟨_, rfl, S.same _ _ h1⟩
    | _ => cases h
  | sl r => cases h
theorem RO.keyK {v : V} {d : D} {k : Key} (o : RO C.K ρ R σ v d) (h : keyD d = some k) : v = kV k := by
  cases o with
  | d r => exact r.key h
  | sl r => cases h
def optR (K : PySem.W.Frag) (ρ : List Addr) (R : Hp) (r : Option D) (o : Option V) : Prop := match r with | none => o = none | some d => ∃ v, o = some v ∧ RD K ρ R v d
theorem RKs.optR {κ : Type} [DecidableEq κ] {k : κ} {vs : List (κ × V)} {ds : List (κ × D)} (r : RKs K ρ R vs ds) : MP.optR K ρ R (valD ds k) (valV vs k) := by
  rcases r.val k with ⟨h1, h2⟩ | ⟨v, d, h1, h2, h3⟩
  · rw [h1, h2]
    rfl
  · rw [h1, h2]
    exact ⟨v, rfl, h3⟩
/-- what a dict holds at a key -/
@[simp] def getC (m : MSt) (d e : D) : Option (Option D) := match d with
  | .ref id => match m.c[id]? with
    | some (.dK kvs) => match keyD e with | some k => some (valD kvs k) | none => none
    | some (.dT kvs) => match keyT e with | some k => some (valD kvs k) | none => none
    | _ => none
  | _ => none
theorem getC_ok {x y : V} {d e : D} {r : Option D} (S : Sat C ρ R F σ H m) (o1 : RO C.K ρ R σ x d) (o2 : RO C.K ρ R σ y e) (h : getC m d e = some r) :
    ∃ a o, x = .ref a ∧ DGet H a y o ∧ optR C.K ρ R r o := by
  unfold getC at h
  cases o1 with
  | sl r => cases h
  | d r1 =>
    cases r1 with
    | ref hr =>
      rename_i a id
      simp only at h
      split at h
      · rename_i kvs hc
        obtain ⟨a', l, e1, ce, hl⟩ := S.cell hc
        rw [hr] at e1
        cases e1
        split at h
        · rename_i k hk
          cases h
          cases ce with
          | dK ck =>
            have hH := (hl _ (List.mem_singleton.mpr rfl)).1
            rw [o2.keyK hk]
            exact ⟨a, _, rfl, DGet.k hH, ck.optR⟩
        · cases h
      · rename_i kvs hc
        obtain ⟨a', l, e1, ce, hl⟩ := S.cell hc
        rw [hr] at e1
        cases e1
        split at h
        · rename_i k hk
          cases h
          cases ce with
          | dT ck =>
            have hH := (hl _ (List.mem_singleton.mpr rfl)).1
            obtain ⟨b, rfl, hb⟩ := o2.keyT S hk
            exact ⟨a, _, rfl, DGet.t hH hb, ck.optR⟩
        · cases h
      · cases h
    | _ => cases h
/-- a store -/
@[simp] def putC (m : MSt) (d e v : D) : Option MSt := match d with
  | .ref id => match m.c[id]? with
    | some (.dK kvs) => match keyD e with | some k => if szOk (kvs.length + 1) = true then some { m with c := m.c.set id (.dK (putD kvs k v)) } else none | none => none
    | some (.dT kvs) => match keyT e with | some k => if szOk (kvs.length + 1) = true then some { m with c := m.c.set id (.dT (putD kvs k v)) } else none | none => none
    | _ => none
  | _ => none
theorem putC_ok {x y v : V} {d e f : D} {m' : MSt} (S : Sat C ρ R F σ H m) (o1 : RO C.K ρ R σ x d) (o2 : RO C.K ρ R σ y e) (r3 : RD C.K ρ R v f) (h : putC m d e f = some m') :
    ∃ a H', x = .ref a ∧ DPut H a y v H' ∧ Sat C ρ R F σ H' m' := by
  unfold putC at h
  cases o1 with
  | sl r => cases h
  | d r1 =>
    cases r1 with
    | ref hr =>
      rename_i a id
      simp only at h
      split at h
      · rename_i kvs hc
        split at h
        · rename_i k hk
          split at h
          · rename_i hz
            cases h
            obtain ⟨o, ce, hH, hs⟩ := S.cellSet (o := .dK []) hc hr fun a' l q => by
              cases q
              exact ⟨_, rfl⟩
            cases ce with
            | dK ck =>
              rw [o2.keyK hk]
              exact ⟨a, _, rfl, DPut.k hH (by rw [ck.length]; exact szOk_lt hz), hs _ _ (.dK (ck.put r3))⟩
          · cases h
        · cases h
      · rename_i kvs hc
        split at h
        · rename_i k hk
          split at h
          · rename_i hz
            cases h
            obtain ⟨o, ce, hH, hs⟩ := S.cellSet (o := .dT []) hc hr fun a' l q => by
              cases q
              exact ⟨_, rfl⟩
            cases ce with
            | dT ck =>
              obtain ⟨b, rfl, hb⟩ := o2.keyT S hk
              exact ⟨a, _, rfl, DPut.t hH hb (by rw [ck.length]; exact szOk_lt hz), hs _ _ (.dT (ck.put r3))⟩
          · cases h
        · cases h
      · cases h
    | _ => cases h
@[simp] def fDGet : D → D → MSt → Option (Rs DV × MSt) := fun d e m => match getC m d e with
  | some (some v) => some (.ok (.val v), m)
  | _ => none
@[simp] def fDIn : D → D → MSt → Option (Rs DV × MSt) := fun e d m => match getC m d e with
  | some r => some (.ok (.val (.bl r.isSome)), m)
  | _ => none
@[simp] def fDNotIn : D → D → MSt → Option (Rs DV × MSt) := fun e d m => match getC m d e with
  | some r => some (.ok (.val (.bl (!r.isSome))), m)
  | _ => none
variable {td ty tv : TE} {a b c : Ev}
theorem se_dget (h1 : SE C W td a) (h2 : SE C W ty b) : SE C W (tDGet td ty) (ev2 fDGet a b) := fun ρ R F σ H m Q S p =>
  h1.bndO S po_wish p fun ρ1 R1 H1 x d m1 p1 r1 S1 o1 q1 => h2.bndO S1 po_wish q1 fun ρ2 R2 H2 y e m2 p2 r2 S2 o2 q2 => by
    unfold fDGet at q2
    split at q2
    · rename_i v hv
      obtain ⟨a, o, rfl, g, w⟩ := getC_ok S2 (o1.up p2 r2) o2 hv
      obtain ⟨u, rfl, ru⟩ := w
      exact ⟨a, u, rfl, g, q2.val S2 (.d ru)⟩
    · exact q2.elim
theorem isSome_of {r : Option D} {o : Option V} {K : PySem.W.Frag} {ρ : List Addr} {R : Hp} (w : optR K ρ R r o) : o.isSome = r.isSome := by
  cases r with
  | none =>
    have w : o = none := w
    rw [w]
    rfl
  | some d =>
    obtain ⟨v, w, _⟩ := w
    rw [w]
    rfl
theorem se_din (h1 : SE C W ty a) (h2 : SE C W td b) : SE C W (tDIn ty td) (ev2 fDIn a b) := fun ρ R F σ H m Q S p =>
  h1.bndO S po_wish p fun ρ1 R1 H1 x d m1 p1 r1 S1 o1 q1 => h2.bndO S1 po_wish q1 fun ρ2 R2 H2 y e m2 p2 r2 S2 o2 q2 => by
    unfold fDIn at q2
    split at q2
    · rename_i v hv
      obtain ⟨a, o, rfl, g, w⟩ := getC_ok S2 o2 (o1.up p2 r2) hv
      refine ⟨a, o, rfl, g, ?_⟩
      rw [isSome_of w]
      exact q2.val S2 (.d (.bl _))
    · exact q2.elim
theorem se_dnotin (h1 : SE C W ty a) (h2 : SE C W td b) : SE C W (tDNotIn ty td) (ev2 fDNotIn a b) := fun ρ R F σ H m Q S p =>
  h1.bndO S po_wish p fun ρ1 R1 H1 x d m1 p1 r1 S1 o1 q1 => h2.bndO S1 po_wish q1 fun ρ2 R2 H2 y e m2 p2 r2 S2 o2 q2 => by
    unfold fDNotIn at q2
    split at q2
    · rename_i v hv
      obtain ⟨a, o, rfl, g, w⟩ := getC_ok S2 o2 (o1.up p2 r2) hv
      refine ⟨a, o, rfl, g, ?_⟩
      rw [isSome_of w]
      exact q2.val S2 (.d (.bl _))
    · exact q2.elim
/-- d[k] = v: the value first -/
@[simp] def exDPut (d k v : Ev) : Ex := fun m => bndD (v m) fun f m1 => bndO (d m1) fun x m2 => bndO (k m2) fun y m3 => match putC m3 x y f with
  | some m4 => some (.ok .nx, m4)
  | none => none
theorem ss_dput (h1 : SE C W td a) (h2 : SE C W ty b) (h3 : SE C W tv c) : SS C W (sDPut td ty tv) (exDPut a b c) := fun ρ R F σ H m D S p =>
  h3.bndD S poS_wish p fun ρ0 R0 H0 v f m0 p0 r0 S0 o0 q0 => h1.bndO S0 poS_wish q0 fun ρ1 R1 H1 x d m1 p1 r1 S1 o1 q1 => h2.bndO S1 poS_wish q1 fun ρ2 R2 H2 y e m2 p2 r2 S2 o2 q2 => by
    split at q2
    · rename_i m4 hm
      obtain ⟨a, H', rfl, g, S4⟩ := putC_ok S2 (o1.up p2 r2) o2 ((o0.up p1 r1).up p2 r2) hm
      exact ⟨a, H', rfl, g, q2 σ ρ2 R2 H' (List.prefix_refl _) (Same.refl _) S4⟩
    · exact q2.elim
/-- {} -/
@[simp] def evDNewK : Ev := fun m => some (.ok (.val (.ref m.c.length)), { m with c := m.c ++ [.dK []] })
@[simp] def evDNewT : Ev := fun m => some (.ok (.val (.ref m.c.length)), { m with c := m.c ++ [.dT []] })
theorem Po.newC {Q : VK} {ce : Cell} {q : Addr} {o : HO} (p : Po C W F σ (hE C F σ Q) ρ R (some (.ok (.val (.ref m.c.length)), { m with c := m.c ++ [ce] }))) (S : Sat C ρ R ((q, o) :: F) σ H m) (h : CeR C ρ R q ce [(q, o)]) : Q (.ref q) H := by
  refine p (ρ ++ [q]) R H (List.prefix_append _ _) (Same.refl _) (.ref q) (S.newCell h) (.d (.ref ?_))
  rw [← S.clen, List.getElem?_append_right (Nat.le_refl _), Nat.sub_self]
  rfl
theorem se_dnewK : SE C W tDNewK evDNewK := fun ρ R F σ H m Q S p q hq => p.newC (S.res hq) (.dK .nil)
theorem se_dnewT : SE C W tDNewT evDNewT := fun ρ R F σ H m Q S p q hq => p.newC (S.res hq) (.dT .nil)
/-- a display with text or number keys -/
abbrev EvPs := MSt → Option (Rs (List (Key × D)) × MSt)
@[simp] def epNil : EvPs := fun m => some (.ok [], m)
@[simp] def epCons (k v : Ev) (r : EvPs) : EvPs := fun m => bndO (k m) fun x m1 => bndD (v m1) fun y m2 => bnd (r m2) fun ps m3 => match keyD x with
  | some k => some (.ok ((k, y) :: ps), m3)
  | none => none
def hP (C : Ctx) (F : List Res) (σ : L2.St) (Q : List (V × V) → Hp → Prop) : List (Key × D) → List Addr → Hp → Hp → MSt → Prop :=
  fun ps ρ R H m => ∀ kvs, Sat C ρ R F σ H m → RKs C.K ρ R kvs ps → Q (kvs.map fun kv => (kV kv.1, kv.2)) H
def SPs (C : Ctx) (W : WX) (trs : List (TE × TE)) (ev : EvPs) : Prop := ∀ ρ R F σ H m (Q : List (V × V) → Hp → Prop), Sat C ρ R F σ H m → Po C W F σ (hP C F σ Q) ρ R (ev m) → tPairs trs σ H Q
theorem SPs.bnd {β : Type} {P : List Addr → Hp → Option (Rs β × MSt) → Prop} {f : List (Key × D) → MSt → Option (Rs β × MSt)} {t : List (TE × TE)} {ev : EvPs} {k : List (V × V) → Hp → Prop} (h : SPs C W t ev) (S : Sat C ρ R F σ H m) (wi : Wish C W F σ P) (p : P ρ R (bnd (ev m) f))
    (K : ∀ ρ' R' H' kvs ps m', ρ <+: ρ' → Same R R' → Sat C ρ' R' F σ H' m' → RKs C.K ρ' R' kvs ps → P ρ' R' (f ps m') → k (kvs.map fun kv => (kV kv.1, kv.2)) H') : tPairs t σ H k := by
  refine h ρ R F σ H m k S ?_
  match ev m, p with
  | none, p => exact wi.no _ _ p
  | some (.ok ds, m'), p => exact fun ρ' R' H' hp hr kvs S' r => K ρ' R' H' kvs ds m' hp hr S' r (wi.up _ _ _ _ _ hp hr p)
  | some (.exc x, m'), p => exact wi.ex _ _ _ _ p
theorem sps_nil : SPs C W [] epNil := fun ρ R F σ H m Q S p => p ρ R H (List.prefix_refl _) (Same.refl _) [] S .nil
theorem sps_cons {trs : List (TE × TE)} {r : EvPs} (h1 : SE C W ty a) (h2 : SE C W tv b) (h3 : SPs C W trs r) : SPs C W ((ty, tv) :: trs) (epCons a b r) := fun ρ R F σ H m Q S p =>
  h1.bndO S po_wish p fun ρ1 R1 H1 x d m1 p1 r1 S1 o1 q1 => h2.bndD S1 po_wish q1 fun ρ2 R2 H2 y e m2 p2 r2 S2 o2 q2 => h3.bnd S2 po_wish q2 fun ρ3 R3 H3 kvs ps m3 p3 r3 S3 rk q3 => by
    split at q3
    · rename_i k hk
      have e := o1.keyK hk
      subst e
      exact q3 ρ3 R3 H3 (List.prefix_refl _) (Same.refl _) ((k, y) :: kvs) S3 (.cons (o2.up p3 r3) rk)
    · exact q3.elim
def mergeD (kvs more : List (Key × D)) : List (Key × D) := more.foldl (fun acc kv => putD acc kv.1 kv.2) kvs
theorem RKs.merge {K : PySem.W.Frag} {ρ : List Addr} {R : Hp} : ∀ {more : List (Key × V)} {ds : List (Key × D)} {kvs : List (Key × V)} {es : List (Key × D)}, RKs K ρ R more ds → RKs K ρ R kvs es → RKs K ρ R (mergeK kvs more) (mergeD es ds)
  | _, _, _, _, .nil, h => h
  | _, _, kvs, es, .cons (k := k) (v := v) (d := d) (vs := vs) (ds := ds) r t, h => by
    show RKs K ρ R (mergeK (putK kvs k v) vs) (mergeD (putD es k d) ds)
    exact RKs.merge t (h.put r)
@[simp] def evDisp (r : EvPs) : Ev := fun m => bnd (r m) fun ps m1 => if ps.length ≤ 15 then some (.ok (.val (.ref m1.c.length)), { m1 with c := m1.c ++ [.dK (mergeD [] ps)] }) else none
theorem se_disp {trs : List (TE × TE)} {r : EvPs} (h : SPs C W trs r) : SE C W (tDisp trs) (evDisp r) := fun ρ R F σ H m Q S p q hq => by
  have S0 := S.res (u := .dK []) hq
  refine h.bnd S0 po_wishF p fun ρ1 R1 H1 kvs ps m1 p1 r1 S1 rk q1 => ?_
  split at q1
  · rename_i hz
    refine ⟨S1.resAt.1, kvs, rfl, by rw [rk.length]; exact hz, ?_⟩
    exact q1.newC S1.resSet (.dK (rk.merge .nil))
  · exact q1.elim
end

/-! ### name op= e -/
@[simp] def exAug (f : Int → Int → Int) (i : Nat) (a : Ev) : Ex := fun m => match m.g[i]? with
  | some (.d (.int x)) => bndO (a m) fun d m1 => match d with
    | .int y => some (.ok .nx, { m1 with g := m1.g.set i (.d (.int (f x y))) })
    | _ => none
  | _ => none
theorem ss_aug {C : Ctx} {W : WX} {i : Nat} {te : TE} {a : Ev} {f : Int → Int → Int} (h : SE C W te a) : SS C W (tAug i te (ipI f)) (exAug f i a) := fun ρ R F σ H m D S p => by
  unfold exAug at p
  split at p
  · rename_i x e
    obtain ⟨v, h1, h2⟩ := S.slot e
    refine ⟨v, h1, ?_⟩
    refine h.bndO S poS_wish p fun ρ1 R1 H1 y d m1 p1 r1 S1 o1 q1 => ?_
    split at q1
    · cases h2
      exact ⟨_, _, rfl, o1.int, q1 _ ρ1 R1 H1 (List.prefix_refl _) (Same.refl _) (S1.set (.int _))⟩
    · exact q1.elim
  · exact p.elim

/-! ### -x -/
@[simp] def fNeg : D → MSt → Option (Rs DV × MSt) := fun d m => match d with | .int i => some (.ok (.val (.int (-i))), m) | _ => none
@[simp] def evNeg (a : Ev) : Ev := ev1 fNeg a
theorem se_neg {C : Ctx} {W : WX} {ta : TE} {a : Ev} (h : SE C W ta a) : SE C W (tUn (rU fun i => .int (-i)) ta) (evNeg a) := se_un h fun ρ R F σ H m Q x d S o p => by
  unfold fNeg at p
  split at p
  · exact ⟨_, o.int, p.val S (.d (.int _))⟩
  · exact p.elim

/-! ### isinstance -/
inductive T7 where
  | non | bl | int | str | lst | tup | dict
@[simp] def T7.name : T7 → String
  | .non => "NoneType" | .bl => "bool" | .int => "int" | .str => "str" | .lst => "list" | .tup => "tuple" | .dict => "dict"
@[simp] def is7 : T7 → T7 → Bool
  | .non, .non => true | .bl, .bl => true | .int, .int => true | .str, .str => true | .lst, .lst => true | .tup, .tup => true | .dict, .dict => true
  | .bl, .int => true
  | _, _ => false
theorem kit7 (a b : T7) : kitB a.name b.name = some (is7 a b) := by
  cases a <;> cases b <;> decide +kernel
@[simp] def tyD (m : MSt) : D → Option T7
  | .non => some .non
  | .bl _ => some .bl
  | .int _ => some .int
  | .str _ => some .str
  | .lst _ => some .lst
  | .tup _ => some .tup
  | .lstK _ => some .lst
  | .tupK _ => some .tup
  | .sl i => match m.g[i]? with | some (.own _) => some .lst | _ => none
  | .ref id => match m.c[id]? with
    | some (.lst _) => some .lst
    | some (.dK _) => some .dict
    | some (.dT _) => some .dict
    | _ => none
  | _ => none
theorem tyD_ok {C : Ctx} {ρ : List Addr} {R H : Hp} {F : List Res} {σ : L2.St} {m : MSt} {x : V} {d : D} {t : T7} (S : Sat C ρ R F σ H m) (o : RO C.K ρ R σ x d) (h : tyD m d = some t) : TyX C.K H x (.type t.name) := by
  cases o with
  | sl r =>
    unfold tyD at h
    simp only at h
    split at h
    · rename_i xs e
      cases h
      obtain ⟨p, vs, e1, hp, _⟩ := S.slotOwn e
      rw [r] at e1
      cases e1
      exact .base (.lst hp)
    · cases h
  | d r =>
    cases r with
    | non => cases h; exact .base .non
    | bl b => cases h; exact .base (.bl b)
    | int b => cases h; exact .base (.int b)
    | str b => cases h; exact .base (.str b)
    | ty _ => cases h
    | lst h1 _ => cases h; exact .base (.lst (S.same _ _ h1))
    | tup h1 _ => cases h; exact .base (.tup (S.same _ _ h1))
    | lstK h1 _ =>
      cases h
      rcases h1 with (h1 | ⟨o, h1⟩) | ⟨o, its, n, k, c, _⟩
      · exact .base (.lst (S.same _ _ h1))
      · exact .base (.frz (S.same _ _ h1))
      · exact .kList k c
    | tupK h1 _ =>
      cases h
      rcases h1 with (h1 | ⟨o, h1⟩) | ⟨o, its, n, k, c, _⟩
      · exact .base (.tup (S.same _ _ h1))
      · exact .fTuple (S.same _ _ h1)
      · exact .kTuple k c
    | ref hr =>
      unfold tyD at h
      simp only at h
      split at h
      · rename_i e
        cases h
        obtain ⟨a', l, e1, ce, hl⟩ := S.cell e
        rw [hr] at e1
        cases e1
        cases ce
        exact .base (.lst (hl _ (List.mem_singleton.mpr rfl)).1)
      · rename_i e
        cases h
        obtain ⟨a', l, e1, ce, hl⟩ := S.cell e
        rw [hr] at e1
        cases e1
        cases ce
        exact .base (.dK (hl _ (List.mem_singleton.mpr rfl)).1)
      · rename_i e
        cases h
        obtain ⟨a', l, e1, ce, hl⟩ := S.cell e
        rw [hr] at e1
        cases e1
        cases ce
        exact .base (.dT (hl _ (List.mem_singleton.mpr rfl)).1)
      · cases h
@[simp] def fIsi (t : T7) : List D → MSt → Option (Rs DV × MSt) := fun ds m => match ds with
  | [d, .ty n] => if n = t.name then match tyD m d with | some u => some (.ok (.val (.bl (is7 u t))), m) | none => none else none
  | _ => none
theorem soa_isi {C : Ctx} {W : WX} {t : T7} : SOA C W (rIsi C.K) (fIsi t) := fun ρ R F σ H m Q vs ds S o p => by
  unfold fIsi at p
  split at p
  · split at p
    · rename_i hn
      subst hn
      split at p
      · rename_i u hu
        obtain ⟨v, w, rfl, o1, o2⟩ := o.two
        have e : w = .ty t.name := by
          cases o2 with
          | d r => cases r; rfl
        subst e
        exact ⟨v, .ty t.name, _, _, _, rfl, .ty _, tyD_ok S o1 hu, kit_ty (kit7 u t), p.val S (.d (.bl _))⟩
      · exact p.elim
    · exact p.elim
  · exact p.elim
end MP
namespace MP
open PySem L2
/-! ### rules whose reading names the written part, by its own name (for blocks) -/
section
variable {X : Cx} {K : PySem.W.Frag}
theorem ix_seqK (h : X.K = K) : IxR X (rIx K) := h ▸ ix_seq
theorem op_addK (h : X.K = K) : OpR X (binaryOp .Add) (rAddA K) := h ▸ op_addA
theorem op_eqK (h : X.K = K) (hu : X.A.units + 64 < cLine) : OpR X (compareOp .Eq) (rOr rEq (rEqD K)) := h ▸ op_eqA hu
theorem op_neK (h : X.K = K) (hu : X.A.units + 64 < cLine) : OpR X (compareOp .NotEq) (rOr rNe (rNeD K)) := h ▸ op_neA hu
theorem sl_anyK (h : X.K = K) : L2.SlR X (rSlA K) := h ▸ sl_any
theorem call_lenK (h : X.K = K) : CallR X (.builtin "len") (rLen K) := h ▸ call_len
theorem call_listK (h : X.K = K) : CallR X (.type "list") (rListOf K) := h ▸ call_list_of
theorem cr_sumK (h : X.K = K) (hc : X.calm = true) : CallR X (.builtin "sum") (rSum K) := h ▸ cr_sum hc
theorem cr_allK (h : X.K = K) (hc : X.calm = true) : CallR X (.builtin "all") (rAll K) := h ▸ cr_all hc
theorem cr_anyK (h : X.K = K) (hc : X.calm = true) : CallR X (.builtin "any") (rAny K) := h ▸ cr_any hc
theorem call_isiK (h : X.K = K) : CallR X (.builtin "isinstance") (rIsi K) := h ▸ call_isi
theorem pt_truthK {a : Expr} {ta : TE} (h : X.K = K) (ha : PE X a ta) (he : ∀ whole, isTrue a X.env whole = (do let v ← whole; standAt a.pos; holding [v] (truthy v))) :
    PT X a (fun σ H Q => ta σ H fun x H' => ∃ k, TruV K x H' k ∧ Q k H') := h ▸ pt_truth ha he
theorem pi_listK {tg l : Expr} {tl : TE} (h : X.K = K) (hl : PE X l tl) : PI X tg l (iList K tl) := h ▸ pi_list hl
theorem pi_tupK {tg l : Expr} {tl : TE} (h : X.K = K) (hl : PE X l tl) : PI X tg l (iTup K tl) := h ▸ pi_tup hl
end
end MP
namespace MP
open PySem L2
/-- what the law's own row asks: a list of at most 63 whole numbers is handed in, True comes out -/
def spLaw (K : PySem.W.Frag) : Sp := fun vs H Q _ => ∃ (a : Addr) (ns : List Int), vs = [.ref a] ∧ SqL K H a (ns.map V.int) ∧ ns.length ≤ 63 ∧ ∀ H', Q (.bl true) H'
theorem law_imp {C : MP.Ctx} {sem : Sem0} (h : ∀ ns : List Int, ns.length ≤ 63 → ∃ c, sem [.lstK (ns.map D.int)] [] = some (.ok (.val (.bl true)), c)) (vs : List V) (H : Hp) (Q : VK) (E : XK) (q : spLaw C.K vs H Q E) : spOf C 1 sem vs H Q E := by
  obtain ⟨a, ns, rfl, hS, hl, k⟩ := q
  obtain ⟨c, hc⟩ := h ns hl
  refine ⟨rfl, [], H, [], [.lstK (ns.map D.int)], [], [], .cons (.lstK hS (RDs.of_ints ns)) .nil, .nil, ⟨Same.refl _, List.nodup_nil, fun _ z => nomatch z⟩, ?_⟩
  rw [hc]
  intro v ρ' R' H' lc _ _ _ _ rv
  cases rv
  exact k H'
theorem cx_none {P : Program} {w : World} {H : Hp} {s : Shared} {e : Value} {s' : Shared} (h : L2.CX P w [] H s (fun _ _ _ => False) e s') : False := by
  obtain ⟨_, _, _, _, _, _, _, _, _, _, _, _, z⟩ := h
  exact z.elim
end MP

set_option Elab.async false
set_option linter.all false
set_option maxRecDepth 100000
set_option maxHeartbeats 4000000
namespace MP
open PySem L2
/-! ### instances -/
def putF' (f : Str) (v : D) : List (Str × D) → List (Str × D)
  | [] => [(f, v)]
  | (g, x) :: r => if g = f then (g, v) :: r else (g, x) :: putF' f v r
section
variable {K : PySem.W.Frag} {ρ : List Addr} {R : Hp}
theorem RKs.look (f : Str) : ∀ {vs : List (Str × V)} {ds : List (Str × D)}, RKs K ρ R vs ds → (vs.lookup f = none ∧ ds.lookup f = none) ∨ ∃ v d, vs.lookup f = some v ∧ ds.lookup f = some d ∧ RD K ρ R v d
  | _, _, .nil => .inl ⟨rfl, rfl⟩
  | _, _, .cons (k := k) (v := v) (d := d) (vs := vs) (ds := ds) r t => by
    by_cases e : f = k
    · subst e
      exact .inr ⟨v, d, by simp [List.lookup], by simp [List.lookup], r⟩
    · have b : (f == k) = false := by simpa using e
      rcases RKs.look f t with ⟨h1, h2⟩ | ⟨v', d', h1, h2, h3⟩
      · exact .inl ⟨by rw [List.lookup, b]; exact h1, by rw [List.lookup, b]; exact h2⟩
      · exact .inr ⟨v', d', by rw [List.lookup, b]; exact h1, by rw [List.lookup, b]; exact h2, h3⟩
theorem RKs.putF (f : Str) {v : V} {d : D} (r : RD K ρ R v d) : ∀ {vs : List (Str × V)} {ds : List (Str × D)}, RKs K ρ R vs ds → RKs K ρ R (L2.putF f v vs) (putF' f d ds)
  | _, _, .nil => .cons r .nil
  | _, _, .cons (k := k) (v := v') (d := d') (vs := vs) (ds := ds) r' t => by
    unfold L2.putF putF'
    by_cases e : k = f
    · rw [if_pos e, if_pos e]
      exact .cons r t
    · rw [if_neg e, if_neg e]
      exact .cons r' (RKs.putF f r t)
end
section
variable {C : Ctx} {W : WX} {ρ : List Addr} {R H : Hp} {F : List Res} {σ σ2 : L2.St} {m : MSt}
theorem cell_mid2 {ls L1 L2 F : List Res} (x y : Res) : (x :: (ls ++ ((L1 ++ ([y] ++ L2)) ++ F))).Perm (ls ++ ((L1 ++ ([x, y] ++ L2)) ++ F)) := by
  have : ls ++ ((L1 ++ ([x, y] ++ L2)) ++ F) = (ls ++ L1) ++ (x :: (y :: L2 ++ F)) := by simp
  rw [this]
  have e : x :: (ls ++ ((L1 ++ ([y] ++ L2)) ++ F)) = x :: ((ls ++ L1) ++ (y :: L2 ++ F)) := by simp
  rw [e]
  exact List.perm_middle.symm
/-- an instance is looked at, and may be changed -/
theorem Sat.ins {id c : Nat} {fs : List (Str × D)} {a : Addr} (S : Sat C ρ R F σ H m) (h : m.c[id]? = some (.ins c fs)) (hr : ρ[id]? = some a) :
    ∃ dx vs, H a = some (.ins (C.cm c) dx vs) ∧ RKs C.K ρ R vs fs ∧ ∀ vs' fs', RKs C.K ρ R vs' fs' → Sat C ρ R F σ (upd H a (.ins (C.cm c) dx vs')) { m with c := m.c.set id (.ins c fs') } := by
  obtain ⟨ls, lc, q1, q2, ow⟩ := S
  obtain ⟨a2, l, L1, L2, e1, r, eL, hs⟩ := q2.at h
  rw [hr] at e1
  cases e1
  cases r with
  | @ins dx _ vs _ r =>
    rw [eL] at ow
    have ow' := ow.perm (cell_mid2 (a, .ins (C.cm c) dx vs) (dx, HO.own a)).symm
    have hp := ow'.at' (a, .ins (C.cm c) dx vs) List.mem_cons_self
    refine ⟨dx, vs, hp.1, r, fun vs' fs' r' => ?_⟩
    have q := hs _ (fun _ _ _ x => x) a (.ins c fs') [(a, .ins (C.cm c) dx vs'), (dx, .own a)] (.ins r')
    have ea : ρ.set id a = ρ := by
      apply List.ext_getElem?
      intro j
      have hi : id < ρ.length := (List.getElem?_eq_some_iff.mp hr).1
      by_cases hj : id = j
      · subst hj; rw [List.getElem?_set_self hi, hr]
      · rw [List.getElem?_set_ne hj]
    rw [ea] at q
    exact ⟨ls, _, q1, q, ow'.set.perm (cell_mid2 (a, .ins (C.cm c) dx vs') (dx, HO.own a))⟩
/-- a new cell of an instance -/
theorem Sat.newIns {a dx : Addr} {o u : HO} {ce : Cell} (S : Sat C ρ R ((a, o) :: (dx, u) :: F) σ H m) (h : CeR C ρ R a ce [(a, o), (dx, u)]) : Sat C (ρ ++ [a]) R F σ H { m with c := m.c ++ [ce] } := by
  obtain ⟨ls, lc, h1, h2, ow⟩ := S
  have hp : ρ <+: ρ ++ [a] := List.prefix_append _ _
  refine ⟨ls, lc ++ ([(a, o), (dx, u)] ++ []), h1.imp fun _ _ _ x => x.up hp (Same.refl _), ?_, ?_⟩
  · exact (h2.imp fun _ _ _ x => x.up hp (Same.refl _)).append (.cons (h.up hp (Same.refl _)) .nil)
  · have e : ls ++ ((lc ++ ([(a, o), (dx, u)] ++ [])) ++ F) = ls ++ (lc ++ (a, o) :: (dx, u) :: F) := by simp
    rw [e]
    exact ow
/-- e.f -/
@[simp] def fFld (c0 : Nat) (f : Str) : D → MSt → Option (Rs DV × MSt) := fun d m => match d with
  | .ref id => match m.c[id]? with
    | some (.ins c fs) => if c = c0 then match fs.lookup f with | some v => some (.ok (.val v), m) | none => none else none
    | _ => none
  | _ => none
theorem se_fld {ta : TE} {a : Ev} {c0 : Nat} {f : Str} (hC : Cls C.K (C.cm c0)) (hN : NoAttr C.K (C.cm c0) f) (h : SE C W ta a) : SE C W (tFld C.K ta f) (ev1 (fFld c0 f) a) := fun ρ R F σ H m Q S p =>
  h.bndO S po_wish p fun ρ1 R1 H1 x d m1 p1 r1 S1 o1 q1 => by
    unfold fFld at q1
    split at q1
    · rename_i id
      split at q1
      · rename_i c fs hc
        split at q1
        · rename_i ec
          subst ec
          split at q1
          · rename_i v hv
            cases o1 with
            | d r1 =>
              cases r1 with
              | ref hr =>
                obtain ⟨dx, vs, hH, rk, _⟩ := S1.ins hc hr
                rcases rk.look f with ⟨_, z⟩ | ⟨v', d', z1, z2, z3⟩
                · rw [z] at hv
                  cases hv
                · rw [z2] at hv
                  cases hv
                  exact ⟨_, _, dx, vs, v', rfl, hH, hC, hN, z1, q1.val S1 (.d z3)⟩
          · exact q1.elim
        · exact q1.elim
      · exact q1.elim
    · exact q1.elim
/-- o.f = e: the value first -/
@[simp] def putFC (c0 : Nat) (f : Str) (m : MSt) (d v : D) : Option MSt := match d with
  | .ref id => match m.c[id]? with
    | some (.ins c fs) => if c = c0 ∧ fs.length < 1000 then some { m with c := m.c.set id (.ins c (putF' f v fs)) } else none
    | _ => none
  | _ => none
@[simp] def exFld (c0 : Nat) (f : Str) (o v : Ev) : Ex := fun m => bndD (v m) fun y m1 => bndO (o m1) fun x m2 => match putFC c0 f m2 x y with
  | some m3 => some (.ok .nx, m3)
  | none => none
theorem ss_fld {ta tv : TE} {a b : Ev} {c0 : Nat} {f : Str} (hC : Cls C.K (C.cm c0)) (hN : NoAttr C.K (C.cm c0) f) (h1 : SE C W ta a) (h2 : SE C W tv b) : SS C W (sFld C.K ta tv f) (exFld c0 f a b) := fun ρ R F σ H m D S p =>
  h2.bndD S poS_wish p fun ρ0 R0 H0 y e m0 p0 r0 S0 o0 q0 => h1.bndO S0 poS_wish q0 fun ρ1 R1 H1 x d m1 p1 r1 S1 o1 q1 => by
    split at q1
    · rename_i m3 hm
      unfold putFC at hm
      split at hm
      · rename_i id
        split at hm
        · rename_i c fs hc
          split at hm
          · rename_i ec
            obtain ⟨ec, hl⟩ := ec
            subst ec
            cases hm
            cases o1 with
            | d r1' =>
              cases r1' with
              | ref hr =>
                obtain ⟨dx, vs, hH, rk, hs⟩ := S1.ins hc hr
                exact ⟨_, _, dx, vs, rfl, hH, hC, hN, by rw [rk.length]; exact hl, q1 σ ρ1 R1 _ (List.prefix_refl _) (Same.refl _) (hs _ _ (rk.putF f (o0.up p1 r1)))⟩
          · cases hm
        · cases hm
      · cases hm
    · exact q1.elim
/-- o.f += e (ints) -/
@[simp] def exFldAug (c0 : Nat) (f : Str) (g : Int → Int → Int) (o v : Ev) : Ex := fun m => bndO (o m) fun x m1 => bndO (fFld c0 f x m1) fun z m2 => bndO (v m2) fun y m3 => match z, y with
  | .int i, .int j => match putFC c0 f m3 x (.int (g i j)) with
    | some m4 => some (.ok .nx, m4)
    | none => none
  | _, _ => none
end
/-- what the callee may not do: let an exception out -/
def calmS (r : Option (Rs DV × MSt)) : Option (Rs DV × MSt) := match r with
  | some (.ok a, m) => some (.ok a, m)
  | _ => none
@[simp] theorem calmS_ok {a : DV} {m : MSt} : calmS (some (.ok a, m)) = some (.ok a, m) := rfl
@[simp] def evMethO (c0 n : Nat) (f : Str) (sem : Sem0) (o : Ev) (a : EvA) : Ev := fun m => bndO (o m) fun x m1 => match x with
  | .ref id => match m1.c[id]? with
    | some (.ins c fs) => if c = c0 ∧ fs.lookup f = none then bnd (a m1) fun ds m2 => if ds.all solid && decide (ds.length + 1 = n) then calmS (evSem sem (.ref id :: ds) m2) else none else none
    | _ => none
  | _ => none
@[simp] def evCall0 (sem : Sem0) : Ev := fun m => calmS (evSem sem [] m)
@[simp] def evMake (c0 n : Nat) (sem : Sem0) (a : EvA) : Ev := fun m => bnd (a m) fun ds m1 => if ds.all solid && decide (ds.length + 1 = n) then
    match sem (.ref m1.c.length :: ds) (m1.c ++ [.ins c0 []]) with
    | some (.ok (.val .non), c) => some (.ok (.val (.ref m1.c.length)), { m1 with c := c })
    | _ => none
  else none
def E0 : XK := fun _ _ _ => False
theorem passN {P : Program} {w : World} {X : Cx} : Passes (L2.CX P w) X E0 := fun _ _ H s e s' I h => by
  obtain ⟨_, _, _, _, _, _, _, _, _, _, _, _, z⟩ := h
  exact z.elim
section
variable {C : Ctx} {W : WX} {ρ : List Addr} {R H : Hp} {F : List Res} {σ σ2 : L2.St} {m : MSt}
theorem sem_calm {n : Nat} {sem : Sem0} {ds : List D} {vs : List V} {Q : VK} {W : WX} (S : Sat C ρ R F σ H m) (r : RDs C.K ρ R vs ds) (hn : ds.length = n) (p : Po C W F σ (hE C F σ Q) ρ R (calmS (evSem sem ds m))) : spOf C n sem vs H Q E0 := by
  have p' : Po C (fun _ _ _ _ => False) F σ (hE C F σ Q) ρ R (evSem sem ds m) := by
    match evSem sem ds m, p with
    | some (.ok a, m'), p => exact p
  exact sem_ok S r hn p' fun _ _ _ z => z.elim
theorem se_meth {ta : TE} {tr : TA} {a : Ev} {ar : EvA} {c0 n : Nat} {f : Str} {sem : Sem0} (h : SE C W ta a) (ha : SA C W tr ar) : SE C W (tMeth (C.cm c0) f (spOf C n sem) [] E0 ta tr) (evMethO c0 n f sem a ar) := fun ρ R F σ H m Q S p =>
  h.bndO S po_wish p fun ρ1 R1 H1 x d m1 p1 r1 S1 o1 q1 => by
    split at q1
    · rename_i id
      split at q1
      · rename_i c fs hc
        split at q1
        · rename_i ec
          obtain ⟨ec, hl⟩ := ec
          subst ec
          cases o1 with
          | d r1 =>
            cases r1 with
            | ref hr =>
              obtain ⟨dx, vs, hH, rk, _⟩ := S1.ins hc hr
              have hl' : vs.lookup f = none := by
                rcases rk.look f with ⟨z, _⟩ | ⟨v', d', z1, z2, z3⟩
                · exact z
                · rw [z2] at hl
                  cases hl
              refine ⟨_, dx, vs, rfl, hH, hl', ?_⟩
              refine ha.bnd S1 po_wish q1 fun ρ2 R2 H2 ws ds m2 p2 r2 S2 o2 q2 => ?_
              split at q2
              · rename_i hz
                simp only [Bool.and_eq_true, decide_eq_true_eq] at hz
                rw [List.append_nil]
                exact sem_calm S2 (.cons (.ref (pre_get p2 hr)) (o2.rds hz.1)) hz.2 q2
              · exact q2.elim
        · exact q1.elim
      · exact q1.elim
    · exact q1.elim
theorem se_call0 {sem : Sem0} : SE C W (tCall (spOf C 0 sem) [] E0 tNil) (evCall0 sem) := fun ρ R F σ H m Q S p => sem_calm S .nil rfl p
theorem se_make {tr : TA} {ar : EvA} {c0 n : Nat} {sem : Sem0} (ha : SA C W tr ar) : SE C W (tMake (C.cm c0) (spOf C n sem) [] E0 tr) (evMake c0 n sem ar) := fun ρ R F σ H m Q S p =>
  ha.bnd S po_wish p fun ρ1 R1 H1 ws ds m1 p1 r1 S1 o1 q1 => by
    split at q1
    · rename_i hz
      simp only [Bool.and_eq_true, decide_eq_true_eq] at hz
      intro x dx hx hdx hne
      rw [List.append_nil]
      have S2 : Sat C ρ1 R1 ((dx, .own x) :: F) σ (upd H1 dx (.own x)) m1 := S1.res hdx
      have S3 : Sat C ρ1 R1 ((x, .ins (C.cm c0) dx []) :: (dx, .own x) :: F) σ (upd (upd H1 dx (.own x)) x (.ins (C.cm c0) dx [])) m1 := S2.res (by rw [upd_ne hne.symm]; exact hx)
      have S4 := S3.newIns (ce := .ins c0 []) (.ins .nil)
      have hx' : (ρ1 ++ [x])[m1.c.length]? = some x := by
        rw [← S1.clen, List.getElem?_append_right (Nat.le_refl _), Nat.sub_self]
        rfl
      have hpre : ρ1 <+: ρ1 ++ [x] := List.prefix_append _ _
      refine sem_ok (σ := σ) (F := F) (m := { m1 with c := m1.c ++ [.ins c0 []] }) (W := fun _ _ _ _ => False) S4 (.cons (.ref hx') ((o1.rds hz.1).up hpre (Same.refl _))) hz.2 ?_ fun _ _ _ z => z.elim
      unfold evSem
      split at q1
      · rename_i c hc
        rw [hc]
        intro ρ3 R3 H3 p3 r3 v S5 o5
        have ev : v = .non := by
          cases o5 with
          | d r => cases r; rfl
        subst ev
        refine ⟨rfl, ?_⟩
        exact q1 ρ3 R3 H3 (hpre.trans p3) r3 (.ref x) S5 (.d (.ref (pre_get p3 hx')))
      · exact q1.elim
    · exact q1.elim
end
end MP

set_option Elab.async false
set_option linter.all false
set_option maxRecDepth 100000
set_option maxHeartbeats 4000000
namespace MP
open PySem L2
/-! ### constants of the module that are lists or tuples of numbers -/
structure KLst (K : PySem.W.Frag) (a : Addr) (ns : List Int) : Prop where
  at_ : ∃ (o : Obj) (its : Array Value) (n : Nat), K.lookup a = some o ∧ o.cls = .type "list" ∧ o.dict = none ∧ o.data = .seq its n ∧ its.size ≤ sizeLine ∧ Vals (ns.map V.int) its.toList
structure KTup (K : PySem.W.Frag) (a : Addr) (ns : List Int) : Prop where
  at_ : ∃ (o : Obj) (its : Array Value) (n : Nat), K.lookup a = some o ∧ o.cls = .type "tuple" ∧ o.dict = none ∧ o.data = .seq its n ∧ its.size ≤ sizeLine ∧ Vals (ns.map V.int) its.toList
theorem KLst.sq {K : PySem.W.Frag} {a : Addr} {ns : List Int} (h : KLst K a ns) (H : Hp) : SqL K H a (ns.map V.int) := .inr h.at_
theorem KTup.sq {K : PySem.W.Frag} {a : Addr} {ns : List Int} (h : KTup K a ns) (H : Hp) : SqT K H a (ns.map V.int) := by
  obtain ⟨o, its, n, h1, h2, h3, h4, h5, h6⟩ := h.at_
  exact .inr ⟨o, its, n, h1, h2, h4, h5, h6⟩
theorem KTup.ty {K : PySem.W.Frag} {a : Addr} {ns : List Int} (h : KTup K a ns) (H : Hp) : tyV K "tuple" (.ref a) H := by
  obtain ⟨o, its, n, h1, h2, h3, h4, h5, h6⟩ := h.at_
  exact .inr (.inl ⟨rfl, o, h1, h2, h3⟩)
section
variable {C : Ctx} {W : WX}
theorem se_cstL {a : Addr} {ns : List Int} (h : KLst C.K a ns) : SE C W (tC (.ref a)) (evC (.lstK (ns.map D.int))) := fun ρ R F σ H m Q S p => p.val S (.d (.lstK (h.sq _) (RDs.of_ints ns)))
theorem se_cstT {a : Addr} {ns : List Int} (h : KTup C.K a ns) : SE C W (tC (.ref a)) (evC (.tupK (ns.map D.int))) := fun ρ R F σ H m Q S p => p.val S (.d (.tupK (h.sq _) (RDs.of_ints ns)))
end
/-! ### in, not in -/
@[simp] def flatD : D → Bool
  | .non => true | .bl _ => true | .int _ => true | .str _ => true | _ => false
@[simp] def vD : D → V
  | .bl b => .bl b | .int i => .int i | .str s => .str s | _ => .non
theorem RD.flat {K : PySem.W.Frag} {ρ : List Addr} {R : Hp} {v : V} {d : D} (r : RD K ρ R v d) (h : flatD d = true) : v = vD d ∧ flatV v = true := by
  cases r <;> first | exact ⟨rfl, rfl⟩ | cases h
theorem RDs.flat {K : PySem.W.Frag} {ρ : List Addr} {R : Hp} : ∀ {vs : List V} {ds : List D}, RDs K ρ R vs ds → ds.all flatD = true → vs = ds.map vD ∧ vs.all flatV = true
  | _, _, .nil, _ => ⟨rfl, rfl⟩
  | _, _, .cons a b, h => by
    rw [List.all_cons, Bool.and_eq_true] at h
    obtain ⟨e1, e2⟩ := a.flat h.1
    obtain ⟨e3, e4⟩ := b.flat h.2
    exact ⟨by rw [List.map_cons, ← e1, ← e3], by rw [List.all_cons, e2, e4]; rfl⟩
def inD (x : D) (xs : List D) : Bool := inV (vD x) (xs.map vD)
@[simp] def sqO (m : MSt) (d : D) : Option (List D) := match lsO m d with
  | some xs => some xs
  | none => tpO d
@[simp] def fIn (neg : Bool) : D → D → MSt → Option (Rs DV × MSt) := fun x y m => match sqO m y with
  | some xs => if flatD x && xs.all flatD then some (.ok (.val (.bl (if neg then !inD x xs else inD x xs))), m) else none
  | none => none
theorem so_in {C : Ctx} {W : WX} {neg : Bool} : SO2 C W (rIn C.K neg) (fIn neg) := fun ρ R F σ H m Q x d y e S o1 o2 p => by
  unfold fIn at p
  split at p
  · rename_i xs hx
    split at p
    · rename_i hf
      rw [Bool.and_eq_true] at hf
      have r1 : RD C.K ρ R x d := by
        cases o1 with
        | d r => exact r
        | sl r => cases hf.1
      obtain ⟨e1, e2⟩ := r1.flat hf.1
      have key : ∃ a vs, y = .ref a ∧ (SqL C.K H a vs ∨ SqT C.K H a vs) ∧ RDs C.K ρ R vs xs := by
        unfold sqO at hx
        split at hx
        · rename_i zs hz
          cases hx
          obtain ⟨a, vs, h1, h2, h3⟩ := ls_ok S o2 hz
          exact ⟨a, vs, h1, .inl h2, h3⟩
        · obtain ⟨a, vs, h1, h2, h3⟩ := tup_ok S o2 hx
          exact ⟨a, vs, h1, .inr h2, h3⟩
      obtain ⟨a, vs, rfl, hs, rs⟩ := key
      obtain ⟨e3, e4⟩ := rs.flat hf.2
      refine ⟨a, vs, rfl, hs, e2, e4, ?_⟩
      rw [e1, e3]
      exact p.val S (.d (.bl _))
    · exact p.elim
  · exact p.elim
section
variable {X : Cx} {K : PySem.W.Frag}
theorem op_inK (h : X.K = K) : OpR X (compareOp .In) (rIn K false) := h ▸ op_in_seq
theorem op_notInK (h : X.K = K) : OpR X (compareOp .NotIn) (rIn K true) := h ▸ op_notIn_seq
theorem pe_fldK {e : Expr} {f : Str} {ta : TE} {pos : Pos} (h : X.K = K) (he : PE X e ta) (hb : attributeBase e f X.env (eval e X.env) = eval e X.env := by rfl) : PE X (.Attribute e f pos) (tFld K ta f) := h ▸ pe_fld he hb
theorem ps_fldK {o value : Expr} {f : Str} {ta tv : TE} {pos pos' : Pos} (h : X.K = K) (ha : PE X o ta) (hv : PE X value tv) (hs : swapsWith value (some (.Attribute o f pos')) pos.line X.env = pure false := by rfl) : PS X (.Assign [.Attribute o f pos'] value pos) (sFld K ta tv f) := h ▸ ps_fld ha hv hs
theorem ps_fldaugK {op : Operator} {rd : V → V → Hp → VK → Prop} {o value : Expr} {f : Str} {ta tv : TE} {pos tpos : Pos} (h : X.K = K) (ha : PE X o ta) (hv : PE X value tv) (hop : InOp X op rd) : PS X (.AugAssign (.Attribute o f tpos) op value pos) (sFldAug K ta tv rd f) := h ▸ ps_fldaug ha hv hop
theorem pe_bmK {o e : Expr} {es : List Expr} {to : TE} {t : TA} {name : Str} {apos cpos : Pos} {T id : String} {r : V → List V → Hp → VK → Prop} (h : X.K = K) (pa : PlainAttrs T) (slot : Slot T name id) (hty : typeOf (.builtin id) = pure (.type "method_descriptor")) (hm : MtR X id r) (ho : PE X o to) (ha : PA X (e :: es) t)
    (hbase : attributeBase o name X.env (eval o X.env) = eval o X.env := by rfl)
    (hfew : ((backTo cpos (starEach (e :: es) X.env)).all (fun x => !x.1) && (backToKw cpos (keywordEach [] X.env)).all (fun x => x.1.isSome)
      && decide ((e :: es).length + ([] : List Keyword).length + (if ([] : List Keyword).isEmpty then 0 else 1) < 30)) = true := by rfl)
    (hline : (apos.endLine == cpos.line) = true := by rfl) (hs : starEach (e :: es) X.env = (false, eval e X.env) :: starEach es X.env := by rfl) (hplain : (backTo cpos (starEach es X.env)).any (·.1) = false := by rfl) :
    PE X (.Call (.Attribute o name apos) (e :: es) [] cpos) (tBM K T r to t) := h ▸ pe_bm pa slot hty hm ho ha hbase hfew hline hs hplain
end
/-! ### o.f op= e -/
theorem bndO_v {α : Type} {m : MSt} {d : D} {f : D → MSt → Option (Rs α × MSt)} : bndO (some (.ok (.val d), m)) f = f d m := rfl
theorem ss_fldaug {C : Ctx} {W : WX} {ta tv : TE} {a b : Ev} {c0 : Nat} {f : Str} {g : Int → Int → Int} {rd : V → V → Hp → VK → Prop} (hrd : ∀ i j H Q, Q (.int (g i j)) H → rd (.int i) (.int j) H Q) (hC : Cls C.K (C.cm c0)) (hN : NoAttr C.K (C.cm c0) f) (h1 : SE C W ta a) (h2 : SE C W tv b) : SS C W (sFldAug C.K ta tv rd f) (exFldAug c0 f g a b) := fun ρ R F σ H m D S p =>
  h1.bndO S poS_wish p fun ρ1 R1 H1 x d m1 p1 r1 S1 o1 q1 => by
    simp only [fFld] at q1
    cases d with
    | ref id =>
      cases hc : m1.c[id]? with
      | none => simp only [hc, bndO] at q1; exact q1.elim
      | some ce =>
        cases ce with
        | ins c fs =>
          simp only [hc] at q1
          by_cases ec : c = c0
          · subst ec
            cases hl : fs.lookup f with
            | none => simp only [hl, if_true, bndO] at q1; exact q1.elim
            | some z =>
              simp only [hl, if_true] at q1
              cases o1 with
              | d r1' =>
                cases r1' with
                | @ref a' _ hr =>
                  obtain ⟨dx, vs, hH, rk, _⟩ := S1.ins hc hr
                  rcases rk.look f with ⟨_, z0⟩ | ⟨v', d', z1, z2, z3⟩
                  · rw [z0] at hl
                    cases hl
                  · rw [z2] at hl
                    cases hl
                    refine ⟨_, _, dx, vs, v', rfl, hH, hC, hN, z1, ?_⟩
                    rw [bndO_v] at q1
                    refine h2.bndO S1 poS_wish q1 fun ρ2 R2 H2 y e m2 p2 r2 S2 o2 q2 => ?_
                    split at q2
                    · rename_i i j
                      cases z3
                      split at q2
                      · rename_i m4 hm
                        unfold putFC at hm
                        simp only at hm
                        split at hm
                        · rename_i c2 fs2 hc2
                          split at hm
                          · rename_i ez
                            obtain ⟨ec, hl2⟩ := ez
                            subst ec
                            cases hm
                            obtain ⟨dx2, vs2, hH2, rk2, hs2⟩ := S2.ins hc2 (pre_get p2 hr)
                            have ey := o2.int
                            subst ey
                            refine hrd _ _ _ _ ⟨dx2, vs2, hH2, by rw [rk2.length]; exact hl2, ?_⟩
                            exact q2 σ ρ2 R2 _ (List.prefix_refl _) (Same.refl _) (hs2 _ _ (rk2.putF f (.int _)))
                          · cases hm
                        · cases hm
                      · exact q2.elim
                    · exact q2.elim
          · simp only [if_neg ec, bndO] at q1
            exact q1.elim
        | _ => simp only [hc, bndO] at q1; exact q1.elim
    | _ => simp only [bndO] at q1; exact q1.elim
theorem hr_add (i j : Int) (H : Hp) (Q : VK) (q : Q (.int (i + j)) H) : rAdd (.int i) (.int j) H Q := ⟨i, j, rfl, rfl, q⟩
theorem hr_sub (i j : Int) (H : Hp) (Q : VK) (q : Q (.int (i - j)) H) : rSub (.int i) (.int j) H Q := ⟨i, j, rfl, rfl, q⟩
/-! ### xs.extend(ys) -/
@[simp] def fExt : D → List D → MSt → Option (Rs DV × MSt) := fun d es m => match es with
  | [.lst ys] => match lsM m d with
    | some xs => if szOk (xs.length + ys.length) then some (.ok (.val .non), putL m d (xs ++ ys)) else none
    | none => none
  | _ => none
theorem som_ext {C : Ctx} {W : WX} : SOM C W rExtend fExt := fun ρ R F σ H m Q x d ys es S o os p => by
  unfold fExt at p
  split at p
  · rename_i zs
    split at p
    · rename_i xs hx
      split at p
      · rename_i hz
        obtain ⟨a, vs, rfl, hH, r1, hs⟩ := lm_ok S o hx
        obtain ⟨v, rfl, o2⟩ := os.one
        cases o2 with
        | d r =>
          cases r with
          | lst h1 h2 =>
            refine ⟨a, _, vs, _, rfl, rfl, hH, S.same _ _ h1, by rw [r1.length, h2.length]; exact szOk_le hz, ?_⟩
            exact p.val (hs _ _ (r1.append h2)) (.d .non)
      · exact p.elim
    · exact p.elim
  · exact p.elim
/-! ### methods of texts -/
@[simp] def evMethT (f : D → List D → MSt → Option (Rs DV × MSt)) (a : Ev) (r : EvA) : Ev := fun m => bndO (a m) fun d m1 => match d with
  | .str z => bnd (r m1) fun ds m2 => f (.str z) ds m2
  | _ => none
theorem se_bmT {C : Ctx} {W : WX} {ta : TE} {a : Ev} {tr : TA} {ar : EvA} {r : V → List V → Hp → VK → Prop} {f : D → List D → MSt → Option (Rs DV × MSt)} (h1 : SE C W ta a) (h2 : SA C W tr ar) (h : SOM C W r f) : SE C W (tBM C.K "str" r ta tr) (evMethT f a ar) := fun ρ R F σ H m Q S p =>
  h1.bndO S po_wish p fun ρ1 R1 H1 x d m1 p1 r1 S1 o1 q1 => by
    split at q1
    · have e := o1.str
      subst e
      exact ⟨rfl, h2.bnd S1 po_wish q1 fun ρ2 R2 H2 vs ds m2 p2 r2 S2 o2 q2 => h ρ2 R2 F σ H2 m2 Q _ _ vs ds S2 (o1.up p2 r2) o2 q2⟩
    · exact q1.elim
def rSIdx : V → List V → Hp → VK → Prop := fun x xs H Q => ∃ a b i rest, x = .str a ∧ xs = [.str b] ∧ Builtin.Str.occurrences a b 0 a.length 1 = i :: rest ∧ Q (.int (i : Nat)) H
theorem mt_sidx {X : Cx} : MtR X "str.index" rSIdx := mt_sindex
@[simp] def fSIdx : D → List D → MSt → Option (Rs DV × MSt) := fun d es m => match d, es with
  | .str a, [.str b] => match Builtin.Str.occurrences a b 0 a.length 1 with
    | i :: _ => some (.ok (.val (.int (i : Nat))), m)
    | [] => none
  | _, _ => none
theorem som_sidx {C : Ctx} {W : WX} : SOM C W rSIdx fSIdx := fun ρ R F σ H m Q x d ys es S o os p => by
  unfold fSIdx at p
  split at p
  · split at p
    · rename_i i rest ho
      obtain ⟨v, rfl, o2⟩ := os.one
      exact ⟨_, _, i, rest, o.str, by rw [o2.str], ho, p.val S (.d (.int _))⟩
    · exact p.elim
  · exact p.elim
def rJoin (K : PySem.W.Frag) : V → List V → Hp → VK → Prop := fun x xs H Q => ∃ a p, ∃ ys : List Str, x = .str a ∧ xs = [.ref p] ∧ (SqL K H p (ys.map V.str) ∨ SqT K H p (ys.map V.str)) ∧
    (ys.map (·.length)).sum + ys.length * a.length ≤ 16777216 ∧ Q (.str (Txt.join a ys)) H
theorem mt_joinK {X : Cx} {K : PySem.W.Frag} (h : X.K = K) : MtR X "str.join" (rJoin K) := h ▸ mt_join
def strsOf : List D → Option (List Str)
  | [] => some []
  | .str s :: r => match strsOf r with | some ss => some (s :: ss) | none => none
  | _ => none
theorem strs_ok {K : PySem.W.Frag} {ρ : List Addr} {R : Hp} : ∀ {vs : List V} {ds : List D} {ss : List Str}, RDs K ρ R vs ds → strsOf ds = some ss → vs = ss.map V.str
  | _, _, _, .nil, h => by cases h; rfl
  | _, _, _, .cons a b, h => by
    cases a with
    | str s =>
      unfold strsOf at h
      split at h
      · rename_i ss hs
        cases h
        rw [strs_ok b hs]
        rfl
      · cases h
    | _ => cases h
@[simp] def fJoin : D → List D → MSt → Option (Rs DV × MSt) := fun d es m => match d, es with
  | .str a, [e] => match lsO m e with
    | some xs => match strsOf xs with
      | some ys => if (ys.map (·.length)).sum + ys.length * a.length ≤ 16777216 then some (.ok (.val (.str (Txt.join a ys))), m) else none
      | none => none
    | none => none
  | _, _ => none
theorem som_join {C : Ctx} {W : WX} : SOM C W (rJoin C.K) fJoin := fun ρ R F σ H m Q x d ys es S o os p => by
  unfold fJoin at p
  split at p
  · split at p
    · rename_i xs hx
      split at p
      · rename_i ss hs
        split at p
        · rename_i hz
          obtain ⟨v, rfl, o2⟩ := os.one
          obtain ⟨q, vs, rfl, h1, h2⟩ := ls_ok S o2 hx
          have e := strs_ok h2 hs
          subst e
          exact ⟨_, q, ss, o.str, rfl, .inl h1, hz, p.val S (.d (.str _))⟩
        · exact p.elim
      · exact p.elim
    · exact p.elim
  · exact p.elim
/-! ### index of a constant tuple of numbers -/
def rTIdx (K : PySem.W.Frag) : V → List V → Hp → VK → Prop := fun x xs H Q => ∃ p, ∃ ys : List Int, ∃ (z : Int) (j : Nat), x = .ref p ∧ xs = [.int z] ∧ SqT K H p (ys.map V.int) ∧ ys[j]? = some z ∧ (∀ m, m < j → ys[m]? ≠ some z) ∧ Q (.int (j : Nat)) H
theorem flat_ints (ys : List Int) : (ys.map V.int).all flatV = true := by
  rw [List.all_map]
  exact List.all_eq_true.mpr fun _ _ => rfl
theorem mt_tidx {X : Cx} {K : PySem.W.Frag} (hK : X.K = K) : MtR X "tuple.index" (rTIdx K) := by
  subst hK
  intro pins s σ H x xs v us Q I rx rs h
  obtain ⟨p, ys, z, j, rfl, rfl, hq, hy, hno, q⟩ := h
  cases rx
  obtain ⟨u, rfl, t, rfl⟩ := vals1 rs
  obtain ⟨its, r, pl, hz⟩ := I.tuple hq
  obtain ⟨⟨cls, dd, dt, sl⟩, ho, hc, n, hd⟩ := pl
  simp only at hc hd
  subst hc
  subst hd
  have hl : its.toArray.size = ys.length := by rw [List.size_toArray, ← r.length, List.length_map]
  have hj : j < its.toArray.size := by rw [hl]; exact (List.getElem?_eq_some_iff.mp hy).1
  have at' : ∀ (m : Nat) (hm : m < its.toArray.size), ∃ y t', ys[m]? = some y ∧ its.toArray[m] = Value.int y t' := fun m hm => by
    have hm' : m < ys.length := by rw [← hl]; exact hm
    obtain ⟨w, hw, t', hw'⟩ := r.get (i := m) (x := .int ys[m]) (by simp [hm'])
    refine ⟨ys[m], t', List.getElem?_eq_getElem hm', ?_⟩
    have e := (List.getElem?_eq_some_iff.mp hw).2
    rw [← hw', ← e]
    simp
  refine call_meets PySem.F.slot_tuple_index ⟨_, ho, rfl⟩ PySem.F.entry_tuple_index (PySem.F.args_tuple_index_2 _ _) (TI.tuple_indexAt p its.toArray n dd sl (.int z t) (eqU (.int z)) j hj ?_ ?_)
    ⟨ho, fun w hw => mem_eqAt (x := .int z) ⟨t, rfl⟩ rfl r (flat_ints ys) w (by simpa using hw), ⟨.int (j : Nat), H, I.tok _, ⟨_, rfl⟩, q⟩⟩
  · obtain ⟨y, t', h1, h2⟩ := at' j hj
    rw [hy] at h1
    cases h1
    rw [h2]
    show (z == z) = true
    exact beq_self_eq_true z
  · intro m hm hmj
    obtain ⟨y, t', h1, h2⟩ := at' m hm
    rw [h2]
    have hne : y ≠ z := fun e => hno m hmj (by rw [h1, e])
    show (y == z) = false
    exact beq_eq_false_iff_ne.mpr hne
@[simp] def evTIdx (ns : List Int) (r : EvA) : Ev := fun m => bnd (r m) fun ds m1 => match ds with
  | [.int z] => if z ∈ ns then some (.ok (.val (.int (ns.idxOf z : Nat))), m1) else none
  | _ => none
theorem se_tidx {C : Ctx} {W : WX} {a : Addr} {ns : List Int} {tr : TA} {ar : EvA} (k : KTup C.K a ns) (h2 : SA C W tr ar) : SE C W (tBM C.K "tuple" (rTIdx C.K) (tC (.ref a)) tr) (evTIdx ns ar) := fun ρ R F σ H m Q S p =>
  ⟨k.ty H, h2.bnd S po_wish p fun ρ2 R2 H2 vs ds m2 p2 r2 S2 o2 q2 => by
    split at q2
    · rename_i z
      split at q2
      · rename_i hz
        obtain ⟨v, rfl, o3⟩ := o2.one
        have e := o3.int
        subst e
        have hl := List.idxOf_lt_length_iff.mpr hz
        refine ⟨a, ns, z, ns.idxOf z, rfl, rfl, k.sq H2, ?_, fun m hm e => ?_, q2.val S2 (.d (.int _))⟩
        · rw [List.getElem?_eq_getElem hl, List.getElem_idxOf]
        · obtain ⟨h1, h2⟩ := List.getElem?_eq_some_iff.mp e
          have h3 := List.not_of_lt_findIdx (p := fun y => y == z) (xs := ns) (i := m) hm
          rw [h2] at h3
          simp at h3
      · exact q2.elim
    · exact q2.elim⟩
end MP

set_option Elab.async false
set_option linter.all false
set_option maxRecDepth 100000
set_option maxHeartbeats 4000000
namespace MP
open PySem L2
/-! ### a slot's own list is lent to a def that only reads it -/
mutual
def noR : D → Bool
  | .non => true | .bl _ => true | .int _ => true | .str _ => true | .ty _ => true
  | .lst xs => noRs xs | .tup xs => noRs xs | .lstK xs => noRs xs | .tupK xs => noRs xs
  | .ref _ => false | .sl _ => false
def noRs : List D → Bool
  | [] => true
  | d :: ds => noR d && noRs ds
end
mutual
theorem RD.clean {K : PySem.W.Frag} {ρ : List Addr} {R : Hp} : ∀ {v : V} {d : D}, RD K ρ R v d → noR d = true → RD K [] R v d
  | _, _, .non, _ => .non
  | _, _, .bl b, _ => .bl b
  | _, _, .int i, _ => .int i
  | _, _, .str s, _ => .str s
  | _, _, .ty n, _ => .ty n
  | _, _, .lst h hs, z => .lst h (RDs.clean hs (by unfold noR at z; exact z))
  | _, _, .tup h hs, z => .tup h (RDs.clean hs (by unfold noR at z; exact z))
  | _, _, .lstK h hs, z => .lstK h (RDs.clean hs (by unfold noR at z; exact z))
  | _, _, .tupK h hs, z => .tupK h (RDs.clean hs (by unfold noR at z; exact z))
  | _, _, .ref h, z => by unfold noR at z; cases z
theorem RDs.clean {K : PySem.W.Frag} {ρ : List Addr} {R : Hp} : ∀ {vs : List V} {ds : List D}, RDs K ρ R vs ds → noRs ds = true → RDs K [] R vs ds
  | _, _, .nil, _ => .nil
  | _, _, .cons h hs, z => by
    unfold noRs at z
    rw [Bool.and_eq_true] at z
    exact .cons (RD.clean h z.1) (RDs.clean hs z.2)
end
theorem frz_all {H : Hp} {G : List Res} : ∀ (ls : List Res) (R : Hp), Own R H (ls ++ G) → ∃ R', Own R' H G ∧ Same R R' ∧ ∀ x ∈ ls, R' x.1 = some x.2
  | [], R, o => ⟨R, o, Same.refl _, fun x h => nomatch h⟩
  | (p, u) :: ls, R, o => by
    obtain ⟨R', o', s', h'⟩ := frz_all ls (upd R p u) o.freeze
    have hp := o.at' (p, u) List.mem_cons_self
    have sm : Same R (upd R p u) := same_frz hp.2
    refine ⟨R', o', fun a b h => s' a b (sm a b h), fun x hx => ?_⟩
    rcases List.mem_cons.mp hx with rfl | hx
    · exact s' _ _ upd_same
    · exact h' x hx
@[simp] def lendD (m : MSt) : D → D
  | .sl i => match m.g[i]? with | some (.own xs) => .lst xs | _ => .sl i
  | d => d
@[simp] def evLend (n : Nat) (sem : Sem0) (a : EvA) : Ev := fun m => bnd (a m) fun ds m1 =>
  if noRs (ds.map (lendD m1)) && decide (ds.length = n) then
    match sem (ds.map (lendD m1)) [] with
    | some (.ok (.val d), []) => if flatD d then some (.ok (.val d), m1) else none
    | _ => none
  else none
section
variable {C : Ctx} {W : WX} {ρ : List Addr} {R H : Hp} {F : List Res} {σ : L2.St} {m : MSt}
theorem lend_all {ls : List Res} {R' : Hp} (h1 : All2 (SlR C.K ρ R) σ m.g ls) (sm : Same R R') (hf : ∀ x ∈ ls, R' x.1 = some x.2) :
    ∀ {vs : List V} {ds : List D}, ROs C.K ρ R σ vs ds → noRs (ds.map (lendD m)) = true → RDs C.K [] R' vs (ds.map (lendD m))
  | _, _, .nil, _ => .nil
  | v :: vs, d :: ds, .cons o os, z => by
    rw [List.map_cons] at z
    unfold noRs at z
    rw [Bool.and_eq_true] at z
    refine .cons ?_ (lend_all h1 sm hf os z.2)
    cases o with
    | d r =>
      have e : lendD m d = d := by cases r <;> rfl
      rw [e] at z ⊢
      exact (r.up (List.prefix_refl _) sm).clean z.1
    | @sl i _ hs =>
      cases hg : m.g[i]? with
      | none =>
        have e : lendD m (.sl i) = .sl i := by simp [hg]
        rw [e] at z
        cases z.1
      | some b =>
        cases b with
        | own xs =>
          have e : lendD m (.sl i) = .lst xs := by simp [hg]
          rw [e] at z ⊢
          obtain ⟨a, l, L1, L2, e1, r, eL, _⟩ := h1.at hg
          rw [hs] at e1
          cases e1
          cases r with
          | @own p vs' _ r =>
            have hm : (p, HO.lst vs') ∈ ls := by rw [eL]; simp
            exact (RD.lst (hf _ hm) (r.up (List.prefix_refl _) sm)).clean z.1
        | _ =>
          have e : lendD m (.sl i) = .sl i := by simp [hg]
          rw [e] at z
          cases z.1
theorem se_lend {n : Nat} {sem : Sem0} {tr : TA} {ar : EvA} (ha : SA C W tr ar) : SE C W (tCallS (spOf C n sem) (WE W) tr) (evLend n sem ar) := fun ρ R F σ H m Q S p =>
  ha.bnd S po_wish p fun ρ1 R1 H1 vs ds m1 p1 r1 S1 o1 q1 => by
    split at q1
    · rename_i hz
      simp only [Bool.and_eq_true, decide_eq_true_eq] at hz
      split at q1
      · rename_i d hsem
        split at q1
        · rename_i hfl
          obtain ⟨ls, lc, h1, h2, ow⟩ := S1
          obtain ⟨R', o', sm, hf⟩ := frz_all ls R1 ow
          have rd := lend_all (m := m1) h1 sm hf o1 hz.1
          refine ⟨by rw [rd.length, List.length_map]; exact hz.2, [], R', lc ++ F, ds.map (lendD m1), [], [], rd, .nil, o', ?_⟩
          rw [hsem]
          intro v ρ2 R2 H2 lc2 p2 r2 a2 o2 rv
          obtain ⟨ev, _⟩ := rv.flat hfl
          have so : Same R1 R2 := fun a b h => r2 a b (sm a b h)
          have S2 : Sat C ρ1 R1 F σ H2 m1 := by
            refine ⟨ls, lc, h1, h2, ⟨fun a b h => o2.same a b (so a b h), ow.nd, fun x hx => ⟨?_, (ow.at' x hx).2⟩⟩⟩
            rcases List.mem_append.mp hx with hx | hx
            · exact o2.same _ _ (r2 _ _ (hf x hx))
            · exact (o2.at' x (List.mem_append_right _ hx)).1
          have rf : RD C.K ρ1 R1 v d := by
            cases rv with
            | non => exact .non
            | bl b => exact .bl b
            | int i => exact .int i
            | str s => exact .str s
            | _ => cases hfl
          exact q1.val S2 (.d rf)
        · exact q1.elim
      · exact q1.elim
    · exact q1.elim
end
end MP

set_option Elab.async false
set_option linter.all false
set_option maxRecDepth 100000
set_option maxHeartbeats 4000000
namespace MP
open PySem L2

/-! ### reckoning: plain equations for simp -/
section
variable {α β : Type} {m : MSt} {d e : D} {x : Exc} {a b c : Ev} {c' : List Cell} {g : List Sl}
@[simp] theorem bnd_ok {r : α} {f : α → MSt → Option (Rs β × MSt)} : bnd (some (.ok r, m)) f = f r m := rfl
@[simp] theorem bnd_exc {f : α → MSt → Option (Rs β × MSt)} : bnd (some (.exc x, m)) f = some (.exc x, m) := rfl
@[simp] theorem bnd_none {f : α → MSt → Option (Rs β × MSt)} : bnd none f = none := rfl
@[simp] theorem bndO_val {f : D → MSt → Option (Rs β × MSt)} : bndO (some (.ok (.val d), m)) f = f d m := rfl
@[simp] theorem bndO_own {xs : List D} {f : D → MSt → Option (Rs β × MSt)} : bndO (some (.ok (.own xs), m)) f = f (.lst xs) m := rfl
@[simp] theorem bndO_exc {f : D → MSt → Option (Rs β × MSt)} : bndO (some (.exc x, m)) f = some (.exc x, m) := rfl
@[simp] theorem bndW_own {xs : List D} {f : List D → MSt → Option (Rs β × MSt)} : bndW (some (.ok (.own xs), m)) f = f xs m := rfl
@[simp] theorem bndD_val {f : D → MSt → Option (Rs β × MSt)} : bndD (some (.ok (.val d), m)) f = if solid d = true then f d m else none := rfl
@[simp] theorem bndD_own {xs : List D} {f : D → MSt → Option (Rs β × MSt)} : bndD (some (.ok (.own xs), m)) f = f (.lst xs) m := rfl
@[simp] theorem bndD_exc {f : D → MSt → Option (Rs β × MSt)} : bndD (some (.exc x, m)) f = some (.exc x, m) := rfl
@[simp] theorem evC_at : evC d m = some (.ok (.val d), m) := rfl
@[simp] theorem ev2_at {f : D → D → MSt → Option (Rs DV × MSt)} : ev2 f a b m = bndO (a m) fun d m1 => bndO (b m1) fun e m2 => f d e m2 := rfl
@[simp] theorem ev1_at {f : D → MSt → Option (Rs DV × MSt)} : ev1 f a m = bndO (a m) f := rfl
@[simp] theorem fAdd_at {i j : Int} : fAddA (.int i) (.int j) m = some (.ok (.val (.int (i + j))), m) := rfl
@[simp] theorem fSub_at {i j : Int} : fSub (.int i) (.int j) m = some (.ok (.val (.int (i - j))), m) := rfl
@[simp] theorem fLt_at {i j : Int} : fLt (.int i) (.int j) m = some (.ok (.val (.bl (decide (i < j)))), m) := rfl
@[simp] theorem fLe_at {i j : Int} : fLe (.int i) (.int j) m = some (.ok (.val (.bl (decide (i ≤ j)))), m) := rfl
@[simp] theorem fGt_at {i j : Int} : fGt (.int i) (.int j) m = some (.ok (.val (.bl (decide (j < i)))), m) := rfl
@[simp] theorem fGe_at {i j : Int} : fGe (.int i) (.int j) m = some (.ok (.val (.bl (decide (j ≤ i)))), m) := rfl
@[simp] theorem fAnd_at {i j : Int} : fAnd (.int i) (.int j) m = some (.ok (.val (.int (Builtin.bitAnd i j))), m) := rfl
@[simp] theorem fOr_at {i j : Int} : fOr (.int i) (.int j) m = some (.ok (.val (.int (Builtin.bitOr i j))), m) := rfl
@[simp] theorem fXor_at {i j : Int} : fXor (.int i) (.int j) m = some (.ok (.val (.int (Builtin.bitXor i j))), m) := rfl
@[simp] theorem fMod_at {i j : Int} (h : 0 < j) : fMod (.int i) (.int j) m = some (.ok (.val (.int (i % j))), m) := by simp [fMod, fI, h]
@[simp] theorem fDiv_at {i j : Int} (h : 0 < j) (h2 : j < 1073741824) : fDiv (.int i) (.int j) m = some (.ok (.val (.int (i / j))), m) := by
  have h3 : j.natAbs < 1073741824 := by omega
  simp [fDiv, fI, cDiv, h, h3]
@[simp] theorem fMul_l {i j : Int} (h : -18446744073709551616 < i) (h2 : i < 18446744073709551616) : fMul (.int i) (.int j) m = some (.ok (.val (.int (i * j))), m) := by
  have e : i.natAbs < 18446744073709551616 := by omega
  simp [fMul, fI, cMul, e]
@[simp] theorem fMul_r {i j : Int} (h : -18446744073709551616 < j) (h2 : j < 18446744073709551616) : fMul (.int i) (.int j) m = some (.ok (.val (.int (i * j))), m) := by
  have e : j.natAbs < 18446744073709551616 := by omega
  simp [fMul, fI, cMul, e]
@[simp] theorem fMul_mod {i M j : Int} (h : 0 < M) (h2 : M < 18446744073709551616) : fMul (.int (i % M)) (.int j) m = some (.ok (.val (.int (i % M * j))), m) :=
  fMul_l (by have := Int.emod_nonneg i (show M ≠ 0 by omega); omega) (by have := Int.emod_lt_of_pos i h; omega)
@[simp] theorem fShr_at {i j : Int} (h : 0 ≤ j) : fShr (.int i) (.int j) m = some (.ok (.val (.int (i / 2 ^ j.toNat))), m) := by simp [fShr, fI, h]
@[simp] theorem fShl_at {i j : Int} (h : 0 ≤ j) (h1 : j ≤ 1000000) (h2 : i.natAbs < 18446744073709551616) : fShl (.int i) (.int j) m = some (.ok (.val (.int (i * 2 ^ j.toNat))), m) := by
  have e : (2 : Nat) ^ 64 = 18446744073709551616 := by decide
  simp [fShl, fI, cShl, e, h, h1, h2]
@[simp] theorem fPow_at {i j : Int} (h : 0 ≤ j) (h1 : j ≤ 1000000) (h2 : i.natAbs < 18446744073709551616) : fPow (.int i) (.int j) m = some (.ok (.val (.int (i ^ j.toNat))), m) := by
  have e : (2 : Nat) ^ 64 = 18446744073709551616 := by decide
  simp [fPow, fI, cShl, e, h, h1, h2]
@[simp] theorem fEq_str {s t : Str} : fEq (.str s) (.str t) m = some (.ok (.val (.bl (decide (s = t)))), m) := rfl
@[simp] theorem fNe_str {s t : Str} : fNe (.str s) (.str t) m = some (.ok (.val (.bl (!decide (s = t)))), m) := rfl
@[simp] theorem fEq_int {i j : Int} : fEq (.int i) (.int j) m = some (.ok (.val (.bl (decide (i = j)))), m) := by
  simp [fEq, topD, lsO, okD, eqB, pyD, PyData.eqv]
  rfl
@[simp] theorem fNe_int {i j : Int} : fNe (.int i) (.int j) m = some (.ok (.val (.bl (!decide (i = j)))), m) := by
  simp [fNe, topD, lsO, okD, eqB, pyD, PyData.eqv]
  rfl
end
@[simp] theorem solid_int {i : Int} : solid (.int i) = true := rfl
@[simp] theorem solid_bl {i : Bool} : solid (.bl i) = true := rfl
@[simp] theorem solid_str {i : Str} : solid (.str i) = true := rfl
@[simp] theorem solid_lst {i : List D} : solid (.lst i) = true := rfl
@[simp] theorem solid_lstK {i : List D} : solid (.lstK i) = true := rfl
@[simp] theorem solid_tup {i : List D} : solid (.tup i) = true := rfl
@[simp] theorem solid_tupK {i : List D} : solid (.tupK i) = true := rfl
@[simp] theorem solid_non : solid .non = true := rfl
@[simp] theorem solid_ty {n : String} : solid (.ty n) = true := rfl
@[simp] theorem solid_ref {n : Nat} : solid (.ref n) = true := rfl
@[simp] theorem solid_sl {n : Nat} : solid (.sl n) = false := rfl

@[simp] theorem topD_int {m : MSt} {i : Int} : topD m (.int i) = .int i := rfl
theorem szOk_of {n : Nat} (h : n ≤ 16777216) : szOk n = true := decide_eq_true h
@[simp] theorem szOk_add_lit {n : Nat} : szOk n = decide (n ≤ 16777216) := rfl

/-! ranges: the bound is never reckoned by the kernel -/
def fRng1 (ds : List D) (m1 : MSt) : Option (Rs (List D) × MSt) := match ds with
  | [.int j] => if c62 j then some (.ok (rngL 0 j.toNat), m1) else none
  | _ => none
def fRng2 (ds : List D) (m1 : MSt) : Option (Rs (List D) × MSt) := match ds with
  | [.int i, .int j] => if c62 i && c62 j then some (.ok (rngL i (j - i).toNat), m1) else none
  | _ => none
@[simp] theorem eiRng1_at {a : EvA} {m : MSt} : eiRng1 a m = bnd (a m) fRng1 := rfl
@[simp] theorem eiRng2_at {a : EvA} {m : MSt} : eiRng2 a m = bnd (a m) fRng2 := rfl
@[simp] theorem fRng1_at {j : Int} {m : MSt} (h : c62 j = true) : fRng1 [.int j] m = some (.ok (rngL 0 j.toNat), m) := by
  unfold fRng1
  exact if_pos h
@[simp] theorem fRng2_at {i j : Int} {m : MSt} (h0 : c62 i = true) (h : c62 j = true) : fRng2 [.int i, .int j] m = some (.ok (rngL i (j - i).toNat), m) := by
  unfold fRng2
  exact if_pos (by rw [h0, h]; rfl)
theorem c62_of {j : Int} (h1 : -1000000000 ≤ j) (h2 : j ≤ 1000000000) : c62 j = true := by
  unfold c62
  simp only [decide_eq_true_eq]
  omega
/-! ### loops -/
theorem loopFor_inv {g : Gs} {b : Ex} (I : Nat → MSt → Prop) {items : List D} (h : ∀ i d m, items[i]? = some d → I i m → ∃ m1 m2, g d m = some (.ok (), m1) ∧ (b m1 = some (.ok .nx, m2) ∨ b m1 = some (.ok .ct, m2)) ∧ I (i + 1) m2) {m : MSt} (h0 : I 0 m) :
    ∃ m', loopFor g b items m = some (.ok .nx, m') ∧ I items.length m' := by
  have key : ∀ (n i : Nat) (m : MSt), n + i = items.length → I i m → ∃ m', loopFor g b (items.drop i) m = some (.ok .nx, m') ∧ I items.length m' := by
    intro n
    induction n with
    | zero =>
      intro i m e hi
      have e : i = items.length := by omega
      subst e
      rw [List.drop_length]
      exact ⟨m, rfl, hi⟩
    | succ n ih =>
      intro i m e hi
      have hl : i < items.length := by omega
      rw [List.drop_eq_getElem_cons hl]
      obtain ⟨m1, m2, e1, e2, hi'⟩ := h i _ m (List.getElem?_eq_getElem hl) hi
      obtain ⟨m', q1, q2⟩ := ih (i + 1) m2 (by omega) hi'
      refine ⟨m', ?_, q2⟩
      unfold loopFor
      rw [e1]
      rcases e2 with e2 | e2
      · simp only [e2, q1]
      · simp only [e2, q1]
  have := key items.length 0 m (by omega) h0
  rwa [List.drop_zero] at this
/-- a fold -/
theorem loopFor_fold {g : Gs} {b : Ex} {τ : Type} (S : τ → MSt) (f : τ → D → τ) {items : List D} (h : ∀ d ∈ items, ∀ t, ∃ m1, g d (S t) = some (.ok (), m1) ∧ b m1 = some (.ok .nx, S (f t d))) (t : τ) :
    loopFor g b items (S t) = some (.ok .nx, S (items.foldl f t)) := by
  induction items generalizing t with
  | nil => rfl
  | cons d ds ih =>
    obtain ⟨m1, e1, e2⟩ := h d List.mem_cons_self t
    unfold loopFor
    rw [e1]
    simp only [e2]
    exact ih (fun d hd => h d (List.mem_cons_of_mem _ hd)) (f t d)
/-- a comprehension over one name whose block changes nothing else -/
theorem lcLoop_map {tt : EvB} {te : Ev} {i : Nat} {m0 : MSt} (p : D → Bool) (f : D → D) {items : List D}
    (ht : ∀ d ∈ items, tt { m0 with g := m0.g.set i (.d d) } = some (.ok (p d), { m0 with g := m0.g.set i (.d d) }))
    (he : ∀ d ∈ items, p d = true → te { m0 with g := m0.g.set i (.d d) } = some (.ok (.val (f d)), { m0 with g := m0.g.set i (.d d) }) ∧ solid (f d) = true) :
    ∀ (acc : List D) (m : MSt), wipeM m [i] = m0 → acc.length + items.length ≤ 16777216 → lcLoop (gsName i) tt te [i] items acc m = some (acc ++ (items.filter p).map f, m0) := by
  induction items with
  | nil =>
    intro acc m hm _
    simp [lcLoop, hm]
  | cons d ds ih =>
    intro acc m hm hz
    have hm1 : wipeM { m0 with g := m0.g.set i (.d d) } [i] = m0 := by
      rw [← hm]
      simp [wipeM, wipeG]
    have t := ht d List.mem_cons_self
    have ih' := ih (fun d hd => ht d (List.mem_cons_of_mem _ hd)) (fun d hd => he d (List.mem_cons_of_mem _ hd))
    rw [List.length_cons] at hz
    unfold lcLoop
    simp only [gsName, hm, t]
    cases hp : p d with
    | true =>
      obtain ⟨e1, e2⟩ := he d List.mem_cons_self hp
      have hz2 : szOk (acc.length + 1) = true := szOk_of (by omega)
      simp only [e1, bndD_val, e2, if_true, hz2]
      rw [ih' _ _ hm1 (by rw [List.length_append, List.length_singleton]; omega)]
      simp [List.filter_cons, hp]
    | false =>
      simp only
      rw [ih' _ _ hm1 (by omega)]
      simp [List.filter_cons, hp]
/-- a comprehension, any target, whose block changes nothing else -/
theorem lcLoop_gen {g : Gs} {tt : EvB} {te : Ev} {vs : List Nat} {m0 : MSt} (p : D → Bool) (f : D → D) {items : List D}
    (h : ∀ d ∈ items, ∃ m1, g d m0 = some (.ok (), m1) ∧ tt m1 = some (.ok (p d), m1) ∧ (p d = true → te m1 = some (.ok (.val (f d)), m1) ∧ solid (f d) = true) ∧ wipeM m1 vs = m0) :
    ∀ (acc : List D) (m : MSt), wipeM m vs = m0 → acc.length + items.length ≤ 16777216 → lcLoop g tt te vs items acc m = some (acc ++ (items.filter p).map f, m0) := by
  induction items with
  | nil =>
    intro acc m hm _
    simp [lcLoop, hm]
  | cons d ds ih =>
    intro acc m hm hz
    obtain ⟨m1, e1, e2, e3, e4⟩ := h d List.mem_cons_self
    have ih' := ih (fun d hd => h d (List.mem_cons_of_mem _ hd))
    rw [List.length_cons] at hz
    unfold lcLoop
    simp only [hm, e1, e2]
    cases hp : p d with
    | true =>
      obtain ⟨f1, f2⟩ := e3 hp
      have hz2 : szOk (acc.length + 1) = true := szOk_of (by omega)
      simp only [f1, bndD_val, f2, if_true, hz2]
      rw [ih' _ _ e4 (by rw [List.length_append, List.length_singleton]; omega)]
      simp [List.filter_cons, hp]
    | false =>
      simp only
      rw [ih' _ _ e4 (by omega)]
      simp [List.filter_cons, hp]
/-! plain lists of numbers -/
@[simp] theorem intsOf_map (ns : List Int) : intsOf (ns.map D.int) = some ns := by
  induction ns with
  | nil => rfl
  | cons a l ih => simp [intsOf, ih]
@[simp] theorem intsOf_map1 {α : Type} (f : α → Int) (l : List α) : intsOf (l.map fun x => D.int (f x)) = some (l.map f) := by
  induction l with
  | nil => rfl
  | cons a l ih => simp [intsOf, ih]
@[simp] theorem intsOf_map2 {α : Type} (f : α → Int) (l : List α) : intsOf (l.map (D.int ∘ f)) = some (l.map f) := intsOf_map1 f l
@[simp] theorem blsOf_map1 {α : Type} (f : α → Bool) (l : List α) : blsOf (l.map fun x => D.bl (f x)) = some (l.map f) := by
  induction l with
  | nil => rfl
  | cons a l ih => simp [blsOf, ih]
@[simp] theorem blsOf_map2 {α : Type} (f : α → Bool) (l : List α) : blsOf (l.map (D.bl ∘ f)) = some (l.map f) := blsOf_map1 f l
@[simp] theorem okDs_ints (n : Nat) (ns : List Int) : okDs n (ns.map D.int) = true := by
  induction ns with
  | nil => unfold List.map okDs; rfl
  | cons a l ih => rw [List.map_cons]; unfold okDs; rw [ih]; unfold okD; rfl
@[simp] theorem okD_int (n : Nat) (i : Int) : okD n (.int i) = true := by unfold okD; rfl
@[simp] theorem okD_bl (n : Nat) (i : Bool) : okD n (.bl i) = true := by unfold okD; rfl
@[simp] theorem okD_non (n : Nat) : okD n .non = true := by unfold okD; rfl
@[simp] theorem okD_str (n : Nat) (s : Str) : okD n (.str s) = PyData.strOk s := by unfold okD; rfl
@[simp] theorem okD_lst (n : Nat) (xs : List D) : okD (n + 1) (.lst xs) = okDs n xs := by unfold okD; rfl
@[simp] theorem okD_tup (n : Nat) (xs : List D) : okD (n + 1) (.tup xs) = okDs n xs := by unfold okD; rfl
@[simp] theorem okD_lst60 (xs : List D) : okD 60 (.lst xs) = okDs 59 xs := okD_lst 59 xs
@[simp] theorem okD_tup60 (xs : List D) : okD 60 (.tup xs) = okDs 59 xs := okD_tup 59 xs
@[simp] theorem okD_lst59 (xs : List D) : okD 59 (.lst xs) = okDs 58 xs := okD_lst 58 xs
@[simp] theorem okD_tup59 (xs : List D) : okD 59 (.tup xs) = okDs 58 xs := okD_tup 58 xs
@[simp] theorem okD_lst58 (xs : List D) : okD 58 (.lst xs) = okDs 57 xs := okD_lst 57 xs
@[simp] theorem okD_tup58 (xs : List D) : okD 58 (.tup xs) = okDs 57 xs := okD_tup 57 xs
@[simp] theorem okDs_nil (n : Nat) : okDs n [] = true := by unfold okDs; rfl
@[simp] theorem okDs_cons (n : Nat) (d : D) (ds : List D) : okDs n (d :: ds) = (okD n d && okDs n ds) := by rw [okDs.eq_def]
theorem eqv_self {n : Nat} {d : D} (h : okD n d = true) : PyData.eqv (pyD d) (pyD d) = true := SeqAt.eqv_refl _ (okD_lay n d h).1
@[simp] theorem topD_lst {m : MSt} {xs : List D} : topD m (.lst xs) = .lst xs := rfl
@[simp] theorem topD_tup {m : MSt} {xs : List D} : topD m (.tup xs) = .tup xs := rfl
@[simp] theorem topD_non {m : MSt} : topD m .non = .non := rfl
@[simp] theorem topD_bl {m : MSt} {b : Bool} : topD m (.bl b) = .bl b := rfl
theorem fEq_self {m : MSt} {d : D} (h : okD 60 d = true) (ht : topD m d = d) (hs : ∀ s, d ≠ .str s) : fEq d d m = some (.ok (.val (.bl true)), m) := by
  unfold fEq eqB
  cases d <;> simp_all [eqv_self h]
theorem fNe_self {m : MSt} {d : D} (h : okD 60 d = true) (ht : topD m d = d) (hs : ∀ s, d ≠ .str s) : fNe d d m = some (.ok (.val (.bl false)), m) := by
  unfold fNe eqB
  cases d <;> simp_all [eqv_self h]
@[simp] theorem fNe_non {m : MSt} : fNe .non .non m = some (.ok (.val (.bl false)), m) := fNe_self (by simp) rfl (by simp)
@[simp] theorem pyD_lst (xs : List D) : pyD (.lst xs) = .list (pyDs xs) := by unfold pyD; rfl
@[simp] theorem pyDs_nil : pyDs [] = [] := by unfold pyDs; rfl
@[simp] theorem pyDs_cons (d : D) (ds : List D) : pyDs (d :: ds) = pyD d :: pyDs ds := by rw [pyDs.eq_def]
/-- a list against the empty one -/
theorem fNe_nil {m : MSt} {xs : List D} (h : okDs 59 xs = true) : fNe (.lst xs) (.lst []) m = some (.ok (.val (.bl (!xs.isEmpty))), m) := by
  unfold fNe eqB
  cases xs with
  | nil => simp [PyData.eqv, PyData.eqvAll]
  | cons d ds =>
    simp only [topD_lst, okD_lst60, h, okDs_nil, Bool.and_self, if_true, pyD_lst, pyDs_cons, pyDs_nil, PyData.eqv, PyData.eqvAll]
    rfl
theorem fEq_nil {m : MSt} {xs : List D} (h : okDs 59 xs = true) : fEq (.lst xs) (.lst []) m = some (.ok (.val (.bl (xs.isEmpty))), m) := by
  unfold fEq eqB
  cases xs with
  | nil => simp [PyData.eqv, PyData.eqvAll]
  | cons d ds =>
    simp only [topD_lst, okD_lst60, h, okDs_nil, Bool.and_self, if_true, pyD_lst, pyDs_cons, pyDs_nil, PyData.eqv, PyData.eqvAll]
    rfl
theorem zipL_ints (xs ys : List Int) : zipL (xs.map D.int) (ys.map D.int) = (List.zip xs ys).map fun p => .tup [.int p.1, .int p.2] := by
  unfold zipL
  rw [List.zipWith_map, List.zip_eq_zipWith, List.map_zipWith]
@[simp] theorem atD_nat {xs : List D} {i : Int} (h0 : 0 ≤ i) (h1 : i < xs.length) : atD xs i = xs[i.toNat]? := by
  unfold atD L2.atI ixN
  rw [if_pos h0, if_pos h1]
  rfl
end MP

set_option linter.all false
set_option maxRecDepth 100000
set_option maxHeartbeats 4000000
namespace MP
open PySem L2
/-! ### one statement at a time -/
theorem seq_nx {a b : Ex} {m m' : MSt} (h : a m = some (.ok .nx, m')) : exSeq a b m = b m' := by
  unfold exSeq
  rw [h]
theorem seq_exc {a b : Ex} {m m' : MSt} {x : Exc} (h : a m = some (.exc x, m')) : exSeq a b m = some (.exc x, m') := by
  unfold exSeq
  rw [h]
theorem seq_rt {a b : Ex} {m m' : MSt} {v : DV} (h : a m = some (.ok (.rt v), m')) : exSeq a b m = some (.ok (.rt v), m') := by
  unfold exSeq
  rw [h]
theorem sem_nx {N n : Nat} {ex : Ex} {args : List D} {c : List Cell} {m : MSt} (hn : args.length = n) (h : ex ⟨args.map Sl.d ++ List.replicate (N - n) Sl.u, c⟩ = some (.ok .nx, m)) : semDef N n ex args c = some (.ok (.val .non), m.c) := by
  unfold semDef
  rw [if_pos hn, h]
theorem sem_rt {N n : Nat} {ex : Ex} {args : List D} {c : List Cell} {m : MSt} {a : DV} (hn : args.length = n) (h : ex ⟨args.map Sl.d ++ List.replicate (N - n) Sl.u, c⟩ = some (.ok (.rt a), m)) : semDef N n ex args c = some (.ok a, m.c) := by
  unfold semDef
  rw [if_pos hn, h]
theorem sem_exc {N n : Nat} {ex : Ex} {args : List D} {c : List Cell} {m : MSt} {x : Exc} (hn : args.length = n) (h : ex ⟨args.map Sl.d ++ List.replicate (N - n) Sl.u, c⟩ = some (.exc x, m)) : semDef N n ex args c = some (.exc x, m.c) := by
  unfold semDef
  rw [if_pos hn, h]
/-- a loop that may return at a turn -/
theorem loopFor_ret {g : Gs} {b : Ex} (I : MSt → Prop) (p : D → Bool) (v : DV) {items : List D}
    (h : ∀ d ∈ items, ∀ m, I m → ∃ m1, g d m = some (.ok (), m1) ∧ ∃ m2, I m2 ∧ b m1 = some (.ok (if p d = true then .rt v else .nx), m2)) {m : MSt} (h0 : I m) :
    ∃ m', I m' ∧ loopFor g b items m = some (.ok (if items.any p = true then .rt v else .nx), m') := by
  induction items generalizing m with
  | nil => exact ⟨m, h0, rfl⟩
  | cons d ds ih =>
    obtain ⟨m1, e1, m2, i2, e2⟩ := h d List.mem_cons_self m h0
    unfold loopFor
    rw [e1]
    simp only [e2]
    cases hp : p d with
    | true =>
      refine ⟨m2, i2, ?_⟩
      simp [hp]
    | false =>
      obtain ⟨m', i', e'⟩ := ih (fun d hd => h d (List.mem_cons_of_mem _ hd)) i2
      refine ⟨m', i', ?_⟩
      simp [hp, e']
end MP

set_option Elab.async false
set_option linter.all false
set_option maxRecDepth 100000
set_option maxHeartbeats 8000000
namespace Wk75
open PySem L2 MP
def top (i : Nat) : Stmt := PySem.Challenge.pw_tornshelf_k75_whole_far_torn_rows.main.body.getD i (.Pass ⟨0, 0, 0, 0⟩)
def meth (i j : Nat) : Stmt := match top i with
  | .ClassDef _ _ _ b _ _ _ _ _ _ _ => b.getD j (.Pass ⟨0, 0, 0, 0⟩)
  | s => s
def k_MARK_pieces : List Int := [165, 90]
def k_MARK_book : List Int := [165, 91]
def k_NAME_BYTES : List Int := [45, 46, 48, 49, 50, 51, 52, 53, 54, 55, 56, 57, 97, 98, 99, 100, 101, 102, 103, 104, 105, 106, 107, 108, 109, 110, 111, 112, 113, 114, 115, 116, 117, 118, 119, 120, 121, 122]
structure Tx (C : MP.Ctx) (mg : Str → Option Value) where
  a__law_cell_at : Addr
  d__law_cell_at : FuncData
  F__law_cell_at : Fun C.K "_law_cell_at" "_law_cell_at" (top 85) a__law_cell_at d__law_cell_at
  b__law_cell_at : Binds C.K d__law_cell_at ["script", "k"] []
  g__law_cell_at : mg "_law_cell_at" = some (.ref a__law_cell_at)
  a__law_mixed : Addr
  d__law_mixed : FuncData
  F__law_mixed : Fun C.K "_law_mixed" "_law_mixed" (top 86) a__law_mixed d__law_mixed
  b__law_mixed : Binds C.K d__law_mixed ["cell", "k"] []
  g__law_mixed : mg "_law_mixed" = some (.ref a__law_mixed)
  a__law_draw : Addr
  d__law_draw : FuncData
  F__law_draw : Fun C.K "_law_draw" "_law_draw" (top 87) a__law_draw d__law_draw
  b__law_draw : Binds C.K d__law_draw ["draw", "many"] []
  g__law_draw : mg "_law_draw" = some (.ref a__law_draw)
  a_body_of : Addr
  d_body_of : FuncData
  F_body_of : Fun C.K "body_of" "body_of" (top 74) a_body_of d_body_of
  b_body_of : Binds C.K d_body_of ["row", "window"] []
  g_body_of : mg "body_of" = some (.ref a_body_of)
  a_crc_on : Addr
  d_crc_on : FuncData
  F_crc_on : Fun C.K "crc_on" "crc_on" (top 4) a_crc_on d_crc_on
  b_crc_on : Binds C.K d_crc_on ["begun", "row"] []
  g_crc_on : mg "crc_on" = some (.ref a_crc_on)
  a_crc : Addr
  d_crc : FuncData
  F_crc : Fun C.K "crc" "crc" (top 5) a_crc d_crc
  b_crc : Binds C.K d_crc ["row"] []
  g_crc : mg "crc" = some (.ref a_crc)
  a_crc_row : Addr
  d_crc_row : FuncData
  F_crc_row : Fun C.K "crc_row" "crc_row" (top 6) a_crc_row d_crc_row
  b_crc_row : Binds C.K d_crc_row ["row"] []
  g_crc_row : mg "crc_row" = some (.ref a_crc_row)
  a_piece_row : Addr
  d_piece_row : FuncData
  F_piece_row : Fun C.K "piece_row" "piece_row" (top 75) a_piece_row d_piece_row
  b_piece_row : Binds C.K d_piece_row ["text", "number", "row", "window"] []
  g_piece_row : mg "piece_row" = some (.ref a_piece_row)
  a_body_at : Addr
  d_body_at : FuncData
  F_body_at : Fun C.K "body_at" "body_at" (top 79) a_body_at d_body_at
  b_body_at : Binds C.K d_body_at ["row", "place", "kind", "many"] []
  g_body_at : mg "body_at" = some (.ref a_body_at)
  a_piece_at : Addr
  d_piece_at : FuncData
  F_piece_at : Fun C.K "piece_at" "piece_at" (top 80) a_piece_at d_piece_at
  b_piece_at : Binds C.K d_piece_at ["row", "place"] []
  g_piece_at : mg "piece_at" = some (.ref a_piece_at)
  a_pieces_in : Addr
  d_pieces_in : FuncData
  F_pieces_in : Fun C.K "pieces_in" "pieces_in" (top 82) a_pieces_in d_pieces_in
  b_pieces_in : Binds C.K d_pieces_in ["row"] []
  g_pieces_in : mg "pieces_in" = some (.ref a_pieces_in)
  a_Cursor___init__ : Addr
  d_Cursor___init__ : FuncData
  F_Cursor___init__ : Fun C.K "__init__" "Cursor.__init__" (meth 18 0) a_Cursor___init__ d_Cursor___init__
  b_Cursor___init__ : Binds C.K d_Cursor___init__ ["self", "row", "place"] []
  a_Cursor_number : Addr
  d_Cursor_number : FuncData
  F_Cursor_number : Fun C.K "number" "Cursor.number" (meth 18 1) a_Cursor_number d_Cursor_number
  b_Cursor_number : Binds C.K d_Cursor_number ["self", "many"] []
  a_read_name : Addr
  d_read_name : FuncData
  F_read_name : Fun C.K "read_name" "read_name" (top 19) a_read_name d_read_name
  b_read_name : Binds C.K d_read_name ["cursor"] []
  g_read_name : mg "read_name" = some (.ref a_read_name)
  a_read_entry : Addr
  d_read_entry : FuncData
  F_read_entry : Fun C.K "read_entry" "read_entry" (top 20) a_read_entry d_read_entry
  b_read_entry : Binds C.K d_read_entry ["cursor"] []
  g_read_entry : mg "read_entry" = some (.ref a_read_entry)
  a_may_follow : Addr
  d_may_follow : FuncData
  F_may_follow : Fun C.K "may_follow" "may_follow" (top 21) a_may_follow d_may_follow
  b_may_follow : Binds C.K d_may_follow ["entry", "entries"] []
  g_may_follow : mg "may_follow" = some (.ref a_may_follow)
  a_book_at : Addr
  d_book_at : FuncData
  F_book_at : Fun C.K "book_at" "book_at" (top 22) a_book_at d_book_at
  b_book_at : Binds C.K d_book_at ["row", "place"] []
  g_book_at : mg "book_at" = some (.ref a_book_at)
  a_books_in : Addr
  d_books_in : FuncData
  F_books_in : Fun C.K "books_in" "books_in" (top 83) a_books_in d_books_in
  b_books_in : Binds C.K d_books_in ["row"] []
  g_books_in : mg "books_in" = some (.ref a_books_in)
  a_name_row : Addr
  d_name_row : FuncData
  F_name_row : Fun C.K "name_row" "name_row" (top 14) a_name_row d_name_row
  b_name_row : Binds C.K d_name_row ["name"] []
  g_name_row : mg "name_row" = some (.ref a_name_row)
  a_number_row : Addr
  d_number_row : FuncData
  F_number_row : Fun C.K "number_row" "number_row" (top 15) a_number_row d_number_row
  b_number_row : Binds C.K d_number_row ["number", "many"] []
  g_number_row : mg "number_row" = some (.ref a_number_row)
  a_entry_row : Addr
  d_entry_row : FuncData
  F_entry_row : Fun C.K "entry_row" "entry_row" (top 16) a_entry_row d_entry_row
  b_entry_row : Binds C.K d_entry_row ["entry"] []
  g_entry_row : mg "entry_row" = some (.ref a_entry_row)
  a_book_row : Addr
  d_book_row : FuncData
  F_book_row : Fun C.K "book_row" "book_row" (top 17) a_book_row d_book_row
  b_book_row : Binds C.K d_book_row ["entries"] []
  g_book_row : mg "book_row" = some (.ref a_book_row)
  a_law : Addr
  d_law : FuncData
  F_law : Fun C.K "law" "law" (top 89) a_law d_law
  b_law : Binds C.K d_law ["script"] []
  g_law : mg "law" = some (.ref a_law)
  z_all : mg "all" = none
  z_len : mg "len" = none
  z_list : mg "list" = none
  z_range : mg "range" = none
  t_TABLE_BYTES : Tok
  v_TABLE_BYTES : mg "TABLE_BYTES" = some (.int 17 t_TABLE_BYTES)
  t_PLAIN : Tok
  v_PLAIN : mg "PLAIN" = some (.int 0 t_PLAIN)
  A_MARK_pieces : Addr
  v_MARK_pieces : mg "MARK_pieces" = some (.ref A_MARK_pieces)
  r_MARK_pieces : KLst C.K A_MARK_pieces k_MARK_pieces
  t_TOP : Tok
  v_TOP : mg "TOP" = some (.int 32768 t_TOP)
  t_FEED : Tok
  v_FEED : mg "FEED" = some (.int 4129 t_FEED)
  t_BEGIN : Tok
  v_BEGIN : mg "BEGIN" = some (.int 65535 t_BEGIN)
  t_MOST_NUMBER_pieces : Tok
  v_MOST_NUMBER_pieces : mg "MOST_NUMBER_pieces" = some (.int 254 t_MOST_NUMBER_pieces)
  t_PACKED : Tok
  v_PACKED : mg "PACKED" = some (.int 1 t_PACKED)
  A_MARK_book : Addr
  v_MARK_book : mg "MARK_book" = some (.ref A_MARK_book)
  r_MARK_book : KLst C.K A_MARK_book k_MARK_book
  t_MOST_ENTRIES : Tok
  v_MOST_ENTRIES : mg "MOST_ENTRIES" = some (.int 30 t_MOST_ENTRIES)
  t_MOST_SIGNS : Tok
  v_MOST_SIGNS : mg "MOST_SIGNS" = some (.int 12 t_MOST_SIGNS)
  A_NAME_BYTES : Addr
  v_NAME_BYTES : mg "NAME_BYTES" = some (.ref A_NAME_BYTES)
  r_NAME_BYTES : KTup C.K A_NAME_BYTES k_NAME_BYTES
  t_NAME_SIGNS : Tok
  v_NAME_SIGNS : mg "NAME_SIGNS" = some (.str "-.0123456789abcdefghijklmnopqrstuvwxyz" t_NAME_SIGNS)
  t_MOST_NUMBER_book : Tok
  v_MOST_NUMBER_book : mg "MOST_NUMBER_book" = some (.int 254 t_MOST_NUMBER_book)
  g_Cursor : mg "Cursor" = some (.ref (C.cm 4))
  cl_Cursor : Cls C.K (C.cm 4)
  n_Cursor_short : NoAttr C.K (C.cm 4) "short"
  n_Cursor_source : NoAttr C.K (C.cm 4) "source"
  n_Cursor_spot : NoAttr C.K (C.cm 4) "spot"
  m_Cursor_number : Meth C.K (C.cm 4) "number" a_Cursor_number
  mk_Cursor : Mk C.K (C.cm 4) a_Cursor___init__
/-! ### _law_cell_at -/
abbrev s__law_cell_at : Stmt := top 85
def ex__law_cell_at : Ex := (exSeq (exIf (evT (ev2 fLt (evPeek 1) (evCB fLen (eaCons (evPeek 0) eaNil)))) (exRet (ev2 fIx (evPeek 0) (evPeek 1))) exNext)
    (exRet (evC (.int 0))))
def sem__law_cell_at : Sem0 := semDef 2 2 ex__law_cell_at
theorem sc__law_cell_at : FnScope ["script", "k"] ["script", "k"] (defScope s__law_cell_at) := ⟨rfl, rfl, rfl, by decide +kernel, rfl, by decide +kernel, by decide +kernel⟩
theorem ok__law_cell_at {P : Program} {w : World} {C : MP.Ctx} {mg : Str → Option Value} {base : Heap} (T : Tx C mg) : FnOk P w C.K mg base (L2.CX P w) 1 T.a__law_cell_at T.d__law_cell_at ["script", "k"] (spOf C 2 sem__law_cell_at) := by
  have sc := sc__law_cell_at
  refine fn_ok T.F__law_cell_at sc fun cdv A outer s H E hr => ?_
  refine ⟨_, (pss_cons (ps_if (pt_cmpR op_lt (pv 1) (pe_callB (call_lenK (K := C.K) rfl) (by rfl) T.z_len (by decide +kernel) (pa_cons (pv 0) pa_nil)) (nomark _)) ((pss_one (ps_ret (pe_ix (ix_seqK (K := C.K) rfl) (pv 0) (pv 1) (fun _ _ => rfl))))) (pss_nil))
      (pss_one (ps_ret pe_int))), ?_⟩
  exact (ss_seq (ss_if (sb_T (se_op se_peek (se_cb (sa_cons se_peek sa_nil) soa_len) so_lt)) (ss_ret (se_op se_peek se_peek so_ix)) ss_next)
      (ss_ret se_int))
/-! ### _law_mixed -/
abbrev s__law_mixed : Stmt := top 86
def ex__law_mixed : Ex := (exSeq (exIf (evAnd (evT (ev2 fGe (evPeek 0) (ev2 fShl (evC (.int 1)) (evC (.int 90))))) (evAnd (evT (ev2 fEq (ev2 fMod (evPeek 0) (evC (.int 2))) (evC (.int 1)))) (evT (ev2 fGt (ev2 fShr (evPeek 0) (ev2 fAddA (evC (.int 1)) (ev2 fMul (evC (.int 31)) (evPeek 1)))) (evC (.int 0)))))) (exRet (ev2 fMod (ev2 fShr (evPeek 0) (ev2 fAddA (evC (.int 1)) (ev2 fMul (evC (.int 31)) (evPeek 1)))) (evC (.int 2147483648)))) exNext)
    (exSeq (exSet 2 (ev2 fMod (ev2 fMul (ev2 fAddA (ev2 fAddA (ev2 fMod (evPeek 0) (evC (.int 2147483647))) (ev2 fMul (evC (.int 7919)) (evPeek 1))) (evC (.int 1))) (evC (.int 48271))) (evC (.int 2147483647))))
    (exSeq (exSet 2 (ev2 fMod (ev2 fMul (evPeek 2) (ev2 fAddA (ev2 fDiv (evPeek 2) (evC (.int 1009))) (evC (.int 69621)))) (evC (.int 2147483629))))
    (exRet (ev2 fMod (ev2 fMul (evPeek 2) (ev2 fAddA (ev2 fAddA (ev2 fDiv (evPeek 2) (evC (.int 2003))) (evC (.int 39373))) (ev2 fMul (evPeek 1) (evPeek 1)))) (evC (.int 2147483587)))))))
def sem__law_mixed : Sem0 := semDef 3 2 ex__law_mixed
theorem sc__law_mixed : FnScope ["cell", "k", "number"] ["cell", "k"] (defScope s__law_mixed) := ⟨rfl, rfl, rfl, by decide +kernel, rfl, by decide +kernel, by decide +kernel⟩
theorem ok__law_mixed {P : Program} {w : World} {C : MP.Ctx} {mg : Str → Option Value} {base : Heap} (T : Tx C mg) : FnOk P w C.K mg base (L2.CX P w) 1 T.a__law_mixed T.d__law_mixed ["cell", "k"] (spOf C 2 sem__law_mixed) := by
  have sc := sc__law_mixed
  refine fn_ok T.F__law_mixed sc fun cdv A outer s H E hr => ?_
  refine ⟨_, (pss_cons (ps_if (PW.pt (pw_and (pt_cmpR op_ge (pv 0) (pe_op op_shl pe_int pe_int) (nomark _)) (pw_and (pt_cmpR (op_eqK (K := C.K) rfl hr.units) (pe_op op_mod (pv 0) pe_int) pe_int (nomark _)) (pw_and1 (pt_cmpR op_gt (pe_op op_shr (pv 0) (pe_op (op_addK (K := C.K) rfl) pe_int (pe_op op_mul pe_int (pv 1)))) pe_int (nomark _)))))) ((pss_one (ps_ret (pe_op op_mod (pe_op op_shr (pv 0) (pe_op (op_addK (K := C.K) rfl) pe_int (pe_op op_mul pe_int (pv 1)))) pe_int)))) (pss_nil))
      (pss_cons (ps_set (i := 2) sc.nd rfl (by first | exact Or.inl rfl | exact Or.inr rfl) (pe_op op_mod (pe_op op_mul (pe_op (op_addK (K := C.K) rfl) (pe_op (op_addK (K := C.K) rfl) (pe_op op_mod (pv 0) pe_int) (pe_op op_mul pe_int (pv 1))) pe_int) pe_int) pe_int))
      (pss_cons (ps_set (i := 2) sc.nd rfl (by first | exact Or.inl rfl | exact Or.inr rfl) (pe_op op_mod (pe_op op_mul (pv 2) (pe_op (op_addK (K := C.K) rfl) (pe_op op_fdiv (pv 2) pe_int) pe_int)) pe_int))
      (pss_one (ps_ret (pe_op op_mod (pe_op op_mul (pv 2) (pe_op (op_addK (K := C.K) rfl) (pe_op (op_addK (K := C.K) rfl) (pe_op op_fdiv (pv 2) pe_int) pe_int) (pe_op op_mul (pv 1) (pv 1)))) pe_int)))))), ?_⟩
  exact (ss_seq (ss_if (sb_and (sb_T (se_op se_peek (se_op se_int se_int so_shl) so_ge)) (sb_and (sb_T (se_op (se_op se_peek se_int so_mod) se_int so_eq)) (sb_T (se_op (se_op se_peek (se_op se_int (se_op se_int se_peek so_mul) so_addA) so_shr) se_int so_gt)))) (ss_ret (se_op (se_op se_peek (se_op se_int (se_op se_int se_peek so_mul) so_addA) so_shr) se_int so_mod)) ss_next)
      (ss_seq (ss_set (se_op (se_op (se_op (se_op (se_op se_peek se_int so_mod) (se_op se_int se_peek so_mul) so_addA) se_int so_addA) se_int so_mul) se_int so_mod))
      (ss_seq (ss_set (se_op (se_op se_peek (se_op (se_op se_peek se_int so_div) se_int so_addA) so_mul) se_int so_mod))
      (ss_ret (se_op (se_op se_peek (se_op (se_op (se_op se_peek se_int so_div) se_int so_addA) (se_op se_peek se_peek so_mul) so_addA) so_mul) se_int so_mod)))))
/-! ### _law_draw -/
abbrev s__law_draw : Stmt := top 87
def ex__law_draw : Ex := (exSeq (exDPut (evPeek 0) (evC (.str "at")) (ev2 fAddA (ev2 fDGet (evPeek 0) (evC (.str "at"))) (evC (.int 1))))
    (exRet (ev2 fMod (ev2 fDiv (evCall 2 sem__law_mixed (eaCons (ev2 fDGet (evPeek 0) (evC (.str "cell"))) (eaCons (ev2 fDGet (evPeek 0) (evC (.str "at"))) eaNil))) (evC (.int 3))) (evPeek 1))))
def sem__law_draw : Sem0 := semDef 2 2 ex__law_draw
theorem sc__law_draw : FnScope ["draw", "many"] ["draw", "many"] (defScope s__law_draw) := ⟨rfl, rfl, rfl, by decide +kernel, rfl, by decide +kernel, by decide +kernel⟩
theorem ok__law_draw {P : Program} {w : World} {C : MP.Ctx} {mg : Str → Option Value} {base : Heap} (T : Tx C mg) : FnOk P w C.K mg base (L2.CX P w) 2 T.a__law_draw T.d__law_draw ["draw", "many"] (spOf C 2 sem__law_draw) := by
  have G__law_mixed := ok__law_mixed (P := P) (w := w) (base := base) T
  have sc := sc__law_draw
  refine fn_ok T.F__law_draw sc fun cdv A outer s H E hr => ?_
  have TK : Takes (cxOf (L2.CX P w) P w C.K mg base ["draw", "many"] "_law_draw" (defScope s__law_draw) T.a__law_draw cdv A outer s H E) (fun cls d _ H => E cls d H) := takes_of rfl rfl rfl rfl
  refine ⟨_, (pss_cons (ps_dput (hu_of hr) (pv 0) pe_str (pe_op (op_addK (K := C.K) rfl) (pe_dget (hu_of hr) (pv 0) pe_str (fun _ _ => rfl)) pe_int) rfl)
      (pss_one (ps_ret (pe_op op_mod (pe_op op_fdiv (pe_callS G__law_mixed (hr.mono (by decide)) (by rfl) T.g__law_mixed T.F__law_mixed.kp T.b__law_mixed (fun σ => passAt TK σ) (pa_cons (pe_dget (hu_of hr) (pv 0) pe_str (fun _ _ => rfl)) (pa_cons (pe_dget (hu_of hr) (pv 0) pe_str (fun _ _ => rfl)) pa_nil))) pe_int) (pv 1))))), ?_⟩
  exact (ss_seq (ss_dput se_peek se_str (se_op (se_dget se_peek se_str) se_int so_addA))
      (ss_ret (se_op (se_op (se_call (sa_cons (se_dget se_peek se_str) (sa_cons (se_dget se_peek se_str) sa_nil))) se_int so_div) se_peek so_mod)))
/-! ### body_of -/
abbrev s_body_of : Stmt := top 74
def ex_body_of : Ex := (exSeq (exIf (evT (ev2 fGt (evCB fLen (eaCons (evPeek 0) eaNil)) (evC (.int 17)))) exNever exNext)
    (exRet (evTup (eaCons (evC (.int 0)) (eaCons (evCB fList (eaCons (evPeek 0) eaNil)) eaNil)))))
def sem_body_of : Sem0 := semDef 3 2 ex_body_of
theorem sc_body_of : FnScope ["row", "window", "packed"] ["row", "window"] (defScope s_body_of) := ⟨rfl, rfl, rfl, by decide +kernel, rfl, by decide +kernel, by decide +kernel⟩
theorem ok_body_of {P : Program} {w : World} {C : MP.Ctx} {mg : Str → Option Value} {base : Heap} (T : Tx C mg) : FnOk P w C.K mg base (L2.CX P w) 1 T.a_body_of T.d_body_of ["row", "window"] (spOf C 2 sem_body_of) := by
  have sc := sc_body_of
  refine fn_ok T.F_body_of sc fun cdv A outer s H E hr => ?_
  refine ⟨_, (pss_cons (ps_if (pt_cmpR op_gt (pe_callB (call_lenK (K := C.K) rfl) (by rfl) T.z_len (by decide +kernel) (pa_cons (pv 0) pa_nil)) (pe_glob (v := .int 17) (by rfl) T.v_TABLE_BYTES ⟨_, rfl⟩) (nomark _)) pss_never (pss_nil))
      (pss_one (ps_ret (pe_tup (pa_cons (pe_glob (v := .int 0) (by rfl) T.v_PLAIN ⟨_, rfl⟩) (pa_cons (pe_callTy (call_listK (K := C.K) rfl) (by rfl) T.z_list (by decide +kernel) (pa_cons (pv 0) pa_nil)) pa_nil)))))), ?_⟩
  exact (ss_seq (ss_if (sb_T (se_op (se_cb (sa_cons se_peek sa_nil) soa_len) se_int so_gt)) ss_never ss_next)
      (ss_ret (se_tup (sa_cons se_int (sa_cons (se_cb (sa_cons se_peek sa_nil) soa_list) sa_nil)))))
/-! ### crc_on -/
abbrev s_crc_on : Stmt := top 4
def ex_crc_on_for1 : Ex := (exIf (evTru (ev2 fAnd (evPeek 2) (evC (.int 32768)))) (exSet 2 (ev2 fXor (ev2 fShl (ev2 fXor (evPeek 2) (evC (.int 32768))) (evC (.int 1))) (evC (.int 4129)))) (exSet 2 (ev2 fShl (evPeek 2) (evC (.int 1)))))
def ex_crc_on_for2 : Ex := (exSeq (exSet 2 (ev2 fXor (evPeek 2) (ev2 fShl (evPeek 3) (evC (.int 8)))))
    (exFor (eiRng1 (eaCons (evC (.int 8)) eaNil)) (gsName 4) ex_crc_on_for1))
def ex_crc_on : Ex := (exSeq (exSet 2 (evVar 0))
    (exSeq (exFor (eiList (evVar 1)) (gsName 3) ex_crc_on_for2)
    (exRet (evTake 2))))
def sem_crc_on : Sem0 := semDef 5 2 ex_crc_on
theorem sc_crc_on : FnScope ["begun", "row", "found", "byte", "k"] ["begun", "row"] (defScope s_crc_on) := ⟨rfl, rfl, rfl, by decide +kernel, rfl, by decide +kernel, by decide +kernel⟩
theorem ok_crc_on {P : Program} {w : World} {C : MP.Ctx} {mg : Str → Option Value} {base : Heap} (T : Tx C mg) : FnOk P w C.K mg base (L2.CX P w) 1 T.a_crc_on T.d_crc_on ["begun", "row"] (spOf C 2 sem_crc_on) := by
  have sc := sc_crc_on
  refine fn_ok T.F_crc_on sc fun cdv A outer s H E hr => ?_
  refine ⟨_, (pss_cons (ps_set (i := 2) sc.nd rfl (by first | exact Or.inl rfl | exact Or.inr rfl) (pv 0))
      (pss_cons (ps_for (passes_of rfl) rfl (pi_listK (K := C.K) rfl (pv 1)) (pg_name (i := 3) sc.nd rfl (by first | exact Or.inl rfl | exact Or.inr rfl)) ((pss_cons (ps_set (i := 2) sc.nd rfl (by first | exact Or.inl rfl | exact Or.inr rfl) (pe_op op_xor (pv 2) (pe_op op_shl (pv 3) pe_int)))
      (pss_one (ps_for (passes_of rfl) rfl (pi_range1 (by rfl) T.z_range (pa_cons pe_int pa_nil)) (pg_name (i := 4) sc.nd rfl (by first | exact Or.inl rfl | exact Or.inr rfl)) ((pss_one (ps_if (pt_truthK (K := C.K) rfl (pe_op op_and (pv 2) (pe_glob (v := .int 32768) (by rfl) T.v_TOP ⟨_, rfl⟩)) (by intro _; rfl)) ((pss_one (ps_set (i := 2) sc.nd rfl (by first | exact Or.inl rfl | exact Or.inr rfl) (pe_op op_xor (pe_op op_shl (pe_op op_xor (pv 2) (pe_glob (v := .int 32768) (by rfl) T.v_TOP ⟨_, rfl⟩)) pe_int) (pe_glob (v := .int 4129) (by rfl) T.v_FEED ⟨_, rfl⟩))))) ((pss_one (ps_set (i := 2) sc.nd rfl (by first | exact Or.inl rfl | exact Or.inr rfl) (pe_op op_shl (pv 2) pe_int))))))))))))
      (pss_one (ps_ret (pv 2))))), ?_⟩
  exact (ss_seq (ss_set se_var)
      (ss_seq (ss_for (si_list se_var) sg_name (ss_seq (ss_set (se_op se_peek (se_op se_peek se_int so_shl) so_xor))
      (ss_for (si_rng1 (sa_cons se_int sa_nil)) sg_name (ss_if (sb_tru (se_op se_peek se_int so_and)) (ss_set (se_op (se_op (se_op se_peek se_int so_xor) se_int so_shl) se_int so_xor)) (ss_set (se_op se_peek se_int so_shl))))))
      (ss_ret se_take)))
/-! ### crc -/
abbrev s_crc : Stmt := top 5
def ex_crc : Ex := (exRet (evCall 2 sem_crc_on (eaCons (evC (.int 65535)) (eaCons (evVar 0) eaNil))))
def sem_crc : Sem0 := semDef 1 1 ex_crc
theorem sc_crc : FnScope ["row"] ["row"] (defScope s_crc) := ⟨rfl, rfl, rfl, by decide +kernel, rfl, by decide +kernel, by decide +kernel⟩
theorem ok_crc {P : Program} {w : World} {C : MP.Ctx} {mg : Str → Option Value} {base : Heap} (T : Tx C mg) : FnOk P w C.K mg base (L2.CX P w) 2 T.a_crc T.d_crc ["row"] (spOf C 1 sem_crc) := by
  have G_crc_on := ok_crc_on (P := P) (w := w) (base := base) T
  have sc := sc_crc
  refine fn_ok T.F_crc sc fun cdv A outer s H E hr => ?_
  have TK : Takes (cxOf (L2.CX P w) P w C.K mg base ["row"] "crc" (defScope s_crc) T.a_crc cdv A outer s H E) (fun cls d _ H => E cls d H) := takes_of rfl rfl rfl rfl
  refine ⟨_, (pss_one (ps_ret (pe_callS G_crc_on (hr.mono (by decide)) (by rfl) T.g_crc_on T.F_crc_on.kp T.b_crc_on (fun σ => passAt TK σ) (pa_cons (pe_glob (v := .int 65535) (by rfl) T.v_BEGIN ⟨_, rfl⟩) (pa_cons (pv 0) pa_nil))))), ?_⟩
  exact (ss_ret (se_call (sa_cons se_int (sa_cons se_var sa_nil))))
/-! ### crc_row -/
abbrev s_crc_row : Stmt := top 6
def ex_crc_row : Ex := (exSeq (exSet 1 (evCall 1 sem_crc (eaCons (evVar 0) eaNil)))
    (exRet (evLst (eaCons (ev2 fShr (evPeek 1) (evC (.int 8))) (eaCons (ev2 fAnd (evPeek 1) (evC (.int 255))) eaNil)))))
def sem_crc_row : Sem0 := semDef 2 1 ex_crc_row
theorem sc_crc_row : FnScope ["row", "found"] ["row"] (defScope s_crc_row) := ⟨rfl, rfl, rfl, by decide +kernel, rfl, by decide +kernel, by decide +kernel⟩
theorem ok_crc_row {P : Program} {w : World} {C : MP.Ctx} {mg : Str → Option Value} {base : Heap} (T : Tx C mg) : FnOk P w C.K mg base (L2.CX P w) 3 T.a_crc_row T.d_crc_row ["row"] (spOf C 1 sem_crc_row) := by
  have G_crc := ok_crc (P := P) (w := w) (base := base) T
  have sc := sc_crc_row
  refine fn_ok T.F_crc_row sc fun cdv A outer s H E hr => ?_
  have TK : Takes (cxOf (L2.CX P w) P w C.K mg base ["row", "found"] "crc_row" (defScope s_crc_row) T.a_crc_row cdv A outer s H E) (fun cls d _ H => E cls d H) := takes_of rfl rfl rfl rfl
  refine ⟨_, (pss_cons (ps_set (i := 1) sc.nd rfl (by first | exact Or.inl rfl | exact Or.inr rfl) (pe_callS G_crc (hr.mono (by decide)) (by rfl) T.g_crc T.F_crc.kp T.b_crc (fun σ => passAt TK σ) (pa_cons (pv 0) pa_nil)))
      (pss_one (ps_ret (pe_lst (pa_cons (pe_op op_shr (pv 1) pe_int) (pa_cons (pe_op op_and (pv 1) pe_int) pa_nil)))))), ?_⟩
  exact (ss_seq (ss_set (se_call (sa_cons se_var sa_nil)))
      (ss_ret (se_lst (sa_cons (se_op se_peek se_int so_shr) (sa_cons (se_op se_peek se_int so_and) sa_nil)))))
/-! ### piece_row -/
abbrev s_piece_row : Stmt := top 75
def ex_piece_row : Ex := (exSeq (exAsg (evCall 2 sem_body_of (eaCons (evVar 2) (eaCons (evVar 3) eaNil))) (gsTup 2 (gsCons (gsName 4) (gsCons (gsName 5) gsNil))))
    (exSeq (exSet 6 (ev2 fAddA (evLst (eaCons (evVar 4) (eaCons (evVar 0) (eaCons (evVar 1) (eaCons (evCB fLen (eaCons (evPeek 2) eaNil)) eaNil))))) (evPeek 5)))
    (exRet (ev2 fAddA (ev2 fAddA (evC (.lstK (k_MARK_pieces.map D.int))) (evPeek 6)) (evCall 1 sem_crc_row (eaCons (evVar 6) eaNil))))))
def sem_piece_row : Sem0 := semDef 7 4 ex_piece_row
theorem sc_piece_row : FnScope ["text", "number", "row", "window", "kind", "body", "told"] ["text", "number", "row", "window"] (defScope s_piece_row) := ⟨rfl, rfl, rfl, by decide +kernel, rfl, by decide +kernel, by decide +kernel⟩
theorem ok_piece_row {P : Program} {w : World} {C : MP.Ctx} {mg : Str → Option Value} {base : Heap} (T : Tx C mg) : FnOk P w C.K mg base (L2.CX P w) 4 T.a_piece_row T.d_piece_row ["text", "number", "row", "window"] (spOf C 4 sem_piece_row) := by
  have G_body_of := ok_body_of (P := P) (w := w) (base := base) T
  have G_crc_row := ok_crc_row (P := P) (w := w) (base := base) T
  have sc := sc_piece_row
  refine fn_ok T.F_piece_row sc fun cdv A outer s H E hr => ?_
  have TK : Takes (cxOf (L2.CX P w) P w C.K mg base ["text", "number", "row", "window", "kind", "body", "told"] "piece_row" (defScope s_piece_row) T.a_piece_row cdv A outer s H E) (fun cls d _ H => E cls d H) := takes_of rfl rfl rfl rfl
  refine ⟨_, (pss_cons (ps_asg (pe_callS G_body_of (hr.mono (by decide)) (by rfl) T.g_body_of T.F_body_of.kp T.b_body_of (fun σ => passAt TK σ) (pa_cons (pv 2) (pa_cons (pv 3) pa_nil))) (pg_tup rfl (pgs_cons (pg_name (i := 4) sc.nd rfl (by first | exact Or.inl rfl | exact Or.inr rfl)) (pgs_cons (pg_name (i := 5) sc.nd rfl (by first | exact Or.inl rfl | exact Or.inr rfl)) pgs_nil))))
      (pss_cons (ps_set (i := 6) sc.nd rfl (by first | exact Or.inl rfl | exact Or.inr rfl) (pe_op (op_addK (K := C.K) rfl) (pe_lst (pa_cons (pv 4) (pa_cons (pv 0) (pa_cons (pv 1) (pa_cons (pe_callB (call_lenK (K := C.K) rfl) (by rfl) T.z_len (by decide +kernel) (pa_cons (pv 2) pa_nil)) pa_nil))))) (pv 5)))
      (pss_one (ps_ret (pe_op (op_addK (K := C.K) rfl) (pe_op (op_addK (K := C.K) rfl) (pe_glob (v := .ref T.A_MARK_pieces) (by rfl) T.v_MARK_pieces rfl) (pv 6)) (pe_callS G_crc_row (hr.mono (by decide)) (by rfl) T.g_crc_row T.F_crc_row.kp T.b_crc_row (fun σ => passAt TK σ) (pa_cons (pv 6) pa_nil))))))), ?_⟩
  exact (ss_seq (ss_asg (se_call (sa_cons se_var (sa_cons se_var sa_nil))) (sg_tup (sgs_cons sg_name (sgs_cons sg_name sgs_nil))))
      (ss_seq (ss_set (se_op (se_lst (sa_cons se_var (sa_cons se_var (sa_cons se_var (sa_cons (se_cb (sa_cons se_peek sa_nil) soa_len) sa_nil))))) se_peek so_addA))
      (ss_ret (se_op (se_op (se_cstL T.r_MARK_pieces) se_peek so_addA) (se_call (sa_cons se_var sa_nil)) so_addA))))
/-! ### body_at -/
abbrev s_body_at : Stmt := top 79
def ex_body_at : Ex := (exSeq (exIf (evT (ev2 fEq (evPeek 2) (evC (.int 1)))) exNever exNext)
    (exSeq (exIf (evOr (evT (ev2 fNe (evPeek 2) (evC (.int 0)))) (evT (ev2 fGt (ev2 fAddA (evPeek 1) (evPeek 3)) (evCB fLen (eaCons (evPeek 0) eaNil))))) (exRet (evC .non)) exNext)
    (exRet (evTup (eaCons (evCB fList (eaCons (evSl (evPeek 0) (evP (evPeek 1)) (evP (ev2 fAddA (evPeek 1) (evPeek 3)))) eaNil)) (eaCons (ev2 fAddA (evPeek 1) (evPeek 3)) eaNil))))))
def sem_body_at : Sem0 := semDef 4 4 ex_body_at
theorem sc_body_at : FnScope ["row", "place", "kind", "many"] ["row", "place", "kind", "many"] (defScope s_body_at) := ⟨rfl, rfl, rfl, by decide +kernel, rfl, by decide +kernel, by decide +kernel⟩
theorem ok_body_at {P : Program} {w : World} {C : MP.Ctx} {mg : Str → Option Value} {base : Heap} (T : Tx C mg) : FnOk P w C.K mg base (L2.CX P w) 1 T.a_body_at T.d_body_at ["row", "place", "kind", "many"] (spOf C 4 sem_body_at) := by
  have sc := sc_body_at
  refine fn_ok T.F_body_at sc fun cdv A outer s H E hr => ?_
  refine ⟨_, (pss_cons (ps_if (pt_cmpR (op_eqK (K := C.K) rfl hr.units) (pv 2) (pe_glob (v := .int 1) (by rfl) T.v_PACKED ⟨_, rfl⟩) (nomark _)) pss_never (pss_nil))
      (pss_cons (ps_if (PW.pt (pw_or (pt_cmpR (op_neK (K := C.K) rfl hr.units) (pv 2) (pe_glob (v := .int 0) (by rfl) T.v_PLAIN ⟨_, rfl⟩) (nomark _)) (pw_or1 (pt_cmpR op_gt (pe_op (op_addK (K := C.K) rfl) (pv 1) (pv 3)) (pe_callB (call_lenK (K := C.K) rfl) (by rfl) T.z_len (by decide +kernel) (pa_cons (pv 0) pa_nil)) (nomark _))))) ((pss_one (ps_ret pe_non))) (pss_nil))
      (pss_one (ps_ret (pe_tup (pa_cons (pe_callTy (call_listK (K := C.K) rfl) (by rfl) T.z_list (by decide +kernel) (pa_cons (pe_slice (sl_anyK (K := C.K) rfl) (pv 0) (po_some (pv 1)) (po_some (pe_op (op_addK (K := C.K) rfl) (pv 1) (pv 3)))) pa_nil)) (pa_cons (pe_op (op_addK (K := C.K) rfl) (pv 1) (pv 3)) pa_nil))))))), ?_⟩
  exact (ss_seq (ss_if (sb_T (se_op se_peek se_int so_eq)) ss_never ss_next)
      (ss_seq (ss_if (sb_or (sb_T (se_op se_peek se_int so_ne)) (sb_T (se_op (se_op se_peek se_peek so_addA) (se_cb (sa_cons se_peek sa_nil) soa_len) so_gt))) (ss_ret se_non) ss_next)
      (ss_ret (se_tup (sa_cons (se_cb (sa_cons (se_sl se_peek (sp_p se_peek) (sp_p (se_op se_peek se_peek so_addA))) sa_nil) soa_list) (sa_cons (se_op se_peek se_peek so_addA) sa_nil))))))
/-! ### piece_at -/
abbrev s_piece_at : Stmt := top 80
def ex_piece_at : Ex := (exSeq (exSet 2 (evSl (evPeek 0) (evP (evPeek 1)) (evP (ev2 fAddA (evPeek 1) (evC (.int 6))))))
    (exSeq (exIf (evOr (evT (ev2 fLt (evCB fLen (eaCons (evPeek 2) eaNil)) (evC (.int 6)))) (evOr (evT (ev2 fNe (evCB fList (eaCons (evSl (evPeek 2) evN (evP (evC (.int 2)))) eaNil)) (evC (.lstK (k_MARK_pieces.map D.int))))) (evOr (evT (ev2 fGt (ev2 fIx (evPeek 2) (evC (.int 3))) (evC (.int 254)))) (evT (ev2 fGt (ev2 fIx (evPeek 2) (evC (.int 4))) (evC (.int 254))))))) (exRet (evC .non)) exNext)
    (exSeq (exSet 3 (evCall 4 sem_body_at (eaCons (evVar 0) (eaCons (ev2 fAddA (evPeek 1) (evC (.int 6))) (eaCons (ev2 fIx (evPeek 2) (evC (.int 2))) (eaCons (ev2 fIx (evPeek 2) (evC (.int 5))) eaNil))))))
    (exSeq (exIf (evT (ev1 fIsN (evPeek 3))) (exRet (evC .non)) exNext)
    (exSeq (exAsg (evVar 3) (gsTup 2 (gsCons (gsName 4) (gsCons (gsName 5) gsNil))))
    (exSeq (exIf (evT (ev2 fNe (evCB fList (eaCons (evSl (evPeek 0) (evP (evPeek 5)) (evP (ev2 fAddA (evPeek 5) (evC (.int 2))))) eaNil)) (evCall 1 sem_crc_row (eaCons (evSl (evPeek 0) (evP (ev2 fAddA (evPeek 1) (evC (.int 2)))) (evP (evPeek 5))) eaNil)))) (exRet (evC .non)) exNext)
    (exRet (evTup (eaCons (ev2 fIx (evPeek 2) (evC (.int 2))) (eaCons (ev2 fIx (evPeek 2) (evC (.int 3))) (eaCons (ev2 fIx (evPeek 2) (evC (.int 4))) (eaCons (evVar 4) (eaCons (ev2 fAddA (evPeek 5) (evC (.int 2))) eaNil)))))))))))))
def sem_piece_at : Sem0 := semDef 6 2 ex_piece_at
theorem sc_piece_at : FnScope ["row", "place", "head", "found", "told", "behind"] ["row", "place"] (defScope s_piece_at) := ⟨rfl, rfl, rfl, by decide +kernel, rfl, by decide +kernel, by decide +kernel⟩
theorem ok_piece_at {P : Program} {w : World} {C : MP.Ctx} {mg : Str → Option Value} {base : Heap} (T : Tx C mg) : FnOk P w C.K mg base (L2.CX P w) 4 T.a_piece_at T.d_piece_at ["row", "place"] (spOf C 2 sem_piece_at) := by
  have G_body_at := ok_body_at (P := P) (w := w) (base := base) T
  have G_crc_row := ok_crc_row (P := P) (w := w) (base := base) T
  have sc := sc_piece_at
  refine fn_ok T.F_piece_at sc fun cdv A outer s H E hr => ?_
  have TK : Takes (cxOf (L2.CX P w) P w C.K mg base ["row", "place", "head", "found", "told", "behind"] "piece_at" (defScope s_piece_at) T.a_piece_at cdv A outer s H E) (fun cls d _ H => E cls d H) := takes_of rfl rfl rfl rfl
  refine ⟨_, (pss_cons (ps_set (i := 2) sc.nd rfl (by first | exact Or.inl rfl | exact Or.inr rfl) (pe_slice (sl_anyK (K := C.K) rfl) (pv 0) (po_some (pv 1)) (po_some (pe_op (op_addK (K := C.K) rfl) (pv 1) pe_int))))
      (pss_cons (ps_if (PW.pt (pw_or (pt_cmpR op_lt (pe_callB (call_lenK (K := C.K) rfl) (by rfl) T.z_len (by decide +kernel) (pa_cons (pv 2) pa_nil)) pe_int (nomark _)) (pw_or (pt_cmpR (op_neK (K := C.K) rfl hr.units) (pe_callTy (call_listK (K := C.K) rfl) (by rfl) T.z_list (by decide +kernel) (pa_cons (pe_slice (sl_anyK (K := C.K) rfl) (pv 2) po_none (po_some pe_int)) pa_nil)) (pe_glob (v := .ref T.A_MARK_pieces) (by rfl) T.v_MARK_pieces rfl) (nomark _)) (pw_or (pt_cmpR op_gt (pe_ix (ix_seqK (K := C.K) rfl) (pv 2) pe_int (fun _ _ => rfl)) (pe_glob (v := .int 254) (by rfl) T.v_MOST_NUMBER_pieces ⟨_, rfl⟩) (nomark _)) (pw_or1 (pt_cmpR op_gt (pe_ix (ix_seqK (K := C.K) rfl) (pv 2) pe_int (fun _ _ => rfl)) (pe_glob (v := .int 254) (by rfl) T.v_MOST_NUMBER_pieces ⟨_, rfl⟩) (nomark _))))))) ((pss_one (ps_ret pe_non))) (pss_nil))
      (pss_cons (ps_set (i := 3) sc.nd rfl (by first | exact Or.inl rfl | exact Or.inr rfl) (pe_callS G_body_at (hr.mono (by decide)) (by rfl) T.g_body_at T.F_body_at.kp T.b_body_at (fun σ => passAt TK σ) (pa_cons (pv 0) (pa_cons (pe_op (op_addK (K := C.K) rfl) (pv 1) pe_int) (pa_cons (pe_ix (ix_seqK (K := C.K) rfl) (pv 2) pe_int (fun _ _ => rfl)) (pa_cons (pe_ix (ix_seqK (K := C.K) rfl) (pv 2) pe_int (fun _ _ => rfl)) pa_nil))))))
      (pss_cons (ps_if (pt_cmp (pc_isN (pv 3))) ((pss_one (ps_ret pe_non))) (pss_nil))
      (pss_cons (ps_asg (pv 3) (pg_tup rfl (pgs_cons (pg_name (i := 4) sc.nd rfl (by first | exact Or.inl rfl | exact Or.inr rfl)) (pgs_cons (pg_name (i := 5) sc.nd rfl (by first | exact Or.inl rfl | exact Or.inr rfl)) pgs_nil))))
      (pss_cons (ps_if (pt_cmpR (op_neK (K := C.K) rfl hr.units) (pe_callTy (call_listK (K := C.K) rfl) (by rfl) T.z_list (by decide +kernel) (pa_cons (pe_slice (sl_anyK (K := C.K) rfl) (pv 0) (po_some (pv 5)) (po_some (pe_op (op_addK (K := C.K) rfl) (pv 5) pe_int))) pa_nil)) (pe_callS G_crc_row (hr.mono (by decide)) (by rfl) T.g_crc_row T.F_crc_row.kp T.b_crc_row (fun σ => passAt TK σ) (pa_cons (pe_slice (sl_anyK (K := C.K) rfl) (pv 0) (po_some (pe_op (op_addK (K := C.K) rfl) (pv 1) pe_int)) (po_some (pv 5))) pa_nil)) (nomark _)) ((pss_one (ps_ret pe_non))) (pss_nil))
      (pss_one (ps_ret (pe_tup (pa_cons (pe_ix (ix_seqK (K := C.K) rfl) (pv 2) pe_int (fun _ _ => rfl)) (pa_cons (pe_ix (ix_seqK (K := C.K) rfl) (pv 2) pe_int (fun _ _ => rfl)) (pa_cons (pe_ix (ix_seqK (K := C.K) rfl) (pv 2) pe_int (fun _ _ => rfl)) (pa_cons (pv 4) (pa_cons (pe_op (op_addK (K := C.K) rfl) (pv 5) pe_int) pa_nil)))))))))))))), ?_⟩
  exact (ss_seq (ss_set (se_sl se_peek (sp_p se_peek) (sp_p (se_op se_peek se_int so_addA))))
      (ss_seq (ss_if (sb_or (sb_T (se_op (se_cb (sa_cons se_peek sa_nil) soa_len) se_int so_lt)) (sb_or (sb_T (se_op (se_cb (sa_cons (se_sl se_peek sp_n (sp_p se_int)) sa_nil) soa_list) (se_cstL T.r_MARK_pieces) so_ne)) (sb_or (sb_T (se_op (se_op se_peek se_int so_ix) se_int so_gt)) (sb_T (se_op (se_op se_peek se_int so_ix) se_int so_gt))))) (ss_ret se_non) ss_next)
      (ss_seq (ss_set (se_call (sa_cons se_var (sa_cons (se_op se_peek se_int so_addA) (sa_cons (se_op se_peek se_int so_ix) (sa_cons (se_op se_peek se_int so_ix) sa_nil))))))
      (ss_seq (ss_if (sb_B (se_isN se_peek)) (ss_ret se_non) ss_next)
      (ss_seq (ss_asg se_var (sg_tup (sgs_cons sg_name (sgs_cons sg_name sgs_nil))))
      (ss_seq (ss_if (sb_T (se_op (se_cb (sa_cons (se_sl se_peek (sp_p se_peek) (sp_p (se_op se_peek se_int so_addA))) sa_nil) soa_list) (se_call (sa_cons (se_sl se_peek (sp_p (se_op se_peek se_int so_addA)) (sp_p se_peek)) sa_nil)) so_ne)) (ss_ret se_non) ss_next)
      (ss_ret (se_tup (sa_cons (se_op se_peek se_int so_ix) (sa_cons (se_op se_peek se_int so_ix) (sa_cons (se_op se_peek se_int so_ix) (sa_cons se_var (sa_cons (se_op se_peek se_int so_addA) sa_nil)))))))))))))
/-! ### pieces_in -/
abbrev s_pieces_in : Stmt := top 82
def ex_pieces_in_for1 : Ex := (exSeq (exSet 3 (evCall 2 sem_piece_at (eaCons (evVar 0) (eaCons (evVar 2) eaNil))))
    (exIf (evT (ev1 fNotN (evPeek 3))) (exSeq (exAsg (evVar 3) (gsTup 5 (gsCons (gsName 4) (gsCons (gsName 5) (gsCons (gsName 6) (gsCons (gsName 7) (gsCons (gsName 8) gsNil)))))))
    (exDrop (evMeth fApp (evPeek 1) (eaCons (evTup (eaCons (evVar 2) (eaCons (evVar 5) (eaCons (evVar 6) (eaCons (evVar 7) eaNil))))) eaNil)))) exNext))
def ex_pieces_in : Ex := (exSeq (exSet 1 (evLst eaNil))
    (exSeq (exFor (eiRng1 (eaCons (evCB fLen (eaCons (evPeek 0) eaNil)) eaNil)) (gsName 2) ex_pieces_in_for1)
    (exRet (evTake 1))))
def sem_pieces_in : Sem0 := semDef 9 1 ex_pieces_in
theorem sc_pieces_in : FnScope ["row", "found", "place", "piece", "kind", "text", "number", "part", "behind"] ["row"] (defScope s_pieces_in) := ⟨rfl, rfl, rfl, by decide +kernel, rfl, by decide +kernel, by decide +kernel⟩
theorem ok_pieces_in {P : Program} {w : World} {C : MP.Ctx} {mg : Str → Option Value} {base : Heap} (T : Tx C mg) : FnOk P w C.K mg base (L2.CX P w) 5 T.a_pieces_in T.d_pieces_in ["row"] (spOf C 1 sem_pieces_in) := by
  have G_piece_at := ok_piece_at (P := P) (w := w) (base := base) T
  have sc := sc_pieces_in
  refine fn_ok T.F_pieces_in sc fun cdv A outer s H E hr => ?_
  have TK : Takes (cxOf (L2.CX P w) P w C.K mg base ["row", "found", "place", "piece", "kind", "text", "number", "part", "behind"] "pieces_in" (defScope s_pieces_in) T.a_pieces_in cdv A outer s H E) (fun cls d _ H => E cls d H) := takes_of rfl rfl rfl rfl
  refine ⟨_, (pss_cons (ps_set (i := 1) sc.nd rfl (by first | exact Or.inl rfl | exact Or.inr rfl) (pe_lst pa_nil))
      (pss_cons (ps_for (passes_of rfl) rfl (pi_range1 (by rfl) T.z_range (pa_cons (pe_callB (call_lenK (K := C.K) rfl) (by rfl) T.z_len (by decide +kernel) (pa_cons (pv 0) pa_nil)) pa_nil)) (pg_name (i := 2) sc.nd rfl (by first | exact Or.inl rfl | exact Or.inr rfl)) ((pss_cons (ps_set (i := 3) sc.nd rfl (by first | exact Or.inl rfl | exact Or.inr rfl) (pe_callS G_piece_at (hr.mono (by decide)) (by rfl) T.g_piece_at T.F_piece_at.kp T.b_piece_at (fun σ => passAt TK σ) (pa_cons (pv 0) (pa_cons (pv 2) pa_nil))))
      (pss_one (ps_if (pt_cmp (pc_notN (pv 3))) ((pss_cons (ps_asg (pv 3) (pg_tup rfl (pgs_cons (pg_name (i := 4) sc.nd rfl (by first | exact Or.inl rfl | exact Or.inr rfl)) (pgs_cons (pg_name (i := 5) sc.nd rfl (by first | exact Or.inl rfl | exact Or.inr rfl)) (pgs_cons (pg_name (i := 6) sc.nd rfl (by first | exact Or.inl rfl | exact Or.inr rfl)) (pgs_cons (pg_name (i := 7) sc.nd rfl (by first | exact Or.inl rfl | exact Or.inr rfl)) (pgs_cons (pg_name (i := 8) sc.nd rfl (by first | exact Or.inl rfl | exact Or.inr rfl)) pgs_nil)))))))
      (pss_one (ps_expr (pe_bmK (K := C.K) rfl PySem.F.plainAttrs_list PySem.F.slot_list_append PySem.F.type_list_append mt_append (pv 1) (pa_cons (pe_tup (pa_cons (pv 2) (pa_cons (pv 5) (pa_cons (pv 6) (pa_cons (pv 7) pa_nil))))) pa_nil)))))) (pss_nil))))))
      (pss_one (ps_ret (pv 1))))), ?_⟩
  exact (ss_seq (ss_set (se_lst sa_nil))
      (ss_seq (ss_for (si_rng1 (sa_cons (se_cb (sa_cons se_peek sa_nil) soa_len) sa_nil)) sg_name (ss_seq (ss_set (se_call (sa_cons se_var (sa_cons se_var sa_nil))))
      (ss_if (sb_B (se_notN se_peek)) (ss_seq (ss_asg se_var (sg_tup (sgs_cons sg_name (sgs_cons sg_name (sgs_cons sg_name (sgs_cons sg_name (sgs_cons sg_name sgs_nil)))))))
      (ss_drop (se_bm se_peek (sa_cons (se_tup (sa_cons se_var (sa_cons se_var (sa_cons se_var (sa_cons se_var sa_nil))))) sa_nil) som_app))) ss_next)))
      (ss_ret se_take)))
/-! ### Cursor___init__ -/
abbrev s_Cursor___init__ : Stmt := meth 18 0
def ex_Cursor___init__ : Ex := (exSeq (exFld 4 "source" (evPeek 0) (evVar 1))
    (exSeq (exFld 4 "spot" (evPeek 0) (evVar 2))
    (exFld 4 "short" (evPeek 0) (evC (.bl false)))))
def sem_Cursor___init__ : Sem0 := semDef 3 3 ex_Cursor___init__
theorem sc_Cursor___init__ : FnScope ["self", "row", "place"] ["self", "row", "place"] (defScope s_Cursor___init__) := ⟨rfl, rfl, rfl, by decide +kernel, rfl, by decide +kernel, by decide +kernel⟩
theorem ok_Cursor___init__ {P : Program} {w : World} {C : MP.Ctx} {mg : Str → Option Value} {base : Heap} (T : Tx C mg) : FnOk P w C.K mg base (L2.CX P w) 1 T.a_Cursor___init__ T.d_Cursor___init__ ["self", "row", "place"] (spOf C 3 sem_Cursor___init__) := by
  have sc := sc_Cursor___init__
  refine fn_ok T.F_Cursor___init__ sc fun cdv A outer s H E hr => ?_
  refine ⟨_, (pss_cons (ps_fldK (K := C.K) rfl (pv 0) (pv 1))
      (pss_cons (ps_fldK (K := C.K) rfl (pv 0) (pv 2))
      (pss_one (ps_fldK (K := C.K) rfl (pv 0) pe_bl)))), ?_⟩
  exact (ss_seq (ss_fld T.cl_Cursor T.n_Cursor_source se_peek se_var)
      (ss_seq (ss_fld T.cl_Cursor T.n_Cursor_spot se_peek se_var)
      (ss_fld T.cl_Cursor T.n_Cursor_short se_peek se_bl)))
/-! ### Cursor_number -/
abbrev s_Cursor_number : Stmt := meth 18 1
def ex_Cursor_number_for1 : Ex := (exSet 3 (ev2 fOr (ev2 fShl (evPeek 3) (evC (.int 8))) (evPeek 4)))
def ex_Cursor_number : Ex := (exSeq (exSet 2 (evSl (ev1 (fFld 4 "source") (evPeek 0)) (evP (ev1 (fFld 4 "spot") (evPeek 0))) (evP (ev2 fAddA (ev1 (fFld 4 "spot") (evPeek 0)) (evPeek 1)))))
    (exSeq (exFldAug 4 "spot" (fun i j => i + j) (evPeek 0) (evPeek 1))
    (exSeq (exIf (evT (ev2 fLt (evCB fLen (eaCons (evPeek 2) eaNil)) (evPeek 1))) (exFld 4 "short" (evPeek 0) (evC (.bl true))) exNext)
    (exSeq (exSet 3 (evC (.int 0)))
    (exSeq (exFor (eiList (evVar 2)) (gsName 4) ex_Cursor_number_for1)
    (exRet (evTake 3)))))))
def sem_Cursor_number : Sem0 := semDef 5 2 ex_Cursor_number
theorem sc_Cursor_number : FnScope ["self", "many", "part", "number", "byte"] ["self", "many"] (defScope s_Cursor_number) := ⟨rfl, rfl, rfl, by decide +kernel, rfl, by decide +kernel, by decide +kernel⟩
theorem ok_Cursor_number {P : Program} {w : World} {C : MP.Ctx} {mg : Str → Option Value} {base : Heap} (T : Tx C mg) : FnOk P w C.K mg base (L2.CX P w) 1 T.a_Cursor_number T.d_Cursor_number ["self", "many"] (spOf C 2 sem_Cursor_number) := by
  have sc := sc_Cursor_number
  refine fn_ok T.F_Cursor_number sc fun cdv A outer s H E hr => ?_
  refine ⟨_, (pss_cons (ps_set (i := 2) sc.nd rfl (by first | exact Or.inl rfl | exact Or.inr rfl) (pe_slice (sl_anyK (K := C.K) rfl) (pe_fldK (K := C.K) rfl (pv 0)) (po_some (pe_fldK (K := C.K) rfl (pv 0))) (po_some (pe_op (op_addK (K := C.K) rfl) (pe_fldK (K := C.K) rfl (pv 0)) (pv 1)))))
      (pss_cons (ps_fldaugK (K := C.K) rfl (pv 0) (pv 1) in_add)
      (pss_cons (ps_if (pt_cmpR op_lt (pe_callB (call_lenK (K := C.K) rfl) (by rfl) T.z_len (by decide +kernel) (pa_cons (pv 2) pa_nil)) (pv 1) (nomark _)) ((pss_one (ps_fldK (K := C.K) rfl (pv 0) pe_bl))) (pss_nil))
      (pss_cons (ps_set (i := 3) sc.nd rfl (by first | exact Or.inl rfl | exact Or.inr rfl) pe_int)
      (pss_cons (ps_for (passes_of rfl) rfl (pi_listK (K := C.K) rfl (pv 2)) (pg_name (i := 4) sc.nd rfl (by first | exact Or.inl rfl | exact Or.inr rfl)) ((pss_one (ps_set (i := 3) sc.nd rfl (by first | exact Or.inl rfl | exact Or.inr rfl) (pe_op op_or (pe_op op_shl (pv 3) pe_int) (pv 4))))))
      (pss_one (ps_ret (pv 3)))))))), ?_⟩
  exact (ss_seq (ss_set (se_sl (se_fld T.cl_Cursor T.n_Cursor_source se_peek) (sp_p (se_fld T.cl_Cursor T.n_Cursor_spot se_peek)) (sp_p (se_op (se_fld T.cl_Cursor T.n_Cursor_spot se_peek) se_peek so_addA))))
      (ss_seq (ss_fldaug hr_add T.cl_Cursor T.n_Cursor_spot se_peek se_peek)
      (ss_seq (ss_if (sb_T (se_op (se_cb (sa_cons se_peek sa_nil) soa_len) se_peek so_lt)) (ss_fld T.cl_Cursor T.n_Cursor_short se_peek se_bl) ss_next)
      (ss_seq (ss_set se_int)
      (ss_seq (ss_for (si_list se_var) sg_name (ss_set (se_op (se_op se_peek se_int so_shl) se_peek so_or)))
      (ss_ret se_take))))))
/-! ### read_name -/
abbrev s_read_name : Stmt := top 19
def ex_read_name : Ex := (exSeq (exSet 1 (evMethO 4 2 "number" sem_Cursor_number (evPeek 0) (eaCons (evC (.int 1)) eaNil)))
    (exSeq (exIf (evNot (evT (evChain fLe fLe (evC (.int 1)) (evPeek 1) (evC (.int 12))))) (exRet (evC .non)) exNext)
    (exSeq (exSet 2 (evLc (eiRng1 (eaCons (evPeek 1) eaNil)) (gsName 3) evYes (evMethO 4 2 "number" sem_Cursor_number (evPeek 0) (eaCons (evC (.int 1)) eaNil)) [3]))
    (exSeq (exIf (evNot (evTru (evCB fAll (eaCons (evLc (eiList (evVar 2)) (gsName 4) evYes (ev2 (fIn false) (evPeek 4) (evC (.tupK (k_NAME_BYTES.map D.int)))) [4]) eaNil)))) (exRet (evC .non)) exNext)
    (exRet (evMethT fJoin (evC (.str "")) (eaCons (evLc (eiList (evVar 2)) (gsName 4) evYes (ev2 fIx (evC (.str "-.0123456789abcdefghijklmnopqrstuvwxyz")) (evTIdx k_NAME_BYTES (eaCons (evPeek 4) eaNil))) [4]) eaNil)))))))
def sem_read_name : Sem0 := semDef 5 1 ex_read_name
theorem sc_read_name : FnScope ["cursor", "many", "told", "k", "byte"] ["cursor"] (defScope s_read_name) := ⟨rfl, rfl, rfl, by decide +kernel, rfl, by decide +kernel, by decide +kernel⟩
theorem ok_read_name {P : Program} {w : World} {C : MP.Ctx} {mg : Str → Option Value} {base : Heap} (T : Tx C mg) : FnOk P w C.K mg base (L2.CX P w) 2 T.a_read_name T.d_read_name ["cursor"] (spOf C 1 sem_read_name) := by
  have G_Cursor_number := ok_Cursor_number (P := P) (w := w) (base := base) T
  have sc := sc_read_name
  refine fn_ok T.F_read_name sc fun cdv A outer s H E hr => ?_
  refine ⟨_, (pss_cons (ps_set (i := 1) sc.nd rfl (by first | exact Or.inl rfl | exact Or.inr rfl) (pe_meth (pv 0) T.cl_Cursor T.m_Cursor_number G_Cursor_number (hr.mono (by decide)) T.b_Cursor_number .nil passN (pa_cons pe_int pa_nil)))
      (pss_cons (ps_if (pt_not (pt_chain op_le op_le pe_int (pv 1) (pe_glob (v := .int 12) (by rfl) T.v_MOST_SIGNS ⟨_, rfl⟩))) ((pss_one (ps_ret pe_non))) (pss_nil))
      (pss_cons (ps_setLc (i := 2) (own := [("k", 3)]) (g := (gName 3)) rfl sc.nd rfl rfl (sw_true rfl rfl rfl (by decide +kernel)) (pi_range1 (by rfl) T.z_range (pa_cons (pv 1) pa_nil)) (blkOk_by (own := [("k", 3)]) (N := ["cursor", "many", "told", "k", "byte"]) (sc := defScope s_read_name) (by decide +kernel)) (fun _ _ _ _ _ => (pg_name (i := 3) sc.nd rfl (by first | exact Or.inl rfl | exact Or.inr rfl))) (fun _ _ _ _ _ => pts_nil) (fun _ _ _ _ _ => (pe_meth (pv 0) T.cl_Cursor T.m_Cursor_number G_Cursor_number (hr.mono (by decide)) T.b_Cursor_number .nil passN (pa_cons pe_int pa_nil))))
      (pss_cons (ps_if (pt_not (pt_truthK (K := C.K) rfl (pe_callB (cr_allK (K := C.K) rfl rfl) (by rfl) T.z_all (by decide +kernel) (pa_cons (pe_lc (own := [("byte", 4)]) (g := (gName 4)) rfl sc.nd (pi_listK (K := C.K) rfl (pv 2)) (blkOk_by (own := [("byte", 4)]) (N := ["cursor", "many", "told", "k", "byte"]) (sc := defScope s_read_name) (by decide +kernel)) (fun _ _ _ _ _ => (pg_name (i := 4) sc.nd rfl (by first | exact Or.inl rfl | exact Or.inr rfl))) (fun _ _ _ _ _ => pts_nil) (fun _ _ _ _ _ => (pe_cmpR (op_inK (K := C.K) rfl) (pv 4) (pe_glob (v := .ref T.A_NAME_BYTES) (by rfl) T.v_NAME_BYTES rfl) rfl))) pa_nil)) (by intro _; rfl))) ((pss_one (ps_ret pe_non))) (pss_nil))
      (pss_one (ps_ret (pe_bmK (K := C.K) rfl PySem.F.plainAttrs_str PySem.F.slot_str_join PySem.F.type_str_join (mt_joinK (K := C.K) rfl) pe_str (pa_cons (pe_lc (own := [("byte", 4)]) (g := (gName 4)) rfl sc.nd (pi_listK (K := C.K) rfl (pv 2)) (blkOk_by (own := [("byte", 4)]) (N := ["cursor", "many", "told", "k", "byte"]) (sc := defScope s_read_name) (by decide +kernel)) (fun _ _ _ _ _ => (pg_name (i := 4) sc.nd rfl (by first | exact Or.inl rfl | exact Or.inr rfl))) (fun _ _ _ _ _ => pts_nil) (fun _ _ _ _ _ => (pe_ix (ix_seqK (K := C.K) rfl) (pe_glob (v := .str "-.0123456789abcdefghijklmnopqrstuvwxyz") (by rfl) T.v_NAME_SIGNS ⟨_, rfl⟩) (pe_bmK (K := C.K) rfl PySem.F.plainAttrs_tuple PySem.F.slot_tuple_index PySem.F.type_tuple_index (mt_tidx (K := C.K) rfl) (pe_glob (v := .ref T.A_NAME_BYTES) (by rfl) T.v_NAME_BYTES rfl) (pa_cons (pv 4) pa_nil)) (fun _ _ => rfl)))) pa_nil)))))))), ?_⟩
  exact (ss_seq (ss_set (se_meth se_peek (sa_cons se_int sa_nil)))
      (ss_seq (ss_if (sb_not (sb_T (se_chain se_int se_peek se_int so_le so_le))) (ss_ret se_non) ss_next)
      (ss_seq (ss_set (se_lc (si_rng1 (sa_cons se_peek sa_nil)) sg_name (tg_name (by decide)) sb_yes (se_meth se_peek (sa_cons se_int sa_nil))))
      (ss_seq (ss_if (sb_not (sb_tru (se_cb (sa_cons (se_lc (si_list se_var) sg_name (tg_name (by decide)) sb_yes (se_op se_peek (se_cstT T.r_NAME_BYTES) so_in)) sa_nil) soa_all))) (ss_ret se_non) ss_next)
      (ss_ret (se_bmT se_str (sa_cons (se_lc (si_list se_var) sg_name (tg_name (by decide)) sb_yes (se_op se_str (se_tidx T.r_NAME_BYTES (sa_cons se_peek sa_nil)) so_ix)) sa_nil) som_join))))))
/-! ### read_entry -/
abbrev s_read_entry : Stmt := top 20
def ex_read_entry : Ex := (exSeq (exSet 1 (evMethO 4 2 "number" sem_Cursor_number (evPeek 0) (eaCons (evC (.int 1)) eaNil)))
    (exSeq (exSet 2 (evCall 1 sem_read_name (eaCons (evVar 0) eaNil)))
    (exSeq (exIf (evOr (evTru (ev1 (fFld 4 "short") (evPeek 0))) (evOr (evT (ev1 fIsN (evPeek 2))) (evT (ev2 fGt (evPeek 1) (evC (.int 254)))))) (exRet (evC .non)) exNext)
    (exSeq (exSet 3 (evMethO 4 2 "number" sem_Cursor_number (evPeek 0) (eaCons (evC (.int 1)) eaNil)))
    (exSeq (exSet 4 (evMethO 4 2 "number" sem_Cursor_number (evPeek 0) (eaCons (evC (.int 2)) eaNil)))
    (exSeq (exSet 5 (evLc (eiRng1 (eaCons (evPeek 3) eaNil)) (gsName 6) evYes (evMethO 4 2 "number" sem_Cursor_number (evPeek 0) (eaCons (evC (.int 3)) eaNil)) [6]))
    (exSeq (exIf (evOr (evTru (ev1 (fFld 4 "short") (evPeek 0))) (evOr (evT (ev2 fEq (evPeek 3) (evC (.int 0)))) (evOr (evT (ev2 fGt (evPeek 3) (ev2 fAddA (evC (.int 254)) (evC (.int 1))))) (evT (ev2 fGt (evPeek 4) (ev2 fMul (evC (.int 255)) (evPeek 3))))))) (exRet (evC .non)) exNext)
    (exRet (evTup (eaCons (evVar 1) (eaCons (evVar 2) (eaCons (evVar 4) (eaCons (evVar 5) eaNil)))))))))))))
def sem_read_entry : Sem0 := semDef 7 1 ex_read_entry
theorem sc_read_entry : FnScope ["cursor", "text", "name", "many", "length", "places", "k"] ["cursor"] (defScope s_read_entry) := ⟨rfl, rfl, rfl, by decide +kernel, rfl, by decide +kernel, by decide +kernel⟩
theorem ok_read_entry {P : Program} {w : World} {C : MP.Ctx} {mg : Str → Option Value} {base : Heap} (T : Tx C mg) : FnOk P w C.K mg base (L2.CX P w) 3 T.a_read_entry T.d_read_entry ["cursor"] (spOf C 1 sem_read_entry) := by
  have G_Cursor_number := ok_Cursor_number (P := P) (w := w) (base := base) T
  have G_read_name := ok_read_name (P := P) (w := w) (base := base) T
  have sc := sc_read_entry
  refine fn_ok T.F_read_entry sc fun cdv A outer s H E hr => ?_
  have TK : Takes (cxOf (L2.CX P w) P w C.K mg base ["cursor", "text", "name", "many", "length", "places", "k"] "read_entry" (defScope s_read_entry) T.a_read_entry cdv A outer s H E) (fun cls d _ H => E cls d H) := takes_of rfl rfl rfl rfl
  refine ⟨_, (pss_cons (ps_set (i := 1) sc.nd rfl (by first | exact Or.inl rfl | exact Or.inr rfl) (pe_meth (pv 0) T.cl_Cursor T.m_Cursor_number G_Cursor_number (hr.mono (by decide)) T.b_Cursor_number .nil passN (pa_cons pe_int pa_nil)))
      (pss_cons (ps_set (i := 2) sc.nd rfl (by first | exact Or.inl rfl | exact Or.inr rfl) (pe_callS G_read_name (hr.mono (by decide)) (by rfl) T.g_read_name T.F_read_name.kp T.b_read_name (fun σ => passAt TK σ) (pa_cons (pv 0) pa_nil)))
      (pss_cons (ps_if (PW.pt (pw_or (pt_truthK (K := C.K) rfl (pe_fldK (K := C.K) rfl (pv 0)) (by intro _; rfl)) (pw_or (pt_cmp (pc_isN (pv 2))) (pw_or1 (pt_cmpR op_gt (pv 1) (pe_glob (v := .int 254) (by rfl) T.v_MOST_NUMBER_book ⟨_, rfl⟩) (nomark _)))))) ((pss_one (ps_ret pe_non))) (pss_nil))
      (pss_cons (ps_set (i := 3) sc.nd rfl (by first | exact Or.inl rfl | exact Or.inr rfl) (pe_meth (pv 0) T.cl_Cursor T.m_Cursor_number G_Cursor_number (hr.mono (by decide)) T.b_Cursor_number .nil passN (pa_cons pe_int pa_nil)))
      (pss_cons (ps_set (i := 4) sc.nd rfl (by first | exact Or.inl rfl | exact Or.inr rfl) (pe_meth (pv 0) T.cl_Cursor T.m_Cursor_number G_Cursor_number (hr.mono (by decide)) T.b_Cursor_number .nil passN (pa_cons pe_int pa_nil)))
      (pss_cons (ps_setLc (i := 5) (own := [("k", 6)]) (g := (gName 6)) rfl sc.nd rfl rfl (sw_true rfl rfl rfl (by decide +kernel)) (pi_range1 (by rfl) T.z_range (pa_cons (pv 3) pa_nil)) (blkOk_by (own := [("k", 6)]) (N := ["cursor", "text", "name", "many", "length", "places", "k"]) (sc := defScope s_read_entry) (by decide +kernel)) (fun _ _ _ _ _ => (pg_name (i := 6) sc.nd rfl (by first | exact Or.inl rfl | exact Or.inr rfl))) (fun _ _ _ _ _ => pts_nil) (fun _ _ _ _ _ => (pe_meth (pv 0) T.cl_Cursor T.m_Cursor_number G_Cursor_number (hr.mono (by decide)) T.b_Cursor_number .nil passN (pa_cons pe_int pa_nil))))
      (pss_cons (ps_if (PW.pt (pw_or (pt_truthK (K := C.K) rfl (pe_fldK (K := C.K) rfl (pv 0)) (by intro _; rfl)) (pw_or (pt_cmpR (op_eqK (K := C.K) rfl hr.units) (pv 3) pe_int (nomark _)) (pw_or (pt_cmpR op_gt (pv 3) (pe_op (op_addK (K := C.K) rfl) (pe_glob (v := .int 254) (by rfl) T.v_MOST_NUMBER_book ⟨_, rfl⟩) pe_int) (nomark _)) (pw_or1 (pt_cmpR op_gt (pv 4) (pe_op op_mul pe_int (pv 3)) (nomark _))))))) ((pss_one (ps_ret pe_non))) (pss_nil))
      (pss_one (ps_ret (pe_tup (pa_cons (pv 1) (pa_cons (pv 2) (pa_cons (pv 4) (pa_cons (pv 5) pa_nil)))))))))))))), ?_⟩
  exact (ss_seq (ss_set (se_meth se_peek (sa_cons se_int sa_nil)))
      (ss_seq (ss_set (se_call (sa_cons se_var sa_nil)))
      (ss_seq (ss_if (sb_or (sb_tru (se_fld T.cl_Cursor T.n_Cursor_short se_peek)) (sb_or (sb_B (se_isN se_peek)) (sb_T (se_op se_peek se_int so_gt)))) (ss_ret se_non) ss_next)
      (ss_seq (ss_set (se_meth se_peek (sa_cons se_int sa_nil)))
      (ss_seq (ss_set (se_meth se_peek (sa_cons se_int sa_nil)))
      (ss_seq (ss_set (se_lc (si_rng1 (sa_cons se_peek sa_nil)) sg_name (tg_name (by decide)) sb_yes (se_meth se_peek (sa_cons se_int sa_nil))))
      (ss_seq (ss_if (sb_or (sb_tru (se_fld T.cl_Cursor T.n_Cursor_short se_peek)) (sb_or (sb_T (se_op se_peek se_int so_eq)) (sb_or (sb_T (se_op se_peek (se_op se_int se_int so_addA) so_gt)) (sb_T (se_op se_peek (se_op se_int se_peek so_mul) so_gt))))) (ss_ret se_non) ss_next)
      (ss_ret (se_tup (sa_cons se_var (sa_cons se_var (sa_cons se_var (sa_cons se_var sa_nil)))))))))))))
/-! ### may_follow -/
abbrev s_may_follow : Stmt := top 21
def ex_may_follow : Ex := (exSeq (exIf (evAnd (evT (ev2 fNe (evPeek 1) (evLst eaNil))) (evT (ev2 fLe (ev2 fIx (evPeek 0) (evC (.int 0))) (ev2 fIx (ev2 fIx (evPeek 1) (evNeg (evC (.int 1)))) (evC (.int 0)))))) (exRet (evC (.bl false))) exNext)
    (exRet (ev2 (fIn true) (ev2 fIx (evPeek 0) (evC (.int 1))) (evLc (eiList (evVar 1)) (gsName 2) evYes (ev2 fIx (evPeek 2) (evC (.int 1))) [2]))))
def sem_may_follow : Sem0 := semDef 3 2 ex_may_follow
theorem sc_may_follow : FnScope ["entry", "entries", "other"] ["entry", "entries"] (defScope s_may_follow) := ⟨rfl, rfl, rfl, by decide +kernel, rfl, by decide +kernel, by decide +kernel⟩
theorem ok_may_follow {P : Program} {w : World} {C : MP.Ctx} {mg : Str → Option Value} {base : Heap} (T : Tx C mg) : FnOk P w C.K mg base (L2.CX P w) 1 T.a_may_follow T.d_may_follow ["entry", "entries"] (spOf C 2 sem_may_follow) := by
  have sc := sc_may_follow
  refine fn_ok T.F_may_follow sc fun cdv A outer s H E hr => ?_
  refine ⟨_, (pss_cons (ps_if (PW.pt (pw_and (pt_cmpR (op_neK (K := C.K) rfl hr.units) (pv 1) (pe_lst pa_nil) (nomark _)) (pw_and1 (pt_cmpR op_le (pe_ix (ix_seqK (K := C.K) rfl) (pv 0) pe_int (fun _ _ => rfl)) (pe_ix (ix_seqK (K := C.K) rfl) (pe_ix (ix_seqK (K := C.K) rfl) (pv 1) (pe_un un_neg pe_int) (fun _ _ => rfl)) pe_int (fun _ _ => rfl)) (nomark _))))) ((pss_one (ps_ret pe_bl))) (pss_nil))
      (pss_one (ps_ret (pe_cmpR (op_notInK (K := C.K) rfl) (pe_ix (ix_seqK (K := C.K) rfl) (pv 0) pe_int (fun _ _ => rfl)) (pe_lc (own := [("other", 2)]) (g := (gName 2)) rfl sc.nd (pi_listK (K := C.K) rfl (pv 1)) (blkOk_by (own := [("other", 2)]) (N := ["entry", "entries", "other"]) (sc := defScope s_may_follow) (by decide +kernel)) (fun _ _ _ _ _ => (pg_name (i := 2) sc.nd rfl (by first | exact Or.inl rfl | exact Or.inr rfl))) (fun _ _ _ _ _ => pts_nil) (fun _ _ _ _ _ => (pe_ix (ix_seqK (K := C.K) rfl) (pv 2) pe_int (fun _ _ => rfl)))) rfl)))), ?_⟩
  exact (ss_seq (ss_if (sb_and (sb_T (se_op se_peek (se_lst sa_nil) so_ne)) (sb_T (se_op (se_op se_peek se_int so_ix) (se_op (se_op se_peek (se_neg se_int) so_ix) se_int so_ix) so_le))) (ss_ret se_bl) ss_next)
      (ss_ret (se_op (se_op se_peek se_int so_ix) (se_lc (si_list se_var) sg_name (tg_name (by decide)) sb_yes (se_op se_peek se_int so_ix)) so_in)))
/-! ### book_at -/
abbrev s_book_at : Stmt := top 22
def ex_book_at_for1 : Ex := (exSeq (exSet 6 (evCall 1 sem_read_entry (eaCons (evVar 2) eaNil)))
    (exSeq (exIf (evOr (evT (ev1 fIsN (evPeek 6))) (evNot (evTru (evLend 2 sem_may_follow (eaCons (evPeek 6) (eaCons (evPeek 4) eaNil)))))) (exRet (evC .non)) exNext)
    (exDrop (evMeth fApp (evPeek 4) (eaCons (evVar 6) eaNil)))))
def ex_book_at : Ex := (exSeq (exSet 2 (evMake 4 3 sem_Cursor___init__ (eaCons (evVar 0) (eaCons (ev2 fAddA (evPeek 1) (evC (.int 2))) eaNil))))
    (exSeq (exIf (evT (ev2 fNe (evSl (evPeek 0) (evP (evPeek 1)) (evP (ev2 fAddA (evPeek 1) (evC (.int 2))))) (evC (.lstK (k_MARK_book.map D.int))))) (exRet (evC .non)) exNext)
    (exSeq (exSet 3 (evMethO 4 2 "number" sem_Cursor_number (evPeek 2) (eaCons (evC (.int 1)) eaNil)))
    (exSeq (exSet 4 (evLst eaNil))
    (exSeq (exIf (evOr (evTru (ev1 (fFld 4 "short") (evPeek 2))) (evT (ev2 fGt (evPeek 3) (evC (.int 30))))) (exRet (evC .non)) exNext)
    (exSeq (exFor (eiRng1 (eaCons (evPeek 3) eaNil)) (gsName 5) ex_book_at_for1)
    (exSeq (exSet 7 (ev1 (fFld 4 "spot") (evPeek 2)))
    (exSeq (exIf (evT (ev2 fNe (evCB fList (eaCons (evSl (evPeek 0) (evP (evPeek 7)) (evP (ev2 fAddA (evPeek 7) (evC (.int 2))))) eaNil)) (evCall 1 sem_crc_row (eaCons (evSl (evPeek 0) (evP (ev2 fAddA (evPeek 1) (evC (.int 2)))) (evP (evPeek 7))) eaNil)))) (exRet (evC .non)) exNext)
    (exRet (evTup (eaCons (evVar 4) (eaCons (ev2 fAddA (evPeek 7) (evC (.int 2))) eaNil))))))))))))
def sem_book_at : Sem0 := semDef 8 2 ex_book_at
theorem sc_book_at : FnScope ["row", "place", "cursor", "many", "entries", "k", "entry", "behind"] ["row", "place"] (defScope s_book_at) := ⟨rfl, rfl, rfl, by decide +kernel, rfl, by decide +kernel, by decide +kernel⟩
theorem ok_book_at {P : Program} {w : World} {C : MP.Ctx} {mg : Str → Option Value} {base : Heap} (T : Tx C mg) : FnOk P w C.K mg base (L2.CX P w) 4 T.a_book_at T.d_book_at ["row", "place"] (spOf C 2 sem_book_at) := by
  have G_Cursor___init__ := ok_Cursor___init__ (P := P) (w := w) (base := base) T
  have G_Cursor_number := ok_Cursor_number (P := P) (w := w) (base := base) T
  have G_crc_row := ok_crc_row (P := P) (w := w) (base := base) T
  have G_may_follow := ok_may_follow (P := P) (w := w) (base := base) T
  have G_read_entry := ok_read_entry (P := P) (w := w) (base := base) T
  have sc := sc_book_at
  refine fn_ok T.F_book_at sc fun cdv A outer s H E hr => ?_
  have TK : Takes (cxOf (L2.CX P w) P w C.K mg base ["row", "place", "cursor", "many", "entries", "k", "entry", "behind"] "book_at" (defScope s_book_at) T.a_book_at cdv A outer s H E) (fun cls d _ H => E cls d H) := takes_of rfl rfl rfl rfl
  refine ⟨_, (pss_cons (ps_set (i := 2) sc.nd rfl (by first | exact Or.inl rfl | exact Or.inr rfl) (pe_make T.mk_Cursor G_Cursor___init__ (hr.mono (by decide)) (by rfl) T.g_Cursor T.b_Cursor___init__ .nil passN (pa_cons (pv 0) (pa_cons (pe_op (op_addK (K := C.K) rfl) (pv 1) pe_int) pa_nil))))
      (pss_cons (ps_if (pt_cmpR (op_neK (K := C.K) rfl hr.units) (pe_slice (sl_anyK (K := C.K) rfl) (pv 0) (po_some (pv 1)) (po_some (pe_op (op_addK (K := C.K) rfl) (pv 1) pe_int))) (pe_glob (v := .ref T.A_MARK_book) (by rfl) T.v_MARK_book rfl) (nomark _)) ((pss_one (ps_ret pe_non))) (pss_nil))
      (pss_cons (ps_set (i := 3) sc.nd rfl (by first | exact Or.inl rfl | exact Or.inr rfl) (pe_meth (pv 2) T.cl_Cursor T.m_Cursor_number G_Cursor_number (hr.mono (by decide)) T.b_Cursor_number .nil passN (pa_cons pe_int pa_nil)))
      (pss_cons (ps_set (i := 4) sc.nd rfl (by first | exact Or.inl rfl | exact Or.inr rfl) (pe_lst pa_nil))
      (pss_cons (ps_if (PW.pt (pw_or (pt_truthK (K := C.K) rfl (pe_fldK (K := C.K) rfl (pv 2)) (by intro _; rfl)) (pw_or1 (pt_cmpR op_gt (pv 3) (pe_glob (v := .int 30) (by rfl) T.v_MOST_ENTRIES ⟨_, rfl⟩) (nomark _))))) ((pss_one (ps_ret pe_non))) (pss_nil))
      (pss_cons (ps_for (passes_of rfl) rfl (pi_range1 (by rfl) T.z_range (pa_cons (pv 3) pa_nil)) (pg_name (i := 5) sc.nd rfl (by first | exact Or.inl rfl | exact Or.inr rfl)) ((pss_cons (ps_set (i := 6) sc.nd rfl (by first | exact Or.inl rfl | exact Or.inr rfl) (pe_callS G_read_entry (hr.mono (by decide)) (by rfl) T.g_read_entry T.F_read_entry.kp T.b_read_entry (fun σ => passAt TK σ) (pa_cons (pv 2) pa_nil)))
      (pss_cons (ps_if (PW.pt (pw_or (pt_cmp (pc_isN (pv 6))) (pw_or1 (pt_not (pt_truthK (K := C.K) rfl (pe_callS G_may_follow (hr.mono (by decide)) (by rfl) T.g_may_follow T.F_may_follow.kp T.b_may_follow (fun σ => passAt TK σ) (pa_cons (pv 6) (pa_cons (pv 4) pa_nil))) (by intro _; rfl)))))) ((pss_one (ps_ret pe_non))) (pss_nil))
      (pss_one (ps_expr (pe_bmK (K := C.K) rfl PySem.F.plainAttrs_list PySem.F.slot_list_append PySem.F.type_list_append mt_append (pv 4) (pa_cons (pv 6) pa_nil))))))))
      (pss_cons (ps_set (i := 7) sc.nd rfl (by first | exact Or.inl rfl | exact Or.inr rfl) (pe_fldK (K := C.K) rfl (pv 2)))
      (pss_cons (ps_if (pt_cmpR (op_neK (K := C.K) rfl hr.units) (pe_callTy (call_listK (K := C.K) rfl) (by rfl) T.z_list (by decide +kernel) (pa_cons (pe_slice (sl_anyK (K := C.K) rfl) (pv 0) (po_some (pv 7)) (po_some (pe_op (op_addK (K := C.K) rfl) (pv 7) pe_int))) pa_nil)) (pe_callS G_crc_row (hr.mono (by decide)) (by rfl) T.g_crc_row T.F_crc_row.kp T.b_crc_row (fun σ => passAt TK σ) (pa_cons (pe_slice (sl_anyK (K := C.K) rfl) (pv 0) (po_some (pe_op (op_addK (K := C.K) rfl) (pv 1) pe_int)) (po_some (pv 7))) pa_nil)) (nomark _)) ((pss_one (ps_ret pe_non))) (pss_nil))
      (pss_one (ps_ret (pe_tup (pa_cons (pv 4) (pa_cons (pe_op (op_addK (K := C.K) rfl) (pv 7) pe_int) pa_nil))))))))))))), ?_⟩
  exact (ss_seq (ss_set (se_make (sa_cons se_var (sa_cons (se_op se_peek se_int so_addA) sa_nil))))
      (ss_seq (ss_if (sb_T (se_op (se_sl se_peek (sp_p se_peek) (sp_p (se_op se_peek se_int so_addA))) (se_cstL T.r_MARK_book) so_ne)) (ss_ret se_non) ss_next)
      (ss_seq (ss_set (se_meth se_peek (sa_cons se_int sa_nil)))
      (ss_seq (ss_set (se_lst sa_nil))
      (ss_seq (ss_if (sb_or (sb_tru (se_fld T.cl_Cursor T.n_Cursor_short se_peek)) (sb_T (se_op se_peek se_int so_gt))) (ss_ret se_non) ss_next)
      (ss_seq (ss_for (si_rng1 (sa_cons se_peek sa_nil)) sg_name (ss_seq (ss_set (se_call (sa_cons se_var sa_nil)))
      (ss_seq (ss_if (sb_or (sb_B (se_isN se_peek)) (sb_not (sb_tru (se_lend (sa_cons se_peek (sa_cons se_peek sa_nil)))))) (ss_ret se_non) ss_next)
      (ss_drop (se_bm se_peek (sa_cons se_var sa_nil) som_app)))))
      (ss_seq (ss_set (se_fld T.cl_Cursor T.n_Cursor_spot se_peek))
      (ss_seq (ss_if (sb_T (se_op (se_cb (sa_cons (se_sl se_peek (sp_p se_peek) (sp_p (se_op se_peek se_int so_addA))) sa_nil) soa_list) (se_call (sa_cons (se_sl se_peek (sp_p (se_op se_peek se_int so_addA)) (sp_p se_peek)) sa_nil)) so_ne)) (ss_ret se_non) ss_next)
      (ss_ret (se_tup (sa_cons se_var (sa_cons (se_op se_peek se_int so_addA) sa_nil))))))))))))
/-! ### books_in -/
abbrev s_books_in : Stmt := top 83
def ex_books_in_for1 : Ex := (exSeq (exSet 3 (evCall 2 sem_book_at (eaCons (evVar 0) (eaCons (evVar 2) eaNil))))
    (exIf (evT (ev1 fNotN (evPeek 3))) (exDrop (evMeth fApp (evPeek 1) (eaCons (evTup (eaCons (evVar 2) (eaCons (ev2 fIx (evPeek 3) (evC (.int 0))) eaNil))) eaNil))) exNext))
def ex_books_in : Ex := (exSeq (exSet 1 (evLst eaNil))
    (exSeq (exFor (eiRng1 (eaCons (evCB fLen (eaCons (evPeek 0) eaNil)) eaNil)) (gsName 2) ex_books_in_for1)
    (exRet (evTake 1))))
def sem_books_in : Sem0 := semDef 4 1 ex_books_in
theorem sc_books_in : FnScope ["row", "found", "place", "book"] ["row"] (defScope s_books_in) := ⟨rfl, rfl, rfl, by decide +kernel, rfl, by decide +kernel, by decide +kernel⟩
theorem ok_books_in {P : Program} {w : World} {C : MP.Ctx} {mg : Str → Option Value} {base : Heap} (T : Tx C mg) : FnOk P w C.K mg base (L2.CX P w) 5 T.a_books_in T.d_books_in ["row"] (spOf C 1 sem_books_in) := by
  have G_book_at := ok_book_at (P := P) (w := w) (base := base) T
  have sc := sc_books_in
  refine fn_ok T.F_books_in sc fun cdv A outer s H E hr => ?_
  have TK : Takes (cxOf (L2.CX P w) P w C.K mg base ["row", "found", "place", "book"] "books_in" (defScope s_books_in) T.a_books_in cdv A outer s H E) (fun cls d _ H => E cls d H) := takes_of rfl rfl rfl rfl
  refine ⟨_, (pss_cons (ps_set (i := 1) sc.nd rfl (by first | exact Or.inl rfl | exact Or.inr rfl) (pe_lst pa_nil))
      (pss_cons (ps_for (passes_of rfl) rfl (pi_range1 (by rfl) T.z_range (pa_cons (pe_callB (call_lenK (K := C.K) rfl) (by rfl) T.z_len (by decide +kernel) (pa_cons (pv 0) pa_nil)) pa_nil)) (pg_name (i := 2) sc.nd rfl (by first | exact Or.inl rfl | exact Or.inr rfl)) ((pss_cons (ps_set (i := 3) sc.nd rfl (by first | exact Or.inl rfl | exact Or.inr rfl) (pe_callS G_book_at (hr.mono (by decide)) (by rfl) T.g_book_at T.F_book_at.kp T.b_book_at (fun σ => passAt TK σ) (pa_cons (pv 0) (pa_cons (pv 2) pa_nil))))
      (pss_one (ps_if (pt_cmp (pc_notN (pv 3))) ((pss_one (ps_expr (pe_bmK (K := C.K) rfl PySem.F.plainAttrs_list PySem.F.slot_list_append PySem.F.type_list_append mt_append (pv 1) (pa_cons (pe_tup (pa_cons (pv 2) (pa_cons (pe_ix (ix_seqK (K := C.K) rfl) (pv 3) pe_int (fun _ _ => rfl)) pa_nil))) pa_nil))))) (pss_nil))))))
      (pss_one (ps_ret (pv 1))))), ?_⟩
  exact (ss_seq (ss_set (se_lst sa_nil))
      (ss_seq (ss_for (si_rng1 (sa_cons (se_cb (sa_cons se_peek sa_nil) soa_len) sa_nil)) sg_name (ss_seq (ss_set (se_call (sa_cons se_var (sa_cons se_var sa_nil))))
      (ss_if (sb_B (se_notN se_peek)) (ss_drop (se_bm se_peek (sa_cons (se_tup (sa_cons se_var (sa_cons (se_op se_peek se_int so_ix) sa_nil))) sa_nil) som_app)) ss_next)))
      (ss_ret se_take)))
/-! ### name_row -/
abbrev s_name_row : Stmt := top 14
def ex_name_row : Ex := (exRet (evLc (eiStr (evVar 0)) (gsName 1) evYes (ev2 fIx (evC (.tupK (k_NAME_BYTES.map D.int))) (evMethT fSIdx (evC (.str "-.0123456789abcdefghijklmnopqrstuvwxyz")) (eaCons (evPeek 1) eaNil))) [1]))
def sem_name_row : Sem0 := semDef 2 1 ex_name_row
theorem sc_name_row : FnScope ["name", "sign"] ["name"] (defScope s_name_row) := ⟨rfl, rfl, rfl, by decide +kernel, rfl, by decide +kernel, by decide +kernel⟩
theorem ok_name_row {P : Program} {w : World} {C : MP.Ctx} {mg : Str → Option Value} {base : Heap} (T : Tx C mg) : FnOk P w C.K mg base (L2.CX P w) 1 T.a_name_row T.d_name_row ["name"] (spOf C 1 sem_name_row) := by
  have sc := sc_name_row
  refine fn_ok T.F_name_row sc fun cdv A outer s H E hr => ?_
  refine ⟨_, (pss_one (ps_ret (pe_lc (own := [("sign", 1)]) (g := (gName 1)) rfl sc.nd (pi_str (pv 0)) (blkOk_by (own := [("sign", 1)]) (N := ["name", "sign"]) (sc := defScope s_name_row) (by decide +kernel)) (fun _ _ _ _ _ => (pg_name (i := 1) sc.nd rfl (by first | exact Or.inl rfl | exact Or.inr rfl))) (fun _ _ _ _ _ => pts_nil) (fun _ _ _ _ _ => (pe_ix (ix_seqK (K := C.K) rfl) (pe_glob (v := .ref T.A_NAME_BYTES) (by rfl) T.v_NAME_BYTES rfl) (pe_bmK (K := C.K) rfl PySem.F.plainAttrs_str PySem.F.slot_str_index PySem.F.type_str_index mt_sidx (pe_glob (v := .str "-.0123456789abcdefghijklmnopqrstuvwxyz") (by rfl) T.v_NAME_SIGNS ⟨_, rfl⟩) (pa_cons (pv 1) pa_nil)) (fun _ _ => rfl)))))), ?_⟩
  exact (ss_ret (se_lc (si_str se_var) sg_name (tg_name (by decide)) sb_yes (se_op (se_cstT T.r_NAME_BYTES) (se_bmT se_str (sa_cons se_peek sa_nil) som_sidx) so_ix)))
/-! ### number_row -/
abbrev s_number_row : Stmt := top 15
def ex_number_row : Ex := (exRet (evLc (eiRng1 (eaCons (evPeek 1) eaNil)) (gsName 2) evYes (ev2 fAnd (ev2 fShr (evPeek 0) (ev2 fMul (evC (.int 8)) (ev2 fSub (ev2 fSub (evPeek 1) (evC (.int 1))) (evPeek 2)))) (evC (.int 255))) [2]))
def sem_number_row : Sem0 := semDef 3 2 ex_number_row
theorem sc_number_row : FnScope ["number", "many", "k"] ["number", "many"] (defScope s_number_row) := ⟨rfl, rfl, rfl, by decide +kernel, rfl, by decide +kernel, by decide +kernel⟩
theorem ok_number_row {P : Program} {w : World} {C : MP.Ctx} {mg : Str → Option Value} {base : Heap} (T : Tx C mg) : FnOk P w C.K mg base (L2.CX P w) 1 T.a_number_row T.d_number_row ["number", "many"] (spOf C 2 sem_number_row) := by
  have sc := sc_number_row
  refine fn_ok T.F_number_row sc fun cdv A outer s H E hr => ?_
  refine ⟨_, (pss_one (ps_ret (pe_lc (own := [("k", 2)]) (g := (gName 2)) rfl sc.nd (pi_range1 (by rfl) T.z_range (pa_cons (pv 1) pa_nil)) (blkOk_by (own := [("k", 2)]) (N := ["number", "many", "k"]) (sc := defScope s_number_row) (by decide +kernel)) (fun _ _ _ _ _ => (pg_name (i := 2) sc.nd rfl (by first | exact Or.inl rfl | exact Or.inr rfl))) (fun _ _ _ _ _ => pts_nil) (fun _ _ _ _ _ => (pe_op op_and (pe_op op_shr (pv 0) (pe_op op_mul pe_int (pe_op op_sub (pe_op op_sub (pv 1) pe_int) (pv 2)))) pe_int))))), ?_⟩
  exact (ss_ret (se_lc (si_rng1 (sa_cons se_peek sa_nil)) sg_name (tg_name (by decide)) sb_yes (se_op (se_op se_peek (se_op se_int (se_op (se_op se_peek se_int so_sub) se_peek so_sub) so_mul) so_shr) se_int so_and)))
/-! ### entry_row -/
abbrev s_entry_row : Stmt := top 16
def ex_entry_row_for1 : Ex := (exDrop (evMeth fExt (evPeek 5) (eaCons (evCall 2 sem_number_row (eaCons (evVar 6) (eaCons (evC (.int 3)) eaNil))) eaNil)))
def ex_entry_row : Ex := (exSeq (exAsg (evVar 0) (gsTup 4 (gsCons (gsName 1) (gsCons (gsName 2) (gsCons (gsName 3) (gsCons (gsName 4) gsNil))))))
    (exSeq (exSet 5 (ev2 fAddA (ev2 fAddA (ev2 fAddA (evLst (eaCons (evVar 1) (eaCons (evCB fLen (eaCons (evPeek 2) eaNil)) eaNil))) (evCall 1 sem_name_row (eaCons (evVar 2) eaNil))) (evLst (eaCons (evCB fLen (eaCons (evPeek 4) eaNil)) eaNil))) (evCall 2 sem_number_row (eaCons (evVar 3) (eaCons (evC (.int 2)) eaNil)))))
    (exSeq (exFor (eiList (evVar 4)) (gsName 6) ex_entry_row_for1)
    (exRet (evTake 5)))))
def sem_entry_row : Sem0 := semDef 7 1 ex_entry_row
theorem sc_entry_row : FnScope ["entry", "text", "name", "length", "places", "row", "place"] ["entry"] (defScope s_entry_row) := ⟨rfl, rfl, rfl, by decide +kernel, rfl, by decide +kernel, by decide +kernel⟩
theorem ok_entry_row {P : Program} {w : World} {C : MP.Ctx} {mg : Str → Option Value} {base : Heap} (T : Tx C mg) : FnOk P w C.K mg base (L2.CX P w) 2 T.a_entry_row T.d_entry_row ["entry"] (spOf C 1 sem_entry_row) := by
  have G_name_row := ok_name_row (P := P) (w := w) (base := base) T
  have G_number_row := ok_number_row (P := P) (w := w) (base := base) T
  have sc := sc_entry_row
  refine fn_ok T.F_entry_row sc fun cdv A outer s H E hr => ?_
  have TK : Takes (cxOf (L2.CX P w) P w C.K mg base ["entry", "text", "name", "length", "places", "row", "place"] "entry_row" (defScope s_entry_row) T.a_entry_row cdv A outer s H E) (fun cls d _ H => E cls d H) := takes_of rfl rfl rfl rfl
  refine ⟨_, (pss_cons (ps_asg (pv 0) (pg_tup rfl (pgs_cons (pg_name (i := 1) sc.nd rfl (by first | exact Or.inl rfl | exact Or.inr rfl)) (pgs_cons (pg_name (i := 2) sc.nd rfl (by first | exact Or.inl rfl | exact Or.inr rfl)) (pgs_cons (pg_name (i := 3) sc.nd rfl (by first | exact Or.inl rfl | exact Or.inr rfl)) (pgs_cons (pg_name (i := 4) sc.nd rfl (by first | exact Or.inl rfl | exact Or.inr rfl)) pgs_nil))))))
      (pss_cons (ps_set (i := 5) sc.nd rfl (by first | exact Or.inl rfl | exact Or.inr rfl) (pe_op (op_addK (K := C.K) rfl) (pe_op (op_addK (K := C.K) rfl) (pe_op (op_addK (K := C.K) rfl) (pe_lst (pa_cons (pv 1) (pa_cons (pe_callB (call_lenK (K := C.K) rfl) (by rfl) T.z_len (by decide +kernel) (pa_cons (pv 2) pa_nil)) pa_nil))) (pe_callS G_name_row (hr.mono (by decide)) (by rfl) T.g_name_row T.F_name_row.kp T.b_name_row (fun σ => passAt TK σ) (pa_cons (pv 2) pa_nil))) (pe_lst (pa_cons (pe_callB (call_lenK (K := C.K) rfl) (by rfl) T.z_len (by decide +kernel) (pa_cons (pv 4) pa_nil)) pa_nil))) (pe_callS G_number_row (hr.mono (by decide)) (by rfl) T.g_number_row T.F_number_row.kp T.b_number_row (fun σ => passAt TK σ) (pa_cons (pv 3) (pa_cons pe_int pa_nil)))))
      (pss_cons (ps_for (passes_of rfl) rfl (pi_listK (K := C.K) rfl (pv 4)) (pg_name (i := 6) sc.nd rfl (by first | exact Or.inl rfl | exact Or.inr rfl)) ((pss_one (ps_expr (pe_bmK (K := C.K) rfl PySem.F.plainAttrs_list PySem.F.slot_list_extend PySem.F.type_list_extend mt_extend (pv 5) (pa_cons (pe_callS G_number_row (hr.mono (by decide)) (by rfl) T.g_number_row T.F_number_row.kp T.b_number_row (fun σ => passAt TK σ) (pa_cons (pv 6) (pa_cons pe_int pa_nil))) pa_nil))))))
      (pss_one (ps_ret (pv 5)))))), ?_⟩
  exact (ss_seq (ss_asg se_var (sg_tup (sgs_cons sg_name (sgs_cons sg_name (sgs_cons sg_name (sgs_cons sg_name sgs_nil))))))
      (ss_seq (ss_set (se_op (se_op (se_op (se_lst (sa_cons se_var (sa_cons (se_cb (sa_cons se_peek sa_nil) soa_len) sa_nil))) (se_call (sa_cons se_var sa_nil)) so_addA) (se_lst (sa_cons (se_cb (sa_cons se_peek sa_nil) soa_len) sa_nil)) so_addA) (se_call (sa_cons se_var (sa_cons se_int sa_nil))) so_addA))
      (ss_seq (ss_for (si_list se_var) sg_name (ss_drop (se_bm se_peek (sa_cons (se_call (sa_cons se_var (sa_cons se_int sa_nil))) sa_nil) som_ext)))
      (ss_ret se_take))))
/-! ### book_row -/
abbrev s_book_row : Stmt := top 17
def ex_book_row_for1 : Ex := (exDrop (evMeth fExt (evPeek 1) (eaCons (evCall 1 sem_entry_row (eaCons (evVar 2) eaNil)) eaNil)))
def ex_book_row : Ex := (exSeq (exSet 1 (evLst (eaCons (evCB fLen (eaCons (evPeek 0) eaNil)) eaNil)))
    (exSeq (exFor (eiList (evVar 0)) (gsName 2) ex_book_row_for1)
    (exRet (ev2 fAddA (ev2 fAddA (evC (.lstK (k_MARK_book.map D.int))) (evPeek 1)) (evCall 1 sem_crc_row (eaCons (evVar 1) eaNil))))))
def sem_book_row : Sem0 := semDef 3 1 ex_book_row
theorem sc_book_row : FnScope ["entries", "row", "entry"] ["entries"] (defScope s_book_row) := ⟨rfl, rfl, rfl, by decide +kernel, rfl, by decide +kernel, by decide +kernel⟩
theorem ok_book_row {P : Program} {w : World} {C : MP.Ctx} {mg : Str → Option Value} {base : Heap} (T : Tx C mg) : FnOk P w C.K mg base (L2.CX P w) 4 T.a_book_row T.d_book_row ["entries"] (spOf C 1 sem_book_row) := by
  have G_crc_row := ok_crc_row (P := P) (w := w) (base := base) T
  have G_entry_row := ok_entry_row (P := P) (w := w) (base := base) T
  have sc := sc_book_row
  refine fn_ok T.F_book_row sc fun cdv A outer s H E hr => ?_
  have TK : Takes (cxOf (L2.CX P w) P w C.K mg base ["entries", "row", "entry"] "book_row" (defScope s_book_row) T.a_book_row cdv A outer s H E) (fun cls d _ H => E cls d H) := takes_of rfl rfl rfl rfl
  refine ⟨_, (pss_cons (ps_set (i := 1) sc.nd rfl (by first | exact Or.inl rfl | exact Or.inr rfl) (pe_lst (pa_cons (pe_callB (call_lenK (K := C.K) rfl) (by rfl) T.z_len (by decide +kernel) (pa_cons (pv 0) pa_nil)) pa_nil)))
      (pss_cons (ps_for (passes_of rfl) rfl (pi_listK (K := C.K) rfl (pv 0)) (pg_name (i := 2) sc.nd rfl (by first | exact Or.inl rfl | exact Or.inr rfl)) ((pss_one (ps_expr (pe_bmK (K := C.K) rfl PySem.F.plainAttrs_list PySem.F.slot_list_extend PySem.F.type_list_extend mt_extend (pv 1) (pa_cons (pe_callS G_entry_row (hr.mono (by decide)) (by rfl) T.g_entry_row T.F_entry_row.kp T.b_entry_row (fun σ => passAt TK σ) (pa_cons (pv 2) pa_nil)) pa_nil))))))
      (pss_one (ps_ret (pe_op (op_addK (K := C.K) rfl) (pe_op (op_addK (K := C.K) rfl) (pe_glob (v := .ref T.A_MARK_book) (by rfl) T.v_MARK_book rfl) (pv 1)) (pe_callS G_crc_row (hr.mono (by decide)) (by rfl) T.g_crc_row T.F_crc_row.kp T.b_crc_row (fun σ => passAt TK σ) (pa_cons (pv 1) pa_nil))))))), ?_⟩
  exact (ss_seq (ss_set (se_lst (sa_cons (se_cb (sa_cons se_peek sa_nil) soa_len) sa_nil)))
      (ss_seq (ss_for (si_list se_var) sg_name (ss_drop (se_bm se_peek (sa_cons (se_call (sa_cons se_var sa_nil)) sa_nil) som_ext)))
      (ss_ret (se_op (se_op (se_cstL T.r_MARK_book) se_peek so_addA) (se_call (sa_cons se_var sa_nil)) so_addA))))
/-! ### law -/
abbrev s_law : Stmt := top 89
def ex_law : Ex := (exSeq (exSet 1 (evDisp (epCons (evC (.str "cell")) (evCall 2 sem__law_cell_at (eaCons (evVar 0) (eaCons (evC (.int 0)) eaNil))) (epCons (evC (.str "at")) (evC (.int 0)) epNil))))
    (exSeq (exSet 2 (ev2 fIx (evLst (eaCons (evCall 2 sem__law_draw (eaCons (evVar 1) (eaCons (evC (.int 40)) eaNil))) (eaCons (ev2 fAddA (evC (.int 65500)) (evCall 2 sem__law_draw (eaCons (evVar 1) (eaCons (evC (.int 200)) eaNil)))) eaNil))) (ev2 fDiv (evCall 2 sem__law_draw (eaCons (evVar 1) (eaCons (evC (.int 8)) eaNil))) (evC (.int 7)))))
    (exSeq (exSet 3 (evLc (eiRng1 (eaCons (evCall 2 sem__law_draw (eaCons (evVar 1) (eaCons (evC (.int 9)) eaNil))) eaNil)) (gsName 7) evYes (ev2 fAddA (evC (.int 1)) (evCall 2 sem__law_draw (eaCons (evVar 1) (eaCons (evC (.int 160)) eaNil)))) [7]))
    (exSeq (exSet 4 (evCall 2 sem__law_draw (eaCons (evVar 1) (eaCons (evC (.int 255)) eaNil))))
    (exSeq (exIf (evT (ev2 fEq (evCall 2 sem__law_draw (eaCons (evVar 1) (eaCons (evC (.int 2)) eaNil))) (evC (.int 0)))) (exSeq (exSet 5 (ev2 fAddA (ev2 fAddA (evRep (evLst (eaCons (evC (.int 0)) eaNil)) (evPeek 2)) (evCall 4 sem_piece_row (eaCons (evVar 4) (eaCons (evC (.int 7)) (eaCons (evCB fList (eaCons (evPeek 3) eaNil)) (eaCons (evC (.int 256)) eaNil)))))) (evRep (evLst (eaCons (evC (.int 0)) eaNil)) (evC (.int 9)))))
    (exRet (ev2 fEq (evCall 1 sem_pieces_in (eaCons (evVar 5) eaNil)) (evLst (eaCons (evTup (eaCons (evVar 2) (eaCons (evVar 4) (eaCons (evC (.int 7)) (eaCons (evVar 3) eaNil))))) eaNil))))) exNext)
    (exSeq (exSet 6 (evTup (eaCons (evVar 4) (eaCons (evSl (evC (.str "abc")) evN (evP (ev2 fAddA (evC (.int 1)) (evCall 2 sem__law_draw (eaCons (evVar 1) (eaCons (evC (.int 3)) eaNil)))))) (eaCons (evC (.int 5)) (eaCons (evLst (eaCons (evVar 2) eaNil)) eaNil))))))
    (exRet (ev2 fEq (evCall 1 sem_books_in (eaCons (ev2 fAddA (ev2 fAddA (evRep (evLst (eaCons (evC (.int 0)) eaNil)) (evPeek 2)) (evCall 1 sem_book_row (eaCons (evLst (eaCons (evVar 6) eaNil)) eaNil))) (evRep (evLst (eaCons (evC (.int 0)) eaNil)) (evC (.int 9)))) eaNil)) (evLst (eaCons (evTup (eaCons (evVar 2) (eaCons (evLst (eaCons (evVar 6) eaNil)) eaNil))) eaNil))))))))))
def sem_law : Sem0 := semDef 8 1 ex_law
theorem sc_law : FnScope ["script", "draw", "far", "text", "t", "row", "entry", "k"] ["script"] (defScope s_law) := ⟨rfl, rfl, rfl, by decide +kernel, rfl, by decide +kernel, by decide +kernel⟩
theorem ok_law {P : Program} {w : World} {C : MP.Ctx} {mg : Str → Option Value} {base : Heap} (T : Tx C mg) : FnOk P w C.K mg base (L2.CX P w) 6 T.a_law T.d_law ["script"] (spOf C 1 sem_law) := by
  have G__law_cell_at := ok__law_cell_at (P := P) (w := w) (base := base) T
  have G__law_draw := ok__law_draw (P := P) (w := w) (base := base) T
  have G_book_row := ok_book_row (P := P) (w := w) (base := base) T
  have G_books_in := ok_books_in (P := P) (w := w) (base := base) T
  have G_piece_row := ok_piece_row (P := P) (w := w) (base := base) T
  have G_pieces_in := ok_pieces_in (P := P) (w := w) (base := base) T
  have sc := sc_law
  refine fn_ok T.F_law sc fun cdv A outer s H E hr => ?_
  have TK : Takes (cxOf (L2.CX P w) P w C.K mg base ["script", "draw", "far", "text", "t", "row", "entry", "k"] "law" (defScope s_law) T.a_law cdv A outer s H E) (fun cls d _ H => E cls d H) := takes_of rfl rfl rfl rfl
  refine ⟨_, (pss_cons (ps_set (i := 1) sc.nd rfl (by first | exact Or.inl rfl | exact Or.inr rfl) (pe_disp (pps_cons pe_str (pe_callS G__law_cell_at (hr.mono (by decide)) (by rfl) T.g__law_cell_at T.F__law_cell_at.kp T.b__law_cell_at (fun σ => passAt TK σ) (pa_cons (pv 0) (pa_cons pe_int pa_nil))) (pps_cons pe_str pe_int pps_nil)) (by rfl) (by rfl) (fun z => by cases z) (by decide)))
      (pss_cons (ps_set (i := 2) sc.nd rfl (by first | exact Or.inl rfl | exact Or.inr rfl) (pe_ix (ix_seqK (K := C.K) rfl) (pe_lst (pa_cons (pe_callS G__law_draw (hr.mono (by decide)) (by rfl) T.g__law_draw T.F__law_draw.kp T.b__law_draw (fun σ => passAt TK σ) (pa_cons (pv 1) (pa_cons pe_int pa_nil))) (pa_cons (pe_op (op_addK (K := C.K) rfl) pe_int (pe_callS G__law_draw (hr.mono (by decide)) (by rfl) T.g__law_draw T.F__law_draw.kp T.b__law_draw (fun σ => passAt TK σ) (pa_cons (pv 1) (pa_cons pe_int pa_nil)))) pa_nil))) (pe_op op_fdiv (pe_callS G__law_draw (hr.mono (by decide)) (by rfl) T.g__law_draw T.F__law_draw.kp T.b__law_draw (fun σ => passAt TK σ) (pa_cons (pv 1) (pa_cons pe_int pa_nil))) pe_int) (fun _ _ => rfl)))
      (pss_cons (ps_setLc (i := 3) (own := [("k", 7)]) (g := (gName 7)) rfl sc.nd rfl rfl (sw_true rfl rfl rfl (by decide +kernel)) (pi_range1 (by rfl) T.z_range (pa_cons (pe_callS G__law_draw (hr.mono (by decide)) (by rfl) T.g__law_draw T.F__law_draw.kp T.b__law_draw (fun σ => passAt TK σ) (pa_cons (pv 1) (pa_cons pe_int pa_nil))) pa_nil)) (blkOk_by (own := [("k", 7)]) (N := ["script", "draw", "far", "text", "t", "row", "entry", "k"]) (sc := defScope s_law) (by decide +kernel)) (fun _ _ _ _ _ => (pg_name (i := 7) sc.nd rfl (by first | exact Or.inl rfl | exact Or.inr rfl))) (fun _ _ _ _ _ => pts_nil) (fun _ _ _ _ _ => (pe_op (op_addK (K := C.K) rfl) pe_int (pe_callS G__law_draw (hr.mono (by decide)) (by rfl) T.g__law_draw T.F__law_draw.kp T.b__law_draw (fun σ => passAt takes0 σ) (pa_cons (pv 1) (pa_cons pe_int pa_nil))))))
      (pss_cons (ps_set (i := 4) sc.nd rfl (by first | exact Or.inl rfl | exact Or.inr rfl) (pe_callS G__law_draw (hr.mono (by decide)) (by rfl) T.g__law_draw T.F__law_draw.kp T.b__law_draw (fun σ => passAt TK σ) (pa_cons (pv 1) (pa_cons pe_int pa_nil))))
      (pss_cons (ps_if (pt_cmpR (op_eqK (K := C.K) rfl hr.units) (pe_callS G__law_draw (hr.mono (by decide)) (by rfl) T.g__law_draw T.F__law_draw.kp T.b__law_draw (fun σ => passAt TK σ) (pa_cons (pv 1) (pa_cons pe_int pa_nil))) pe_int (nomark _)) ((pss_cons (ps_set (i := 5) sc.nd rfl (by first | exact Or.inl rfl | exact Or.inr rfl) (pe_op (op_addK (K := C.K) rfl) (pe_op (op_addK (K := C.K) rfl) (pe_op op_rep (pe_lst (pa_cons pe_int pa_nil)) (pv 2)) (pe_callS G_piece_row (hr.mono (by decide)) (by rfl) T.g_piece_row T.F_piece_row.kp T.b_piece_row (fun σ => passAt TK σ) (pa_cons (pv 4) (pa_cons pe_int (pa_cons (pe_callTy (call_listK (K := C.K) rfl) (by rfl) T.z_list (by decide +kernel) (pa_cons (pv 3) pa_nil)) (pa_cons pe_int pa_nil)))))) (pe_op op_rep (pe_lst (pa_cons pe_int pa_nil)) pe_int)))
      (pss_one (ps_ret (pe_cmpR (op_eqK (K := C.K) rfl hr.units) (pe_callS G_pieces_in (hr.mono (by decide)) (by rfl) T.g_pieces_in T.F_pieces_in.kp T.b_pieces_in (fun σ => passAt TK σ) (pa_cons (pv 5) pa_nil)) (pe_lst (pa_cons (pe_tup (pa_cons (pv 2) (pa_cons (pv 4) (pa_cons pe_int (pa_cons (pv 3) pa_nil))))) pa_nil)) (nomark _)))))) (pss_nil))
      (pss_cons (ps_set (i := 6) sc.nd rfl (by first | exact Or.inl rfl | exact Or.inr rfl) (pe_tup (pa_cons (pv 4) (pa_cons (pe_slice (sl_anyK (K := C.K) rfl) pe_str po_none (po_some (pe_op (op_addK (K := C.K) rfl) pe_int (pe_callS G__law_draw (hr.mono (by decide)) (by rfl) T.g__law_draw T.F__law_draw.kp T.b__law_draw (fun σ => passAt TK σ) (pa_cons (pv 1) (pa_cons pe_int pa_nil)))))) (pa_cons pe_int (pa_cons (pe_lst (pa_cons (pv 2) pa_nil)) pa_nil))))))
      (pss_one (ps_ret (pe_cmpR (op_eqK (K := C.K) rfl hr.units) (pe_callS G_books_in (hr.mono (by decide)) (by rfl) T.g_books_in T.F_books_in.kp T.b_books_in (fun σ => passAt TK σ) (pa_cons (pe_op (op_addK (K := C.K) rfl) (pe_op (op_addK (K := C.K) rfl) (pe_op op_rep (pe_lst (pa_cons pe_int pa_nil)) (pv 2)) (pe_callS G_book_row (hr.mono (by decide)) (by rfl) T.g_book_row T.F_book_row.kp T.b_book_row (fun σ => passAt TK σ) (pa_cons (pe_lst (pa_cons (pv 6) pa_nil)) pa_nil))) (pe_op op_rep (pe_lst (pa_cons pe_int pa_nil)) pe_int)) pa_nil)) (pe_lst (pa_cons (pe_tup (pa_cons (pv 2) (pa_cons (pe_lst (pa_cons (pv 6) pa_nil)) pa_nil))) pa_nil)) (nomark _)))))))))), ?_⟩
  exact (ss_seq (ss_set (se_disp (sps_cons se_str (se_call (sa_cons se_var (sa_cons se_int sa_nil))) (sps_cons se_str se_int sps_nil))))
      (ss_seq (ss_set (se_op (se_lst (sa_cons (se_call (sa_cons se_var (sa_cons se_int sa_nil))) (sa_cons (se_op se_int (se_call (sa_cons se_var (sa_cons se_int sa_nil))) so_addA) sa_nil))) (se_op (se_call (sa_cons se_var (sa_cons se_int sa_nil))) se_int so_div) so_ix))
      (ss_seq (ss_set (se_lc (si_rng1 (sa_cons (se_call (sa_cons se_var (sa_cons se_int sa_nil))) sa_nil)) sg_name (tg_name (by decide)) sb_yes (se_op se_int (se_call (sa_cons se_var (sa_cons se_int sa_nil))) so_addA)))
      (ss_seq (ss_set (se_call (sa_cons se_var (sa_cons se_int sa_nil))))
      (ss_seq (ss_if (sb_T (se_op (se_call (sa_cons se_var (sa_cons se_int sa_nil))) se_int so_eq)) (ss_seq (ss_set (se_op (se_op (se_rep (se_lst (sa_cons se_int sa_nil)) se_peek) (se_call (sa_cons se_var (sa_cons se_int (sa_cons (se_cb (sa_cons se_peek sa_nil) soa_list) (sa_cons se_int sa_nil))))) so_addA) (se_rep (se_lst (sa_cons se_int sa_nil)) se_int) so_addA))
      (ss_ret (se_op (se_call (sa_cons se_var sa_nil)) (se_lst (sa_cons (se_tup (sa_cons se_var (sa_cons se_var (sa_cons se_int (sa_cons se_var sa_nil))))) sa_nil)) so_eq))) ss_next)
      (ss_seq (ss_set (se_tup (sa_cons se_var (sa_cons (se_sl se_str sp_n (sp_p (se_op se_int (se_call (sa_cons se_var (sa_cons se_int sa_nil))) so_addA))) (sa_cons se_int (sa_cons (se_lst (sa_cons se_var sa_nil)) sa_nil))))))
      (ss_ret (se_op (se_call (sa_cons (se_op (se_op (se_rep (se_lst (sa_cons se_int sa_nil)) se_peek) (se_call (sa_cons (se_lst (sa_cons se_var sa_nil)) sa_nil)) so_addA) (se_rep (se_lst (sa_cons se_int sa_nil)) se_int) so_addA) sa_nil)) (se_lst (sa_cons (se_tup (sa_cons se_var (sa_cons (se_lst (sa_cons se_var sa_nil)) sa_nil))) sa_nil)) so_eq))))))))
end Wk75

set_option linter.all false
set_option maxRecDepth 100000
set_option maxHeartbeats 4000000
namespace Wk75
open PySem L2 MP
/-! ### sums -/
theorem andpp {x y : Int} (hx : 0 ≤ x) (hy : 0 ≤ y) : Builtin.bitAnd x y = ((x.toNat &&& y.toNat : Nat) : Int) := by
  unfold Builtin.bitAnd
  rw [decide_eq_true hx, decide_eq_true hy]
def stepN (n : Nat) : Nat := if n &&& 32768 ≠ 0 then ((n ^^^ 32768) * 2) ^^^ 4129 else n * 2
theorem stepN_lt {n : Nat} (h : n < 65536) : stepN n < 65536 := by
  unfold stepN
  split
  · have e : n ^^^ 32768 < 32768 := by
      refine Nat.lt_pow_two_of_testBit (n := 15) _ fun i hi => ?_
      rw [Nat.testBit_xor]
      have e2 : (32768 : Nat) = 2 ^ 15 := by decide
      by_cases h15 : i = 15
      · subst h15
        have t : n.testBit 15 = true := by
          rename_i hn
          rw [Nat.testBit_eq_decide_div_mod_eq]
          have hz : n / 2 ^ 15 % 2 ≠ 0 := fun q => hn (by
            rw [e2]
            have : n < 32768 := by omega
            refine Nat.eq_of_testBit_eq fun j => ?_
            rw [Nat.testBit_and, Nat.testBit_two_pow, Nat.zero_testBit]
            by_cases hj : 15 = j
            · subst hj
              rw [Nat.testBit_lt_two_pow (by omega)]
              rfl
            · simp [hj])
          have : n / 2 ^ 15 % 2 = 1 := by omega
          simp [this]
        rw [t, e2, Nat.testBit_two_pow_self]
        rfl
      · have hlt : n < 2 ^ i := Nat.lt_of_lt_of_le h (by
          have : 2 ^ 16 ≤ 2 ^ i := Nat.pow_le_pow_right (by decide) (by omega)
          simpa using this)
        rw [Nat.testBit_lt_two_pow hlt, e2, Nat.testBit_two_pow]
        simp
        omega
    exact Nat.xor_lt_two_pow (n := 16) (by omega) (by decide)
  · rename_i hn
    have hz : n &&& 32768 = 0 := by omega
    have e2 : (32768 : Nat) = 2 ^ 15 := by decide
    have t : n.testBit 15 = false := by
      have := congrArg (fun x => Nat.testBit x 15) hz
      simp only [Nat.testBit_and, Nat.zero_testBit] at this
      rw [e2, Nat.testBit_two_pow_self] at this
      simpa using this
    rw [Nat.testBit_eq_decide_div_mod_eq] at t
    have : ¬ (n / 2 ^ 15 % 2 = 1) := by simpa using t
    omega
def byteN (n b : Nat) : Nat := stepN (stepN (stepN (stepN (stepN (stepN (stepN (stepN (n ^^^ (b * 256)))))))))
theorem byteN_lt {n b : Nat} (h : n < 65536) (hb : b < 256) : byteN n b < 65536 := by
  unfold byteN
  repeat apply stepN_lt
  exact Nat.xor_lt_two_pow (n := 16) h (by omega)
def crcN (row : List Nat) : Nat := row.foldl byteN 65535
theorem fold_lt : ∀ (row : List Nat) (n : Nat), n < 65536 → (∀ b ∈ row, b < 256) → row.foldl byteN n < 65536
  | [], n, h, _ => h
  | b :: row, n, h, hb => fold_lt row _ (byteN_lt h (hb b List.mem_cons_self)) fun b h => hb b (List.mem_cons_of_mem _ h)
theorem crcN_lt {row : List Nat} (hb : ∀ b ∈ row, b < 256) : crcN row < 65536 := fold_lt row _ (by decide) hb
/-- a row of bytes, as data -/
abbrev bs (row : List Nat) : List D := row.map fun b => .int (b : Nat)
theorem xorN (a b : Nat) (m : MSt) : fXor (.int (a : Nat)) (.int (b : Nat)) m = some (.ok (.val (.int ((a ^^^ b : Nat) : Int))), m) := by
  rw [fXor_at, Bits.bitXor_pp (by omega) (by omega)]
  rfl
theorem andN (a b : Nat) (m : MSt) : fAnd (.int (a : Nat)) (.int (b : Nat)) m = some (.ok (.val (.int ((a &&& b : Nat) : Int))), m) := by
  rw [fAnd_at, andpp (by omega) (by omega)]
  rfl
theorem shlN (a k : Nat) (h1 : k ≤ 1000000) (h2 : a < 18446744073709551616) (m : MSt) : fShl (.int (a : Nat)) (.int (k : Nat)) m = some (.ok (.val (.int ((a * 2 ^ k : Nat) : Int))), m) := by
  rw [fShl_at (by omega) (by omega) (by omega)]
  have e : ((k : Nat) : Int).toNat = k := rfl
  rw [e]
  simp
theorem set_int {i : Nat} {a : Ev} {m m' : MSt} {v : Int} (h : a m = some (.ok (.val (.int v)), m')) : exSet i a m = some (.ok .nx, { m' with g := m'.g.set i (.d (.int v)) }) := by
  simp [h]
theorem step_eq {n : Nat} (h : n < 65536) {s0 s1 s3 s4 : Sl} {c : List Cell} : ex_crc_on_for1 ⟨[s0, s1, .d (.int (n : Nat)), s3, s4], c⟩ = some (.ok .nx, ⟨[s0, s1, .d (.int (stepN n : Nat)), s3, s4], c⟩) := by
  have a : ∀ m : MSt, fAnd (.int (n : Nat)) (.int 32768) m = _ := fun m => andN n 32768 m
  have b : ∀ m : MSt, fXor (.int (n : Nat)) (.int 32768) m = _ := fun m => xorN n 32768 m
  have x1 : (n ^^^ 32768) < 18446744073709551616 := Nat.lt_of_lt_of_le (Nat.xor_lt_two_pow (n := 16) h (by decide)) (by decide)
  have sh : ∀ m : MSt, fShl (.int ((n ^^^ 32768 : Nat) : Int)) (.int 1) m = _ := fun m => shlN (n ^^^ 32768) 1 (by decide) x1 m
  have sh2 : ∀ m : MSt, fShl (.int (n : Nat)) (.int 1) m = _ := fun m => shlN n 1 (by decide) (by omega) m
  have f : ∀ m : MSt, fXor (.int (((n ^^^ 32768) * 2 ^ 1 : Nat) : Int)) (.int 4129) m = _ := fun m => xorN ((n ^^^ 32768) * 2 ^ 1) 4129 m
  unfold ex_crc_on_for1 stepN
  by_cases q : n &&& 32768 = 0
  · rw [if_neg (by omega)]
    have q' : (((n &&& 32768 : Nat) : Int) != 0) = false := by rw [q]; rfl
    simp only [exIf, evTru, ev2_at, evPeek, List.getElem?_cons_succ, List.getElem?_cons_zero, bndO_val, evC_at, a, bnd_ok, q', Bool.false_eq_true, if_false]
    refine set_int (i := 2) (v := ((n * 2 : Nat) : Int)) (m := ⟨[s0, s1, .d (.int (n : Nat)), s3, s4], c⟩) (m' := ⟨[s0, s1, .d (.int (n : Nat)), s3, s4], c⟩) ?_
    simp only [ev2_at, evPeek, List.getElem?_cons_succ, List.getElem?_cons_zero, bndO_val, evC_at, sh2, Nat.pow_one]
  · rw [if_pos q]
    have q' : (((n &&& 32768 : Nat) : Int) != 0) = true := by
      have : ¬ (((n &&& 32768 : Nat) : Int) = 0) := by omega
      simpa using this
    simp only [exIf, evTru, ev2_at, evPeek, List.getElem?_cons_succ, List.getElem?_cons_zero, bndO_val, evC_at, a, bnd_ok, q', if_true]
    refine set_int (i := 2) (v := ((((n ^^^ 32768) * 2) ^^^ 4129 : Nat) : Int)) (m := ⟨[s0, s1, .d (.int (n : Nat)), s3, s4], c⟩) (m' := ⟨[s0, s1, .d (.int (n : Nat)), s3, s4], c⟩) ?_
    simp only [ev2_at, evPeek, List.getElem?_cons_succ, List.getElem?_cons_zero, bndO_val, evC_at, b, sh, f, Nat.pow_one]
theorem byte_eq {n b : Nat} (h : n < 65536) (hb : b < 256) {s0 s1 s4 : Sl} {c : List Cell} : ∃ s4', ex_crc_on_for2 ⟨[s0, s1, .d (.int (n : Nat)), .d (.int (b : Nat)), s4], c⟩ = some (.ok .nx, ⟨[s0, s1, .d (.int (byteN n b : Nat)), .d (.int (b : Nat)), s4'], c⟩) := by
  have sh : ∀ m : MSt, fShl (.int (b : Nat)) (.int 8) m = _ := fun m => shlN b 8 (by decide) (by omega) m
  have f := fun m => xorN n (b * 2 ^ 8) m
  have h0 : n ^^^ (b * 256) < 65536 := Nat.xor_lt_two_pow (n := 16) h (by omega)
  refine ⟨.d (.int 7), ?_⟩
  unfold ex_crc_on_for2
  have e0 : ev2 fXor (evPeek 2) (ev2 fShl (evPeek 3) (evC (.int 8))) ⟨[s0, s1, .d (.int (n : Nat)), .d (.int (b : Nat)), s4], c⟩ = some (.ok (.val (.int ((n ^^^ (b * 256) : Nat) : Int))), ⟨[s0, s1, .d (.int (n : Nat)), .d (.int (b : Nat)), s4], c⟩) := by
    simp only [ev2_at, evPeek, List.getElem?_cons_succ, List.getElem?_cons_zero, bndO_val, evC_at, sh, f]
  rw [seq_nx (m' := ⟨[s0, s1, .d (.int (n ^^^ (b * 256) : Nat)), .d (.int (b : Nat)), s4], c⟩) (set_int (i := 2) e0)]
  have c8 : c62 8 = true := by decide
  have r8 : rngL 0 (8 : Int).toNat = [.int 0, .int 1, .int 2, .int 3, .int 4, .int 5, .int 6, .int 7] := rfl
  simp only [exFor, eiRng1_at, eaCons, eaNil, evC_at, bndO_val, bnd_ok, fRng1_at c8, r8]
  have l1 := stepN_lt h0
  have l2 := stepN_lt l1
  have l3 := stepN_lt l2
  have l4 := stepN_lt l3
  have l5 := stepN_lt l4
  have l6 := stepN_lt l5
  have l7 := stepN_lt l6
  simp only [loopFor, gsName, List.set, step_eq h0, step_eq l1, step_eq l2, step_eq l3, step_eq l4, step_eq l5, step_eq l6, step_eq l7]
  rfl
theorem crc_loop {row : List Nat} (hb : ∀ b ∈ row, b < 256) : ∀ (n : Nat), n < 65536 → ∀ (s0 s1 s3 s4 : Sl) (c : List Cell), ∃ s3' s4', loopFor (gsName 3) ex_crc_on_for2 (bs row) ⟨[s0, s1, .d (.int (n : Nat)), s3, s4], c⟩ = some (.ok .nx, ⟨[s0, s1, .d (.int (row.foldl byteN n : Nat)), s3', s4'], c⟩) := by
  induction row with
  | nil => exact fun n _ s0 s1 s3 s4 c => ⟨s3, s4, rfl⟩
  | cons b row ih =>
    intro n h s0 s1 s3 s4 c
    have hb0 := hb b List.mem_cons_self
    obtain ⟨s4', e⟩ := byte_eq (s0 := s0) (s1 := s1) (s4 := s4) (c := c) h hb0
    obtain ⟨a1, a2, e2⟩ := ih (fun b h => hb b (List.mem_cons_of_mem _ h)) _ (byteN_lt h hb0) s0 s1 (.d (.int (b : Nat))) s4' c
    refine ⟨a1, a2, ?_⟩
    simp only [bs, List.map_cons, loopFor, gsName, List.set, e]
    exact e2
theorem crc_eq {row : List Nat} (hb : ∀ b ∈ row, b < 256) (c : List Cell) : sem_crc [.lst (bs row)] c = some (.ok (.val (.int (crcN row : Nat))), c) := by
  obtain ⟨a1, a2, L⟩ := crc_loop hb 65535 (by decide) (.d (.int 65535)) (.d (.lst (bs row))) .u .u c
  have e : sem_crc_on [.int 65535, .lst (bs row)] c = some (.ok (.val (.int (crcN row : Nat))), c) := by
    unfold sem_crc_on
    refine sem_rt (args := [.int 65535, .lst (bs row)]) (m := ⟨[.d (.int 65535), .d (.lst (bs row)), .d (.int (crcN row : Nat)), a1, a2], c⟩) (N := 5) (n := 2) rfl ?_
    show ex_crc_on ⟨[.d (.int 65535), .d (.lst (bs row)), .u, .u, .u], c⟩ = _
    unfold ex_crc_on
    rw [seq_nx (m' := ⟨[.d (.int 65535), .d (.lst (bs row)), .d (.int 65535), .u, .u], c⟩) (by simp)]
    rw [seq_nx (m' := ⟨[.d (.int 65535), .d (.lst (bs row)), .d (.int (crcN row : Nat)), a1, a2], c⟩) (by
      simp only [exFor, eiList, evVar, List.getElem?_cons_succ, List.getElem?_cons_zero, bndD_val, solid_lst, if_true, bnd_ok]
      exact L)]
    simp [evTake]
  simp [sem_crc, ex_crc, e]
/-- the two bytes of the sum -/
def sumB (row : List Nat) : List Nat := [crcN row / 256, crcN row % 256]
theorem crc_row_eq {row : List Nat} (hb : ∀ b ∈ row, b < 256) (c : List Cell) : sem_crc_row [.lst (bs row)] c = some (.ok (.own (bs (sumB row))), c) := by
  have e := crc_eq hb c
  have a := andpp (x := (crcN row : Nat)) (y := 255) (by omega) (by decide)
  have e1 : ((crcN row : Nat) : Int).toNat = crcN row := rfl
  have e2 : (255 : Int).toNat = 255 := rfl
  have e3 : crcN row &&& 255 = crcN row % 256 := Nat.and_two_pow_sub_one_eq_mod (crcN row) 8
  rw [e1, e2, e3] at a
  have p8 : (2 : Int) ^ (8 : Int).toNat = 256 := by decide
  have z2 : szOk 2 = true := rfl
  unfold sem_crc_row
  refine sem_rt (args := [.lst (bs row)]) (m := ⟨[.d (.lst (bs row)), .d (.int (crcN row : Nat))], c⟩) (N := 2) (n := 1) rfl ?_
  show ex_crc_row ⟨[.d (.lst (bs row)), .u], c⟩ = _
  unfold ex_crc_row
  rw [seq_nx (m' := ⟨[.d (.lst (bs row)), .d (.int (crcN row : Nat))], c⟩) (by simp [e])]
  have sh : ∀ m : MSt, fShr (.int (crcN row : Nat)) (.int 8) m = some (.ok (.val (.int ((crcN row / 256 : Nat) : Int))), m) := fun m => by
    rw [fShr_at (by decide), p8]
    congr
  simp [sh, a, sumB]
/-! ### rows, cut and compared -/
theorem cut_bs (row : List Nat) (p q : Nat) : cutD (bs row) (some (p : Int)) (some (q : Int)) = bs ((row.drop p).take (q - p)) := by
  unfold cutD
  rw [HT.sIx_nat, HT.sIx_nat, List.length_map, bs, bs, List.map_take, List.map_drop]
  by_cases h : p ≤ row.length
  · rw [Nat.min_eq_left h]
    by_cases h2 : q ≤ row.length
    · rw [Nat.min_eq_left h2]
    · rw [Nat.min_eq_right (by omega)]
      rw [List.take_of_length_le (i := q - p) (by rw [List.length_drop, List.length_map]; omega), List.take_of_length_le (by rw [List.length_drop, List.length_map]; omega)]
  · have z1 : min p row.length = row.length := Nat.min_eq_right (by omega)
    rw [z1, List.drop_of_length_le (i := row.length) (by rw [List.length_map]; omega), List.drop_of_length_le (i := p) (by rw [List.length_map]; omega)]
    simp
theorem cut_pre (row : List Nat) (q : Nat) : cutD (bs row) none (some (q : Int)) = bs (row.take q) := by
  unfold cutD
  rw [HT.sIx_nat, HT.sIx_none, List.length_map, bs, bs, List.map_take]
  simp
theorem okDs_bs (n : Nat) (row : List Nat) : okDs n (bs row) = true := by
  induction row with
  | nil => exact okDs_nil n
  | cons a l ih => simp only [bs, List.map_cons, okDs_cons]; rw [show okDs n (List.map (fun b => D.int (b : Nat)) l) = true from ih]; simp
theorem eqv_bs : ∀ a b : List Nat, PyData.eqvAll (pyDs (bs a)) (pyDs (bs b)) = decide (a = b)
  | [], [] => by simp [PyData.eqvAll]
  | [], y :: b => by simp [PyData.eqvAll]
  | x :: a, [] => by simp [PyData.eqvAll]
  | x :: a, y :: b => by
    have ih := eqv_bs a b
    simp only [bs, List.map_cons, pyDs_cons, PyData.eqvAll]
    rw [show PyData.eqvAll (pyDs (List.map (fun b => D.int (b : Nat)) a)) (pyDs (List.map (fun b => D.int (b : Nat)) b)) = decide (a = b) from ih]
    simp [pyD, PyData.eqv]
    by_cases h : x = y
    · simp [h]
    · have : ¬ ((x : Int) = (y : Int)) := by omega
      simp [h, this]
theorem ne_bs (a b : List Nat) (m : MSt) : fNe (.lst (bs a)) (.lst (bs b)) m = some (.ok (.val (.bl (!decide (a = b)))), m) := by
  unfold fNe eqB
  simp only [topD_lst, okD_lst60, okDs_bs, Bool.and_self, if_true, pyD_lst, PyData.eqv, eqv_bs]
theorem ne_bsK (a b : List Nat) (m : MSt) : fNe (.lst (bs a)) (.lstK (bs b)) m = some (.ok (.val (.bl (!decide (a = b)))), m) := by
  unfold fNe eqB
  have t : topD m (.lstK (bs b)) = .lst (bs b) := rfl
  simp only [topD_lst, t, okD_lst60, okDs_bs, Bool.and_self, if_true, pyD_lst, PyData.eqv, eqv_bs]
theorem mark_eq : k_MARK_pieces.map D.int = bs [165, 90] := rfl
theorem at_bs {row : List Nat} {i : Nat} {b : Nat} (h : row[i]? = some b) : atD (bs row) (i : Int) = some (.int (b : Nat)) := by
  have hl := (List.getElem?_eq_some_iff.mp h).1
  rw [atD_nat (by omega) (by simpa using hl)]
  simp [bs, h]
/-! ### a piece -/
theorem piece_no {row : List Nat} {p : Nat} (h : row[p]? ≠ some 165 ∨ row[p + 1]? ≠ some 90) (c : List Cell) : sem_piece_at [.lst (bs row), .int (p : Nat)] c = some (.ok (.val .non), c) := by
  have e1 := cut_bs row p (p + 6)
  have e1' : cutD (bs row) (some (p : Int)) (some ((p : Int) + 6)) = bs ((row.drop p).take 6) := by
    have e : ((p + 6 : Nat) : Int) = (p : Int) + 6 := by omega
    rw [← e, e1, Nat.add_sub_cancel_left]
  have e2 := cut_pre ((row.drop p).take 6) 2
  have e2' : cutD (bs ((row.drop p).take 6)) none (some 2) = bs (((row.drop p).take 6).take 2) := e2
  have ne : ∀ m : MSt, fNe (.lst (bs (((row.drop p).take 6).take 2))) (.lstK (k_MARK_pieces.map D.int)) m = some (.ok (.val (.bl true)), m) := fun m => by
    rw [mark_eq, ne_bsK]
    have : ¬ (((row.drop p).take 6).take 2 = [165, 90]) := fun q => by
      rw [List.take_take] at q
      have a0 := congrArg (fun l => l[0]?) q
      have a1 := congrArg (fun l => l[1]?) q
      simp at a0 a1
      rcases h with h | h
      · exact h (by simpa using a0)
      · exact h (by simpa using a1)
    simp [this]
  unfold sem_piece_at
  refine sem_rt (args := [.lst (bs row), .int (p : Nat)]) (m := ⟨[.d (.lst (bs row)), .d (.int (p : Nat)), .own (bs ((row.drop p).take 6)), .u, .u, .u], c⟩) (N := 6) (n := 2) rfl ?_
  show ex_piece_at ⟨[.d (.lst (bs row)), .d (.int (p : Nat)), .u, .u, .u, .u], c⟩ = _
  unfold ex_piece_at
  rw [seq_nx (m' := ⟨[.d (.lst (bs row)), .d (.int (p : Nat)), .own (bs ((row.drop p).take 6)), .u, .u, .u], c⟩) (by
    simp [evP, e1', -List.map_take, -List.map_drop])]
  rw [seq_rt (v := .val .non) (m' := ⟨[.d (.lst (bs row)), .d (.int (p : Nat)), .own (bs ((row.drop p).take 6)), .u, .u, .u], c⟩) (by
    by_cases hl : ((((row.drop p).take 6).length : Nat) : Int) < 6
    · simp [-List.map_take, -List.map_drop, -List.length_take, -List.length_drop, hl]
    · simp [evP, evN, -List.map_take, -List.map_drop, -List.length_take, -List.length_drop, hl, e2', ne])]
theorem piece_yes {row told tail : List Nat} {p t num : Nat} (hd : row.drop p = [165, 90, 0, t, num, told.length] ++ (told ++ tail)) (ht : t ≤ 254) (hn : num ≤ 254) (hb : ∀ b ∈ row, b < 256) (c : List Cell) :
    sem_piece_at [.lst (bs row), .int (p : Nat)] c = some (.ok (.val (if tail.take 2 = sumB ([0, t, num, told.length] ++ told) then .tup [.int 0, .int (t : Nat), .int (num : Nat), .lst (bs told), .int ((p + 6 + told.length + 2 : Nat) : Int)] else .non)), c) := by
  have hlen : row.length = p + (6 + (told.length + tail.length)) := by
    have := congrArg List.length hd
    rw [List.length_drop] at this
    simp at this
    omega
  have hh : (row.drop p).take 6 = [165, 90, 0, t, num, told.length] := by rw [hd]; rfl
  have d6 : row.drop (p + 6) = told ++ tail := by rw [← List.drop_drop, hd]; rfl
  have e1 : cutD (bs row) (some (p : Int)) (some ((p : Int) + 6)) = bs [165, 90, 0, t, num, told.length] := by
    have e : ((p + 6 : Nat) : Int) = (p : Int) + 6 := by omega
    rw [← e, cut_bs, Nat.add_sub_cancel_left, hh]
  have e2 : cutD (bs [165, 90, 0, t, num, told.length]) none (some 2) = bs [165, 90] := cut_pre [165, 90, 0, t, num, told.length] 2
  have ne : ∀ m : MSt, fNe (.lst (bs [165, 90])) (.lstK (k_MARK_pieces.map D.int)) m = some (.ok (.val (.bl false)), m) := fun m => by
    rw [mark_eq, ne_bsK]
    rfl
  have i2 : atD (bs [165, 90, 0, t, num, told.length]) 2 = some (.int 0) := rfl
  have i3 : atD (bs [165, 90, 0, t, num, told.length]) 3 = some (.int (t : Nat)) := rfl
  have i4 : atD (bs [165, 90, 0, t, num, told.length]) 4 = some (.int (num : Nat)) := rfl
  have i5 : atD (bs [165, 90, 0, t, num, told.length]) 5 = some (.int (told.length : Nat)) := rfl
  have body : sem_body_at [.lst (bs row), .int ((p : Int) + 6), .int 0, .int (told.length : Nat)] c = some (.ok (.val (.tup [.lst (bs told), .int ((p : Int) + 6 + (told.length : Nat))])), c) := by
    have e3 : cutD (bs row) (some ((p : Int) + 6)) (some ((p : Int) + 6 + (told.length : Nat))) = bs told := by
      have e : ((p + 6 : Nat) : Int) = (p : Int) + 6 := by omega
      have e' : ((p + 6 + told.length : Nat) : Int) = (p : Int) + 6 + (told.length : Nat) := by omega
      rw [← e', ← e, cut_bs, Nat.add_sub_cancel_left, d6, List.take_left]
    have l1 : ¬ ((row.length : Int) < (p : Int) + 6 + (told.length : Nat)) := by omega
    simp [sem_body_at, ex_body_at, l1, evP, e3, -List.map_take, -List.map_drop]
  have e4 : cutD (bs row) (some ((p : Int) + 6 + (told.length : Nat))) (some ((p : Int) + 6 + (told.length : Nat) + 2)) = bs (tail.take 2) := by
    have e' : ((p + 6 + told.length : Nat) : Int) = (p : Int) + 6 + (told.length : Nat) := by omega
    have e'' : ((p + 6 + told.length + 2 : Nat) : Int) = (p : Int) + 6 + (told.length : Nat) + 2 := by omega
    rw [← e'', ← e', cut_bs, Nat.add_sub_cancel_left, ← List.drop_drop, d6, List.drop_left]
  have e5 : cutD (bs row) (some ((p : Int) + 2)) (some ((p : Int) + 6 + (told.length : Nat))) = bs ([0, t, num, told.length] ++ told) := by
    have e' : ((p + 6 + told.length : Nat) : Int) = (p : Int) + 6 + (told.length : Nat) := by omega
    have e'' : ((p + 2 : Nat) : Int) = (p : Int) + 2 := by omega
    rw [← e'', ← e', cut_bs, ← List.drop_drop, hd]
    have e6 : p + 6 + told.length - (p + 2) = 4 + told.length := by omega
    rw [e6]
    show bs (([0, t, num, told.length] ++ (told ++ tail)).take (4 + told.length)) = _
    rw [← List.append_assoc, List.take_left' (by simp; omega)]
  have hb2 : ∀ b ∈ [0, t, num, told.length] ++ told, b < 256 := fun b hm => hb b (List.mem_of_mem_drop (by
    rw [hd]
    show b ∈ [165, 90] ++ ([0, t, num, told.length] ++ (told ++ tail))
    rw [← List.append_assoc [0, t, num, told.length]]
    exact List.mem_append_right _ (List.mem_append_left _ hm) : b ∈ row.drop p))
  have cr := crc_row_eq hb2 c
  have nq := fun m => ne_bs (tail.take 2) (sumB ([0, t, num, told.length] ++ told)) m
  generalize [0, t, num, told.length] ++ told = w at e5 cr nq hb2 ⊢
  have t1 : ¬ (254 < (t : Int)) := by omega
  have t2 : ¬ (254 < (num : Int)) := by omega
  unfold sem_piece_at
  refine sem_rt (args := [.lst (bs row), .int (p : Nat)]) (m := ⟨[.d (.lst (bs row)), .d (.int (p : Nat)), .own (bs [165, 90, 0, t, num, told.length]), .d (.tup [.lst (bs told), .int ((p : Int) + 6 + (told.length : Nat))]), .d (.lst (bs told)), .d (.int ((p : Int) + 6 + (told.length : Nat)))], c⟩) (N := 6) (n := 2) rfl ?_
  show ex_piece_at ⟨[.d (.lst (bs row)), .d (.int (p : Nat)), .u, .u, .u, .u], c⟩ = _
  unfold ex_piece_at
  rw [seq_nx (m' := ⟨[.d (.lst (bs row)), .d (.int (p : Nat)), .own (bs [165, 90, 0, t, num, told.length]), .u, .u, .u], c⟩) (by
    simp [evP, e1, -List.map_take, -List.map_drop, -List.map_cons, -List.map_nil])]
  rw [seq_nx (m' := ⟨[.d (.lst (bs row)), .d (.int (p : Nat)), .own (bs [165, 90, 0, t, num, told.length]), .u, .u, .u], c⟩) (by
    simp [evP, evN, e2, ne, i3, i4, t1, t2, -List.map_take, -List.map_drop, -List.map_cons, -List.map_nil])]
  rw [seq_nx (m' := ⟨[.d (.lst (bs row)), .d (.int (p : Nat)), .own (bs [165, 90, 0, t, num, told.length]), .d (.tup [.lst (bs told), .int ((p : Int) + 6 + (told.length : Nat))]), .u, .u], c⟩) (by
    simp [i2, i5, body, -List.map_take, -List.map_drop, -List.map_cons, -List.map_nil])]
  rw [seq_nx (m' := ⟨[.d (.lst (bs row)), .d (.int (p : Nat)), .own (bs [165, 90, 0, t, num, told.length]), .d (.tup [.lst (bs told), .int ((p : Int) + 6 + (told.length : Nat))]), .u, .u], c⟩) (by simp)]
  rw [seq_nx (m' := ⟨[.d (.lst (bs row)), .d (.int (p : Nat)), .own (bs [165, 90, 0, t, num, told.length]), .d (.tup [.lst (bs told), .int ((p : Int) + 6 + (told.length : Nat))]), .d (.lst (bs told)), .d (.int ((p : Int) + 6 + (told.length : Nat)))], c⟩) (by simp)]
  by_cases hs : tail.take 2 = sumB w
  · rw [if_pos hs]
    have nq' := fun m => ne_bs (sumB w) (sumB w) m
    rw [seq_nx (m' := ⟨[.d (.lst (bs row)), .d (.int (p : Nat)), .own (bs [165, 90, 0, t, num, told.length]), .d (.tup [.lst (bs told), .int ((p : Int) + 6 + (told.length : Nat))]), .d (.lst (bs told)), .d (.int ((p : Int) + 6 + (told.length : Nat)))], c⟩) (by
      simp [evP, e4, e5, cr, nq, nq', hs, -List.map_take, -List.map_drop, -List.map_cons, -List.map_nil, -List.map_append, -List.cons_append, -List.nil_append])]
    have ep : ((p + 6 + told.length + 2 : Nat) : Int) = (p : Int) + 6 + (told.length : Nat) + 2 := by omega
    rw [ep]
    simp [i2, i3, i4, -List.map_take, -List.map_drop, -List.map_cons, -List.map_nil]
  · rw [if_neg hs]
    rw [seq_rt (v := .val .non) (m' := ⟨[.d (.lst (bs row)), .d (.int (p : Nat)), .own (bs [165, 90, 0, t, num, told.length]), .d (.tup [.lst (bs told), .int ((p : Int) + 6 + (told.length : Nat))]), .d (.lst (bs told)), .d (.int ((p : Int) + 6 + (told.length : Nat)))], c⟩) (by
      simp [evP, e4, e5, cr, nq, hs, -List.map_take, -List.map_drop, -List.map_cons, -List.map_nil, -List.map_append, -List.cons_append, -List.nil_append])]
/-! ### all pieces -/
theorem pieces_loop {row : List Nat} {far : Nat} {x1 x2 x3 : Int} {told : List Nat} {c : List Cell} (hz : row.length ≤ 1000000) {c1 : Nat} (hf : far < row.length)
    (hno : ∀ p, p < row.length → p ≠ far → sem_piece_at [.lst (bs row), .int (p : Nat)] c = some (.ok (.val .non), c))
    (hy : sem_piece_at [.lst (bs row), .int (far : Nat)] c = some (.ok (.val (.tup [.int 0, .int x1, .int x2, .lst (bs told), .int x3])), c)) :
    sem_pieces_in [.lst (bs row)] c = some (.ok (.own [.tup [.int (far : Nat), .int x1, .int x2, .lst (bs told)]]), c) := by
  obtain ⟨m', L, s2, s3, s4, s5, s6, s7, s8, hm⟩ := loopFor_inv (g := gsName 2) (b := ex_pieces_in_for1) (fun i m => ∃ s2 s3 s4 s5 s6 s7 s8, m = ⟨[.d (.lst (bs row)), .own (if i ≤ far then [] else [.tup [.int (far : Nat), .int x1, .int x2, .lst (bs told)]]), s2, s3, s4, s5, s6, s7, s8], c⟩)
    (items := rngL 0 row.length) (by
      intro i d m hi ⟨s2, s3, s4, s5, s6, s7, s8, hm⟩
      subst hm
      obtain ⟨i1, i2⟩ := rngL_get hi
      rw [Int.zero_add] at i2
      subst i2
      by_cases h : i = far
      · subst h
        refine ⟨_, ⟨[.d (.lst (bs row)), .own [.tup [.int (i : Nat), .int x1, .int x2, .lst (bs told)]], .d (.int (i : Nat)), .d (.tup [.int 0, .int x1, .int x2, .lst (bs told), .int x3]), .d (.int 0), .d (.int x1), .d (.int x2), .d (.lst (bs told)), .d (.int x3)], c⟩, rfl, .inl ?_, ?_⟩
        · rw [if_pos (Nat.le_refl _)]
          simp [ex_pieces_in_for1, hy]
        · rw [if_neg (by omega)]
          exact ⟨_, _, _, _, _, _, _, rfl⟩
      · have e := hno i i1 h
        refine ⟨_, ⟨[.d (.lst (bs row)), .own (if i ≤ far then [] else [.tup [.int (far : Nat), .int x1, .int x2, .lst (bs told)]]), .d (.int (i : Nat)), .d .non, s4, s5, s6, s7, s8], c⟩, rfl, .inl ?_, ?_⟩
        · simp [ex_pieces_in_for1, e]
        · have e2 : (if i + 1 ≤ far then ([] : List D) else [.tup [.int (far : Nat), .int x1, .int x2, .lst (bs told)]]) = if i ≤ far then [] else [.tup [.int (far : Nat), .int x1, .int x2, .lst (bs told)]] := by
            by_cases q : i ≤ far
            · rw [if_pos q, if_pos (by omega)]
            · rw [if_neg q, if_neg (by omega)]
          rw [e2]
          exact ⟨_, _, _, _, _, _, _, rfl⟩) (m := ⟨[.d (.lst (bs row)), .own [], .u, .u, .u, .u, .u, .u, .u], c⟩) (by
      rw [if_pos (Nat.zero_le _)]
      exact ⟨_, _, _, _, _, _, _, rfl⟩)
  rw [rngL_len, if_neg (by omega)] at hm
  subst hm
  have c62' : c62 (row.length : Int) = true := c62_of (by omega) (by omega)
  unfold sem_pieces_in
  refine sem_rt (args := [.lst (bs row)]) (m := ⟨[.d (.lst (bs row)), .u, s2, s3, s4, s5, s6, s7, s8], c⟩) (N := 9) (n := 1) rfl ?_
  show ex_pieces_in ⟨[.d (.lst (bs row)), .u, .u, .u, .u, .u, .u, .u, .u], c⟩ = _
  unfold ex_pieces_in
  rw [seq_nx (m' := ⟨[.d (.lst (bs row)), .own [], .u, .u, .u, .u, .u, .u, .u], c⟩) (by simp)]
  rw [seq_nx (m' := ⟨[.d (.lst (bs row)), .own [.tup [.int (far : Nat), .int x1, .int x2, .lst (bs told)]], s2, s3, s4, s5, s6, s7, s8], c⟩) (by
    simp [c62']
    exact L)]
  simp [evTake]
/-- the row of a piece -/
def pieceB (t num : Nat) (text : List Nat) : List Nat := [165, 90] ++ ([0, t, num, text.length] ++ text) ++ sumB ([0, t, num, text.length] ++ text)
theorem piece_row_eq {t num : Nat} {text : List Nat} (hl : text.length ≤ 17) (ht : t ≤ 254) (hn : num ≤ 254) (hb : ∀ b ∈ text, b < 256) (c : List Cell) : sem_piece_row [.int (t : Nat), .int (num : Nat), .lst (bs text), .int 256] c = some (.ok (.own (bs (pieceB t num text))), c) := by
  have l1 : ¬ (17 < (text.length : Int)) := by omega
  have e1 : sem_body_of [.lst (bs text), .int 256] c = some (.ok (.val (.tup [.int 0, .lst (bs text)])), c) := by
    simp [sem_body_of, ex_body_of, l1]
  have hb2 : ∀ b ∈ [0, t, num, text.length] ++ text, b < 256 := by
    intro b hm
    rcases List.mem_append.mp hm with hm | hm
    · simp at hm
      rcases hm with rfl | rfl | rfl | rfl <;> omega
    · exact hb b hm
  have cr := crc_row_eq hb2 c
  have ew : bs [0, t, num, text.length] ++ bs text = bs ([0, t, num, text.length] ++ text) := by rw [bs, bs, bs, List.map_append]
  have z1 : szOk (4 + text.length) = true := szOk_of (by omega)
  have hw : ([0, t, num, text.length] ++ text).length = 4 + text.length := by simp; omega
  unfold sem_piece_row
  refine sem_rt (args := [.int (t : Nat), .int (num : Nat), .lst (bs text), .int 256]) (m := ⟨[.d (.int (t : Nat)), .d (.int (num : Nat)), .d (.lst (bs text)), .d (.int 256), .d (.int 0), .d (.lst (bs text)), .d (.lst (bs ([0, t, num, text.length] ++ text)))], c⟩) (N := 7) (n := 4) rfl ?_
  show ex_piece_row ⟨[.d (.int (t : Nat)), .d (.int (num : Nat)), .d (.lst (bs text)), .d (.int 256), .u, .u, .u], c⟩ = _
  unfold ex_piece_row
  rw [seq_nx (m' := ⟨[.d (.int (t : Nat)), .d (.int (num : Nat)), .d (.lst (bs text)), .d (.int 256), .d (.int 0), .d (.lst (bs text)), .u], c⟩) (by simp [e1])]
  rw [seq_nx (m' := ⟨[.d (.int (t : Nat)), .d (.int (num : Nat)), .d (.lst (bs text)), .d (.int 256), .d (.int 0), .d (.lst (bs text)), .own (bs ([0, t, num, text.length] ++ text))], c⟩) (by
    have z4 : szOk 4 = true := rfl
    have z5 : szOk (text.length + 4) = true := szOk_of (by omega)
    simp [-szOk_add_lit, z4, z1, z5])]
  unfold pieceB
  generalize [0, t, num, text.length] ++ text = w at cr hw ⊢
  have z2 : szOk (2 + w.length) = true := szOk_of (by omega)
  have z3 : szOk (2 + w.length + 2) = true := szOk_of (by omega)
  have z6 : szOk (w.length + 2) = true := szOk_of (by omega)
  have z7 : szOk (w.length + 2 + 2) = true := szOk_of (by omega)
  have lw : (bs (sumB w)).length = 2 := rfl
  have lk : (k_MARK_pieces.map D.int).length = 2 := rfl
  have lb : (bs w).length = w.length := List.length_map _
  simp only [exRet, ev2_at, evC_at, bndO_val, evPeek, List.getElem?_cons_succ, List.getElem?_cons_zero, fAddA, lsO, lk, lb, z2, if_true, bndO_own, evCall, eaCons, eaNil, evVar, bndD_val, bnd_ok]
  simp [-szOk_add_lit, z2, z3, z6, z7, cr, lw, lk, sumB, k_MARK_pieces]
/-! ### a far piece: the plain law -/
theorem sumB_lt {row : List Nat} (hb : ∀ b ∈ row, b < 256) : ∀ b ∈ sumB row, b < 256 := by
  have := crcN_lt hb
  intro b h
  simp [sumB] at h
  rcases h with rfl | rfl <;> omega
theorem sum4 : sumB ([0, 0, 0, 0] ++ []) ≠ [0, 0] := by decide +kernel
theorem far_no {far : Nat} {L : List Nat} {p : Nat} (h : p < far) : (List.replicate far 0 ++ L)[p]? ≠ some 165 := by
  rw [List.getElem?_append_left (by rw [List.length_replicate]; exact h), List.getElem?_replicate, if_pos h]
  simp
theorem far_at {far j : Nat} {L : List Nat} : (List.replicate far 0 ++ L)[far + j]? = L[j]? := by
  rw [List.getElem?_append_right (by rw [List.length_replicate]; omega), List.length_replicate, Nat.add_sub_cancel_left]
theorem far_drop {far j : Nat} {L : List Nat} : (List.replicate far 0 ++ L).drop (far + j) = L.drop j := by
  rw [List.drop_append, List.length_replicate, Nat.add_sub_cancel_left, List.drop_of_length_le (by rw [List.length_replicate]; omega)]
  rfl
theorem pieces_far {far t : Nat} {text : List Nat} (hf : far ≤ 66000) (ht : t ≤ 254) (hl : text.length ≤ 8) (hx : ∀ b ∈ text, b ≤ 160) (c : List Cell) :
    sem_pieces_in [.lst (bs (List.replicate far 0 ++ (pieceB t 7 text ++ List.replicate 9 0)))] c = some (.ok (.own [.tup [.int (far : Nat), .int (t : Nat), .int 7, .lst (bs text)]]), c) := by
  have hb2 : ∀ b ∈ [0, t, 7, text.length] ++ text, b < 256 := by
    intro b hm
    rcases List.mem_append.mp hm with hm | hm
    · simp at hm
      rcases hm with rfl | rfl | rfl | rfl <;> omega
    · have := hx b hm
      omega
  have hs := sumB_lt hb2
  obtain ⟨hi, lo, hsum⟩ : ∃ hi lo, sumB ([0, t, 7, text.length] ++ text) = [hi, lo] := ⟨_, _, rfl⟩
  have eL : pieceB t 7 text ++ List.replicate 9 0 = [165, 90, 0, t, 7, text.length] ++ (text ++ ([hi, lo] ++ List.replicate 9 0)) := by
    unfold pieceB
    rw [hsum]
    simp
  rw [eL]
  have hb : ∀ b ∈ List.replicate far 0 ++ ([165, 90, 0, t, 7, text.length] ++ (text ++ ([hi, lo] ++ List.replicate 9 0))), b < 256 := by
    intro b hm
    rw [hsum] at hs
    rcases List.mem_append.mp hm with hm | hm
    · rw [(List.mem_replicate.mp hm).2]; decide
    · rcases List.mem_append.mp hm with hm | hm
      · simp at hm
        rcases hm with rfl | rfl | rfl | rfl | rfl | rfl <;> omega
      · rcases List.mem_append.mp hm with hm | hm
        · have := hx b hm
          omega
        · rcases List.mem_append.mp hm with hm | hm
          · exact hs b hm
          · rw [(List.mem_replicate.mp hm).2]; decide
  have len : (List.replicate far 0 ++ ([165, 90, 0, t, 7, text.length] ++ (text ++ ([hi, lo] ++ List.replicate 9 0)))).length = far + (6 + (text.length + 11)) := by
    simp
    omega
  refine pieces_loop (c1 := 0) (x3 := ((far + 6 + text.length + 2 : Nat) : Int)) (by rw [len]; omega) (by rw [len]; omega) ?_ ?_
  · intro p hp hne
    by_cases h1 : p < far
    · exact piece_no (.inl (far_no h1)) c
    · obtain ⟨j, rfl⟩ : ∃ j, p = far + j := ⟨p - far, by omega⟩
      rw [len] at hp
      by_cases h6 : j < 6
      · have : j = 1 ∨ j = 2 ∨ j = 3 ∨ j = 4 ∨ j = 5 := by omega
        rcases this with rfl | rfl | rfl | rfl | rfl
        · refine piece_no (.inl ?_) c
          rw [far_at]
          simp
        · refine piece_no (.inl ?_) c
          rw [far_at]
          simp
        · refine piece_no (.inr ?_) c
          rw [Nat.add_assoc, far_at]
          simp
        · refine piece_no (.inl ?_) c
          rw [far_at]
          simp
        · refine piece_no (.inl ?_) c
          rw [far_at]
          simp
          omega
      · obtain ⟨k, rfl⟩ : ∃ k, j = 6 + k := ⟨j - 6, by omega⟩
        have at6 : ∀ k, ([165, 90, 0, t, 7, text.length] ++ (text ++ ([hi, lo] ++ List.replicate 9 0)))[6 + k]? = (text ++ ([hi, lo] ++ List.replicate 9 0))[k]? := fun k => by
          rw [List.getElem?_append_right (by simp)]
          simp
        by_cases hk : k < text.length
        · refine piece_no (.inl ?_) c
          rw [far_at, at6, List.getElem?_append_left hk, List.getElem?_eq_getElem hk]
          have := hx _ (List.getElem_mem hk)
          intro q
          have q' := Option.some.inj q
          omega
        · obtain ⟨i, rfl⟩ : ∃ i, k = text.length + i := ⟨k - text.length, by omega⟩
          have atn : ∀ i, (text ++ ([hi, lo] ++ List.replicate 9 0))[text.length + i]? = ([hi, lo] ++ List.replicate 9 0)[i]? := fun i => by
            rw [List.getElem?_append_right (by omega), Nat.add_sub_cancel_left]
          by_cases h0 : i = 0
          · subst h0
            by_cases hm : hi = 165 ∧ lo = 90
            · obtain ⟨rfl, rfl⟩ := hm
              have hd : (List.replicate far 0 ++ ([165, 90, 0, t, 7, text.length] ++ (text ++ ([165, 90] ++ List.replicate 9 0)))).drop (far + (6 + (text.length + 0))) = [165, 90, 0, 0, 0, ([] : List Nat).length] ++ ([] ++ List.replicate 5 0) := by
                rw [far_drop, Nat.add_zero, ← List.drop_drop]
                show (text ++ ([165, 90] ++ List.replicate 9 0)).drop text.length = _
                rw [List.drop_left]
                rfl
              have r := piece_yes hd (by decide) (by decide) hb c
              rw [if_neg (by
                intro q
                exact sum4 q.symm)] at r
              exact r
            · by_cases hh : hi = 165
              · refine piece_no (.inr ?_) c
                have e : far + (6 + (text.length + 0)) + 1 = far + (6 + (text.length + 1)) := by omega
                rw [e, far_at, at6, atn]
                simp
                exact fun q => hm ⟨hh, q⟩
              · refine piece_no (.inl ?_) c
                rw [far_at, at6, atn]
                simp
                exact hh
          · by_cases h1 : i = 1
            · subst h1
              refine piece_no (.inr ?_) c
              have e : far + (6 + (text.length + 1)) + 1 = far + (6 + (text.length + 2)) := by omega
              rw [e, far_at, at6, atn]
              simp
            · refine piece_no (.inl ?_) c
              rw [far_at, at6, atn, List.getElem?_append_right (by simp; omega), List.getElem?_replicate]
              split <;> simp
  · have hd : (List.replicate far 0 ++ ([165, 90, 0, t, 7, text.length] ++ (text ++ ([hi, lo] ++ List.replicate 9 0)))).drop far = [165, 90, 0, t, 7, text.length] ++ (text ++ ([hi, lo] ++ List.replicate 9 0)) := far_drop (j := 0)
    have r := piece_yes hd ht (by decide) hb c
    rw [if_pos (by rw [hsum]; rfl)] at r
    exact r
/-! ### the cursor -/
def cu (row : List Nat) (p : Nat) : Cell := .ins 4 [("source", .lst (bs row)), ("spot", .int (p : Nat)), ("short", .bl false)]
def numN (n : Nat) (part : List Nat) : Nat := part.foldl (fun n b => n * 256 + b) n
theorem orN (n b : Nat) (hb : b < 256) (m : MSt) : fOr (.int ((n * 2 ^ 8 : Nat) : Int)) (.int (b : Nat)) m = some (.ok (.val (.int ((n * 256 + b : Nat) : Int))), m) := by
  have h := Bits.bitOr_join' (a := (b : Nat)) (b := (n : Nat)) (k := 8) (by omega) (by
    have : (2 : Int) ^ 8 = 256 := by decide
    omega) (by omega)
  have e : ((n * 2 ^ 8 : Nat) : Int) = (n : Int) * 2 ^ 8 := by simp
  rw [fOr_at, e, h]
  have e2 : ((n * 256 + b : Nat) : Int) = (b : Int) + (n : Int) * 2 ^ 8 := by
    have : (2 : Int) ^ 8 = 256 := by decide
    rw [this]
    omega
  rw [e2]
theorem num_turn {n b : Nat} (hn : n < 4294967296) (hb : b < 256) {s0 s1 s2 : Sl} {c : List Cell} : ex_Cursor_number_for1 ⟨[s0, s1, s2, .d (.int (n : Nat)), .d (.int (b : Nat))], c⟩ = some (.ok .nx, ⟨[s0, s1, s2, .d (.int ((n * 256 + b : Nat) : Int)), .d (.int (b : Nat))], c⟩) := by
  have sh : ∀ m : MSt, fShl (.int (n : Nat)) (.int 8) m = _ := fun m => shlN n 8 (by decide) (by omega) m
  have o := fun m => orN n b hb m
  unfold ex_Cursor_number_for1
  refine set_int (i := 3) (v := ((n * 256 + b : Nat) : Int)) (m := ⟨[s0, s1, s2, .d (.int (n : Nat)), .d (.int (b : Nat))], c⟩) (m' := ⟨[s0, s1, s2, .d (.int (n : Nat)), .d (.int (b : Nat))], c⟩) ?_
  simp only [ev2_at, evPeek, List.getElem?_cons_succ, List.getElem?_cons_zero, bndO_val, evC_at, sh, o]
theorem num_loop {s0 s1 s2 : Sl} {c : List Cell} : ∀ (part : List Nat) (n : Nat) (s4 : Sl), (∀ b ∈ part, b < 256) → (n + 1) * 256 ^ part.length ≤ 4294967296 →
    ∃ s4', loopFor (gsName 4) ex_Cursor_number_for1 (bs part) ⟨[s0, s1, s2, .d (.int (n : Nat)), s4], c⟩ = some (.ok .nx, ⟨[s0, s1, s2, .d (.int (numN n part : Nat)), s4'], c⟩) := by
  intro part
  induction part with
  | nil => exact fun n s4 _ _ => ⟨s4, rfl⟩
  | cons b part ih =>
    intro n s4 hb hz
    have hb0 := hb b List.mem_cons_self
    rw [List.length_cons, Nat.pow_succ] at hz
    have hp : 0 < 256 ^ part.length := Nat.pow_pos (by decide)
    have h1 : n + 1 ≤ (n + 1) * (256 ^ part.length * 256) := Nat.le_mul_of_pos_right _ (by omega)
    have h2 : (n * 256 + b + 1) * 256 ^ part.length ≤ (n + 1) * (256 ^ part.length * 256) := by
      rw [Nat.mul_comm (256 ^ part.length) 256, ← Nat.mul_assoc]
      exact Nat.mul_le_mul_right _ (by omega)
    obtain ⟨s4', e⟩ := ih (n * 256 + b) (.d (.int (b : Nat))) (fun b h => hb b (List.mem_cons_of_mem _ h)) (by omega)
    refine ⟨s4', ?_⟩
    have tn := num_turn (s0 := s0) (s1 := s1) (s2 := s2) (c := c) (n := n) (b := b) (by omega) hb0
    simp only [bs, List.map_cons, loopFor, gsName, List.set, tn]
    exact e
theorem look1 {x y z : D} : List.lookup ("source" : Str) [(("source" : Str), x), ("spot", y), ("short", z)] = some x := rfl
theorem look2 {x y z : D} : List.lookup ("spot" : Str) [("source", x), ("spot", y), ("short", z)] = some y := rfl
theorem look3 {x y z : D} : List.lookup ("short" : Str) [("source", x), ("spot", y), ("short", z)] = some z := rfl
theorem look4 {x y z : D} : List.lookup ("number" : Str) [("source", x), ("spot", y), ("short", z)] = none := rfl
theorem putf2 {x y z v : D} : putF' ("spot" : Str) v [(("source" : Str), x), ("spot", y), ("short", z)] = [(("source" : Str), x), ("spot", v), ("short", z)] := rfl
theorem putf0 {v : D} : putF' ("source" : Str) v [] = [(("source" : Str), v)] := rfl
theorem putf1 {x v : D} : putF' ("spot" : Str) v [(("source" : Str), x)] = [(("source" : Str), x), ("spot", v)] := rfl
theorem putf3 {x y v : D} : putF' ("short" : Str) v [(("source" : Str), x), ("spot", y)] = [(("source" : Str), x), ("spot", y), ("short", v)] := rfl
theorem num_ex {row part rest : List Nat} {p k id : Nat} {c : List Cell} (h : c[id]? = some (cu row p)) (hd : row.drop p = part ++ rest) (hk : part.length = k) (hk3 : k ≤ 3) (hb : ∀ b ∈ part, b < 256) :
    ∃ c', sem_Cursor_number [.ref id, .int (k : Nat)] c = some (.ok (.val (.int (numN 0 part : Nat))), c') ∧ c'[id]? = some (cu row (p + k)) := by
  have hi : id < c.length := (List.getElem?_eq_some_iff.mp h).1
  have e1 : cutD (bs row) (some (p : Int)) (some ((p : Int) + (k : Nat))) = bs part := by
    have e : ((p + k : Nat) : Int) = (p : Int) + (k : Nat) := by omega
    rw [← e, cut_bs, Nat.add_sub_cancel_left, hd, ← hk, List.take_left]
  have e2 : (.ins 4 [("source", .lst (bs row)), ("spot", .int ((p : Int) + (k : Nat))), ("short", .bl false)] : Cell) = cu row (p + k) := by
    unfold cu
    rw [Int.natCast_add]
  obtain ⟨s4', L⟩ := num_loop (s0 := .d (.ref id)) (s1 := .d (.int (k : Nat))) (s2 := .d (.lst (bs part))) (c := c.set id (cu row (p + k))) part 0 .u hb (by
    have : 256 ^ part.length ≤ 256 ^ 3 := Nat.pow_le_pow_right (by decide) (by omega)
    omega)
  have lp : (bs part).length = k := by rw [List.length_map, hk]
  have nl : ¬ (((k : Nat) : Int) < (k : Nat)) := by omega
  refine ⟨c.set id (cu row (p + k)), ?_, List.getElem?_set_self hi⟩
  unfold cu at h
  unfold sem_Cursor_number
  refine sem_rt (args := [.ref id, .int (k : Nat)]) (m := ⟨[.d (.ref id), .d (.int (k : Nat)), .d (.lst (bs part)), .d (.int (numN 0 part : Nat)), s4'], c.set id (cu row (p + k))⟩) (N := 5) (n := 2) rfl ?_
  show ex_Cursor_number ⟨[.d (.ref id), .d (.int (k : Nat)), .u, .u, .u], c⟩ = _
  unfold ex_Cursor_number
  rw [seq_nx (m' := ⟨[.d (.ref id), .d (.int (k : Nat)), .own (bs part), .u, .u], c⟩) (by
    simp [h, look1, look2, evP, e1, -List.map_take, -List.map_drop])]
  rw [seq_nx (m' := ⟨[.d (.ref id), .d (.int (k : Nat)), .own (bs part), .u, .u], c.set id (cu row (p + k))⟩) (by
    simp [h, look2, putf2, e2])]
  rw [seq_nx (m' := ⟨[.d (.ref id), .d (.int (k : Nat)), .own (bs part), .u, .u], c.set id (cu row (p + k))⟩) (by
    simp [lp, hk, nl])]
  rw [seq_nx (m' := ⟨[.d (.ref id), .d (.int (k : Nat)), .own (bs part), .d (.int 0), .u], c.set id (cu row (p + k))⟩) (by simp)]
  rw [seq_nx (m' := ⟨[.d (.ref id), .d (.int (k : Nat)), .d (.lst (bs part)), .d (.int (numN 0 part : Nat)), s4'], c.set id (cu row (p + k))⟩) (by
    simp
    exact L)]
  simp [evTake]
theorem meth_num {o : Ev} {m m1 : MSt} {id p : Nat} {row : List Nat} {k : Int} {v : D} {c' : List Cell} (ho : o m = some (.ok (.val (.ref id)), m1)) (h : m1.c[id]? = some (cu row p)) (e : sem_Cursor_number [.ref id, .int k] m1.c = some (.ok (.val v), c')) :
    evMethO 4 2 "number" sem_Cursor_number o (eaCons (evC (.int k)) eaNil) m = some (.ok (.val v), { m1 with c := c' }) := by
  unfold cu at h
  simp [ho, h, look4, e]
/-- reading one number into a slot -/
theorem set_num {g : List Sl} {c : List Cell} {i id p k : Nat} {kk : Int} {row part rest : List Nat} (hkk : kk = (k : Nat)) (g0 : g[0]? = some (.d (.ref id))) (h : c[id]? = some (cu row p)) (hd : row.drop p = part ++ rest) (hk : part.length = k) (hk3 : k ≤ 3) (hb : ∀ b ∈ part, b < 256) :
    ∃ c', exSet i (evMethO 4 2 "number" sem_Cursor_number (evPeek 0) (eaCons (evC (.int kk)) eaNil)) ⟨g, c⟩ = some (.ok .nx, ⟨g.set i (.d (.int (numN 0 part : Nat))), c'⟩) ∧ c'[id]? = some (cu row (p + k)) := by
  subst hkk
  obtain ⟨c', e, h'⟩ := num_ex h hd hk hk3 hb
  refine ⟨c', ?_, h'⟩
  exact set_int (m' := ⟨g, c'⟩) (meth_num (m := ⟨g, c⟩) (m1 := ⟨g, c⟩) (by simp [g0]) h e)
theorem init_eq {row : List Nat} {p : Nat} {c : List Cell} : sem_Cursor___init__ [.ref c.length, .lst (bs row), .int (p : Nat)] (c ++ [.ins 4 []]) = some (.ok (.val .non), c ++ [cu row p]) := by
  have h0 : (c ++ [Cell.ins 4 []])[c.length]? = some (.ins 4 []) := by simp
  simp [sem_Cursor___init__, ex_Cursor___init__, cu, putf0, putf1, putf3]
theorem flat1 : ∀ l : List Nat, (l.map fun b => [b]).flatten = l
  | [] => rfl
  | a :: l => by rw [List.map_cons, List.flatten_cons, flat1 l]; rfl
theorem lc_num {id i k : Nat} {kk : Int} {row : List Nat} (hkk : kk = (k : Nat)) (hi0 : i ≠ 0) (hk3 : k ≤ 3) : ∀ (parts : List (List Nat)) (ds : List D) (acc : List D) (g : List Sl) (c : List Cell) (p : Nat) (rest : List Nat), ds.length = parts.length → g[0]? = some (.d (.ref id)) → (∀ pt ∈ parts, pt.length = k ∧ ∀ b ∈ pt, b < 256) → c[id]? = some (cu row p) → row.drop p = parts.flatten ++ rest → acc.length + parts.length ≤ 1000 →
    ∃ c', lcLoop (gsName i) evYes (evMethO 4 2 "number" sem_Cursor_number (evPeek 0) (eaCons (evC (.int kk)) eaNil)) [i] ds acc ⟨g, c⟩ = some (acc ++ parts.map (fun pt => .int (numN 0 pt : Nat)), ⟨g.set i .u, c'⟩) ∧ c'[id]? = some (cu row (p + k * parts.length)) := by
  subst hkk
  intro parts
  induction parts with
  | nil =>
    intro ds acc g c p rest hl g0 _ h _ _
    have : ds = [] := List.length_eq_zero_iff.mp hl
    subst this
    exact ⟨c, by simp [lcLoop, wipeM, wipeG], by simpa using h⟩
  | cons pt parts ih =>
    intro ds acc g c p rest hl g0 hp h hd hz
    cases ds with
    | nil => cases hl
    | cons d ds =>
      obtain ⟨hpl, hpb⟩ := hp pt List.mem_cons_self
      rw [List.flatten_cons, List.append_assoc] at hd
      obtain ⟨c1, e1, h1⟩ := num_ex h hd hpl hk3 hpb
      have g1 : ((g.set i .u).set i (.d d))[0]? = some (.d (.ref id)) := by
        rw [List.getElem?_set_ne hi0, List.getElem?_set_ne hi0, g0]
      have me := meth_num (o := evPeek 0) (m := ⟨(g.set i .u).set i (.d d), c⟩) (m1 := ⟨(g.set i .u).set i (.d d), c⟩) (by simp only [evPeek, g1]) h e1
      have hd2 : row.drop (p + k) = parts.flatten ++ rest := by
        rw [← List.drop_drop, hd, ← hpl, List.drop_left]
      have hz2 : szOk (acc.length + 1) = true := szOk_of (by rw [List.length_cons] at hz; omega)
      obtain ⟨c2, e2, h2⟩ := ih ds (acc ++ [.int (numN 0 pt : Nat)]) ((g.set i .u).set i (.d d)) c1 (p + k) rest (by simpa using hl) g1 (fun q hq => hp q (List.mem_cons_of_mem _ hq)) h1 hd2 (by
        rw [List.length_append, List.length_singleton]
        rw [List.length_cons] at hz
        omega)
      refine ⟨c2, ?_, ?_⟩
      · unfold lcLoop
        simp only [wipeM, wipeG, gsName, evYes, me, bndD_val, solid_int, if_true, hz2]
        rw [e2]
        simp
      · rw [h2, List.length_cons]
        have e : p + k + k * parts.length = p + k * (parts.length + 1) := by rw [Nat.mul_succ]; omega
        rw [e]
def nmB (m : Nat) : List Nat := [97, 98, 99].take m
def nmS (m : Nat) : Str := cutS "abc" none (some (m : Int))
theorem name_all {m : Nat} (h1 : 1 ≤ m) (h3 : m ≤ 3) {s0 s1 s3 s4 : Sl} {c : List Cell} : evCB fAll (eaCons (evLc (eiList (evVar 2)) (gsName 4) evYes (ev2 (fIn false) (evPeek 4) (evC (.tupK (k_NAME_BYTES.map D.int)))) [4]) eaNil) ⟨[s0, s1, .own (bs (nmB m)), s3, s4], c⟩ = some (.ok (.val (.bl true)), ⟨[s0, s1, .d (.lst (bs (nmB m))), s3, .u], c⟩) := by
  have : m = 1 ∨ m = 2 ∨ m = 3 := by omega
  rcases this with rfl | rfl | rfl <;> rfl
theorem name_join {m : Nat} (h1 : 1 ≤ m) (h3 : m ≤ 3) {s0 s1 s3 s4 : Sl} {c : List Cell} : evMethT fJoin (evC (.str "")) (eaCons (evLc (eiList (evVar 2)) (gsName 4) evYes (ev2 fIx (evC (.str "-.0123456789abcdefghijklmnopqrstuvwxyz")) (evTIdx k_NAME_BYTES (eaCons (evPeek 4) eaNil))) [4]) eaNil) ⟨[s0, s1, .d (.lst (bs (nmB m))), s3, s4], c⟩ = some (.ok (.val (.str (nmS m))), ⟨[s0, s1, .d (.lst (bs (nmB m))), s3, .u], c⟩) := by
  have : m = 1 ∨ m = 2 ∨ m = 3 := by omega
  rcases this with rfl | rfl | rfl <;> rfl

theorem name_len {m : Nat} (h3 : m ≤ 3) : (nmB m).length = m := by
  unfold nmB
  rw [List.length_take]
  simp
  omega
theorem read_name_ex {row rest : List Nat} {p id m : Nat} {c : List Cell} (h : c[id]? = some (cu row p)) (hm1 : 1 ≤ m) (hm3 : m ≤ 3) (hd : row.drop p = [m] ++ (nmB m ++ rest)) :
    ∃ c', sem_read_name [.ref id] c = some (.ok (.val (.str (nmS m))), c') ∧ c'[id]? = some (cu row (p + 1 + m)) := by
  obtain ⟨c1, e1, h1⟩ := set_num (g := [.d (.ref id), .u, .u, .u, .u]) (i := 1) (k := 1) (kk := 1) rfl rfl h hd rfl (by decide) (by intro b hb; rw [List.mem_singleton] at hb; omega)
  have n1 : numN 0 [m] = m := by simp [numN]
  rw [n1] at e1
  have hd1 : row.drop (p + 1) = ((nmB m).map fun b => [b]).flatten ++ rest := by
    rw [← List.drop_drop, hd]
    rw [flat1]
    rfl
  have c62' : c62 (m : Int) = true := c62_of (by omega) (by omega)
  obtain ⟨c2, e2, h2⟩ := lc_num (id := id) (i := 3) (k := 1) (kk := 1) (row := row) rfl (by decide) (by decide) ((nmB m).map fun b => [b]) (rngL 0 m) [] [.d (.ref id), .d (.int (m : Nat)), .u, .u, .u] c1 (p + 1) rest (by rw [rngL_len, List.length_map, name_len hm3]) rfl (by
      intro pt hpt
      obtain ⟨b, hb, rfl⟩ := List.mem_map.mp hpt
      refine ⟨rfl, fun b' hb' => ?_⟩
      rw [List.mem_singleton] at hb'
      subst hb'
      have := List.mem_of_mem_take hb
      simp at this
      omega) h1 hd1 (by rw [List.length_map, name_len hm3]; simp; omega)
  have e3 : ((nmB m).map fun b => [b]).map (fun pt => D.int (numN 0 pt : Nat)) = bs (nmB m) := by
    rw [List.map_map]
    refine List.map_congr_left fun b _ => ?_
    simp [numN]
  rw [e3, List.nil_append] at e2
  rw [List.length_map, name_len hm3, Nat.one_mul] at h2
  have a1 : (1 : Int) ≤ (m : Nat) := by omega
  have a2 : ((m : Nat) : Int) ≤ 12 := by omega
  refine ⟨c2, ?_, h2⟩
  unfold sem_read_name
  refine sem_rt (args := [.ref id]) (m := ⟨[.d (.ref id), .d (.int (m : Nat)), .d (.lst (bs (nmB m))), .u, .u], c2⟩) (N := 5) (n := 1) rfl ?_
  show ex_read_name ⟨[.d (.ref id), .u, .u, .u, .u], c⟩ = _
  unfold ex_read_name
  rw [seq_nx e1]
  rw [seq_nx (m' := ⟨[.d (.ref id), .d (.int (m : Nat)), .u, .u, .u], c1⟩) (by simp [a1, a2])]
  rw [seq_nx (m' := ⟨[.d (.ref id), .d (.int (m : Nat)), .own (bs (nmB m)), .u, .u], c2⟩) (by
    simp only [exSet, evLc, eiRng1_at, eaCons, eaNil, evPeek, List.getElem?_cons_succ, List.getElem?_cons_zero, List.set, bndO_val, bnd_ok, fRng1_at c62', Int.toNat_natCast]
    rw [e2]
    rfl)]
  rw [seq_nx (m' := ⟨[.d (.ref id), .d (.int (m : Nat)), .d (.lst (bs (nmB m))), .u, .u], c2⟩) (by
    simp only [exIf, evNot, evTru]
    rw [name_all hm1 hm3]
    rfl)]
  simp only [exRet]
  rw [name_join hm1 hm3]
  rfl

/-- far, in three bytes -/
def farB (far : Nat) : List Nat := [far / 65536, far / 256 % 256, far % 256]
theorem farB_num (far : Nat) : numN 0 (farB far) = far := by
  simp [numN, farB]
  omega
def entB (t m far : Nat) : List Nat := [t] ++ ([m] ++ (nmB m ++ ([1] ++ ([0, 5] ++ farB far))))
def entD (t m far : Nat) : D := .tup [.int (t : Nat), .str (nmS m), .int 5, .lst [.int (far : Nat)]]
theorem short_no {g : List Sl} {c : List Cell} {id p : Nat} {row : List Nat} {i : Nat} (g0 : g[i]? = some (.d (.ref id))) (h : c[id]? = some (cu row p)) : evTru (ev1 (fFld 4 "short") (evPeek i)) ⟨g, c⟩ = some (.ok false, ⟨g, c⟩) := by
  unfold cu at h
  simp [g0, h, look3]
theorem read_entry_ex {row rest : List Nat} {p id t m far : Nat} {c : List Cell} (h : c[id]? = some (cu row p)) (hm1 : 1 ≤ m) (hm3 : m ≤ 3) (ht : t ≤ 254) (hf : far < 16777216) (hd : row.drop p = entB t m far ++ rest) :
    ∃ c', sem_read_entry [.ref id] c = some (.ok (.val (entD t m far)), c') ∧ c'[id]? = some (cu row (p + (entB t m far).length)) := by
  have hl : (entB t m far).length = 8 + m := by
    unfold entB farB
    simp [name_len hm3]
    omega
  unfold entB at hd
  simp only [List.append_assoc] at hd
  obtain ⟨c1, e1, h1⟩ := set_num (g := [.d (.ref id), .u, .u, .u, .u, .u, .u]) (i := 1) (k := 1) (kk := 1) rfl rfl h hd rfl (by decide) (by intro b hb; rw [List.mem_singleton] at hb; omega)
  have n1 : numN 0 [t] = t := by simp [numN]
  rw [n1] at e1
  have d1 : row.drop (p + 1) = [m] ++ (nmB m ++ ([1] ++ ([0, 5] ++ (farB far ++ rest)))) := by rw [← List.drop_drop, hd]; rfl
  obtain ⟨c2, e2, h2⟩ := read_name_ex h1 hm1 hm3 d1
  have d2 : row.drop (p + 1 + 1 + m) = [1] ++ ([0, 5] ++ (farB far ++ rest)) := by
    have e : p + 1 + 1 + m = (p + 1) + (1 + m) := by omega
    rw [e, ← List.drop_drop, d1, ← List.drop_drop]
    show (nmB m ++ ([1] ++ ([0, 5] ++ (farB far ++ rest)))).drop m = _
    rw [List.drop_left' (name_len hm3)]
  obtain ⟨c3, e3, h3⟩ := set_num (g := [.d (.ref id), .d (.int (t : Nat)), .d (.str (nmS m)), .u, .u, .u, .u]) (i := 3) (k := 1) (kk := 1) rfl rfl h2 d2 rfl (by decide) (by intro b hb; rw [List.mem_singleton] at hb; omega)
  have n3 : numN 0 [1] = 1 := by simp [numN]
  rw [n3] at e3
  have d3 : row.drop (p + 1 + 1 + m + 1) = [0, 5] ++ (farB far ++ rest) := by rw [← List.drop_drop, d2]; rfl
  obtain ⟨c4, e4, h4⟩ := set_num (g := [.d (.ref id), .d (.int (t : Nat)), .d (.str (nmS m)), .d (.int 1), .u, .u, .u]) (i := 4) (k := 2) (kk := 2) rfl rfl h3 d3 rfl (by decide) (by intro b hb; simp at hb; omega)
  have n4 : numN 0 [0, 5] = 5 := by simp [numN]
  rw [n4] at e4
  have d4 : row.drop (p + 1 + 1 + m + 1 + 2) = [farB far].flatten ++ rest := by
    rw [← List.drop_drop, d3]
    simp
  obtain ⟨c5, e5, h5⟩ := lc_num (id := id) (i := 6) (k := 3) (kk := 3) (row := row) rfl (by decide) (by decide) [farB far] (rngL 0 1) [] [.d (.ref id), .d (.int (t : Nat)), .d (.str (nmS m)), .d (.int 1), .d (.int 5), .u, .u] c4 (p + 1 + 1 + m + 1 + 2) rest rfl rfl (by
    intro pt hpt
    rw [List.mem_singleton] at hpt
    subst hpt
    refine ⟨rfl, fun b hb => ?_⟩
    unfold farB at hb
    simp at hb
    omega) h4 d4 (by simp)
  have n5 : List.map (fun pt => D.int (numN 0 pt : Nat)) [farB far] = [.int (far : Nat)] := by
    simp only [List.map_cons, List.map_nil, farB_num]
  rw [n5, List.nil_append] at e5
  refine ⟨c5, ?_, ?_⟩
  · have t1 : ¬ (254 < ((t : Nat) : Int)) := by omega
    have c1' : c62 1 = true := by decide
    have r1 : rngL 0 (1 : Int).toNat = rngL 0 1 := rfl
    unfold sem_read_entry
    refine sem_rt (args := [.ref id]) (m := ⟨[.d (.ref id), .d (.int (t : Nat)), .d (.str (nmS m)), .d (.int 1), .d (.int 5), .d (.lst [.int (far : Nat)]), .u], c5⟩) (N := 7) (n := 1) rfl ?_
    show ex_read_entry ⟨[.d (.ref id), .u, .u, .u, .u, .u, .u], c⟩ = _
    unfold ex_read_entry
    rw [seq_nx (m' := ⟨[.d (.ref id), .d (.int (t : Nat)), .u, .u, .u, .u, .u], c1⟩) e1]
    rw [seq_nx (m' := ⟨[.d (.ref id), .d (.int (t : Nat)), .d (.str (nmS m)), .u, .u, .u, .u], c2⟩) (by simp [e2])]
    rw [seq_nx (m' := ⟨[.d (.ref id), .d (.int (t : Nat)), .d (.str (nmS m)), .u, .u, .u, .u], c2⟩) (by
      simp only [exIf, evOr]
      rw [short_no (g := [.d (.ref id), .d (.int (t : Nat)), .d (.str (nmS m)), .u, .u, .u, .u]) rfl h2]
      simp [t1, fIsN])]
    rw [seq_nx (m' := ⟨[.d (.ref id), .d (.int (t : Nat)), .d (.str (nmS m)), .d (.int 1), .u, .u, .u], c3⟩) e3]
    rw [seq_nx (m' := ⟨[.d (.ref id), .d (.int (t : Nat)), .d (.str (nmS m)), .d (.int 1), .d (.int 5), .u, .u], c4⟩) e4]
    rw [seq_nx (m' := ⟨[.d (.ref id), .d (.int (t : Nat)), .d (.str (nmS m)), .d (.int 1), .d (.int 5), .own [.int (far : Nat)], .u], c5⟩) (by
      simp only [exSet, evLc, eiRng1_at, eaCons, eaNil, evPeek, List.getElem?_cons_succ, List.getElem?_cons_zero, List.set, bndO_val, bnd_ok, fRng1_at c1', r1]
      rw [e5]
      rfl)]
    rw [seq_nx (m' := ⟨[.d (.ref id), .d (.int (t : Nat)), .d (.str (nmS m)), .d (.int 1), .d (.int 5), .own [.int (far : Nat)], .u], c5⟩) (by
      simp only [exIf, evOr]
      rw [short_no (g := [.d (.ref id), .d (.int (t : Nat)), .d (.str (nmS m)), .d (.int 1), .d (.int 5), .own [.int (far : Nat)], .u]) rfl h5]
      simp)]
    simp [entD]
  · rw [h5, hl]
    have e : p + 1 + 1 + m + 1 + 2 + 3 * [farB far].length = p + (8 + m) := by simp; omega
    rw [e]
theorem may_first {t m far : Nat} {c : List Cell} : sem_may_follow [entD t m far, .lst []] c = some (.ok (.val (.bl true)), c) := by
  have e1 := fun m => fNe_nil (m := m) (xs := []) rfl
  have a1 : ∀ (a b d e : D), atD [a, b, d, e] 1 = some b := fun _ _ _ _ => rfl
  simp [sem_may_follow, ex_may_follow, e1, entD, a1, lcLoop, wipeM, wipeG, inD, inV]

/-! ### a book -/
theorem mark_book : k_MARK_book.map D.int = bs [165, 91] := rfl
theorem make_cu {g : List Sl} {c : List Cell} {row : List Nat} {p : Nat} (g0 : g[0]? = some (.d (.lst (bs row)))) (g1 : g[1]? = some (.d (.int (p : Nat)))) :
    exSet 2 (evMake 4 3 sem_Cursor___init__ (eaCons (evVar 0) (eaCons (ev2 fAddA (evPeek 1) (evC (.int 2))) eaNil))) ⟨g, c⟩ = some (.ok .nx, ⟨g.set 2 (.d (.ref c.length)), c ++ [cu row (p + 2)]⟩) := by
  have e := init_eq (row := row) (p := p + 2) (c := c)
  have e2 : ((p + 2 : Nat) : Int) = (p : Int) + 2 := by omega
  rw [e2] at e
  simp [g0, g1, e]
theorem book_no {row : List Nat} {p : Nat} (h : row[p]? ≠ some 165 ∨ row[p + 1]? ≠ some 91) (c : List Cell) : ∃ c', sem_book_at [.lst (bs row), .int (p : Nat)] c = some (.ok (.val .non), c') := by
  have e1 : cutD (bs row) (some (p : Int)) (some ((p : Int) + 2)) = bs ((row.drop p).take 2) := by
    have e : ((p + 2 : Nat) : Int) = (p : Int) + 2 := by omega
    rw [← e, cut_bs, Nat.add_sub_cancel_left]
  have ne : ∀ m : MSt, fNe (.lst (bs ((row.drop p).take 2))) (.lstK (k_MARK_book.map D.int)) m = some (.ok (.val (.bl true)), m) := fun m => by
    rw [mark_book, ne_bsK]
    have : ¬ ((row.drop p).take 2 = [165, 91]) := fun q => by
      have a0 := congrArg (fun l => l[0]?) q
      have a1 := congrArg (fun l => l[1]?) q
      simp at a0 a1
      rcases h with h | h
      · exact h (by simpa using a0)
      · exact h (by simpa using a1)
    simp [this]
  refine ⟨c ++ [cu row (p + 2)], ?_⟩
  unfold sem_book_at
  refine sem_rt (args := [.lst (bs row), .int (p : Nat)]) (m := ⟨[.d (.lst (bs row)), .d (.int (p : Nat)), .d (.ref c.length), .u, .u, .u, .u, .u], c ++ [cu row (p + 2)]⟩) (N := 8) (n := 2) rfl ?_
  show ex_book_at ⟨[.d (.lst (bs row)), .d (.int (p : Nat)), .u, .u, .u, .u, .u, .u], c⟩ = _
  unfold ex_book_at
  rw [seq_nx (m' := ⟨[.d (.lst (bs row)), .d (.int (p : Nat)), .d (.ref c.length), .u, .u, .u, .u, .u], c ++ [cu row (p + 2)]⟩) (make_cu (g := [.d (.lst (bs row)), .d (.int (p : Nat)), .u, .u, .u, .u, .u, .u]) rfl rfl)]
  rw [seq_rt (v := .val .non) (m' := ⟨[.d (.lst (bs row)), .d (.int (p : Nat)), .d (.ref c.length), .u, .u, .u, .u, .u], c ++ [cu row (p + 2)]⟩) (by
    simp [evP, e1, ne, -List.map_take, -List.map_drop])]
theorem fld_spot {g : List Sl} {c : List Cell} {id p i : Nat} {row : List Nat} (g0 : g[i]? = some (.d (.ref id))) (h : c[id]? = some (cu row p)) : ev1 (fFld 4 "spot") (evPeek i) ⟨g, c⟩ = some (.ok (.val (.int (p : Nat))), ⟨g, c⟩) := by
  unfold cu at h
  simp [g0, h, look2]
/-- a book of no or of one entry -/
theorem book_yes {row E tail : List Nat} {p t m far : Nat} {one : Bool} (hE : E = if one = true then entB t m far else []) (hm1 : 1 ≤ m) (hm3 : m ≤ 3) (ht : t ≤ 254) (hf : far < 16777216)
    (hd : row.drop p = [165, 91, if one = true then 1 else 0] ++ (E ++ tail)) (hb : ∀ b ∈ row, b < 256) (c : List Cell) :
    ∃ c', sem_book_at [.lst (bs row), .int (p : Nat)] c = some (.ok (.val (if tail.take 2 = sumB ([if one = true then 1 else 0] ++ E) then .tup [.lst (if one = true then [entD t m far] else []), .int ((p + 3 + E.length + 2 : Nat) : Int)] else .non)), c') := by
  generalize hn : (if one = true then 1 else 0 : Nat) = n at hd ⊢
  have hn1 : n ≤ 1 := by rw [← hn]; split <;> decide
  have h0 : (c ++ [cu row (p + 2)])[c.length]? = some (cu row (p + 2)) := by simp
  have hd2 : row.drop (p + 2) = [n] ++ (E ++ tail) := by rw [← List.drop_drop, hd]; rfl
  have hd3 : row.drop (p + 2 + 1) = E ++ tail := by rw [← List.drop_drop, hd2]; rfl
  have e1 : cutD (bs row) (some (p : Int)) (some ((p : Int) + 2)) = bs [165, 91] := by
    have e : ((p + 2 : Nat) : Int) = (p : Int) + 2 := by omega
    rw [← e, cut_bs, Nat.add_sub_cancel_left, hd]
    rfl
  have ne : ∀ m : MSt, fNe (.lst (bs [165, 91])) (.lstK (k_MARK_book.map D.int)) m = some (.ok (.val (.bl false)), m) := fun m => by
    rw [mark_book, ne_bsK]
    rfl
  obtain ⟨c1, x1, h1⟩ := num_ex (k := 1) h0 hd2 rfl (by decide) (by intro b hb; rw [List.mem_singleton] at hb; omega)
  have n1 : numN 0 [n] = n := by simp [numN]
  rw [n1] at x1
  have s3 : exSet 3 (evMethO 4 2 "number" sem_Cursor_number (evPeek 2) (eaCons (evC (.int 1)) eaNil)) ⟨[.d (.lst (bs row)), .d (.int (p : Nat)), .d (.ref c.length), .u, .u, .u, .u, .u], c ++ [cu row (p + 2)]⟩ = some (.ok .nx, ⟨[.d (.lst (bs row)), .d (.int (p : Nat)), .d (.ref c.length), .d (.int (n : Nat)), .u, .u, .u, .u], c1⟩) :=
    set_int (i := 3) (m' := ⟨[.d (.lst (bs row)), .d (.int (p : Nat)), .d (.ref c.length), .u, .u, .u, .u, .u], c1⟩) (meth_num (m := ⟨[.d (.lst (bs row)), .d (.int (p : Nat)), .d (.ref c.length), .u, .u, .u, .u, .u], c ++ [cu row (p + 2)]⟩) (m1 := ⟨[.d (.lst (bs row)), .d (.int (p : Nat)), .d (.ref c.length), .u, .u, .u, .u, .u], c ++ [cu row (p + 2)]⟩) rfl h0 x1)
  have c62n : c62 (n : Int) = true := c62_of (by omega) (by omega)
  -- the loop
  obtain ⟨c2, a5, a6, lp, h2⟩ : ∃ c2 a5 a6, loopFor (gsName 5) ex_book_at_for1 (rngL 0 n) ⟨[.d (.lst (bs row)), .d (.int (p : Nat)), .d (.ref c.length), .d (.int (n : Nat)), .own [], .u, .u, .u], c1⟩ = some (.ok .nx, ⟨[.d (.lst (bs row)), .d (.int (p : Nat)), .d (.ref c.length), .d (.int (n : Nat)), (if one = true then .own [entD t m far] else .own []), a5, a6, .u], c2⟩) ∧ c2[c.length]? = some (cu row (p + 3 + E.length)) := by
    cases one with
    | false =>
      rw [if_neg (by decide)] at hn
      rw [if_neg (by decide)] at hE
      subst hn hE
      exact ⟨c1, .u, .u, rfl, h1⟩
    | true =>
      rw [if_pos rfl] at hn
      rw [if_pos rfl] at hE
      subst hn hE
      obtain ⟨c2, x2, h2⟩ := read_entry_ex h1 hm1 hm3 ht hf hd3
      have mf := may_first (t := t) (m := m) (far := far) (c := [])
      have r1 : rngL 0 1 = [.int 0] := rfl
      refine ⟨c2, .d (.int 0), .d (entD t m far), ?_, h2⟩
      rw [r1]
      have sd : solid (entD t m far) = true := rfl
      have nn : entD t m far ≠ .non := fun z => by cases z
      have body : ex_book_at_for1 ⟨[.d (.lst (bs row)), .d (.int (p : Nat)), .d (.ref c.length), .d (.int (1 : Nat)), .own [], .d (.int 0), .u, .u], c1⟩ = some (.ok .nx, ⟨[.d (.lst (bs row)), .d (.int (p : Nat)), .d (.ref c.length), .d (.int (1 : Nat)), .own [entD t m far], .d (.int 0), .d (entD t m far), .u], c2⟩) := by
        unfold ex_book_at_for1
        rw [seq_nx (m' := ⟨[.d (.lst (bs row)), .d (.int (p : Nat)), .d (.ref c.length), .d (.int (1 : Nat)), .own [], .d (.int 0), .d (entD t m far), .u], c2⟩) (by simp [x2, sd])]
        have nr : noRs [entD t m far, .lst []] = true := by
          unfold entD
          simp [noRs, noR]
        have fb : flatD (.bl true) = true := rfl
        have ld : lendD ⟨[.d (.lst (bs row)), .d (.int (p : Nat)), .d (.ref c.length), .d (.int (1 : Nat)), .own [], .d (.int 0), .d (entD t m far), .u], c2⟩ (entD t m far) = entD t m far := rfl
        have l4 : lendD ⟨[.d (.lst (bs row)), .d (.int (p : Nat)), .d (.ref c.length), .d (.int (1 : Nat)), .own [], .d (.int 0), .d (entD t m far), .u], c2⟩ (.sl 4) = .lst [] := rfl
        rw [seq_nx (m' := ⟨[.d (.lst (bs row)), .d (.int (p : Nat)), .d (.ref c.length), .d (.int (1 : Nat)), .own [], .d (.int 0), .d (entD t m far), .u], c2⟩) (by
          have isn : fIsN (entD t m far) ⟨[.d (.lst (bs row)), .d (.int (p : Nat)), .d (.ref c.length), .d (.int (1 : Nat)), .own [], .d (.int 0), .d (entD t m far), .u], c2⟩ = some (.ok (.val (.bl false)), ⟨[.d (.lst (bs row)), .d (.int (p : Nat)), .d (.ref c.length), .d (.int (1 : Nat)), .own [], .d (.int 0), .d (entD t m far), .u], c2⟩) := rfl
          simp only [exIf, evOr, evT, ev1_at, evPeek, List.getElem?_cons_succ, List.getElem?_cons_zero, bndO_val, isn, bnd_ok, Bool.false_eq_true, if_false, evNot, evTru, evLend, eaCons, eaNil, List.map_cons, List.map_nil, ld, l4, nr, List.length_cons, List.length_nil, decide_true, Bool.and_self, if_true, mf, fb]
          rfl)]
        simp [sd]
      simp only [loopFor, gsName, List.set, body]
      rfl
  have hlen : row.length = p + (3 + (E.length + tail.length)) := by
    have := congrArg List.length hd
    rw [List.length_drop] at this
    simp at this
    omega
  have q1 : cutD (bs row) (some ((p + 3 + E.length : Nat) : Int)) (some (((p + 3 + E.length : Nat) : Int) + 2)) = bs (tail.take 2) := by
    have e : ((p + 3 + E.length + 2 : Nat) : Int) = ((p + 3 + E.length : Nat) : Int) + 2 := by omega
    rw [← e, cut_bs, Nat.add_sub_cancel_left, ← List.drop_drop, show row.drop (p + 3) = E ++ tail from hd3, List.drop_left]
  have q2 : cutD (bs row) (some ((p : Int) + 2)) (some ((p + 3 + E.length : Nat) : Int)) = bs ([n] ++ E) := by
    have e : ((p + 2 : Nat) : Int) = (p : Int) + 2 := by omega
    rw [← e, cut_bs, hd2, ← List.append_assoc]
    have e2 : p + 3 + E.length - (p + 2) = ([n] ++ E).length := by simp; omega
    rw [e2, List.take_left]
  have hb2 : ∀ b ∈ [n] ++ E, b < 256 := fun b hm => hb b (List.mem_of_mem_drop (by
    rw [hd2, ← List.append_assoc]
    exact List.mem_append_left _ hm : b ∈ row.drop (p + 2)))
  have cr := crc_row_eq hb2 c2
  generalize [n] ++ E = w at q2 cr hb2 ⊢
  have nq := fun m => ne_bs (tail.take 2) (sumB w) m
  have nq' := fun m => ne_bs (sumB w) (sumB w) m
  have nl : ¬ (30 < (n : Int)) := by omega
  have tp : ∀ b : Bool, (if b = true then Sl.own [entD t m far] else .own []) = .own (if b = true then [entD t m far] else []) := fun b => by cases b <;> rfl
  rw [tp] at lp
  generalize (if one = true then [entD t m far] else []) = es at lp ⊢
  have sp := fld_spot (g := [.d (.lst (bs row)), .d (.int (p : Nat)), .d (.ref c.length), .d (.int (n : Nat)), .own es, a5, a6, .u]) (i := 2) rfl h2
  refine ⟨c2, ?_⟩
  have start : ∀ r m', (exSeq (exIf (evT (ev2 fNe (evCB fList (eaCons (evSl (evPeek 0) (evP (evPeek 7)) (evP (ev2 fAddA (evPeek 7) (evC (.int 2))))) eaNil)) (evCall 1 sem_crc_row (eaCons (evSl (evPeek 0) (evP (ev2 fAddA (evPeek 1) (evC (.int 2)))) (evP (evPeek 7))) eaNil)))) (exRet (evC .non)) exNext)
    (exRet (evTup (eaCons (evVar 4) (eaCons (ev2 fAddA (evPeek 7) (evC (.int 2))) eaNil))))) ⟨[.d (.lst (bs row)), .d (.int (p : Nat)), .d (.ref c.length), .d (.int (n : Nat)), .own es, a5, a6, .d (.int ((p + 3 + E.length : Nat) : Int))], c2⟩ = some (.ok (.rt (.val r)), m') → m'.c = c2 →
      sem_book_at [.lst (bs row), .int (p : Nat)] c = some (.ok (.val r), c2) := by
    intro r m' hr hc
    unfold sem_book_at
    rw [← hc]
    refine sem_rt (args := [.lst (bs row), .int (p : Nat)]) (m := m') (N := 8) (n := 2) rfl ?_
    show ex_book_at ⟨[.d (.lst (bs row)), .d (.int (p : Nat)), .u, .u, .u, .u, .u, .u], c⟩ = _
    unfold ex_book_at
    rw [seq_nx (m' := ⟨[.d (.lst (bs row)), .d (.int (p : Nat)), .d (.ref c.length), .u, .u, .u, .u, .u], c ++ [cu row (p + 2)]⟩) (make_cu (g := [.d (.lst (bs row)), .d (.int (p : Nat)), .u, .u, .u, .u, .u, .u]) rfl rfl)]
    rw [seq_nx (m' := ⟨[.d (.lst (bs row)), .d (.int (p : Nat)), .d (.ref c.length), .u, .u, .u, .u, .u], c ++ [cu row (p + 2)]⟩) (by
      simp [evP, e1, ne, -List.map_take, -List.map_drop, -List.map_cons, -List.map_nil])]
    rw [seq_nx s3]
    rw [seq_nx (m' := ⟨[.d (.lst (bs row)), .d (.int (p : Nat)), .d (.ref c.length), .d (.int (n : Nat)), .own [], .u, .u, .u], c1⟩) (by simp)]
    rw [seq_nx (m' := ⟨[.d (.lst (bs row)), .d (.int (p : Nat)), .d (.ref c.length), .d (.int (n : Nat)), .own [], .u, .u, .u], c1⟩) (by
      simp only [exIf, evOr]
      rw [short_no (g := [.d (.lst (bs row)), .d (.int (p : Nat)), .d (.ref c.length), .d (.int (n : Nat)), .own [], .u, .u, .u]) rfl h1]
      simp [nl])]
    rw [seq_nx (m' := ⟨[.d (.lst (bs row)), .d (.int (p : Nat)), .d (.ref c.length), .d (.int (n : Nat)), .own es, a5, a6, .u], c2⟩) (by
      simp only [exFor, eiRng1_at, eaCons, eaNil, evPeek, List.getElem?_cons_succ, List.getElem?_cons_zero, bndO_val, bnd_ok, fRng1_at c62n, Int.toNat_natCast]
      exact lp)]
    rw [seq_nx (m' := ⟨[.d (.lst (bs row)), .d (.int (p : Nat)), .d (.ref c.length), .d (.int (n : Nat)), .own es, a5, a6, .d (.int ((p + 3 + E.length : Nat) : Int))], c2⟩) (set_int (i := 7) sp)]
    exact hr
  by_cases hs : tail.take 2 = sumB w
  · rw [if_pos hs]
    have ep : ((p + 3 + E.length + 2 : Nat) : Int) = ((p + 3 + E.length : Nat) : Int) + 2 := by omega
    rw [ep]
    refine start _ ⟨[.d (.lst (bs row)), .d (.int (p : Nat)), .d (.ref c.length), .d (.int (n : Nat)), .d (.lst es), a5, a6, .d (.int ((p + 3 + E.length : Nat) : Int))], c2⟩ ?_ rfl
    generalize ((p + 3 + E.length : Nat) : Int) = z at q1 q2 ⊢
    rw [seq_nx (m' := ⟨[.d (.lst (bs row)), .d (.int (p : Nat)), .d (.ref c.length), .d (.int (n : Nat)), .own es, a5, a6, .d (.int z)], c2⟩) (by
      simp [evP, q1, q2, cr, nq, nq', hs, -List.map_take, -List.map_drop, -List.map_cons, -List.map_nil])]
    simp
  · rw [if_neg hs]
    refine start _ ⟨[.d (.lst (bs row)), .d (.int (p : Nat)), .d (.ref c.length), .d (.int (n : Nat)), .own es, a5, a6, .d (.int ((p + 3 + E.length : Nat) : Int))], c2⟩ ?_ rfl
    generalize ((p + 3 + E.length : Nat) : Int) = z at q1 q2 ⊢
    rw [seq_rt (v := .val .non) (m' := ⟨[.d (.lst (bs row)), .d (.int (p : Nat)), .d (.ref c.length), .d (.int (n : Nat)), .own es, a5, a6, .d (.int z)], c2⟩) (by
      simp [evP, q1, q2, cr, nq, hs, -List.map_take, -List.map_drop, -List.map_cons, -List.map_nil])]
theorem books_loop {row : List Nat} {far : Nat} {es : List D} {z : Int} (hz : row.length ≤ 1000000) (hf : far < row.length)
    (hno : ∀ p, p < row.length → p ≠ far → ∀ c, ∃ c', sem_book_at [.lst (bs row), .int (p : Nat)] c = some (.ok (.val .non), c'))
    (hy : ∀ c, ∃ c', sem_book_at [.lst (bs row), .int (far : Nat)] c = some (.ok (.val (.tup [.lst es, .int z])), c')) (c : List Cell) :
    ∃ c', sem_books_in [.lst (bs row)] c = some (.ok (.own [.tup [.int (far : Nat), .lst es]]), c') := by
  have a0 : ∀ x y : D, atD [x, y] 0 = some x := fun _ _ => rfl
  obtain ⟨m', L, s2, s3, c', hm⟩ := loopFor_inv (g := gsName 2) (b := ex_books_in_for1) (fun i m => ∃ s2 s3 c', m = ⟨[.d (.lst (bs row)), .own (if i ≤ far then [] else [.tup [.int (far : Nat), .lst es]]), s2, s3], c'⟩)
    (items := rngL 0 row.length) (by
      intro i d m hi ⟨s2, s3, c1, hm⟩
      subst hm
      obtain ⟨i1, i2⟩ := rngL_get hi
      rw [Int.zero_add] at i2
      subst i2
      by_cases h : i = far
      · subst h
        obtain ⟨c2, e⟩ := hy c1
        refine ⟨_, ⟨[.d (.lst (bs row)), .own [.tup [.int (i : Nat), .lst es]], .d (.int (i : Nat)), .d (.tup [.lst es, .int z])], c2⟩, rfl, .inl ?_, ?_⟩
        · rw [if_pos (Nat.le_refl _)]
          simp [ex_books_in_for1, e, a0]
        · rw [if_neg (by omega)]
          exact ⟨_, _, _, rfl⟩
      · obtain ⟨c2, e⟩ := hno i i1 h c1
        refine ⟨_, ⟨[.d (.lst (bs row)), .own (if i ≤ far then [] else [.tup [.int (far : Nat), .lst es]]), .d (.int (i : Nat)), .d .non], c2⟩, rfl, .inl ?_, ?_⟩
        · simp [ex_books_in_for1, e]
        · have e2 : (if i + 1 ≤ far then ([] : List D) else [.tup [.int (far : Nat), .lst es]]) = if i ≤ far then [] else [.tup [.int (far : Nat), .lst es]] := by
            by_cases q : i ≤ far
            · rw [if_pos q, if_pos (by omega)]
            · rw [if_neg q, if_neg (by omega)]
          rw [e2]
          exact ⟨_, _, _, rfl⟩) (m := ⟨[.d (.lst (bs row)), .own [], .u, .u], c⟩) (by
      rw [if_pos (Nat.zero_le _)]
      exact ⟨_, _, _, rfl⟩)
  rw [rngL_len, if_neg (by omega)] at hm
  subst hm
  have c62' : c62 (row.length : Int) = true := c62_of (by omega) (by omega)
  refine ⟨c', ?_⟩
  unfold sem_books_in
  refine sem_rt (args := [.lst (bs row)]) (m := ⟨[.d (.lst (bs row)), .u, s2, s3], c'⟩) (N := 4) (n := 1) rfl ?_
  show ex_books_in ⟨[.d (.lst (bs row)), .u, .u, .u], c⟩ = _
  unfold ex_books_in
  rw [seq_nx (m' := ⟨[.d (.lst (bs row)), .own [], .u, .u], c⟩) (by simp)]
  rw [seq_nx (m' := ⟨[.d (.lst (bs row)), .own [.tup [.int (far : Nat), .lst es]], s2, s3], c'⟩) (by
    simp [c62']
    exact L)]
  simp [evTake]
/-! ### the row of a book -/
theorem occA : Builtin.Str.occurrences "-.0123456789abcdefghijklmnopqrstuvwxyz" "a" 0 ("-.0123456789abcdefghijklmnopqrstuvwxyz" : Str).length 1 = [12] := by decide +kernel
theorem occB : Builtin.Str.occurrences "-.0123456789abcdefghijklmnopqrstuvwxyz" "b" 0 ("-.0123456789abcdefghijklmnopqrstuvwxyz" : Str).length 1 = [13] := by decide +kernel
theorem occC : Builtin.Str.occurrences "-.0123456789abcdefghijklmnopqrstuvwxyz" "c" 0 ("-.0123456789abcdefghijklmnopqrstuvwxyz" : Str).length 1 = [14] := by decide +kernel
theorem name_row_eq {m : Nat} (h1 : 1 ≤ m) (h3 : m ≤ 3) (c : List Cell) : sem_name_row [.str (nmS m)] c = some (.ok (.own (bs (nmB m))), c) := by
  have g1 : signsL (nmS 1) = [.str "a"] := rfl
  have g2 : signsL (nmS 2) = [.str "a", .str "b"] := rfl
  have g3 : signsL (nmS 3) = [.str "a", .str "b", .str "c"] := rfl
  have b1 : bs (nmB 1) = [.int 97] := rfl
  have b2 : bs (nmB 2) = [.int 97, .int 98] := rfl
  have b3 : bs (nmB 3) = [.int 97, .int 98, .int 99] := rfl
  have i1 : atD (k_NAME_BYTES.map D.int) 12 = some (.int 97) := rfl
  have i2 : atD (k_NAME_BYTES.map D.int) 13 = some (.int 98) := rfl
  have i3 : atD (k_NAME_BYTES.map D.int) 14 = some (.int 99) := rfl
  have tk : tpO (.tupK (k_NAME_BYTES.map D.int)) = some (k_NAME_BYTES.map D.int) := rfl
  have : m = 1 ∨ m = 2 ∨ m = 3 := by omega
  rcases this with rfl | rfl | rfl
  · simp [sem_name_row, ex_name_row, g1, b1, lcLoop, wipeM, wipeG, occA, i1, -List.map_cons, -List.map_nil, -tpO, tk]
  · simp [sem_name_row, ex_name_row, g2, b2, lcLoop, wipeM, wipeG, occA, occB, i1, i2, -tpO, tk]
  · simp [sem_name_row, ex_name_row, g3, b3, lcLoop, wipeM, wipeG, occA, occB, occC, i1, i2, i3, -tpO, tk]
theorem nmS_len {m : Nat} (h1 : 1 ≤ m) (h3 : m ≤ 3) : (nmS m).length = m := by
  have : m = 1 ∨ m = 2 ∨ m = 3 := by omega
  rcases this with rfl | rfl | rfl <;> rfl
theorem five_row (c : List Cell) : sem_number_row [.int 5, .int 2] c = some (.ok (.own (bs [0, 5])), c) := rfl
theorem far_row {far : Nat} (hf : far < 16777216) (c : List Cell) : sem_number_row [.int (far : Nat), .int 3] c = some (.ok (.own (bs (farB far))), c) := by
  have r3 : rngL 0 3 = [.int 0, .int 1, .int 2] := rfl
  have c3 : c62 3 = true := by decide
  have sh : ∀ (k v : Nat) (m : MSt), far / 2 ^ k = v → fShr (.int (far : Nat)) (.int (k : Nat)) m = some (.ok (.val (.int (v : Nat))), m) := fun k v m h => by
    rw [fShr_at (by omega), ← h]
    have e : ((k : Nat) : Int).toNat = k := rfl
    rw [e]
    simp
  have s0 : ∀ m, fShr (.int (far : Nat)) (.int 16) m = _ := fun m => sh 16 (far / 65536) m rfl
  have s1 : ∀ m, fShr (.int (far : Nat)) (.int 8) m = _ := fun m => sh 8 (far / 256) m rfl
  have s2 : ∀ m, fShr (.int (far : Nat)) (.int 0) m = _ := fun m => sh 0 far m (by simp)
  have an : ∀ (v : Nat) (m : MSt), fAnd (.int (v : Nat)) (.int 255) m = some (.ok (.val (.int ((v % 256 : Nat) : Int))), m) := fun v m => by
    have h := andN v 255 m
    rw [show v &&& 255 = v % 256 from Nat.and_two_pow_sub_one_eq_mod v 8] at h
    exact h
  have e0 : far / 65536 % 256 = far / 65536 := Nat.mod_eq_of_lt (by omega)
  unfold sem_number_row
  refine sem_rt (args := [.int (far : Nat), .int 3]) (m := ⟨[.d (.int (far : Nat)), .d (.int 3), .u], c⟩) (N := 3) (n := 2) rfl ?_
  show ex_number_row ⟨[.d (.int (far : Nat)), .d (.int 3), .u], c⟩ = _
  unfold ex_number_row
  simp [c3, r3, lcLoop, wipeM, wipeG, s0, s1, s2, an, e0, farB, -Int.natCast_emod, -Int.natCast_ediv]
theorem entry_row_eq {t m far : Nat} (h1 : 1 ≤ m) (h3 : m ≤ 3) (hf : far < 16777216) (c : List Cell) : sem_entry_row [entD t m far] c = some (.ok (.own (bs (entB t m far))), c) := by
  have nl : ((nmS m).length : Int) = (m : Nat) := by rw [nmS_len h1 h3]
  have nz : szOk (nmS m).length = true := szOk_of (by rw [nmS_len h1 h3]; omega)
  have e1 := name_row_eq h1 h3 c
  have e2 := five_row c
  have e3 := far_row hf c
  have lb : (bs (nmB m)).length = m := by rw [List.length_map, name_len h3]
  have z0 : szOk 2 = true := rfl
  have z1 : szOk (2 + m) = true := szOk_of (by omega)
  have z2 : szOk (m + 2 + 1) = true := szOk_of (by omega)
  have z3 : szOk (m + 2 + 1 + 2) = true := szOk_of (by omega)
  have z4 : szOk 1 = true := rfl
  unfold sem_entry_row
  refine sem_rt (args := [entD t m far]) (m := ⟨[.d (entD t m far), .d (.int (t : Nat)), .d (.str (nmS m)), .d (.int 5), .d (.lst [.int (far : Nat)]), .u, .d (.int (far : Nat))], c⟩) (N := 7) (n := 1) rfl ?_
  show ex_entry_row ⟨[.d (entD t m far), .u, .u, .u, .u, .u, .u], c⟩ = _
  unfold ex_entry_row
  rw [seq_nx (m' := ⟨[.d (entD t m far), .d (.int (t : Nat)), .d (.str (nmS m)), .d (.int 5), .d (.lst [.int (far : Nat)]), .u, .u], c⟩) rfl]
  have first : ev2 fAddA (ev2 fAddA (ev2 fAddA (evLst (eaCons (evVar 1) (eaCons (evCB fLen (eaCons (evPeek 2) eaNil)) eaNil))) (evCall 1 sem_name_row (eaCons (evVar 2) eaNil))) (evLst (eaCons (evCB fLen (eaCons (evPeek 4) eaNil)) eaNil))) (evCall 2 sem_number_row (eaCons (evVar 3) (eaCons (evC (.int 2)) eaNil)))
      ⟨[.d (entD t m far), .d (.int (t : Nat)), .d (.str (nmS m)), .d (.int 5), .d (.lst [.int (far : Nat)]), .u, .u], c⟩ = some (.ok (.own (bs ([t, m] ++ nmB m ++ [1] ++ [0, 5]))), ⟨[.d (entD t m far), .d (.int (t : Nat)), .d (.str (nmS m)), .d (.int 5), .d (.lst [.int (far : Nat)]), .u, .u], c⟩) := by
    simp [-szOk_add_lit, nl, nz, e1, e2, lb, z0, z1, z2, z3, z4]
  have rw2 : bs ([t, m] ++ nmB m ++ [1] ++ [0, 5]) ++ bs (farB far) = bs (entB t m far) := by
    rw [bs, bs, bs, ← List.map_append]
    unfold entB
    simp
  have lw : (bs ([t, m] ++ nmB m ++ [1] ++ [0, 5])).length = m + 5 := by
    rw [List.length_map]
    simp [name_len h3]
  have lf : (bs (farB far)).length = 3 := rfl
  have z5 : szOk (m + 5 + 3) = true := szOk_of (by omega)
  generalize bs ([t, m] ++ nmB m ++ [1] ++ [0, 5]) = w at first rw2 lw
  rw [seq_nx (m' := ⟨[.d (entD t m far), .d (.int (t : Nat)), .d (.str (nmS m)), .d (.int 5), .d (.lst [.int (far : Nat)]), .own w, .u], c⟩) (by
    simp only [exSet]
    rw [first]
    rfl)]
  rw [seq_nx (m' := ⟨[.d (entD t m far), .d (.int (t : Nat)), .d (.str (nmS m)), .d (.int 5), .d (.lst [.int (far : Nat)]), .own (bs (entB t m far)), .d (.int (far : Nat))], c⟩) (by
    simp [loopFor, ex_entry_row_for1, e3, -szOk_add_lit, lw, lf, z5, rw2])]
  simp [evTake]
def bookB (t m far : Nat) : List Nat := [165, 91] ++ ([1] ++ entB t m far) ++ sumB ([1] ++ entB t m far)
theorem ent_lt {t m far : Nat} (ht : t ≤ 254) (hm3 : m ≤ 3) (hf : far < 16777216) : ∀ b ∈ entB t m far, b < 256 := by
  intro b hb
  unfold entB at hb
  simp only [List.mem_append, List.mem_singleton] at hb
  rcases hb with rfl | rfl | hb | rfl | hb | hb
  · omega
  · omega
  · have := List.mem_of_mem_take hb
    simp at this
    omega
  · omega
  · simp at hb
    omega
  · unfold farB at hb
    simp at hb
    omega
theorem call_at {n : Nat} {sem : Sem0} {a : EvA} {m m1 : MSt} {ds : List D} {r : DV} {c' : List Cell} (ha : a m = some (.ok ds, m1)) (hs : ds.all solid = true) (hn : ds.length = n) (h : sem ds m1.c = some (.ok r, c')) : evCall n sem a m = some (.ok r, { m1 with c := c' }) := by
  unfold evCall
  rw [ha, bnd_ok, hs, decide_eq_true hn]
  simp [h]
theorem ext_at {i : Nat} {b : Ev} {m m1 : MSt} {xs ys : List D} (g0 : m.g[i]? = some (.own xs)) (hb : b m = some (.ok (.own ys), m1)) (hz : szOk (xs.length + ys.length) = true) (hm : m1.g[i]? = some (.own xs)) :
    exDrop (evMeth fExt (evPeek i) (eaCons b eaNil)) m = some (.ok .nx, { m1 with g := m1.g.set i (.own (xs ++ ys)) }) := by
  simp [g0, hb, hm, -szOk_add_lit, hz]
theorem book_row_eq {t m far : Nat} (ht : t ≤ 254) (h1 : 1 ≤ m) (h3 : m ≤ 3) (hf : far < 16777216) (c : List Cell) : sem_book_row [.lst [entD t m far]] c = some (.ok (.own (bs (bookB t m far))), c) := by
  have e1 := entry_row_eq (t := t) h1 h3 hf c
  have le : (entB t m far).length = 8 + m := by
    unfold entB farB
    simp [name_len h3]
    omega
  have hb2 : ∀ b ∈ [1] ++ entB t m far, b < 256 := by
    intro b hb
    rcases List.mem_append.mp hb with hb | hb
    · rw [List.mem_singleton] at hb
      omega
    · exact ent_lt ht h3 hf b hb
  have cr := crc_row_eq hb2 c
  have rw1 : D.int 1 :: bs (entB t m far) = bs ([1] ++ entB t m far) := rfl
  have lw : (bs ([1] ++ entB t m far)).length = 9 + m := by
    rw [List.length_map]
    simp [le]
    omega
  have lb : (bs (entB t m far)).length = 8 + m := by rw [List.length_map, le]
  unfold bookB
  have z0 : szOk 1 = true := rfl
  have z1 : szOk (1 + (8 + m)) = true := szOk_of (by omega)
  have z1' : szOk (8 + m + 1) = true := szOk_of (by omega)
  have z2 : szOk (9 + m + 2) = true := szOk_of (by omega)
  have z2' : szOk (2 + (9 + m)) = true := szOk_of (by omega)
  have z3 : szOk (9 + m + 2 + 2) = true := szOk_of (by omega)
  have lk : (k_MARK_book.map D.int).length = 2 := rfl
  have call1 : evCall 1 sem_entry_row (eaCons (evVar 2) eaNil) ⟨[.d (.lst [entD t m far]), .own [.int 1], .d (entD t m far)], c⟩ = some (.ok (.own (bs (entB t m far))), ⟨[.d (.lst [entD t m far]), .own [.int 1], .d (entD t m far)], c⟩) :=
    call_at (n := 1) (a := eaCons (evVar 2) eaNil) (m1 := ⟨[.d (.lst [entD t m far]), .own [.int 1], .d (entD t m far)], c⟩) (ds := [entD t m far]) rfl rfl rfl e1
  have body : ex_book_row_for1 ⟨[.d (.lst [entD t m far]), .own [.int 1], .d (entD t m far)], c⟩ = some (.ok .nx, ⟨[.d (.lst [entD t m far]), .own (bs ([1] ++ entB t m far)), .d (entD t m far)], c⟩) :=
    ext_at (i := 1) (m1 := ⟨[.d (.lst [entD t m far]), .own [.int 1], .d (entD t m far)], c⟩) (xs := [.int 1]) (ys := bs (entB t m far)) rfl call1 (by rw [lb]; exact z1) rfl
  have cl : evCall 1 sem_crc_row (eaCons (evVar 1) eaNil) ⟨[.d (.lst [entD t m far]), .own (bs ([1] ++ entB t m far)), .d (entD t m far)], c⟩ = some (.ok (.own (bs (sumB ([1] ++ entB t m far)))), ⟨[.d (.lst [entD t m far]), .d (.lst (bs ([1] ++ entB t m far))), .d (entD t m far)], c⟩) :=
    call_at (n := 1) (a := eaCons (evVar 1) eaNil) (m1 := ⟨[.d (.lst [entD t m far]), .d (.lst (bs ([1] ++ entB t m far))), .d (entD t m far)], c⟩) (ds := [.lst (bs ([1] ++ entB t m far))]) rfl rfl rfl cr
  unfold sem_book_row
  refine sem_rt (args := [.lst [entD t m far]]) (m := ⟨[.d (.lst [entD t m far]), .d (.lst (bs ([1] ++ entB t m far))), .d (entD t m far)], c⟩) (N := 3) (n := 1) rfl ?_
  show ex_book_row ⟨[.d (.lst [entD t m far]), .u, .u], c⟩ = _
  unfold ex_book_row
  rw [seq_nx (m' := ⟨[.d (.lst [entD t m far]), .own [.int 1], .u], c⟩) (by simp)]
  rw [seq_nx (m' := ⟨[.d (.lst [entD t m far]), .own (bs ([1] ++ entB t m far)), .d (entD t m far)], c⟩) (by
    simp only [exFor, eiList, evVar, List.getElem?_cons_zero, bndD_val, solid_lst, if_true, bnd_ok, loopFor, gsName, List.set, body])]
  generalize [1] ++ entB t m far = w at cl lw ⊢
  have ls : (bs (sumB w)).length = 2 := rfl
  have inner : ev2 fAddA (evC (.lstK (k_MARK_book.map D.int))) (evPeek 1) ⟨[.d (.lst [entD t m far]), .own (bs w), .d (entD t m far)], c⟩ = some (.ok (.own (bs [165, 91] ++ bs w)), ⟨[.d (.lst [entD t m far]), .own (bs w), .d (entD t m far)], c⟩) := by
    simp only [ev2_at, evC_at, bndO_val, evPeek, List.getElem?_cons_succ, List.getElem?_cons_zero, fAddA, lsO, lk, lw, z2', if_true]
    rfl
  have all : ev2 fAddA (ev2 fAddA (evC (.lstK (k_MARK_book.map D.int))) (evPeek 1)) (evCall 1 sem_crc_row (eaCons (evVar 1) eaNil)) ⟨[.d (.lst [entD t m far]), .own (bs w), .d (entD t m far)], c⟩ = some (.ok (.own ((bs [165, 91] ++ bs w) ++ bs (sumB w))), ⟨[.d (.lst [entD t m far]), .d (.lst (bs w)), .d (entD t m far)], c⟩) := by
    rw [ev2_at, inner, bndO_own, cl, bndO_own]
    have l3 : (bs [165, 91] ++ bs w).length = 9 + m + 2 := by rw [List.length_append, lw]; simp; omega
    simp only [fAddA, lsO, l3, ls, z3, if_true]
  have e : (bs [165, 91] ++ bs w) ++ bs (sumB w) = bs ([165, 91] ++ w ++ sumB w) := by rw [bs, bs, bs, bs, List.map_append, List.map_append]
  rw [e] at all
  show bnd (ev2 fAddA (ev2 fAddA (evC (.lstK (k_MARK_book.map D.int))) (evPeek 1)) (evCall 1 sem_crc_row (eaCons (evVar 1) eaNil)) ⟨[.d (.lst [entD t m far]), .own (bs w), .d (entD t m far)], c⟩) _ = _
  rw [all]
  rfl
/-! ### a far book: the plain law -/
theorem sum1 : sumB ([0] ++ []) ≠ [0, 0] := by decide +kernel
def farOk (far : Nat) : Prop := far < 40 ∨ (65500 ≤ far ∧ far < 65700)
theorem ent_no {t m far : Nat} (hm3 : m ≤ 3) (hf : farOk far) {k : Nat} {b : Nat} (h : (entB t m far)[k + 1]? = some b) : b ≠ 165 := by
  have hb : b ∈ [m] ++ (nmB m ++ ([1] ++ ([0, 5] ++ farB far))) := List.mem_of_getElem? (i := k) (by
    unfold entB at h
    exact h)
  simp only [List.mem_append, List.mem_singleton] at hb
  rcases hb with rfl | hb | rfl | hb | hb
  · omega
  · have := List.mem_of_mem_take hb
    simp at this
    omega
  · omega
  · simp at hb
    omega
  · unfold farB at hb
    unfold farOk at hf
    simp at hb
    omega
theorem books_far {far t m : Nat} (hf : farOk far) (ht : t ≤ 254) (h1 : 1 ≤ m) (h3 : m ≤ 3) (c : List Cell) :
    ∃ c', sem_books_in [.lst (bs (List.replicate far 0 ++ (bookB t m far ++ List.replicate 9 0)))] c = some (.ok (.own [.tup [.int (far : Nat), .lst [entD t m far]]]), c') := by
  have hf2 : far < 65700 := by unfold farOk at hf; omega
  have hb2 : ∀ b ∈ [1] ++ entB t m far, b < 256 := by
    intro b hb
    rcases List.mem_append.mp hb with hb | hb
    · rw [List.mem_singleton] at hb
      omega
    · exact ent_lt ht h3 (by omega) b hb
  have hs := sumB_lt hb2
  obtain ⟨hi, lo, hsum⟩ : ∃ hi lo, sumB ([1] ++ entB t m far) = [hi, lo] := ⟨_, _, rfl⟩
  have le : (entB t m far).length = 8 + m := by
    unfold entB farB
    simp [name_len h3]
    omega
  have eL : bookB t m far ++ List.replicate 9 0 = [165, 91, 1] ++ (entB t m far ++ ([hi, lo] ++ List.replicate 9 0)) := by
    unfold bookB
    rw [hsum]
    simp
  rw [eL]
  have e0 : (entB t m far)[0]? = some t := rfl
  have e1 : (entB t m far)[1]? = some m := rfl
  have en := fun k b => ent_no (t := t) (m := m) (far := far) h3 hf (k := k) (b := b)
  have elt := ent_lt (t := t) (m := m) (far := far) ht h3 (by omega)
  have yes : ∀ (row tail : List Nat) (p : Nat), row.drop p = [165, 91, 1] ++ (entB t m far ++ tail) → (∀ b ∈ row, b < 256) → tail.take 2 = [hi, lo] → ∀ c, ∃ c', sem_book_at [.lst (bs row), .int (p : Nat)] c = some (.ok (.val (.tup [.lst [entD t m far], .int ((p + 3 + (entB t m far).length + 2 : Nat) : Int)])), c') := by
    intro row tail p hd hb htl c
    obtain ⟨c', r⟩ := book_yes (one := true) (E := entB t m far) rfl h1 h3 ht (by omega) hd hb c
    refine ⟨c', ?_⟩
    rw [if_pos (by rw [htl]; exact hsum.symm)] at r
    exact r
  generalize entB t m far = E at le e0 e1 en elt yes ⊢
  have hb : ∀ b ∈ List.replicate far 0 ++ ([165, 91, 1] ++ (E ++ ([hi, lo] ++ List.replicate 9 0))), b < 256 := by
    intro b hm
    rw [hsum] at hs
    rcases List.mem_append.mp hm with hm | hm
    · rw [(List.mem_replicate.mp hm).2]; decide
    · rcases List.mem_append.mp hm with hm | hm
      · simp at hm
        rcases hm with rfl | rfl | rfl <;> omega
      · rcases List.mem_append.mp hm with hm | hm
        · exact elt b hm
        · rcases List.mem_append.mp hm with hm | hm
          · exact hs b hm
          · rw [(List.mem_replicate.mp hm).2]; decide
  have len : (List.replicate far 0 ++ ([165, 91, 1] ++ (E ++ ([hi, lo] ++ List.replicate 9 0)))).length = far + (3 + (E.length + 11)) := by
    simp
    omega
  refine books_loop (z := ((far + 3 + E.length + 2 : Nat) : Int)) (by rw [len]; omega) (by rw [len]; omega) ?_ ?_ c
  · intro p hp hne c
    by_cases hq : p < far
    · exact book_no (.inl (far_no hq)) c
    · obtain ⟨j, rfl⟩ : ∃ j, p = far + j := ⟨p - far, by omega⟩
      rw [len] at hp
      by_cases h6 : j < 3
      · have : j = 1 ∨ j = 2 := by omega
        rcases this with rfl | rfl
        · refine book_no (.inl ?_) c
          rw [far_at]
          simp
        · refine book_no (.inl ?_) c
          rw [far_at]
          simp
      · obtain ⟨k, rfl⟩ : ∃ k, j = 3 + k := ⟨j - 3, by omega⟩
        have at6 : ∀ k, ([165, 91, 1] ++ (E ++ ([hi, lo] ++ List.replicate 9 0)))[3 + k]? = (E ++ ([hi, lo] ++ List.replicate 9 0))[k]? := fun k => by
          rw [List.getElem?_append_right (by simp)]
          simp
        by_cases hk : k < E.length
        · by_cases hk0 : k = 0
          · subst hk0
            refine book_no (.inr ?_) c
            have e : far + (3 + 0) + 1 = far + (3 + 1) := by omega
            rw [e, far_at, at6, List.getElem?_append_left (by omega), e1]
            intro q
            have q' := Option.some.inj q
            omega
          · obtain ⟨i, rfl⟩ : ∃ i, k = i + 1 := ⟨k - 1, by omega⟩
            refine book_no (.inl ?_) c
            rw [far_at, at6, List.getElem?_append_left hk]
            exact fun q => en i 165 q rfl
        · obtain ⟨i, rfl⟩ : ∃ i, k = E.length + i := ⟨k - E.length, by omega⟩
          have atn : ∀ i, (E ++ ([hi, lo] ++ List.replicate 9 0))[E.length + i]? = ([hi, lo] ++ List.replicate 9 0)[i]? := fun i => by
            rw [List.getElem?_append_right (by omega), Nat.add_sub_cancel_left]
          by_cases h0 : i = 0
          · subst h0
            by_cases hm : hi = 165 ∧ lo = 91
            · obtain ⟨rfl, rfl⟩ := hm
              have hd : (List.replicate far 0 ++ ([165, 91, 1] ++ (E ++ ([165, 91] ++ List.replicate 9 0)))).drop (far + (3 + (E.length + 0))) = [165, 91, if false = true then 1 else 0] ++ ([] ++ List.replicate 8 0) := by
                rw [far_drop, Nat.add_zero, ← List.drop_drop]
                show (E ++ ([165, 91] ++ List.replicate 9 0)).drop E.length = _
                rw [List.drop_left]
                rfl
              obtain ⟨c', r⟩ := book_yes (one := false) (E := []) (t := 0) (m := 1) (far := 0) rfl (by decide) (by decide) (by decide) (by decide) hd hb c
              refine ⟨c', ?_⟩
              rw [if_neg (by
                intro q
                exact sum1 q.symm)] at r
              exact r
            · by_cases hh : hi = 165
              · refine book_no (.inr ?_) c
                have e : far + (3 + (E.length + 0)) + 1 = far + (3 + (E.length + 1)) := by omega
                rw [e, far_at, at6, atn]
                simp
                exact fun q => hm ⟨hh, q⟩
              · refine book_no (.inl ?_) c
                rw [far_at, at6, atn]
                simp
                exact hh
          · by_cases h1 : i = 1
            · subst h1
              refine book_no (.inr ?_) c
              have e : far + (3 + (E.length + 1)) + 1 = far + (3 + (E.length + 2)) := by omega
              rw [e, far_at, at6, atn]
              simp
            · refine book_no (.inl ?_) c
              rw [far_at, at6, atn, List.getElem?_append_right (by simp; omega), List.getElem?_replicate]
              split <;> simp
  · intro c
    exact yes _ _ far (far_drop (j := 0)) hb rfl c
/-! ### the law's draws -/
def mix1 (z k : Int) : Int := z / 2 ^ (1 + 31 * k).toNat
def mix2 (z k : Int) : Int :=
  let n := (z % 2147483647 + 7919 * k + 1) * 48271 % 2147483647
  let n := n * (n / 1009 + 69621) % 2147483629
  n * (n / 2003 + 39373 + k * k) % 2147483587
def mix (z k : Int) : Int := if 1237940039285380274899124224 ≤ z ∧ z % 2 = 1 ∧ 0 < mix1 z k then mix1 z k % 2147483648 else mix2 z k
theorem mixed_eq (z k : Int) (hk : 0 ≤ k) (hk2 : k < 1000000) (c : List Cell) : sem__law_mixed [.int z, .int k] c = some (.ok (.val (.int (mix z k))), c) := by
  have hs : 0 ≤ 1 + 31 * k := by omega
  have hb1 : -18446744073709551616 < k := by omega
  have hb2 : k < 18446744073709551616 := by omega
  unfold mix
  by_cases h1 : 1237940039285380274899124224 ≤ z
  · by_cases h2 : z % 2 = 1
    · by_cases h3 : 0 < z / 2 ^ (1 + 31 * k).toNat
      · simp [sem__law_mixed, ex__law_mixed, h1, h2, h3, mix1, hs]
      · simp [sem__law_mixed, ex__law_mixed, h1, h2, h3, mix1, mix2, hs, fMul_l hb1 hb2]
    · simp [sem__law_mixed, ex__law_mixed, h1, h2, mix2, fMul_l hb1 hb2]
  · simp [sem__law_mixed, ex__law_mixed, h1, mix2, fMul_l hb1 hb2]
theorem mix_nn (z k : Int) : 0 ≤ mix z k := by
  unfold mix mix2
  split
  · exact Int.emod_nonneg _ (by decide)
  · exact Int.emod_nonneg _ (by decide)
/-- the draw's dict -/
def dr (z k : Int) : Cell := .dK [((.inr "cell" : Key), .int z), (.inr "at", .int k)]
theorem dr_new (z : Int) : mergeD [] [((.inr "cell" : Key), .int z), (.inr "at", .int 0)] = [((.inr "cell" : Key), .int z), (.inr "at", .int 0)] := rfl
theorem dr_at (z k : Int) : valD [((.inr "cell" : Key), D.int z), (.inr "at", .int k)] (.inr "at" : Key) = some (.int k) := rfl
theorem dr_cell (z k : Int) : valD [((.inr "cell" : Key), D.int z), (.inr "at", .int k)] (.inr "cell" : Key) = some (.int z) := rfl
theorem dr_put (z k j : Int) : putD [((.inr "cell" : Key), D.int z), (.inr "at", .int k)] (.inr "at" : Key) (.int j) = [((.inr "cell" : Key), D.int z), (.inr "at", .int j)] := rfl
theorem draw_eq {c : List Cell} {id : Nat} {z k m : Int} (h : c[id]? = some (dr z k)) (hk : 0 ≤ k) (hk2 : k < 900000) (hm : 0 < m) :
    sem__law_draw [.ref id, .int m] c = some (.ok (.val (.int (mix z (k + 1) / 3 % m))), c.set id (dr z (k + 1))) := by
  have hs : ∀ x, (c.set id x)[id]? = some x := fun x => List.getElem?_set_self (List.getElem?_eq_some_iff.mp h).1
  unfold dr at h
  have e := mixed_eq z (k + 1) (by omega) (by omega) (c.set id (dr z (k + 1)))
  unfold dr at e
  simp [sem__law_draw, ex__law_draw, h, dr_at, dr_put, dr_cell, hs, e, hm, dr]
/-- a draw stands at id, taken at most n times -/
def Dw (c : List Cell) (id : Nat) (n : Int) : Prop := ∃ z k, c[id]? = some (dr z k) ∧ 0 ≤ k ∧ k ≤ n
theorem draw_ex {c : List Cell} {id : Nat} {n m : Int} (h : Dw c id n) (hn : n < 900000) (hm : 0 < m) : ∃ r c', sem__law_draw [.ref id, .int m] c = some (.ok (.val (.int r)), c') ∧ 0 ≤ r ∧ r < m ∧ Dw c' id (n + 1) ∧ c'.length = c.length ∧ ∀ j, j ≠ id → c'[j]? = c[j]? := by
  obtain ⟨z, k, h1, h2, h3⟩ := h
  have hi : id < c.length := (List.getElem?_eq_some_iff.mp h1).1
  refine ⟨_, _, draw_eq h1 h2 (by omega) hm, Int.emod_nonneg _ (by omega), Int.emod_lt_of_pos _ hm, ⟨z, k + 1, ?_, by omega, by omega⟩, ?_, fun j hj => ?_⟩
  · rw [List.getElem?_set_self hi]
  · rw [List.length_set]
  · rw [List.getElem?_set_ne (Ne.symm hj)]
theorem cell_eq (ns : List Int) (c : List Cell) : ∃ v, sem__law_cell_at [.lstK (ns.map D.int), .int 0] c = some (.ok (.val (.int v)), c) := by
  cases ns with
  | nil => exact ⟨0, by simp [sem__law_cell_at, ex__law_cell_at]⟩
  | cons n ns => exact ⟨n, by simp [sem__law_cell_at, ex__law_cell_at]⟩
theorem draw_n {c : List Cell} {id m : Nat} {n : Int} {mm : Int} (hmm : mm = (m : Nat)) (h : Dw c id n) (hn : n < 900000) (hm : 0 < m) : ∃ (r : Nat) (c' : List Cell), sem__law_draw [.ref id, .int mm] c = some (.ok (.val (.int (r : Nat))), c') ∧ r < m ∧ Dw c' id (n + 1) := by
  subst hmm
  obtain ⟨r, c', e, p, q, d, _⟩ := draw_ex (m := (m : Nat)) h hn (by omega)
  obtain ⟨k, rfl⟩ := Int.eq_ofNat_of_zero_le p
  exact ⟨k, c', e, by omega, d⟩
theorem lc_draw {id : Nat} : ∀ (ds acc : List D) (g : List Sl) (c : List Cell) (n : Int), Dw c id n → n + ds.length < 800000 → g[1]? = some (.d (.ref id)) → acc.length + ds.length ≤ 1000 →
    ∃ (text : List Nat) (c' : List Cell), lcLoop (gsName 7) evYes (ev2 fAddA (evC (.int 1)) (evCall 2 sem__law_draw (eaCons (evVar 1) (eaCons (evC (.int 160)) eaNil)))) [7] ds acc ⟨g, c⟩ = some (acc ++ bs text, ⟨g.set 7 .u, c'⟩) ∧ text.length = ds.length ∧ (∀ b ∈ text, b ≤ 160) ∧ Dw c' id (n + ds.length)
  | [], acc, g, c, n, h, _, g1, _ => ⟨[], c, by simp [lcLoop, wipeM, wipeG], rfl, by simp, by simpa using h⟩
  | d :: ds, acc, g, c, n, h, hn, g1, hz => by
    rw [List.length_cons] at hn hz
    obtain ⟨r, c1, e1, q1, h1⟩ := draw_n (m := 160) (mm := 160) rfl h (by omega) (by decide)
    have g2 : ((g.set 7 .u).set 7 (.d d))[1]? = some (.d (.ref id)) := by
      rw [List.getElem?_set_ne (by decide), List.getElem?_set_ne (by decide), g1]
    obtain ⟨text, c2, e2, l2, b2, h2⟩ := lc_draw ds (acc ++ [.int ((1 + r : Nat) : Int)]) ((g.set 7 .u).set 7 (.d d)) c1 (n + 1) h1 (by omega) g2 (by
      rw [List.length_append, List.length_singleton]
      omega)
    have hz2 : szOk (acc.length + 1) = true := szOk_of (by omega)
    have te : ev2 fAddA (evC (.int 1)) (evCall 2 sem__law_draw (eaCons (evVar 1) (eaCons (evC (.int 160)) eaNil))) ⟨(g.set 7 .u).set 7 (.d d), c⟩ = some (.ok (.val (.int ((1 + r : Nat) : Int))), ⟨(g.set 7 .u).set 7 (.d d), c1⟩) := by
      have ca : evCall 2 sem__law_draw (eaCons (evVar 1) (eaCons (evC (.int 160)) eaNil)) ⟨(g.set 7 .u).set 7 (.d d), c⟩ = some (.ok (.val (.int (r : Nat))), ⟨(g.set 7 .u).set 7 (.d d), c1⟩) :=
        call_at (n := 2) (m1 := ⟨(g.set 7 .u).set 7 (.d d), c⟩) (ds := [.ref id, .int 160]) (by
          simp only [eaCons, eaNil, evVar, g2, bndD_val, solid_ref, if_true, bnd_ok, evC_at, solid_int]
          rfl) rfl rfl e1
      rw [ev2_at, evC_at, bndO_val, ca, bndO_val, fAdd_at, Int.natCast_add]
      rfl
    refine ⟨(1 + r) :: text, c2, ?_, by rw [List.length_cons, List.length_cons, l2], ?_, ?_⟩
    · unfold lcLoop
      simp only [wipeM, wipeG, gsName, evYes, te, bndD_val, solid_int, if_true, hz2]
      rw [e2]
      simp
    · intro b hb
      rcases List.mem_cons.mp hb with rfl | hb
      · omega
      · exact b2 b hb
    · have e : n + 1 + (ds.length : Int) = n + ((ds.length + 1 : Nat) : Int) := by omega
      rw [e] at h2
      exact h2
theorem rep_at {n : Nat} {b : Ev} {m m1 : MSt} (hb : b m = some (.ok (.val (.int (n : Nat))), m1)) (hn : n ≤ 66000) : evRep (evLst (eaCons (evC (.int 0)) eaNil)) b m = some (.ok (.own (bs (List.replicate n 0))), m1) := by
  have z : szOk ([D.int 0].length * ((n : Nat) : Int).toNat) = true := szOk_of (by simp; omega)
  have b1 : decide (-(2 ^ 63) ≤ ((n : Nat) : Int)) = true := decide_eq_true (by
    have e : (2 : Int) ^ 63 = 9223372036854775808 := by decide
    rw [e]
    omega)
  have b2 : decide (((n : Nat) : Int) < 2 ^ 63) = true := decide_eq_true (by
    have e : (2 : Int) ^ 63 = 9223372036854775808 := by decide
    rw [e]
    omega)
  have fl : (List.replicate ((n : Nat) : Int).toNat [D.int 0]).flatten = bs (List.replicate n 0) := by
    simp [bs]
  have z1 : szOk 1 = true := rfl
  have e0 : evLst (eaCons (evC (.int 0)) eaNil) m = some (.ok (.own [.int 0]), m) := rfl
  unfold evRep
  rw [e0, bndW_own, hb, bndO_val]
  unfold fRep
  simp only [b1, b2, z, fl, Bool.and_self, if_true]
theorem add_at {a b : Ev} {m m1 m2 : MSt} {xs ys : List D} (ha : a m = some (.ok (.own xs), m1)) (hb : b m1 = some (.ok (.own ys), m2)) (hz : xs.length + ys.length ≤ 16777216) : ev2 fAddA a b m = some (.ok (.own (xs ++ ys)), m2) := by
  rw [ev2_at, ha, bndO_own, hb, bndO_own]
  unfold fAddA
  have z := szOk_of hz
  simp only [lsO, z, if_true]
theorem bs_app (a b : List Nat) : bs a ++ bs b = bs (a ++ b) := (List.map_append).symm
theorem far_len {far : Nat} {L : List Nat} : (bs (List.replicate far 0 ++ L)).length = far + L.length := by rw [List.length_map, List.length_append, List.length_replicate]

theorem if_t {c : EvB} {a b : Ex} {m m1 : MSt} (h : c m = some (.ok true, m1)) : exIf c a b m = a m1 := by
  unfold exIf
  rw [h]
  rfl
theorem if_f {c : EvB} {a b : Ex} {m m1 : MSt} (h : c m = some (.ok false, m1)) : exIf c a b m = b m1 := by
  unfold exIf
  rw [h]
  rfl
theorem ret_bl {a : Ev} {m m1 : MSt} {b : Bool} (h : a m = some (.ok (.val (.bl b)), m1)) : exRet a m = some (.ok (.rt (.val (.bl b))), m1) := by
  unfold exRet
  rw [h]
  rfl
theorem set_own {i : Nat} {a : Ev} {m m' : MSt} {xs : List D} (h : a m = some (.ok (.own xs), m')) : exSet i a m = some (.ok .nx, { m' with g := m'.g.set i (.own xs) }) := by
  unfold exSet
  rw [h]
  rfl
theorem ea1 {a : Ev} {m m1 : MSt} {xs : List D} (h : a m = some (.ok (.own xs), m1)) : eaCons a eaNil m = some (.ok [.lst xs], m1) := by
  unfold eaCons
  rw [h]
  rfl
theorem eq_own {a b : Ev} {m m1 m2 : MSt} {xs : List D} (ha : a m = some (.ok (.own xs), m1)) (hb : b m1 = some (.ok (.own xs), m2)) (ok : okDs 59 xs = true) : ev2 fEq a b m = some (.ok (.val (.bl true)), m2) := by
  rw [ev2_at, ha, bndO_own, hb, bndO_own]
  exact fEq_self (by rw [okD_lst60]; exact ok) rfl (fun s z => by cases z)
theorem self_eq {xs : List D} {m : MSt} (h : okDs 59 xs = true) : fEq (.lst xs) (.lst xs) m = some (.ok (.val (.bl true)), m) := fEq_self (by rw [okD_lst60]; exact h) rfl (fun s z => by cases z)
theorem law_true (ns : List Int) (hn : ns.length ≤ 63) : ∃ c, sem_law [.lstK (ns.map D.int)] [] = some (.ok (.val (.bl true)), c) := by
  obtain ⟨v, e0⟩ := cell_eq ns []
  have D0 : Dw [dr v 0] 0 0 := ⟨v, 0, rfl, by decide, by decide⟩
  -- far
  obtain ⟨x1, c1, a1, l1, D1⟩ := draw_n (m := 40) (mm := 40) rfl D0 (by decide) (by decide)
  obtain ⟨x2, c2, a2, l2, D2⟩ := draw_n (m := 200) (mm := 200) rfl D1 (by decide) (by decide)
  obtain ⟨x3, c3, a3, l3, D3⟩ := draw_n (m := 8) (mm := 8) rfl D2 (by decide) (by decide)
  have hfar : ∃ far : Nat, farOk far ∧ ev2 fIx (evLst (eaCons (evCall 2 sem__law_draw (eaCons (evVar 1) (eaCons (evC (.int 40)) eaNil))) (eaCons (ev2 fAddA (evC (.int 65500)) (evCall 2 sem__law_draw (eaCons (evVar 1) (eaCons (evC (.int 200)) eaNil)))) eaNil))) (ev2 fDiv (evCall 2 sem__law_draw (eaCons (evVar 1) (eaCons (evC (.int 8)) eaNil))) (evC (.int 7)))
      ⟨[.d (.lstK (ns.map D.int)), .d (.ref 0), .u, .u, .u, .u, .u, .u], [dr v 0]⟩ = some (.ok (.val (.int (far : Nat))), ⟨[.d (.lstK (ns.map D.int)), .d (.ref 0), .u, .u, .u, .u, .u, .u], c3⟩) := by
    by_cases h7 : x3 < 7
    · refine ⟨x1, .inl l1, ?_⟩
      have q : ((x3 : Nat) : Int) / 7 = 0 := by omega
      simp [a1, a2, a3, q, atD, L2.atI, ixN]
    · refine ⟨65500 + x2, .inr (by omega), ?_⟩
      have q : ((x3 : Nat) : Int) / 7 = 1 := by omega
      simp [a1, a2, a3, q, atD, L2.atI, ixN]
  obtain ⟨far, fo, efar⟩ := hfar
  have hf2 : far < 65700 := by unfold farOk at fo; omega
  -- text
  obtain ⟨x4, c4, a4, l4, D4⟩ := draw_n (m := 9) (mm := 9) rfl D3 (by decide) (by decide)
  obtain ⟨text, c5, lt, tl, tb, D5⟩ := lc_draw (id := 0) (rngL 0 x4) [] [.d (.lstK (ns.map D.int)), .d (.ref 0), .d (.int (far : Nat)), .u, .u, .u, .u, .u] c4 _ D4 (by rw [rngL_len]; omega) rfl (by rw [rngL_len]; simp; omega)
  rw [rngL_len] at tl D5
  rw [List.nil_append] at lt
  obtain ⟨t, c6, a6, l6, D6⟩ := draw_n (m := 255) (mm := 255) rfl D5 (by omega) (by decide)
  obtain ⟨x7, c7, a7, l7, D7⟩ := draw_n (m := 2) (mm := 2) rfl D6 (by omega) (by decide)
  have c62x : c62 ((x4 : Nat) : Int) = true := c62_of (by omega) (by omega)
  have s1 : exSet 1 (evDisp (epCons (evC (.str "cell")) (evCall 2 sem__law_cell_at (eaCons (evVar 0) (eaCons (evC (.int 0)) eaNil))) (epCons (evC (.str "at")) (evC (.int 0)) epNil))) ⟨[.d (.lstK (ns.map D.int)), .u, .u, .u, .u, .u, .u, .u], []⟩ = some (.ok .nx, ⟨[.d (.lstK (ns.map D.int)), .d (.ref 0), .u, .u, .u, .u, .u, .u], [dr v 0]⟩) := by
    simp [e0, keyD, dr_new, dr]
  have s3 : exSet 3 (evLc (eiRng1 (eaCons (evCall 2 sem__law_draw (eaCons (evVar 1) (eaCons (evC (.int 9)) eaNil))) eaNil)) (gsName 7) evYes (ev2 fAddA (evC (.int 1)) (evCall 2 sem__law_draw (eaCons (evVar 1) (eaCons (evC (.int 160)) eaNil)))) [7]) ⟨[.d (.lstK (ns.map D.int)), .d (.ref 0), .d (.int (far : Nat)), .u, .u, .u, .u, .u], c3⟩ = some (.ok .nx, ⟨[.d (.lstK (ns.map D.int)), .d (.ref 0), .d (.int (far : Nat)), .own (bs text), .u, .u, .u, .u], c5⟩) := by
    have ca : evCall 2 sem__law_draw (eaCons (evVar 1) (eaCons (evC (.int 9)) eaNil)) ⟨[.d (.lstK (ns.map D.int)), .d (.ref 0), .d (.int (far : Nat)), .u, .u, .u, .u, .u], c3⟩ = some (.ok (.val (.int (x4 : Nat))), ⟨[.d (.lstK (ns.map D.int)), .d (.ref 0), .d (.int (far : Nat)), .u, .u, .u, .u, .u], c4⟩) := by
      simp [a4]
    have it : eiRng1 (eaCons (evCall 2 sem__law_draw (eaCons (evVar 1) (eaCons (evC (.int 9)) eaNil))) eaNil) ⟨[.d (.lstK (ns.map D.int)), .d (.ref 0), .d (.int (far : Nat)), .u, .u, .u, .u, .u], c3⟩ = some (.ok (rngL 0 x4), ⟨[.d (.lstK (ns.map D.int)), .d (.ref 0), .d (.int (far : Nat)), .u, .u, .u, .u, .u], c4⟩) := by
      rw [eiRng1_at]
      simp only [eaCons, ca, bndO_val, eaNil, bnd_ok, fRng1_at c62x, Int.toNat_natCast]
    simp only [exSet, evLc, it, bnd_ok, lt]
    rfl
  have s4 : exSet 4 (evCall 2 sem__law_draw (eaCons (evVar 1) (eaCons (evC (.int 255)) eaNil))) ⟨[.d (.lstK (ns.map D.int)), .d (.ref 0), .d (.int (far : Nat)), .own (bs text), .u, .u, .u, .u], c5⟩ = some (.ok .nx, ⟨[.d (.lstK (ns.map D.int)), .d (.ref 0), .d (.int (far : Nat)), .own (bs text), .d (.int (t : Nat)), .u, .u, .u], c6⟩) := by
    simp [a6]
  by_cases way : x7 = 0
  · subst way
    have tlen : text.length ≤ 8 := by omega
    have pr := piece_row_eq (t := t) (num := 7) (text := text) (by omega) (by omega) (by decide) (fun b h => by have := tb b h; omega) c7
    have pf := pieces_far (far := far) (t := t) (text := text) (by omega) (by omega) tlen tb c7
    have pl : (pieceB t 7 text).length = 8 + text.length := by simp [pieceB, sumB]; omega
    generalize pieceB t 7 text = P at pr pf pl
    have k1 : evCall 4 sem_piece_row (eaCons (evVar 4) (eaCons (evC (.int 7)) (eaCons (evCB fList (eaCons (evPeek 3) eaNil)) (eaCons (evC (.int 256)) eaNil)))) ⟨[.d (.lstK (ns.map D.int)), .d (.ref 0), .d (.int (far : Nat)), .own (bs text), .d (.int (t : Nat)), .u, .u, .u], c7⟩ = some (.ok (.own (bs P)), ⟨[.d (.lstK (ns.map D.int)), .d (.ref 0), .d (.int (far : Nat)), .own (bs text), .d (.int (t : Nat)), .u, .u, .u], c7⟩) :=
      call_at (n := 4) (m1 := ⟨[.d (.lstK (ns.map D.int)), .d (.ref 0), .d (.int (far : Nat)), .own (bs text), .d (.int (t : Nat)), .u, .u, .u], c7⟩) (ds := [.int (t : Nat), .int 7, .lst (bs text), .int 256]) rfl rfl rfl pr
    have k2 := add_at (rep_at (n := far) (b := evPeek 2) (m := ⟨[.d (.lstK (ns.map D.int)), .d (.ref 0), .d (.int (far : Nat)), .own (bs text), .d (.int (t : Nat)), .u, .u, .u], c7⟩) rfl (by omega)) k1 (by rw [List.length_map, List.length_map, List.length_replicate, pl]; omega)
    have k3 := add_at k2 (rep_at (n := 9) (b := evC (.int 9)) rfl (by omega)) (by rw [bs_app, far_len, List.length_map, List.length_replicate, pl]; omega)
    rw [bs_app, bs_app, List.append_assoc] at k3
    generalize List.replicate far 0 ++ (P ++ List.replicate 9 0) = row at k3 pf
    have ok : okDs 59 [.tup [.int (far : Nat), .int (t : Nat), .int 7, .lst (bs text)]] = true := by
      simp [okDs_bs, -List.map_map]
    refine ⟨c7, ?_⟩
    unfold sem_law
    refine sem_rt (args := [.lstK (ns.map D.int)]) (m := ⟨[.d (.lstK (ns.map D.int)), .d (.ref 0), .d (.int (far : Nat)), .d (.lst (bs text)), .d (.int (t : Nat)), .d (.lst (bs row)), .u, .u], c7⟩) (N := 8) (n := 1) rfl ?_
    show ex_law ⟨[.d (.lstK (ns.map D.int)), .u, .u, .u, .u, .u, .u, .u], []⟩ = _
    unfold ex_law
    rw [seq_nx s1, seq_nx (m' := ⟨[.d (.lstK (ns.map D.int)), .d (.ref 0), .d (.int (far : Nat)), .u, .u, .u, .u, .u], c3⟩) (set_int (i := 2) efar), seq_nx (m' := ⟨[.d (.lstK (ns.map D.int)), .d (.ref 0), .d (.int (far : Nat)), .own (bs text), .u, .u, .u, .u], c5⟩) s3, seq_nx s4]
    have cond : evT (ev2 fEq (evCall 2 sem__law_draw (eaCons (evVar 1) (eaCons (evC (.int 2)) eaNil))) (evC (.int 0))) ⟨[.d (.lstK (ns.map D.int)), .d (.ref 0), .d (.int (far : Nat)), .own (bs text), .d (.int (t : Nat)), .u, .u, .u], c6⟩ = some (.ok true, ⟨[.d (.lstK (ns.map D.int)), .d (.ref 0), .d (.int (far : Nat)), .own (bs text), .d (.int (t : Nat)), .u, .u, .u], c7⟩) := by
      simp [a7]
    have q1 : evCall 1 sem_pieces_in (eaCons (evVar 5) eaNil) ⟨[.d (.lstK (ns.map D.int)), .d (.ref 0), .d (.int (far : Nat)), .own (bs text), .d (.int (t : Nat)), .own (bs row), .u, .u], c7⟩ = _ :=
      call_at (n := 1) (m1 := ⟨[.d (.lstK (ns.map D.int)), .d (.ref 0), .d (.int (far : Nat)), .own (bs text), .d (.int (t : Nat)), .d (.lst (bs row)), .u, .u], c7⟩) (ds := [.lst (bs row)]) rfl rfl rfl pf
    refine seq_rt ?_
    rw [if_t cond]
    rw [seq_nx (m' := ⟨[.d (.lstK (ns.map D.int)), .d (.ref 0), .d (.int (far : Nat)), .own (bs text), .d (.int (t : Nat)), .own (bs row), .u, .u], c7⟩) (set_own (i := 5) k3)]
    exact ret_bl (eq_own q1 rfl ok)
  · obtain ⟨x8, c8, a8, l8, D8⟩ := draw_n (m := 3) (mm := 3) rfl D7 (by omega) (by decide)
    have way1 : ¬ (((x7 : Nat) : Int) = 0) := by omega
    have cond : evT (ev2 fEq (evCall 2 sem__law_draw (eaCons (evVar 1) (eaCons (evC (.int 2)) eaNil))) (evC (.int 0))) ⟨[.d (.lstK (ns.map D.int)), .d (.ref 0), .d (.int (far : Nat)), .own (bs text), .d (.int (t : Nat)), .u, .u, .u], c6⟩ = some (.ok false, ⟨[.d (.lstK (ns.map D.int)), .d (.ref 0), .d (.int (far : Nat)), .own (bs text), .d (.int (t : Nat)), .u, .u, .u], c7⟩) := by
      simp [a7, way]
    have m1 : 1 ≤ 1 + x8 := by omega
    have m3 : 1 + x8 ≤ 3 := by omega
    have en : nmS (1 + x8) = cutS "abc" none (some (1 + ((x8 : Nat) : Int))) := by
      unfold nmS
      rw [Int.natCast_add]
      rfl
    have okn : PyData.strOk (nmS (1 + x8)) = true := by
      have : x8 = 0 ∨ x8 = 1 ∨ x8 = 2 := by omega
      rcases this with rfl | rfl | rfl <;> decide +kernel
    generalize 1 + x8 = m at m1 m3 en okn
    have br := book_row_eq (t := t) (m := m) (far := far) (by omega) m1 m3 (by omega) c8
    obtain ⟨c9, bf⟩ := books_far (far := far) (t := t) (m := m) fo (by omega) m1 m3 c8
    have bl : (bookB t m far).length = 13 + m := by
      simp [bookB, sumB, entB, farB, name_len m3]
      omega
    have ok : okDs 59 [.tup [.int (far : Nat), .lst [entD t m far]]] = true := by
      simp [entD, okn]
    have z3 : szOk ("abc" : Str).length = true := rfl
    have s6 : exSet 6 (evTup (eaCons (evVar 4) (eaCons (evSl (evC (.str "abc")) evN (evP (ev2 fAddA (evC (.int 1)) (evCall 2 sem__law_draw (eaCons (evVar 1) (eaCons (evC (.int 3)) eaNil)))))) (eaCons (evC (.int 5)) (eaCons (evLst (eaCons (evVar 2) eaNil)) eaNil))))) ⟨[.d (.lstK (ns.map D.int)), .d (.ref 0), .d (.int (far : Nat)), .own (bs text), .d (.int (t : Nat)), .u, .u, .u], c7⟩ = some (.ok .nx, ⟨[.d (.lstK (ns.map D.int)), .d (.ref 0), .d (.int (far : Nat)), .own (bs text), .d (.int (t : Nat)), .u, .d (entD t m far), .u], c8⟩) := by
      unfold entD
      rw [en]
      have z1 : szOk 1 = true := rfl
      have z4 : szOk 4 = true := rfl
      simp [a8, evN, evP, z3, z1, z4, -szOk_add_lit]
    generalize hE : entD t m far = e at br bf ok s6
    have sd : solid e = true := by rw [← hE]; rfl
    generalize bookB t m far = P at br bf bl
    have k1 : evCall 1 sem_book_row (eaCons (evLst (eaCons (evVar 6) eaNil)) eaNil) ⟨[.d (.lstK (ns.map D.int)), .d (.ref 0), .d (.int (far : Nat)), .own (bs text), .d (.int (t : Nat)), .u, .d e, .u], c8⟩ = some (.ok (.own (bs P)), ⟨[.d (.lstK (ns.map D.int)), .d (.ref 0), .d (.int (far : Nat)), .own (bs text), .d (.int (t : Nat)), .u, .d e, .u], c8⟩) :=
      call_at (n := 1) (m1 := ⟨[.d (.lstK (ns.map D.int)), .d (.ref 0), .d (.int (far : Nat)), .own (bs text), .d (.int (t : Nat)), .u, .d e, .u], c8⟩) (ds := [.lst [e]]) (by
        simp [sd]) rfl rfl br
    have k2 := add_at (rep_at (n := far) (b := evPeek 2) (m := ⟨[.d (.lstK (ns.map D.int)), .d (.ref 0), .d (.int (far : Nat)), .own (bs text), .d (.int (t : Nat)), .u, .d e, .u], c8⟩) rfl (by omega)) k1 (by rw [List.length_map, List.length_map, List.length_replicate, bl]; omega)
    have k3 := add_at k2 (rep_at (n := 9) (b := evC (.int 9)) rfl (by omega)) (by rw [bs_app, far_len, List.length_map, List.length_replicate, bl]; omega)
    rw [bs_app, bs_app, List.append_assoc] at k3
    generalize List.replicate far 0 ++ (P ++ List.replicate 9 0) = row at k3 bf
    have q1 := call_at (n := 1) (ea1 k3) rfl rfl bf
    have q2 : evLst (eaCons (evTup (eaCons (evVar 2) (eaCons (evLst (eaCons (evVar 6) eaNil)) eaNil))) eaNil) ⟨[.d (.lstK (ns.map D.int)), .d (.ref 0), .d (.int (far : Nat)), .own (bs text), .d (.int (t : Nat)), .u, .d e, .u], c9⟩ = some (.ok (.own [.tup [.int (far : Nat), .lst [e]]]), ⟨[.d (.lstK (ns.map D.int)), .d (.ref 0), .d (.int (far : Nat)), .own (bs text), .d (.int (t : Nat)), .u, .d e, .u], c9⟩) := by
      simp [sd]
    refine ⟨c9, ?_⟩
    unfold sem_law
    refine sem_rt (args := [.lstK (ns.map D.int)]) (m := ⟨[.d (.lstK (ns.map D.int)), .d (.ref 0), .d (.int (far : Nat)), .own (bs text), .d (.int (t : Nat)), .u, .d e, .u], c9⟩) (N := 8) (n := 1) rfl ?_
    show ex_law ⟨[.d (.lstK (ns.map D.int)), .u, .u, .u, .u, .u, .u, .u], []⟩ = _
    unfold ex_law
    rw [seq_nx s1, seq_nx (m' := ⟨[.d (.lstK (ns.map D.int)), .d (.ref 0), .d (.int (far : Nat)), .u, .u, .u, .u, .u], c3⟩) (set_int (i := 2) efar), seq_nx (m' := ⟨[.d (.lstK (ns.map D.int)), .d (.ref 0), .d (.int (far : Nat)), .own (bs text), .u, .u, .u, .u], c5⟩) s3, seq_nx s4]
    rw [seq_nx (m' := ⟨[.d (.lstK (ns.map D.int)), .d (.ref 0), .d (.int (far : Nat)), .own (bs text), .d (.int (t : Nat)), .u, .u, .u], c7⟩) (by
      rw [if_f cond]
      rfl)]
    rw [seq_nx s6]
    exact ret_bl (eq_own q1 q2 ok)
end Wk75

set_option Elab.async false
set_option linter.all false
set_option maxRecDepth 100000
set_option maxHeartbeats 8000000
namespace Wk75
open PySem L2 MP
theorem all_mk {l : PySem.W.OpenLaw} {w : World} {K : PySem.W.Frag} {h : Heap} {mg : Str → Option Value} {fa : Addr} (X : K.In h) (G : h.Ns mainGlobals mg) (hfa : mg "law" = some (.ref fa))
    {A4 : Addr}
    {f1 : Addr} {od1 an1 : Option Addr} {sl1 : Array (Option Value)} {oc1 kV1 dc1 pm1 cd1 ct1 : Value}
    {f2 : Addr} {od2 an2 : Option Addr} {sl2 : Array (Option Value)} {oc2 kV2 dc2 pm2 cd2 ct2 : Value}
    {f3 : Addr} {od3 an3 : Option Addr} {sl3 : Array (Option Value)} {oc3 kV3 dc3 pm3 cd3 ct3 : Value}
    {f4 : Addr} {od4 an4 : Option Addr} {sl4 : Array (Option Value)} {oc4 kV4 dc4 pm4 cd4 ct4 : Value}
    {f5 : Addr} {od5 an5 : Option Addr} {sl5 : Array (Option Value)} {oc5 kV5 dc5 pm5 cd5 ct5 : Value}
    {f6 : Addr} {od6 an6 : Option Addr} {sl6 : Array (Option Value)} {oc6 kV6 dc6 pm6 cd6 ct6 : Value}
    {f7 : Addr} {od7 an7 : Option Addr} {sl7 : Array (Option Value)} {oc7 kV7 dc7 pm7 cd7 ct7 : Value}
    {f8 : Addr} {od8 an8 : Option Addr} {sl8 : Array (Option Value)} {oc8 kV8 dc8 pm8 cd8 ct8 : Value}
    {f9 : Addr} {od9 an9 : Option Addr} {sl9 : Array (Option Value)} {oc9 kV9 dc9 pm9 cd9 ct9 : Value}
    {f10 : Addr} {od10 an10 : Option Addr} {sl10 : Array (Option Value)} {oc10 kV10 dc10 pm10 cd10 ct10 : Value}
    {f11 : Addr} {od11 an11 : Option Addr} {sl11 : Array (Option Value)} {oc11 kV11 dc11 pm11 cd11 ct11 : Value}
    {f12 : Addr} {od12 an12 : Option Addr} {sl12 : Array (Option Value)} {oc12 kV12 dc12 pm12 cd12 ct12 : Value}
    {f13 : Addr} {od13 an13 : Option Addr} {sl13 : Array (Option Value)} {oc13 kV13 dc13 pm13 cd13 ct13 : Value}
    {f14 : Addr} {od14 an14 : Option Addr} {sl14 : Array (Option Value)} {oc14 kV14 dc14 pm14 cd14 ct14 : Value}
    {f15 : Addr} {od15 an15 : Option Addr} {sl15 : Array (Option Value)} {oc15 kV15 dc15 pm15 cd15 ct15 : Value}
    {f16 : Addr} {od16 an16 : Option Addr} {sl16 : Array (Option Value)} {oc16 kV16 dc16 pm16 cd16 ct16 : Value}
    {f17 : Addr} {od17 an17 : Option Addr} {sl17 : Array (Option Value)} {oc17 kV17 dc17 pm17 cd17 ct17 : Value}
    {f18 : Addr} {od18 an18 : Option Addr} {sl18 : Array (Option Value)} {oc18 kV18 dc18 pm18 cd18 ct18 : Value}
    {f19 : Addr} {od19 an19 : Option Addr} {sl19 : Array (Option Value)} {oc19 kV19 dc19 pm19 cd19 ct19 : Value}
    {f20 : Addr} {od20 an20 : Option Addr} {sl20 : Array (Option Value)} {oc20 kV20 dc20 pm20 cd20 ct20 : Value}
    {f21 : Addr} {od21 an21 : Option Addr} {sl21 : Array (Option Value)} {oc21 kV21 dc21 pm21 cd21 ct21 : Value}
    {f22 : Addr} {od22 an22 : Option Addr} {sl22 : Array (Option Value)} {oc22 kV22 dc22 pm22 cd22 ct22 : Value}
    {f23 : Addr} {od23 an23 : Option Addr} {sl23 : Array (Option Value)} {oc23 kV23 dc23 pm23 cd23 ct23 : Value}
    {tk28 : Tok}
    {tk29 : Tok}
    {ac30 : Addr} {tk30_0 tk30_1 : Tok} {n30 : Nat} {sl30 : Array (Option Value)}
    {tk31 : Tok}
    {tk32 : Tok}
    {tk33 : Tok}
    {tk34 : Tok}
    {tk35 : Tok}
    {ac36 : Addr} {tk36_0 tk36_1 : Tok} {n36 : Nat} {sl36 : Array (Option Value)}
    {tk37 : Tok}
    {tk38 : Tok}
    {ac39 : Addr} {tk39_0 tk39_1 tk39_2 tk39_3 tk39_4 tk39_5 tk39_6 tk39_7 tk39_8 tk39_9 tk39_10 tk39_11 tk39_12 tk39_13 tk39_14 tk39_15 tk39_16 tk39_17 tk39_18 tk39_19 tk39_20 tk39_21 tk39_22 tk39_23 tk39_24 tk39_25 tk39_26 tk39_27 tk39_28 tk39_29 tk39_30 tk39_31 tk39_32 tk39_33 tk39_34 tk39_35 tk39_36 tk39_37 : Tok} {n39 : Nat} {sl39 : Array (Option Value)}
    {tk40 : Tok}
    {tk41 : Tok}
    (a1 : PySem.W.nsIn K mainGlobals "_law_cell_at" = some (some (.ref f1)))
    (l1 : K.lookup f1 = some ⟨oc1, od1, .func (PySem.W.fnOf "_law_cell_at" "_law_cell_at" (defArgs (top 85)) (defBody (top 85)) (defScope (top 85)) .none kV1 dc1 pm1 an1 cd1 ct1), sl1⟩) (c1 : PySem.W.codeIn K cd1 "_law_cell_at" = true) (k1 : PySem.W.keepIn K (.ref f1) = true)
    (a2 : PySem.W.nsIn K mainGlobals "_law_mixed" = some (some (.ref f2)))
    (l2 : K.lookup f2 = some ⟨oc2, od2, .func (PySem.W.fnOf "_law_mixed" "_law_mixed" (defArgs (top 86)) (defBody (top 86)) (defScope (top 86)) .none kV2 dc2 pm2 an2 cd2 ct2), sl2⟩) (c2 : PySem.W.codeIn K cd2 "_law_mixed" = true) (k2 : PySem.W.keepIn K (.ref f2) = true)
    (a3 : PySem.W.nsIn K mainGlobals "_law_draw" = some (some (.ref f3)))
    (l3 : K.lookup f3 = some ⟨oc3, od3, .func (PySem.W.fnOf "_law_draw" "_law_draw" (defArgs (top 87)) (defBody (top 87)) (defScope (top 87)) .none kV3 dc3 pm3 an3 cd3 ct3), sl3⟩) (c3 : PySem.W.codeIn K cd3 "_law_draw" = true) (k3 : PySem.W.keepIn K (.ref f3) = true)
    (a4 : PySem.W.nsIn K mainGlobals "body_of" = some (some (.ref f4)))
    (l4 : K.lookup f4 = some ⟨oc4, od4, .func (PySem.W.fnOf "body_of" "body_of" (defArgs (top 74)) (defBody (top 74)) (defScope (top 74)) .none kV4 dc4 pm4 an4 cd4 ct4), sl4⟩) (c4 : PySem.W.codeIn K cd4 "body_of" = true) (k4 : PySem.W.keepIn K (.ref f4) = true)
    (a5 : PySem.W.nsIn K mainGlobals "crc_on" = some (some (.ref f5)))
    (l5 : K.lookup f5 = some ⟨oc5, od5, .func (PySem.W.fnOf "crc_on" "crc_on" (defArgs (top 4)) (defBody (top 4)) (defScope (top 4)) .none kV5 dc5 pm5 an5 cd5 ct5), sl5⟩) (c5 : PySem.W.codeIn K cd5 "crc_on" = true) (k5 : PySem.W.keepIn K (.ref f5) = true)
    (a6 : PySem.W.nsIn K mainGlobals "crc" = some (some (.ref f6)))
    (l6 : K.lookup f6 = some ⟨oc6, od6, .func (PySem.W.fnOf "crc" "crc" (defArgs (top 5)) (defBody (top 5)) (defScope (top 5)) .none kV6 dc6 pm6 an6 cd6 ct6), sl6⟩) (c6 : PySem.W.codeIn K cd6 "crc" = true) (k6 : PySem.W.keepIn K (.ref f6) = true)
    (a7 : PySem.W.nsIn K mainGlobals "crc_row" = some (some (.ref f7)))
    (l7 : K.lookup f7 = some ⟨oc7, od7, .func (PySem.W.fnOf "crc_row" "crc_row" (defArgs (top 6)) (defBody (top 6)) (defScope (top 6)) .none kV7 dc7 pm7 an7 cd7 ct7), sl7⟩) (c7 : PySem.W.codeIn K cd7 "crc_row" = true) (k7 : PySem.W.keepIn K (.ref f7) = true)
    (a8 : PySem.W.nsIn K mainGlobals "piece_row" = some (some (.ref f8)))
    (l8 : K.lookup f8 = some ⟨oc8, od8, .func (PySem.W.fnOf "piece_row" "piece_row" (defArgs (top 75)) (defBody (top 75)) (defScope (top 75)) .none kV8 dc8 pm8 an8 cd8 ct8), sl8⟩) (c8 : PySem.W.codeIn K cd8 "piece_row" = true) (k8 : PySem.W.keepIn K (.ref f8) = true)
    (a9 : PySem.W.nsIn K mainGlobals "body_at" = some (some (.ref f9)))
    (l9 : K.lookup f9 = some ⟨oc9, od9, .func (PySem.W.fnOf "body_at" "body_at" (defArgs (top 79)) (defBody (top 79)) (defScope (top 79)) .none kV9 dc9 pm9 an9 cd9 ct9), sl9⟩) (c9 : PySem.W.codeIn K cd9 "body_at" = true) (k9 : PySem.W.keepIn K (.ref f9) = true)
    (a10 : PySem.W.nsIn K mainGlobals "piece_at" = some (some (.ref f10)))
    (l10 : K.lookup f10 = some ⟨oc10, od10, .func (PySem.W.fnOf "piece_at" "piece_at" (defArgs (top 80)) (defBody (top 80)) (defScope (top 80)) .none kV10 dc10 pm10 an10 cd10 ct10), sl10⟩) (c10 : PySem.W.codeIn K cd10 "piece_at" = true) (k10 : PySem.W.keepIn K (.ref f10) = true)
    (a11 : PySem.W.nsIn K mainGlobals "pieces_in" = some (some (.ref f11)))
    (l11 : K.lookup f11 = some ⟨oc11, od11, .func (PySem.W.fnOf "pieces_in" "pieces_in" (defArgs (top 82)) (defBody (top 82)) (defScope (top 82)) .none kV11 dc11 pm11 an11 cd11 ct11), sl11⟩) (c11 : PySem.W.codeIn K cd11 "pieces_in" = true) (k11 : PySem.W.keepIn K (.ref f11) = true)
    (a12 : PySem.W.findIn K (.ref A4) "__init__" = some (some (.ref f12)))
    (l12 : K.lookup f12 = some ⟨oc12, od12, .func (PySem.W.fnOf "__init__" "Cursor.__init__" (defArgs (meth 18 0)) (defBody (meth 18 0)) (defScope (meth 18 0)) .none kV12 dc12 pm12 an12 cd12 ct12), sl12⟩) (c12 : PySem.W.codeIn K cd12 "Cursor.__init__" = true) (k12 : PySem.W.keepIn K (.ref f12) = true)
    (i12 : PySem.W.isFn K (.ref f12) = true)
    (a13 : PySem.W.findIn K (.ref A4) "number" = some (some (.ref f13)))
    (l13 : K.lookup f13 = some ⟨oc13, od13, .func (PySem.W.fnOf "number" "Cursor.number" (defArgs (meth 18 1)) (defBody (meth 18 1)) (defScope (meth 18 1)) .none kV13 dc13 pm13 an13 cd13 ct13), sl13⟩) (c13 : PySem.W.codeIn K cd13 "Cursor.number" = true) (k13 : PySem.W.keepIn K (.ref f13) = true)
    (i13 : PySem.W.isFn K (.ref f13) = true)
    (a14 : PySem.W.nsIn K mainGlobals "read_name" = some (some (.ref f14)))
    (l14 : K.lookup f14 = some ⟨oc14, od14, .func (PySem.W.fnOf "read_name" "read_name" (defArgs (top 19)) (defBody (top 19)) (defScope (top 19)) .none kV14 dc14 pm14 an14 cd14 ct14), sl14⟩) (c14 : PySem.W.codeIn K cd14 "read_name" = true) (k14 : PySem.W.keepIn K (.ref f14) = true)
    (a15 : PySem.W.nsIn K mainGlobals "read_entry" = some (some (.ref f15)))
    (l15 : K.lookup f15 = some ⟨oc15, od15, .func (PySem.W.fnOf "read_entry" "read_entry" (defArgs (top 20)) (defBody (top 20)) (defScope (top 20)) .none kV15 dc15 pm15 an15 cd15 ct15), sl15⟩) (c15 : PySem.W.codeIn K cd15 "read_entry" = true) (k15 : PySem.W.keepIn K (.ref f15) = true)
    (a16 : PySem.W.nsIn K mainGlobals "may_follow" = some (some (.ref f16)))
    (l16 : K.lookup f16 = some ⟨oc16, od16, .func (PySem.W.fnOf "may_follow" "may_follow" (defArgs (top 21)) (defBody (top 21)) (defScope (top 21)) .none kV16 dc16 pm16 an16 cd16 ct16), sl16⟩) (c16 : PySem.W.codeIn K cd16 "may_follow" = true) (k16 : PySem.W.keepIn K (.ref f16) = true)
    (a17 : PySem.W.nsIn K mainGlobals "book_at" = some (some (.ref f17)))
    (l17 : K.lookup f17 = some ⟨oc17, od17, .func (PySem.W.fnOf "book_at" "book_at" (defArgs (top 22)) (defBody (top 22)) (defScope (top 22)) .none kV17 dc17 pm17 an17 cd17 ct17), sl17⟩) (c17 : PySem.W.codeIn K cd17 "book_at" = true) (k17 : PySem.W.keepIn K (.ref f17) = true)
    (a18 : PySem.W.nsIn K mainGlobals "books_in" = some (some (.ref f18)))
    (l18 : K.lookup f18 = some ⟨oc18, od18, .func (PySem.W.fnOf "books_in" "books_in" (defArgs (top 83)) (defBody (top 83)) (defScope (top 83)) .none kV18 dc18 pm18 an18 cd18 ct18), sl18⟩) (c18 : PySem.W.codeIn K cd18 "books_in" = true) (k18 : PySem.W.keepIn K (.ref f18) = true)
    (a19 : PySem.W.nsIn K mainGlobals "name_row" = some (some (.ref f19)))
    (l19 : K.lookup f19 = some ⟨oc19, od19, .func (PySem.W.fnOf "name_row" "name_row" (defArgs (top 14)) (defBody (top 14)) (defScope (top 14)) .none kV19 dc19 pm19 an19 cd19 ct19), sl19⟩) (c19 : PySem.W.codeIn K cd19 "name_row" = true) (k19 : PySem.W.keepIn K (.ref f19) = true)
    (a20 : PySem.W.nsIn K mainGlobals "number_row" = some (some (.ref f20)))
    (l20 : K.lookup f20 = some ⟨oc20, od20, .func (PySem.W.fnOf "number_row" "number_row" (defArgs (top 15)) (defBody (top 15)) (defScope (top 15)) .none kV20 dc20 pm20 an20 cd20 ct20), sl20⟩) (c20 : PySem.W.codeIn K cd20 "number_row" = true) (k20 : PySem.W.keepIn K (.ref f20) = true)
    (a21 : PySem.W.nsIn K mainGlobals "entry_row" = some (some (.ref f21)))
    (l21 : K.lookup f21 = some ⟨oc21, od21, .func (PySem.W.fnOf "entry_row" "entry_row" (defArgs (top 16)) (defBody (top 16)) (defScope (top 16)) .none kV21 dc21 pm21 an21 cd21 ct21), sl21⟩) (c21 : PySem.W.codeIn K cd21 "entry_row" = true) (k21 : PySem.W.keepIn K (.ref f21) = true)
    (a22 : PySem.W.nsIn K mainGlobals "book_row" = some (some (.ref f22)))
    (l22 : K.lookup f22 = some ⟨oc22, od22, .func (PySem.W.fnOf "book_row" "book_row" (defArgs (top 17)) (defBody (top 17)) (defScope (top 17)) .none kV22 dc22 pm22 an22 cd22 ct22), sl22⟩) (c22 : PySem.W.codeIn K cd22 "book_row" = true) (k22 : PySem.W.keepIn K (.ref f22) = true)
    (a23 : PySem.W.nsIn K mainGlobals "law" = some (some (.ref f23)))
    (l23 : K.lookup f23 = some ⟨oc23, od23, .func (PySem.W.fnOf "law" "law" (defArgs (top 89)) (defBody (top 89)) (defScope (top 89)) .none kV23 dc23 pm23 an23 cd23 ct23), sl23⟩) (c23 : PySem.W.codeIn K cd23 "law" = true) (k23 : PySem.W.keepIn K (.ref f23) = true)
    (z24 : PySem.W.nsIn K mainGlobals "all" = some none)
    (z25 : PySem.W.nsIn K mainGlobals "len" = some none)
    (z26 : PySem.W.nsIn K mainGlobals "list" = some none)
    (z27 : PySem.W.nsIn K mainGlobals "range" = some none)
    (v28 : PySem.W.nsIn K mainGlobals "TABLE_BYTES" = some (some (.int 17 tk28)))
    (v29 : PySem.W.nsIn K mainGlobals "PLAIN" = some (some (.int 0 tk29)))
    (v30 : PySem.W.nsIn K mainGlobals "MARK_pieces" = some (some (.ref ac30))) (w30 : K.lookup ac30 = some ⟨.type "list", none, .seq #[.int 165 tk30_0, .int 90 tk30_1] n30, sl30⟩)
    (v31 : PySem.W.nsIn K mainGlobals "TOP" = some (some (.int 32768 tk31)))
    (v32 : PySem.W.nsIn K mainGlobals "FEED" = some (some (.int 4129 tk32)))
    (v33 : PySem.W.nsIn K mainGlobals "BEGIN" = some (some (.int 65535 tk33)))
    (v34 : PySem.W.nsIn K mainGlobals "MOST_NUMBER_pieces" = some (some (.int 254 tk34)))
    (v35 : PySem.W.nsIn K mainGlobals "PACKED" = some (some (.int 1 tk35)))
    (v36 : PySem.W.nsIn K mainGlobals "MARK_book" = some (some (.ref ac36))) (w36 : K.lookup ac36 = some ⟨.type "list", none, .seq #[.int 165 tk36_0, .int 91 tk36_1] n36, sl36⟩)
    (v37 : PySem.W.nsIn K mainGlobals "MOST_ENTRIES" = some (some (.int 30 tk37)))
    (v38 : PySem.W.nsIn K mainGlobals "MOST_SIGNS" = some (some (.int 12 tk38)))
    (v39 : PySem.W.nsIn K mainGlobals "NAME_BYTES" = some (some (.ref ac39))) (w39 : K.lookup ac39 = some ⟨.type "tuple", none, .seq #[.int 45 tk39_0, .int 46 tk39_1, .int 48 tk39_2, .int 49 tk39_3, .int 50 tk39_4, .int 51 tk39_5, .int 52 tk39_6, .int 53 tk39_7, .int 54 tk39_8, .int 55 tk39_9, .int 56 tk39_10, .int 57 tk39_11, .int 97 tk39_12, .int 98 tk39_13, .int 99 tk39_14, .int 100 tk39_15, .int 101 tk39_16, .int 102 tk39_17, .int 103 tk39_18, .int 104 tk39_19, .int 105 tk39_20, .int 106 tk39_21, .int 107 tk39_22, .int 108 tk39_23, .int 109 tk39_24, .int 110 tk39_25, .int 111 tk39_26, .int 112 tk39_27, .int 113 tk39_28, .int 114 tk39_29, .int 115 tk39_30, .int 116 tk39_31, .int 117 tk39_32, .int 118 tk39_33, .int 119 tk39_34, .int 120 tk39_35, .int 121 tk39_36, .int 122 tk39_37] n39, sl39⟩)
    (v40 : PySem.W.nsIn K mainGlobals "NAME_SIGNS" = some (some (.str "-.0123456789abcdefghijklmnopqrstuvwxyz" tk40)))
    (v41 : PySem.W.nsIn K mainGlobals "MOST_NUMBER_book" = some (some (.int 254 tk41)))
    (oa4 : PySem.W.nsIn K mainGlobals "Cursor" = some (some (.ref A4))) (pg4 : PySem.W.plainGet K A4 Str.empty = true) (hd4 : PySem.W.hasDictIn K A4 = true) (po4 : PySem.W.plainOver K A4 = true) (sa4 : PySem.W.findIn K (.ref A4) "__setattr__" = some (some (.builtin "object.__setattr__")))
    (mk4 : PySem.W.makesIn K A4 = true) (kc4 : PySem.W.keepIn K (.ref A4) = true)
    (nf0 : PySem.W.findIn K (.ref A4) "short" = some none)
    (nf1 : PySem.W.findIn K (.ref A4) "source" = some none)
    (nf2 : PySem.W.findIn K (.ref A4) "spot" = some none) :
    ∃ fd : FuncData, (∀ (s : Shared) (v : Value), BindsTo s fd ⟨[v], []⟩ [("script", v)]) ∧ ∀ base : Heap, K.In base → base.Ns mainGlobals mg → FnOk l.prog w K mg base (L2.CX l.prog w) 6 fa fd ["script"] (spLaw K) := by
  have e := (PySem.W.mg_of X G a23).symm.trans hfa
  injection e with e
  injection e with e
  subst e
  let T : Tx ⟨K, fun k => match k with | 4 => A4 | _ => 0⟩ mg := {
    a__law_cell_at := f1, d__law_cell_at := (PySem.W.fnOf "_law_cell_at" "_law_cell_at" (defArgs (top 85)) (defBody (top 85)) (defScope (top 85)) .none kV1 dc1 pm1 an1 cd1 ct1), F__law_cell_at := fun_mk (st := top 85) l1 c1 k1, b__law_cell_at := (fun_mk (st := top 85) l1 c1 k1).binds (ps := ["script", "k"]) (fun _ _ _ _ _ _ us hl => match us, hl with | [_, _], _ => rfl), g__law_cell_at := PySem.W.mg_of X G a1,
    a__law_mixed := f2, d__law_mixed := (PySem.W.fnOf "_law_mixed" "_law_mixed" (defArgs (top 86)) (defBody (top 86)) (defScope (top 86)) .none kV2 dc2 pm2 an2 cd2 ct2), F__law_mixed := fun_mk (st := top 86) l2 c2 k2, b__law_mixed := (fun_mk (st := top 86) l2 c2 k2).binds (ps := ["cell", "k"]) (fun _ _ _ _ _ _ us hl => match us, hl with | [_, _], _ => rfl), g__law_mixed := PySem.W.mg_of X G a2,
    a__law_draw := f3, d__law_draw := (PySem.W.fnOf "_law_draw" "_law_draw" (defArgs (top 87)) (defBody (top 87)) (defScope (top 87)) .none kV3 dc3 pm3 an3 cd3 ct3), F__law_draw := fun_mk (st := top 87) l3 c3 k3, b__law_draw := (fun_mk (st := top 87) l3 c3 k3).binds (ps := ["draw", "many"]) (fun _ _ _ _ _ _ us hl => match us, hl with | [_, _], _ => rfl), g__law_draw := PySem.W.mg_of X G a3,
    a_body_of := f4, d_body_of := (PySem.W.fnOf "body_of" "body_of" (defArgs (top 74)) (defBody (top 74)) (defScope (top 74)) .none kV4 dc4 pm4 an4 cd4 ct4), F_body_of := fun_mk (st := top 74) l4 c4 k4, b_body_of := (fun_mk (st := top 74) l4 c4 k4).binds (ps := ["row", "window"]) (fun _ _ _ _ _ _ us hl => match us, hl with | [_, _], _ => rfl), g_body_of := PySem.W.mg_of X G a4,
    a_crc_on := f5, d_crc_on := (PySem.W.fnOf "crc_on" "crc_on" (defArgs (top 4)) (defBody (top 4)) (defScope (top 4)) .none kV5 dc5 pm5 an5 cd5 ct5), F_crc_on := fun_mk (st := top 4) l5 c5 k5, b_crc_on := (fun_mk (st := top 4) l5 c5 k5).binds (ps := ["begun", "row"]) (fun _ _ _ _ _ _ us hl => match us, hl with | [_, _], _ => rfl), g_crc_on := PySem.W.mg_of X G a5,
    a_crc := f6, d_crc := (PySem.W.fnOf "crc" "crc" (defArgs (top 5)) (defBody (top 5)) (defScope (top 5)) .none kV6 dc6 pm6 an6 cd6 ct6), F_crc := fun_mk (st := top 5) l6 c6 k6, b_crc := (fun_mk (st := top 5) l6 c6 k6).binds (ps := ["row"]) (fun _ _ _ _ _ _ us hl => match us, hl with | [_], _ => rfl), g_crc := PySem.W.mg_of X G a6,
    a_crc_row := f7, d_crc_row := (PySem.W.fnOf "crc_row" "crc_row" (defArgs (top 6)) (defBody (top 6)) (defScope (top 6)) .none kV7 dc7 pm7 an7 cd7 ct7), F_crc_row := fun_mk (st := top 6) l7 c7 k7, b_crc_row := (fun_mk (st := top 6) l7 c7 k7).binds (ps := ["row"]) (fun _ _ _ _ _ _ us hl => match us, hl with | [_], _ => rfl), g_crc_row := PySem.W.mg_of X G a7,
    a_piece_row := f8, d_piece_row := (PySem.W.fnOf "piece_row" "piece_row" (defArgs (top 75)) (defBody (top 75)) (defScope (top 75)) .none kV8 dc8 pm8 an8 cd8 ct8), F_piece_row := fun_mk (st := top 75) l8 c8 k8, b_piece_row := (fun_mk (st := top 75) l8 c8 k8).binds (ps := ["text", "number", "row", "window"]) (fun _ _ _ _ _ _ us hl => match us, hl with | [_, _, _, _], _ => rfl), g_piece_row := PySem.W.mg_of X G a8,
    a_body_at := f9, d_body_at := (PySem.W.fnOf "body_at" "body_at" (defArgs (top 79)) (defBody (top 79)) (defScope (top 79)) .none kV9 dc9 pm9 an9 cd9 ct9), F_body_at := fun_mk (st := top 79) l9 c9 k9, b_body_at := (fun_mk (st := top 79) l9 c9 k9).binds (ps := ["row", "place", "kind", "many"]) (fun _ _ _ _ _ _ us hl => match us, hl with | [_, _, _, _], _ => rfl), g_body_at := PySem.W.mg_of X G a9,
    a_piece_at := f10, d_piece_at := (PySem.W.fnOf "piece_at" "piece_at" (defArgs (top 80)) (defBody (top 80)) (defScope (top 80)) .none kV10 dc10 pm10 an10 cd10 ct10), F_piece_at := fun_mk (st := top 80) l10 c10 k10, b_piece_at := (fun_mk (st := top 80) l10 c10 k10).binds (ps := ["row", "place"]) (fun _ _ _ _ _ _ us hl => match us, hl with | [_, _], _ => rfl), g_piece_at := PySem.W.mg_of X G a10,
    a_pieces_in := f11, d_pieces_in := (PySem.W.fnOf "pieces_in" "pieces_in" (defArgs (top 82)) (defBody (top 82)) (defScope (top 82)) .none kV11 dc11 pm11 an11 cd11 ct11), F_pieces_in := fun_mk (st := top 82) l11 c11 k11, b_pieces_in := (fun_mk (st := top 82) l11 c11 k11).binds (ps := ["row"]) (fun _ _ _ _ _ _ us hl => match us, hl with | [_], _ => rfl), g_pieces_in := PySem.W.mg_of X G a11,
    a_Cursor___init__ := f12, d_Cursor___init__ := (PySem.W.fnOf "__init__" "Cursor.__init__" (defArgs (meth 18 0)) (defBody (meth 18 0)) (defScope (meth 18 0)) .none kV12 dc12 pm12 an12 cd12 ct12), F_Cursor___init__ := fun_mk (st := meth 18 0) l12 c12 k12, b_Cursor___init__ := (fun_mk (st := meth 18 0) l12 c12 k12).binds (ps := ["self", "row", "place"]) (fun _ _ _ _ _ _ us hl => match us, hl with | [_, _, _], _ => rfl),
    a_Cursor_number := f13, d_Cursor_number := (PySem.W.fnOf "number" "Cursor.number" (defArgs (meth 18 1)) (defBody (meth 18 1)) (defScope (meth 18 1)) .none kV13 dc13 pm13 an13 cd13 ct13), F_Cursor_number := fun_mk (st := meth 18 1) l13 c13 k13, b_Cursor_number := (fun_mk (st := meth 18 1) l13 c13 k13).binds (ps := ["self", "many"]) (fun _ _ _ _ _ _ us hl => match us, hl with | [_, _], _ => rfl),
    a_read_name := f14, d_read_name := (PySem.W.fnOf "read_name" "read_name" (defArgs (top 19)) (defBody (top 19)) (defScope (top 19)) .none kV14 dc14 pm14 an14 cd14 ct14), F_read_name := fun_mk (st := top 19) l14 c14 k14, b_read_name := (fun_mk (st := top 19) l14 c14 k14).binds (ps := ["cursor"]) (fun _ _ _ _ _ _ us hl => match us, hl with | [_], _ => rfl), g_read_name := PySem.W.mg_of X G a14,
    a_read_entry := f15, d_read_entry := (PySem.W.fnOf "read_entry" "read_entry" (defArgs (top 20)) (defBody (top 20)) (defScope (top 20)) .none kV15 dc15 pm15 an15 cd15 ct15), F_read_entry := fun_mk (st := top 20) l15 c15 k15, b_read_entry := (fun_mk (st := top 20) l15 c15 k15).binds (ps := ["cursor"]) (fun _ _ _ _ _ _ us hl => match us, hl with | [_], _ => rfl), g_read_entry := PySem.W.mg_of X G a15,
    a_may_follow := f16, d_may_follow := (PySem.W.fnOf "may_follow" "may_follow" (defArgs (top 21)) (defBody (top 21)) (defScope (top 21)) .none kV16 dc16 pm16 an16 cd16 ct16), F_may_follow := fun_mk (st := top 21) l16 c16 k16, b_may_follow := (fun_mk (st := top 21) l16 c16 k16).binds (ps := ["entry", "entries"]) (fun _ _ _ _ _ _ us hl => match us, hl with | [_, _], _ => rfl), g_may_follow := PySem.W.mg_of X G a16,
    a_book_at := f17, d_book_at := (PySem.W.fnOf "book_at" "book_at" (defArgs (top 22)) (defBody (top 22)) (defScope (top 22)) .none kV17 dc17 pm17 an17 cd17 ct17), F_book_at := fun_mk (st := top 22) l17 c17 k17, b_book_at := (fun_mk (st := top 22) l17 c17 k17).binds (ps := ["row", "place"]) (fun _ _ _ _ _ _ us hl => match us, hl with | [_, _], _ => rfl), g_book_at := PySem.W.mg_of X G a17,
    a_books_in := f18, d_books_in := (PySem.W.fnOf "books_in" "books_in" (defArgs (top 83)) (defBody (top 83)) (defScope (top 83)) .none kV18 dc18 pm18 an18 cd18 ct18), F_books_in := fun_mk (st := top 83) l18 c18 k18, b_books_in := (fun_mk (st := top 83) l18 c18 k18).binds (ps := ["row"]) (fun _ _ _ _ _ _ us hl => match us, hl with | [_], _ => rfl), g_books_in := PySem.W.mg_of X G a18,
    a_name_row := f19, d_name_row := (PySem.W.fnOf "name_row" "name_row" (defArgs (top 14)) (defBody (top 14)) (defScope (top 14)) .none kV19 dc19 pm19 an19 cd19 ct19), F_name_row := fun_mk (st := top 14) l19 c19 k19, b_name_row := (fun_mk (st := top 14) l19 c19 k19).binds (ps := ["name"]) (fun _ _ _ _ _ _ us hl => match us, hl with | [_], _ => rfl), g_name_row := PySem.W.mg_of X G a19,
    a_number_row := f20, d_number_row := (PySem.W.fnOf "number_row" "number_row" (defArgs (top 15)) (defBody (top 15)) (defScope (top 15)) .none kV20 dc20 pm20 an20 cd20 ct20), F_number_row := fun_mk (st := top 15) l20 c20 k20, b_number_row := (fun_mk (st := top 15) l20 c20 k20).binds (ps := ["number", "many"]) (fun _ _ _ _ _ _ us hl => match us, hl with | [_, _], _ => rfl), g_number_row := PySem.W.mg_of X G a20,
    a_entry_row := f21, d_entry_row := (PySem.W.fnOf "entry_row" "entry_row" (defArgs (top 16)) (defBody (top 16)) (defScope (top 16)) .none kV21 dc21 pm21 an21 cd21 ct21), F_entry_row := fun_mk (st := top 16) l21 c21 k21, b_entry_row := (fun_mk (st := top 16) l21 c21 k21).binds (ps := ["entry"]) (fun _ _ _ _ _ _ us hl => match us, hl with | [_], _ => rfl), g_entry_row := PySem.W.mg_of X G a21,
    a_book_row := f22, d_book_row := (PySem.W.fnOf "book_row" "book_row" (defArgs (top 17)) (defBody (top 17)) (defScope (top 17)) .none kV22 dc22 pm22 an22 cd22 ct22), F_book_row := fun_mk (st := top 17) l22 c22 k22, b_book_row := (fun_mk (st := top 17) l22 c22 k22).binds (ps := ["entries"]) (fun _ _ _ _ _ _ us hl => match us, hl with | [_], _ => rfl), g_book_row := PySem.W.mg_of X G a22,
    a_law := f23, d_law := (PySem.W.fnOf "law" "law" (defArgs (top 89)) (defBody (top 89)) (defScope (top 89)) .none kV23 dc23 pm23 an23 cd23 ct23), F_law := fun_mk (st := top 89) l23 c23 k23, b_law := (fun_mk (st := top 89) l23 c23 k23).binds (ps := ["script"]) (fun _ _ _ _ _ _ us hl => match us, hl with | [_], _ => rfl), g_law := PySem.W.mg_of X G a23,
    z_all := PySem.W.mg_none_of X G z24,
    z_len := PySem.W.mg_none_of X G z25,
    z_list := PySem.W.mg_none_of X G z26,
    z_range := PySem.W.mg_none_of X G z27,
    t_TABLE_BYTES := tk28, v_TABLE_BYTES := PySem.W.mg_of X G v28,
    t_PLAIN := tk29, v_PLAIN := PySem.W.mg_of X G v29,
    A_MARK_pieces := ac30, v_MARK_pieces := PySem.W.mg_of X G v30, r_MARK_pieces := ⟨⟨_, _, _, w30, rfl, rfl, rfl, by show 2 ≤ sizeLine; decide, .cons ⟨_, rfl⟩ (.cons ⟨_, rfl⟩ (.nil))⟩⟩,
    t_TOP := tk31, v_TOP := PySem.W.mg_of X G v31,
    t_FEED := tk32, v_FEED := PySem.W.mg_of X G v32,
    t_BEGIN := tk33, v_BEGIN := PySem.W.mg_of X G v33,
    t_MOST_NUMBER_pieces := tk34, v_MOST_NUMBER_pieces := PySem.W.mg_of X G v34,
    t_PACKED := tk35, v_PACKED := PySem.W.mg_of X G v35,
    A_MARK_book := ac36, v_MARK_book := PySem.W.mg_of X G v36, r_MARK_book := ⟨⟨_, _, _, w36, rfl, rfl, rfl, by show 2 ≤ sizeLine; decide, .cons ⟨_, rfl⟩ (.cons ⟨_, rfl⟩ (.nil))⟩⟩,
    t_MOST_ENTRIES := tk37, v_MOST_ENTRIES := PySem.W.mg_of X G v37,
    t_MOST_SIGNS := tk38, v_MOST_SIGNS := PySem.W.mg_of X G v38,
    A_NAME_BYTES := ac39, v_NAME_BYTES := PySem.W.mg_of X G v39, r_NAME_BYTES := ⟨⟨_, _, _, w39, rfl, rfl, rfl, by show 38 ≤ sizeLine; decide, .cons ⟨_, rfl⟩ (.cons ⟨_, rfl⟩ (.cons ⟨_, rfl⟩ (.cons ⟨_, rfl⟩ (.cons ⟨_, rfl⟩ (.cons ⟨_, rfl⟩ (.cons ⟨_, rfl⟩ (.cons ⟨_, rfl⟩ (.cons ⟨_, rfl⟩ (.cons ⟨_, rfl⟩ (.cons ⟨_, rfl⟩ (.cons ⟨_, rfl⟩ (.cons ⟨_, rfl⟩ (.cons ⟨_, rfl⟩ (.cons ⟨_, rfl⟩ (.cons ⟨_, rfl⟩ (.cons ⟨_, rfl⟩ (.cons ⟨_, rfl⟩ (.cons ⟨_, rfl⟩ (.cons ⟨_, rfl⟩ (.cons ⟨_, rfl⟩ (.cons ⟨_, rfl⟩ (.cons ⟨_, rfl⟩ (.cons ⟨_, rfl⟩ (.cons ⟨_, rfl⟩ (.cons ⟨_, rfl⟩ (.cons ⟨_, rfl⟩ (.cons ⟨_, rfl⟩ (.cons ⟨_, rfl⟩ (.cons ⟨_, rfl⟩ (.cons ⟨_, rfl⟩ (.cons ⟨_, rfl⟩ (.cons ⟨_, rfl⟩ (.cons ⟨_, rfl⟩ (.cons ⟨_, rfl⟩ (.cons ⟨_, rfl⟩ (.cons ⟨_, rfl⟩ (.cons ⟨_, rfl⟩ (.nil))))))))))))))))))))))))))))))))))))))⟩⟩,
    t_NAME_SIGNS := tk40, v_NAME_SIGNS := PySem.W.mg_of X G v40,
    t_MOST_NUMBER_book := tk41, v_MOST_NUMBER_book := PySem.W.mg_of X G v41,
    g_Cursor := PySem.W.mg_of X G oa4, cl_Cursor := ⟨pg4, hd4, po4, sa4⟩,
    mk_Cursor := ⟨mk4, a12, i12, kc4⟩,
    n_Cursor_short := nf0,
    n_Cursor_source := nf1,
    n_Cursor_spot := nf2,
    m_Cursor_number := ⟨a13, i13, k13⟩ }
  exact ⟨T.d_law, fun s v => .of_eq rfl, fun base _ _ => (ok_law (P := l.prog) (w := w) (base := base) T).imp (law_imp (C := ⟨K, fun k => match k with | 4 => A4 | _ => 0⟩) law_true)⟩
end Wk75
open PySem PySem.W PyProof.Rows
set_option maxHeartbeats 0 in
theorem PySem.Challenge.cw_tornshelf_k75_whole_far_torn_rows_holds : PySem.Challenge.rw_tornshelf_k75_whole_far_torn_rows.Holds := by
  w_on; o_law; k_head; (case hw => w_witness2)
  k_fill
  refine L2.walk_of (l := PySem.Challenge.rw_tornshelf_k75_whole_far_torn_rows) (n := 63) (k := 6) (x := "script") (CX := fun w => L2.CX PySem.Challenge.rw_tornshelf_k75_whole_far_torn_rows.prog w) (sp := fun w => MP.spLaw _) rfl (by decide) rfl ⟨rfl, by decide, by decide⟩ (fun w h Y => PySem.W.kIn_of Y) ?F (fun _ _ a ns hl _ hS => ⟨a, ns, rfl, hS, hl, fun _ => rfl⟩) (fun _ _ _ _ _ h => MP.cx_none h)
  case F =>
    intro w mg fa h KX G hmg
    refine' Wk75.all_mk KX G hmg ?a1 ?l1 ?c1 ?k1 ?a2 ?l2 ?c2 ?k2 ?a3 ?l3 ?c3 ?k3 ?a4 ?l4 ?c4 ?k4 ?a5 ?l5 ?c5 ?k5 ?a6 ?l6 ?c6 ?k6 ?a7 ?l7 ?c7 ?k7 ?a8 ?l8 ?c8 ?k8 ?a9 ?l9 ?c9 ?k9 ?a10 ?l10 ?c10 ?k10 ?a11 ?l11 ?c11 ?k11 ?a12 ?l12 ?c12 ?k12 ?i12 ?a13 ?l13 ?c13 ?k13 ?i13 ?a14 ?l14 ?c14 ?k14 ?a15 ?l15 ?c15 ?k15 ?a16 ?l16 ?c16 ?k16 ?a17 ?l17 ?c17 ?k17 ?a18 ?l18 ?c18 ?k18 ?a19 ?l19 ?c19 ?k19 ?a20 ?l20 ?c20 ?k20 ?a21 ?l21 ?c21 ?k21 ?a22 ?l22 ?c22 ?k22 ?a23 ?l23 ?c23 ?k23 ?z24 ?z25 ?z26 ?z27 ?v28 ?v29 ?v30 ?w30 ?v31 ?v32 ?v33 ?v34 ?v35 ?v36 ?w36 ?v37 ?v38 ?v39 ?w39 ?v40 ?v41 ?oa4 ?pg4 ?hd4 ?po4 ?sa4 ?mk4 ?kc4 ?nf0 ?nf1 ?nf2
    (case oa4 => k_is); (case a1 => k_is); (case l1 => k_is); (case c1 => k_is); (case k1 => k_is); (case a2 => k_is); (case l2 => k_is); (case c2 => k_is); (case k2 => k_is); (case a3 => k_is); (case l3 => k_is); (case c3 => k_is); (case k3 => k_is); (case a4 => k_is); (case l4 => k_is); (case c4 => k_is); (case k4 => k_is); (case a5 => k_is); (case l5 => k_is); (case c5 => k_is); (case k5 => k_is); (case a6 => k_is); (case l6 => k_is); (case c6 => k_is); (case k6 => k_is); (case a7 => k_is); (case l7 => k_is); (case c7 => k_is); (case k7 => k_is); (case a8 => k_is); (case l8 => k_is); (case c8 => k_is); (case k8 => k_is); (case a9 => k_is); (case l9 => k_is); (case c9 => k_is); (case k9 => k_is); (case a10 => k_is); (case l10 => k_is); (case c10 => k_is); (case k10 => k_is); (case a11 => k_is); (case l11 => k_is); (case c11 => k_is); (case k11 => k_is); (case a12 => k_is); (case l12 => k_is); (case c12 => k_is); (case k12 => k_is); (case i12 => k_is); (case a13 => k_is); (case l13 => k_is); (case c13 => k_is); (case k13 => k_is); (case i13 => k_is); (case a14 => k_is); (case l14 => k_is); (case c14 => k_is); (case k14 => k_is); (case a15 => k_is); (case l15 => k_is); (case c15 => k_is); (case k15 => k_is); (case a16 => k_is); (case l16 => k_is); (case c16 => k_is); (case k16 => k_is); (case a17 => k_is); (case l17 => k_is); (case c17 => k_is); (case k17 => k_is); (case a18 => k_is); (case l18 => k_is); (case c18 => k_is); (case k18 => k_is); (case a19 => k_is); (case l19 => k_is); (case c19 => k_is); (case k19 => k_is); (case a20 => k_is); (case l20 => k_is); (case c20 => k_is); (case k20 => k_is); (case a21 => k_is); (case l21 => k_is); (case c21 => k_is); (case k21 => k_is); (case a22 => k_is); (case l22 => k_is); (case c22 => k_is); (case k22 => k_is); (case a23 => k_is); (case l23 => k_is); (case c23 => k_is); (case k23 => k_is); (case z24 => k_is); (case z25 => k_is); (case z26 => k_is); (case z27 => k_is); (case v28 => k_is); (case v29 => k_is); (case v30 => k_is); (case w30 => k_is); (case v31 => k_is); (case v32 => k_is); (case v33 => k_is); (case v34 => k_is); (case v35 => k_is); (case v36 => k_is); (case w36 => k_is); (case v37 => k_is); (case v38 => k_is); (case v39 => k_is); (case w39 => k_is); (case v40 => k_is); (case v41 => k_is); (case pg4 => k_is); (case hd4 => k_is); (case po4 => k_is); (case sa4 => k_is); (case mk4 => k_is); (case kc4 => k_is); (case nf0 => k_is); (case nf1 => k_is); (case nf2 => k_is)

