import PyProof.Rows.All
import PySem.Challenge.RW_joinline_k31_whole_neighbours
import HandS.ForMost
import HandS.Wide
import HandS.Slots
import HandS.SlotsOwn
import HandS.Star
import HandS.Deep
import HandS.Walk
import HandS.Zip
import HandS.IsInst
import HandS.TupMul
import HandS.AnyAll
import HandS.Dict
import OpenK.KOps
import PyProof.ListMulRoad
import PyProof.FactsAll.tuple_2
import KE.GoesMore
import KE.GoesEnum
import KE.KDictKeyed
import KE.KDictZip
import KE.KDictCopyH
import KE.KDictSum
import PyProof.TupleCall
import PyProof.Rows.Range3
import HandS.DictComp
import HandS.Sort
import KE.KUnpackStar
import PyProof.ListRange
import KE.KDictIter
import HandS.OwnIter
import PyProof.WalksMore
import KE.KStateDown
import HandS.Head0
import HandS.Head1
import HandS.Head2
import HandS.HeadEnd
import HandS.HeadHook1
import HandS.HeadHook2
import HandS.HeadHook3
import HandS.HeadHook4
import HandS.HeadWalk
set_option Elab.async false
set_option linter.all false
set_option maxRecDepth 100000
set_option maxHeartbeats 4000000
set_option autoImplicit false
/-! The pure layer: what values are, while the heap grows. -/
namespace JL
open PySem PySem.Spec PyProof.Rows L2

/-! ### heaps that grow -/
structure Sm (H H' : Hp) : Prop where
  keep : ∀ b o, H b = some o → (∀ ps, o ≠ .tbl ps) → H' b = some o
  tab : ∀ b, GxR.TabG H b → GxR.TabG H' b
  has : ∀ b, H b ≠ none → H' b ≠ none
theorem Sm.refl (H : Hp) : Sm H H := ⟨fun _ _ h _ => h, fun _ h => h, fun _ h => h⟩
theorem Sm.trans {H H1 H2 : Hp} (a : Sm H H1) (b : Sm H1 H2) : Sm H H2 :=
  ⟨fun c o h n => b.keep c o (a.keep c o h n) n, fun c h => b.tab c (a.tab c h), fun c h => b.has c (a.has c h)⟩
theorem Sm.free {H H' : Hp} (a : Sm H H') {p : Addr} (h : H' p = none) : H p = none := by
  cases e : H p with
  | none => rfl
  | some o => exact absurd h (a.has p (by rw [e]; intro z; cases z))
theorem sm_upd {H : Hp} {p : Addr} {o : HO} (h : H p = none) : Sm H (upd H p o) := by
  refine ⟨fun b u e _ => ?_, fun b ⟨ps, e, t⟩ => ⟨ps, ?_, t⟩, fun b e => ?_⟩
  · rw [upd_ne (ne_of_none e h)]; exact e
  · rw [upd_ne (ne_of_none e h)]; exact e
  · by_cases hb : b = p
    · subst hb; exact absurd h e
    · rw [upd_ne hb]; exact e
/-- the frozen part -/
def Fz (F H : Hp) : Prop := ∀ b o, F b = some o → H b = some o ∧ ∀ ps, o ≠ .tbl ps
theorem Fz.none {F H : Hp} (h : Fz F H) {p : Addr} (e : H p = Option.none) : F p = Option.none := by
  cases q : F p with
  | none => rfl
  | some o => rw [(h p o q).1] at e; cases e
structure Ext (F H F' H' : Hp) : Prop where
  hh : Sm H H'
  ff : Same F F'
  av : ∀ a, H a ≠ none → F a = none → F' a = none
  fz : Fz F' H'
theorem Ext.refl {F H : Hp} (h : Fz F H) : Ext F H F H := ⟨Sm.refl _, Same.refl _, fun _ _ h => h, h⟩
theorem Ext.trans {F H F1 H1 F2 H2 : Hp} (a : Ext F H F1 H1) (b : Ext F1 H1 F2 H2) : Ext F H F2 H2 :=
  ⟨a.hh.trans b.hh, a.ff.trans b.ff, fun c h h2 => b.av c (a.hh.has c h) (a.av c h h2), b.fz⟩
/-- a new object, frozen -/
theorem Ext.new {F H : Hp} (h : Fz F H) {p : Addr} (e : H p = none) {o : HO} (ho : ∀ ps, o ≠ .tbl ps) : Ext F H (upd F p o) (upd H p o) := by
  refine ⟨sm_upd e, fun b u q => ?_, fun a h1 h2 => ?_, fun b u q => ?_⟩
  · rw [upd_ne (ne_of_none q (h.none e))]; exact q
  · have : a ≠ p := fun z => h1 (z ▸ e)
    rw [upd_ne this]; exact h2
  · by_cases hb : b = p
    · subst hb
      rw [upd_same] at q ⊢
      cases q
      exact ⟨rfl, ho⟩
    · rw [upd_ne hb] at q ⊢
      exact h b u q
/-- a new object of one's own -/
theorem Ext.own {F H : Hp} (h : Fz F H) {p : Addr} (e : H p = none) {o : HO} : Ext F H F (upd H p o) := by
  refine ⟨sm_upd e, Same.refl _, fun _ _ h => h, fun b u q => ?_⟩
  have z := h b u q
  rw [upd_ne (ne_of_none z.1 e)]
  exact z
/-- an own object changes -/
theorem Ext.mut {F0 H0 F H : Hp} (x : Ext F0 H0 F H) {p : Addr} {o o' : HO} (e0 : H0 p = none) (ef : F p = none) : Ext F0 H0 F (upd H p o') := by
  refine ⟨⟨fun b u q n => ?_, fun b ⟨ps, q, t⟩ => ?_, fun b q => ?_⟩, x.ff, x.av, fun b u q => ?_⟩
  · rw [upd_ne (ne_of_none q e0)]; exact x.hh.keep b u q n
  · obtain ⟨ps', q', t'⟩ := x.hh.tab b ⟨ps, q, t⟩
    exact ⟨ps', by rw [upd_ne (ne_of_none q e0)]; exact q', t'⟩
  · by_cases hb : b = p
    · subst hb; exact absurd e0 q
    · rw [upd_ne hb]; exact x.hh.has b q
  · rw [upd_ne (ne_of_none q ef)]; exact x.fz b u q

/-! ### types -/
structure Ty where
  p : PySem.W.Frag → Hp → V → Prop
  mono : ∀ {K H H' v}, Same H H' → p K H v → p K H' v
abbrev Al (K : PySem.W.Frag) (H : Hp) : List Ty → List V → Prop := Paired fun T v => T.p K H v
theorem Al.up {K : PySem.W.Frag} {H H' : Hp} (s : Same H H') : ∀ {Ts : List Ty} {vs : List V}, Al K H Ts vs → Al K H' Ts vs
  | _, _, .nil => .nil
  | _, _, .cons h t => .cons (Ty.mono _ s h) (Al.up s t)
theorem Al.get {K : PySem.W.Frag} {H : Hp} : ∀ {Ts : List Ty} {vs : List V} {i : Nat} {T : Ty}, Al K H Ts vs → Ts[i]? = some T → ∃ v, vs[i]? = some v ∧ T.p K H v
  | _, _, _, _, .nil, e => by simp at e
  | _, _, 0, _, .cons r _, e => by simp at e; subst e; exact ⟨_, rfl, r⟩
  | _, _, i + 1, T, .cons _ t, e => by
    obtain ⟨u, h1, h2⟩ := Al.get (i := i) (T := T) t (by simpa using e)
    exact ⟨u, by simpa using h1, h2⟩
theorem Al.getV {K : PySem.W.Frag} {H : Hp} : ∀ {Ts : List Ty} {vs : List V} {i : Nat} {v : V}, Al K H Ts vs → vs[i]? = some v → ∃ T, Ts[i]? = some T ∧ T.p K H v
  | _, _, _, _, .nil, e => by simp at e
  | _, _, 0, _, .cons r _, e => by simp at e; subst e; exact ⟨_, rfl, r⟩
  | _, _, i + 1, v, .cons _ t, e => by
    obtain ⟨u, h1, h2⟩ := Al.getV (i := i) (v := v) t (by simpa using e)
    exact ⟨u, by simpa using h1, h2⟩
theorem Al.set {K : PySem.W.Frag} {H : Hp} {T : Ty} {v : V} (r : T.p K H v) : ∀ {Ts : List Ty} {vs : List V} (i : Nat), Al K H Ts vs → Al K H (Ts.set i T) (vs.set i v)
  | _, _, _, .nil => .nil
  | _, _, 0, .cons _ t => .cons r t
  | _, _, i + 1, .cons q t => .cons q (Al.set r i t)
theorem Al.append {K : PySem.W.Frag} {H : Hp} : ∀ {Ts Us : List Ty} {vs ws : List V}, Al K H Ts vs → Al K H Us ws → Al K H (Ts ++ Us) (vs ++ ws)
  | _, _, _, _, .nil, s => s
  | _, _, _, _, .cons r t, s => .cons r (Al.append t s)
theorem Al.take {K : PySem.W.Frag} {H : Hp} : ∀ {Ts : List Ty} {vs : List V} (n : Nat), Al K H Ts vs → Al K H (Ts.take n) (vs.take n)
  | _, _, 0, _ => .nil
  | _, _, _ + 1, .nil => .nil
  | _, _, n + 1, .cons r t => .cons r (Al.take n t)
theorem Al.drop {K : PySem.W.Frag} {H : Hp} : ∀ {Ts : List Ty} {vs : List V} (n : Nat), Al K H Ts vs → Al K H (Ts.drop n) (vs.drop n)
  | _, _, 0, r => r
  | _, _, _ + 1, .nil => .nil
  | _, _, n + 1, .cons _ t => Al.drop n t
theorem Al.length {K : PySem.W.Frag} {H : Hp} {Ts : List Ty} {vs : List V} (a : Al K H Ts vs) : Ts.length = vs.length := Paired.length a
def Sub (T U : Ty) : Prop := ∀ {K H v}, T.p K H v → U.p K H v
theorem Sub.rfl {T : Ty} : Sub T T := fun h => h
theorem Sub.of_eq {T U : Ty} (h : T = U) : Sub T U := fun {_ _ _} q => h ▸ q
inductive Subs : List Ty → List Ty → Prop
  | nil : Subs [] []
  | cons {T U Ts Us} : Sub T U → Subs Ts Us → Subs (T :: Ts) (U :: Us)
theorem Subs.refl : ∀ Ts : List Ty, Subs Ts Ts
  | [] => .nil
  | _ :: Ts => .cons Sub.rfl (Subs.refl Ts)
theorem Subs.al {K : PySem.W.Frag} {H : Hp} : ∀ {Ts Us : List Ty} {vs : List V}, Subs Ts Us → Al K H Ts vs → Al K H Us vs
  | _, _, _, .nil, .nil => .nil
  | _, _, _, .cons h t, .cons a b => .cons (h a) (Subs.al t b)

def intT (i : Int) : Ty := ⟨fun _ _ v => v = .int i, fun _ h => h⟩
def boolT (b : Bool) : Ty := ⟨fun _ _ v => v = .bl b, fun _ h => h⟩
def noneT : Ty := ⟨fun _ _ v => v = .non, fun _ h => h⟩
def anyT : Ty := ⟨fun _ _ _ => True, fun _ h => h⟩
theorem sqT_up {K : PySem.W.Frag} {H H' : Hp} {a : Addr} {xs : List V} (e : Same H H') (h : SqT K H a xs) : SqT K H' a xs := by
  rcases h with (h | ⟨o, h⟩) | h
  · exact .inl (.inl (e _ _ h))
  · exact .inl (.inr ⟨o, e _ _ h⟩)
  · exact .inr h
def tupT (Ts : List Ty) : Ty := ⟨fun K H v => ∃ a vs, v = .ref a ∧ SqT K H a vs ∧ Al K H Ts vs, fun s ⟨a, vs, e, h, al⟩ => ⟨a, vs, e, sqT_up s h, al.up s⟩⟩
def lstT (Ts : List Ty) : Ty := ⟨fun K H v => ∃ a vs, v = .ref a ∧ SqL K H a vs ∧ Al K H Ts vs, fun s ⟨a, vs, e, h, al⟩ => ⟨a, vs, e, s.seq h, al.up s⟩⟩
/-- a tuple of ints that stands in the heap (a key) -/
def keyT (ks : List Int) : Ty := ⟨fun _ H v => ∃ a, v = .ref a ∧ H a = some (.tup (ks.map V.int)), fun s ⟨a, e, h⟩ => ⟨a, e, s _ _ h⟩⟩
theorem al_ints {K : PySem.W.Frag} {H : Hp} : ∀ ks : List Int, Al K H (ks.map intT) (ks.map V.int)
  | [] => .nil
  | _ :: ks => .cons _root_.rfl (al_ints ks)
theorem key_tup {ks : List Int} : Sub (keyT ks) (tupT (ks.map intT)) := fun ⟨a, e, h⟩ => ⟨a, _, e, SqT.of h, al_ints ks⟩
theorem tup_sub {Ts Us : List Ty} (h : Subs Ts Us) : Sub (tupT Ts) (tupT Us) := fun ⟨a, vs, e, q, al⟩ => ⟨a, vs, e, q, h.al al⟩
theorem lst_sub {Ts Us : List Ty} (h : Subs Ts Us) : Sub (lstT Ts) (lstT Us) := fun ⟨a, vs, e, q, al⟩ => ⟨a, vs, e, q, h.al al⟩
/-- dicts with keys that are tuples of ints -/
abbrev AlD (K : PySem.W.Frag) (H : Hp) : List (List Int × Ty) → List (List Key × V) → Prop := Paired fun p q => q.1 = p.1.map Sum.inl ∧ p.2.p K H q.2
theorem AlD.up {K : PySem.W.Frag} {H H' : Hp} (s : Same H H') : ∀ {Ts : List (List Int × Ty)} {vs : List (List Key × V)}, AlD K H Ts vs → AlD K H' Ts vs
  | _, _, .nil => .nil
  | _, _, .cons h t => .cons ⟨h.1, Ty.mono _ s h.2⟩ (AlD.up s t)
def dctT (kvs : List (List Int × Ty)) : Ty := ⟨fun K H v => ∃ a vs, v = .ref a ∧ H a = some (.dT vs) ∧ AlD K H kvs vs, fun s ⟨a, vs, e, h, al⟩ => ⟨a, vs, e, s _ _ h, al.up s⟩⟩
/-- slotted instances -/
def objT (C : Addr) (Ts : List Ty) : Ty :=
  ⟨fun K H v => ∃ a dx vs, v = .ref a ∧ H a = some (SlX.SlO a C dx (vs.map some)) ∧ H dx = some (.xd []) ∧ Al K H Ts vs,
   fun {K H H' v} s h => by
     obtain ⟨a, dx, vs, e, h, hd, al⟩ := h
     exact ⟨a, dx, vs, e, s _ _ h, s _ _ hd, al.up s⟩⟩

/-! ### the slots -/
inductive Slt where
  | no
  | v (T : Ty)
  | own (Ts : List Ty)
  | ownD (kvs : List (List Int × Ty))
def OwnS (G : List Slt) (i : Nat) : Prop := (∃ Ts, G[i]? = some (.own Ts)) ∨ ∃ kvs, G[i]? = some (.ownD kvs)
structure Bs where
  F : Hp
  H : Hp
structure Has (tb : List Addr) (K : PySem.W.Frag) (G : List Slt) (B : Bs) (F H : Hp) (σ : L2.St) : Prop where
  fz : Fz F H
  len : σ.length = G.length
  val : ∀ (i : Nat) (T : Ty), G[i]? = some (.v T) → ∃ v, σ[i]? = some (some v) ∧ T.p K F v
  own : ∀ (i : Nat) (Ts : List Ty), G[i]? = some (.own Ts) → ∃ a vs, σ[i]? = some (some (.ref a)) ∧ F a = none ∧ B.H a = none ∧ H a = some (.lst vs) ∧ Al K F Ts vs
  ownD : ∀ (i : Nat) (kvs : List (List Int × Ty)), G[i]? = some (.ownD kvs) → ∃ a vs, σ[i]? = some (some (.ref a)) ∧ F a = none ∧ B.H a = none ∧ H a = some (.dT vs) ∧ AlD K F kvs vs
  dis : ∀ (i j : Nat) (a : Addr), OwnS G i → OwnS G j → σ[i]? = some (some (.ref a)) → σ[j]? = some (some (.ref a)) → i = j
  ext : Ext B.F B.H F H
  tab : ∀ P ∈ tb, GxR.TabG H P
theorem Has.up {tb : List Addr} {K : PySem.W.Frag} {G : List Slt} {B : Bs} {F H F' H' : Hp} {σ : L2.St} (h : Has tb K G B F H σ) (x : Ext F H F' H') : Has tb K G B F' H' σ := by
  refine ⟨x.fz, h.len, fun i T e => ?_, fun i Ts e => ?_, fun i Ts e => ?_, h.dis, h.ext.trans x, fun P hp => x.hh.tab P (h.tab P hp)⟩
  · obtain ⟨v, e1, e2⟩ := h.val i T e
    exact ⟨v, e1, T.mono x.ff e2⟩
  · obtain ⟨a, vs, e1, e2, e3, e4, e5⟩ := h.own i Ts e
    exact ⟨a, vs, e1, x.av a (by rw [e4]; intro z; cases z) e2, e3, x.hh.keep a _ e4 (fun _ z => nomatch z), e5.up x.ff⟩
  · obtain ⟨a, vs, e1, e2, e3, e4, e5⟩ := h.ownD i Ts e
    exact ⟨a, vs, e1, x.av a (by rw [e4]; intro z; cases z) e2, e3, x.hh.keep a _ e4 (fun _ z => nomatch z), e5.up x.ff⟩
theorem ownS_set {G : List Slt} {i j : Nat} {T : Ty} (h : OwnS (G.set i (.v T)) j) : OwnS G j ∧ j ≠ i := by
  have key : ∀ s : Slt, (∀ U, s ≠ .v U) → (G.set i (.v T))[j]? = some s → G[j]? = some s ∧ j ≠ i := fun s hs e => by
    by_cases hj : i = j
    · subst hj
      by_cases hl : i < G.length
      · rw [List.getElem?_set_self hl] at e
        exact absurd (Option.some.inj e).symm (hs T)
      · rw [List.getElem?_eq_none (by simpa using hl)] at e
        cases e
    · rw [List.getElem?_set_ne hj] at e
      exact ⟨e, fun z => hj z.symm⟩
  rcases h with ⟨Ts, e⟩ | ⟨kvs, e⟩
  · obtain ⟨a, b⟩ := key _ (by intro _ z; cases z) e
    exact ⟨.inl ⟨Ts, a⟩, b⟩
  · obtain ⟨a, b⟩ := key _ (by intro _ z; cases z) e
    exact ⟨.inr ⟨kvs, a⟩, b⟩
/-- a slot gets a value -/
theorem Has.set {tb : List Addr} {K : PySem.W.Frag} {G : List Slt} {B : Bs} {F H : Hp} {σ : L2.St} (h : Has tb K G B F H σ) (i : Nat) {T : Ty} {v : V} (hv : T.p K F v) : Has tb K (G.set i (.v T)) B F H (σ.set i (some v)) := by
  have off : ∀ (j : Nat) (s : Slt), j ≠ i → (G.set i (.v T))[j]? = some s → G[j]? = some s := fun j s hj e => by
    rwa [List.getElem?_set_ne (Ne.symm hj)] at e
  have offσ : ∀ (j : Nat), j ≠ i → (σ.set i (some v))[j]? = σ[j]? := fun j hj => List.getElem?_set_ne (Ne.symm hj)
  refine ⟨h.fz, by simp [h.len], fun j U e => ?_, fun j Ts e => ?_, fun j Ts e => ?_, fun j k a hj hk e1 e2 => ?_, h.ext, h.tab⟩
  · by_cases hj : j = i
    · subst hj
      have hl : j < G.length := by
        have := (List.getElem?_eq_some_iff.mp e).1
        simpa using this
      rw [List.getElem?_set_self hl] at e
      cases e
      exact ⟨v, List.getElem?_set_self (by rw [h.len]; exact hl), hv⟩
    · rw [offσ j hj]
      exact h.val j U (off j _ hj e)
  · obtain ⟨o1, hj⟩ := ownS_set (.inl ⟨Ts, e⟩)
    rw [offσ j hj]
    exact h.own j Ts (off j _ hj e)
  · obtain ⟨o1, hj⟩ := ownS_set (.inr ⟨Ts, e⟩)
    rw [offσ j hj]
    exact h.ownD j Ts (off j _ hj e)
  · obtain ⟨oj, nj⟩ := ownS_set hj
    obtain ⟨ok, nk⟩ := ownS_set hk
    rw [offσ j nj] at e1
    rw [offσ k nk] at e2
    exact h.dis j k a oj ok e1 e2
/-- a slot is forgotten -/
theorem Has.drop {tb : List Addr} {K : PySem.W.Frag} {G : List Slt} {B : Bs} {F H : Hp} {σ : L2.St} (h : Has tb K G B F H σ) (i : Nat) (o : Option V) : Has tb K (G.set i .no) B F H (σ.set i o) := by
  have off : ∀ (j : Nat) (s : Slt), s ≠ .no → (G.set i .no)[j]? = some s → j ≠ i ∧ G[j]? = some s := fun j s hs e => by
    by_cases hj : j = i
    · subst hj
      by_cases hl : j < G.length
      · rw [List.getElem?_set_self hl] at e
        exact absurd (Option.some.inj e).symm hs
      · rw [List.getElem?_eq_none (by simpa using hl)] at e
        cases e
    · rw [List.getElem?_set_ne (Ne.symm hj)] at e
      exact ⟨hj, e⟩
  have offσ : ∀ (j : Nat), j ≠ i → (σ.set i o)[j]? = σ[j]? := fun j hj => List.getElem?_set_ne (Ne.symm hj)
  have offO : ∀ j, OwnS (G.set i .no) j → j ≠ i ∧ OwnS G j := fun j hj => by
    rcases hj with ⟨Ts, e⟩ | ⟨kvs, e⟩
    · obtain ⟨a, b⟩ := off j _ (by intro z; cases z) e
      exact ⟨a, .inl ⟨Ts, b⟩⟩
    · obtain ⟨a, b⟩ := off j _ (by intro z; cases z) e
      exact ⟨a, .inr ⟨kvs, b⟩⟩
  refine ⟨h.fz, by simp [h.len], fun j U e => ?_, fun j Ts e => ?_, fun j Ts e => ?_, fun j k a hj hk e1 e2 => ?_, h.ext, h.tab⟩
  · obtain ⟨hj, e⟩ := off j _ (by intro z; cases z) e
    rw [offσ j hj]
    exact h.val j U e
  · obtain ⟨hj, e⟩ := off j _ (by intro z; cases z) e
    rw [offσ j hj]
    exact h.own j Ts e
  · obtain ⟨hj, e⟩ := off j _ (by intro z; cases z) e
    rw [offσ j hj]
    exact h.ownD j Ts e
  · obtain ⟨nj, oj⟩ := offO j hj
    obtain ⟨nk, ok⟩ := offO k hk
    rw [offσ j nj] at e1
    rw [offσ k nk] at e2
    exact h.dis j k a oj ok e1 e2
/-- a slot gets a new list (or dict) of one's own -/
theorem Has.setOwn {tb : List Addr} {K : PySem.W.Frag} {G : List Slt} {B : Bs} {F H : Hp} {σ : L2.St} (h : Has tb K G B F H σ) (i : Nat) {p : Addr} (hp : H p = none) {o : HO} {s : Slt}
    (hs : (∃ Ts vs, s = .own Ts ∧ o = .lst vs ∧ Al K F Ts vs) ∨ (∃ kvs vs, s = .ownD kvs ∧ o = .dT vs ∧ AlD K F kvs vs)) : Has tb K (G.set i s) B F (upd H p o) (σ.set i (some (.ref p))) := by
  have x : Ext F H F (upd H p o) := Ext.own h.fz hp
  have h1 := (h.drop i (some (.ref p))).up x
  have hB : B.H p = none := h.ext.hh.free hp
  have hF : F p = none := h.fz.none hp
  have new : ∀ j a, OwnS G j → σ[j]? = some (some (.ref a)) → a ≠ p := fun j a hj e z => by
    subst z
    rcases hj with ⟨Ts, e1⟩ | ⟨Ts, e1⟩
    · obtain ⟨a', vs, q1, q2, q3, q4, q5⟩ := h.own j Ts e1
      rw [e] at q1; cases q1
      rw [hp] at q4; cases q4
    · obtain ⟨a', vs, q1, q2, q3, q4, q5⟩ := h.ownD j Ts e1
      rw [e] at q1; cases q1
      rw [hp] at q4; cases q4
  have off : ∀ (j : Nat) (u : Slt), j ≠ i → (G.set i s)[j]? = some u → G[j]? = some u := fun j u hj e => by
    rwa [List.getElem?_set_ne (Ne.symm hj)] at e
  have off2 : ∀ (j : Nat) (u : Slt), j ≠ i → (G.set i s)[j]? = some u → (G.set i .no)[j]? = some u := fun j u hj e => by
    rw [List.getElem?_set_ne (Ne.symm hj)]; exact off j u hj e
  have offσ : ∀ (j : Nat), j ≠ i → (σ.set i (some (V.ref p)))[j]? = σ[j]? := fun j hj => List.getElem?_set_ne (Ne.symm hj)
  have at_ : ∀ u : Slt, (G.set i s)[i]? = some u → u = s ∧ i < G.length := fun u e => by
    by_cases hl : i < G.length
    · rw [List.getElem?_set_self hl] at e
      exact ⟨(Option.some.inj e).symm, hl⟩
    · rw [List.getElem?_eq_none (by simpa using hl)] at e
      cases e
  have offO : ∀ j, j ≠ i → OwnS (G.set i s) j → OwnS G j := fun j hj ho => by
    rcases ho with ⟨Ts, e⟩ | ⟨kvs, e⟩
    · exact .inl ⟨Ts, off j _ hj e⟩
    · exact .inr ⟨kvs, off j _ hj e⟩
  refine ⟨h1.fz, by simp [h.len], fun j U e => ?_, fun j Ts e => ?_, fun j Ts e => ?_, fun j k a hj hk e1 e2 => ?_, h1.ext, h1.tab⟩
  · by_cases hj : j = i
    · subst hj
      obtain ⟨e, _⟩ := at_ _ e
      rcases hs with ⟨_, _, e2, _⟩ | ⟨_, _, e2, _⟩ <;> (rw [e2] at e; cases e)
    · exact h1.val j U (off2 j _ hj e)
  · by_cases hj : j = i
    · subst hj
      obtain ⟨e, hl⟩ := at_ _ e
      rcases hs with ⟨Us, vs, e2, e3, e4⟩ | ⟨_, _, e2, _⟩
      · rw [e2] at e
        cases e
        exact ⟨p, vs, List.getElem?_set_self (by rw [h.len]; exact hl), hF, hB, by rw [upd_same, e3], e4⟩
      · rw [e2] at e; cases e
    · exact h1.own j Ts (off2 j _ hj e)
  · by_cases hj : j = i
    · subst hj
      obtain ⟨e, hl⟩ := at_ _ e
      rcases hs with ⟨_, _, e2, _⟩ | ⟨Us, vs, e2, e3, e4⟩
      · rw [e2] at e; cases e
      · rw [e2] at e
        cases e
        exact ⟨p, vs, List.getElem?_set_self (by rw [h.len]; exact hl), hF, hB, by rw [upd_same, e3], e4⟩
    · exact h1.ownD j Ts (off2 j _ hj e)
  · by_cases nj : j = i
    · by_cases nk : k = i
      · rw [nj, nk]
      · rw [offσ k nk] at e2
        have z := new k a (offO k nk hk) e2
        subst nj
        have hl : j < σ.length := by
          have := (List.getElem?_eq_some_iff.mp e1).1
          simpa using this
        rw [List.getElem?_set_self hl] at e1
        cases e1
        exact absurd _root_.rfl z
    · rw [offσ j nj] at e1
      by_cases nk : k = i
      · have z := new j a (offO j nj hj) e1
        subst nk
        have hl : k < σ.length := by
          have := (List.getElem?_eq_some_iff.mp e2).1
          simpa using this
        rw [List.getElem?_set_self hl] at e2
        cases e2
        exact absurd _root_.rfl z
      · rw [offσ k nk] at e2
        exact h.dis j k a (offO j nj hj) (offO k nk hk) e1 e2
/-- an own list (or dict) has changed -/
theorem Has.mutOwn {tb : List Addr} {K : PySem.W.Frag} {G : List Slt} {B : Bs} {F H : Hp} {σ : L2.St} (h : Has tb K G B F H σ) {i : Nat} {p : Addr} (hi : OwnS G i) (hσ : σ[i]? = some (some (.ref p))) {o : HO} {s : Slt}
    (hs : (∃ Ts vs, s = .own Ts ∧ o = .lst vs ∧ Al K F Ts vs) ∨ (∃ kvs vs, s = .ownD kvs ∧ o = .dT vs ∧ AlD K F kvs vs)) : Has tb K (G.set i s) B F (upd H p o) σ := by
  have hp : F p = none ∧ B.H p = none ∧ ∃ u, H p = some u := by
    rcases hi with ⟨Ts, e⟩ | ⟨Ts, e⟩
    · obtain ⟨a, vs, q1, q2, q3, q4, q5⟩ := h.own i Ts e
      rw [hσ] at q1; cases q1
      exact ⟨q2, q3, _, q4⟩
    · obtain ⟨a, vs, q1, q2, q3, q4, q5⟩ := h.ownD i Ts e
      rw [hσ] at q1; cases q1
      exact ⟨q2, q3, _, q4⟩
  obtain ⟨hF, hB, u, hu⟩ := hp
  have off : ∀ (j : Nat) (u : Slt), j ≠ i → (G.set i s)[j]? = some u → G[j]? = some u := fun j u hj e => by
    rwa [List.getElem?_set_ne (Ne.symm hj)] at e
  have at_ : ∀ u : Slt, (G.set i s)[i]? = some u → u = s ∧ i < G.length := fun u e => by
    by_cases hl : i < G.length
    · rw [List.getElem?_set_self hl] at e
      exact ⟨(Option.some.inj e).symm, hl⟩
    · rw [List.getElem?_eq_none (by simpa using hl)] at e
      cases e
  have toO : ∀ j, OwnS (G.set i s) j → OwnS G j := fun j ho => by
    by_cases hj : j = i
    · rw [hj]; exact hi
    · rcases ho with ⟨Ts, e⟩ | ⟨kvs, e⟩
      · exact .inl ⟨Ts, off j _ hj e⟩
      · exact .inr ⟨kvs, off j _ hj e⟩
  have apart : ∀ j a, j ≠ i → OwnS G j → σ[j]? = some (some (.ref a)) → a ≠ p := fun j a hj ho e z => by
    subst z
    exact hj (h.dis j i a ho hi e hσ)
  have x : Ext B.F B.H F (upd H p o) := h.ext.mut (o := u) hB hF
  refine ⟨x.fz, by simp [h.len], fun j U e => ?_, fun j Ts e => ?_, fun j Ts e => ?_, fun j k a hj hk e1 e2 => h.dis j k a (toO j hj) (toO k hk) e1 e2, x, fun P hP => ?_⟩
  · by_cases hj : j = i
    · subst hj
      obtain ⟨e, _⟩ := at_ _ e
      rcases hs with ⟨_, _, e2, _⟩ | ⟨_, _, e2, _⟩ <;> (rw [e2] at e; cases e)
    · exact h.val j U (off j _ hj e)
  · by_cases hj : j = i
    · subst hj
      obtain ⟨e, hl⟩ := at_ _ e
      rcases hs with ⟨Us, vs, e2, e3, e4⟩ | ⟨_, _, e2, _⟩
      · rw [e2] at e
        cases e
        exact ⟨p, vs, hσ, hF, hB, by rw [upd_same, e3], e4⟩
      · rw [e2] at e; cases e
    · obtain ⟨a, vs, q1, q2, q3, q4, q5⟩ := h.own j Ts (off j _ hj e)
      exact ⟨a, vs, q1, q2, q3, by rw [upd_ne (apart j a hj (.inl ⟨Ts, off j _ hj e⟩) q1)]; exact q4, q5⟩
  · by_cases hj : j = i
    · subst hj
      obtain ⟨e, hl⟩ := at_ _ e
      rcases hs with ⟨_, _, e2, _⟩ | ⟨Us, vs, e2, e3, e4⟩
      · rw [e2] at e; cases e
      · rw [e2] at e
        cases e
        exact ⟨p, vs, hσ, hF, hB, by rw [upd_same, e3], e4⟩
    · obtain ⟨a, vs, q1, q2, q3, q4, q5⟩ := h.ownD j Ts (off j _ hj e)
      exact ⟨a, vs, q1, q2, q3, by rw [upd_ne (apart j a hj (.inr ⟨Ts, off j _ hj e⟩) q1)]; exact q4, q5⟩
  · obtain ⟨ps, e, t⟩ := h.tab P hP
    refine ⟨ps, ?_, t⟩
    have : P ≠ p := fun z => by
      subst z
      rcases hi with ⟨Ts, e2⟩ | ⟨Ts, e2⟩
      · obtain ⟨a, vs, q1, q2, q3, q4, q5⟩ := h.own i Ts e2
        rw [hσ] at q1; cases q1
        rw [e] at q4; cases q4
      · obtain ⟨a, vs, q1, q2, q3, q4, q5⟩ := h.ownD i Ts e2
        rw [hσ] at q1; cases q1
        rw [e] at q4; cases q4
    rw [upd_ne this]
    exact e
/-- an own list becomes a value -/
theorem Has.freeze {tb : List Addr} {K : PySem.W.Frag} {G : List Slt} {B : Bs} {F H : Hp} {σ : L2.St} (h : Has tb K G B F H σ) {i : Nat} {s : Slt} {T : Ty}
    (hs : (∃ Ts, s = .own Ts ∧ T = lstT Ts) ∨ (∃ kvs, s = .ownD kvs ∧ T = dctT kvs)) (hi : G[i]? = some s) : ∃ F', Same F F' ∧ Has tb K (G.set i (.v T)) B F' H σ := by
  have hp : ∃ (a : Addr) (o : HO), σ[i]? = some (some (.ref a)) ∧ F a = none ∧ B.H a = none ∧ H a = some o ∧ (∀ ps, o ≠ .tbl ps) ∧ (∀ F', Same F F' → F' a = some o → T.p K F' (.ref a)) := by
    rcases hs with ⟨Ts, rfl, rfl⟩ | ⟨kvs, rfl, rfl⟩
    · obtain ⟨a, vs, q1, q2, q3, q4, q5⟩ := h.own i Ts hi
      exact ⟨a, _, q1, q2, q3, q4, fun _ z => (nomatch z), fun F' s e => ⟨a, vs, _root_.rfl, SqL.of e, q5.up s⟩⟩
    · obtain ⟨a, vs, q1, q2, q3, q4, q5⟩ := h.ownD i kvs hi
      exact ⟨a, _, q1, q2, q3, q4, fun _ z => (nomatch z), fun F' s e => ⟨a, vs, _root_.rfl, e, q5.up s⟩⟩
  obtain ⟨p, o, hσ, hF, hB, hH, ht, hT⟩ := hp
  have hiO : OwnS G i := by
    rcases hs with ⟨Ts, rfl, _⟩ | ⟨kvs, rfl, _⟩
    · exact .inl ⟨Ts, hi⟩
    · exact .inr ⟨kvs, hi⟩
  have sF : Same F (upd F p o) := fun b u q => by rw [upd_ne (ne_of_none q hF)]; exact q
  have fz : Fz (upd F p o) H := fun b u q => by
    by_cases hb : b = p
    · subst hb; rw [upd_same] at q; cases q; exact ⟨hH, ht⟩
    · rw [upd_ne hb] at q; exact h.fz b u q
  have x : Ext B.F B.H (upd F p o) H := ⟨h.ext.hh, h.ext.ff.trans sF, fun a h1 h2 => by
    have : a ≠ p := fun z => h1 (z ▸ hB)
    rw [upd_ne this]; exact h.ext.av a h1 h2, fz⟩
  have off : ∀ (j : Nat) (u : Slt), j ≠ i → (G.set i (.v T))[j]? = some u → G[j]? = some u := fun j u hj e => by
    rwa [List.getElem?_set_ne (Ne.symm hj)] at e
  have apart : ∀ j a, j ≠ i → OwnS G j → σ[j]? = some (some (.ref a)) → a ≠ p := fun j a hj ho e z => by
    subst z
    exact hj (h.dis j i a ho hiO e hσ)
  refine ⟨upd F p o, sF, fz, by simp [h.len], fun j U e => ?_, fun j Ts e => ?_, fun j Ts e => ?_, fun j k a hj hk e1 e2 => ?_, x, h.tab⟩
  · by_cases hj : j = i
    · subst hj
      have hl : j < G.length := (List.getElem?_eq_some_iff.mp hi).1
      rw [List.getElem?_set_self hl] at e
      cases e
      exact ⟨_, hσ, hT _ sF upd_same⟩
    · obtain ⟨v, q1, q2⟩ := h.val j U (off j _ hj e)
      exact ⟨v, q1, U.mono sF q2⟩
  · obtain ⟨o1, hj⟩ := ownS_set (.inl ⟨Ts, e⟩)
    obtain ⟨a, vs, q1, q2, q3, q4, q5⟩ := h.own j Ts (off j _ hj e)
    exact ⟨a, vs, q1, by rw [upd_ne (apart j a hj o1 q1)]; exact q2, q3, q4, q5.up sF⟩
  · obtain ⟨o1, hj⟩ := ownS_set (.inr ⟨Ts, e⟩)
    obtain ⟨a, vs, q1, q2, q3, q4, q5⟩ := h.ownD j Ts (off j _ hj e)
    exact ⟨a, vs, q1, by rw [upd_ne (apart j a hj o1 q1)]; exact q2, q3, q4, q5.up sF⟩
  · exact h.dis j k a (ownS_set hj).1 (ownS_set hk).1 e1 e2
end JL

set_option Elab.async false
set_option linter.all false
set_option maxRecDepth 100000
set_option maxHeartbeats 4000000
set_option autoImplicit false
/-! Expressions: the weakest reading, the judgement E. -/
namespace JL
open PySem PySem.Spec PyProof.Rows L2

/-! ### weakest readings -/
section
variable (X : Cx)
def ewp (e : Expr) : TE := fun σ H Q => ∀ pins s, Inv X pins σ H s → wpAny (model X.prog X.w) X.A (eval e X.env) (EP X pins σ Q) X.xe s
def bwp (e : Expr) : TT := fun σ H Q => ∀ pins s, Inv X pins σ H s → wpAny (model X.prog X.w) X.A (isTrue e X.env (eval e X.env)) (TP X pins σ Q) X.xe s
def wwp (e : Expr) : TT := fun σ H Q => ∀ (whole : Sem Value) pins s, Inv X pins σ H s → wpAny (model X.prog X.w) X.A (isTrue e X.env whole) (TP X pins σ Q) X.xe s
def awp (es : List Expr) : TA := fun σ H Q => ∀ (pos : Pos) pins s, Inv X pins σ H s → wpAny (model X.prog X.w) X.A (spliced (backTo pos (starEach es X.env))) (AP X pins σ Q) X.xe s
def swp (st : Stmt) : TS := fun D σ H => ∀ pins s, Inv X pins σ H s → wpAny (model X.prog X.w) X.A (exec st X.env) (SP X pins D) X.xe s
def sswp (st : List Stmt) : TS := fun D σ H => ∀ pins s, Inv X pins σ H s → wpAny (model X.prog X.w) X.A (execs st X.env) (SP X pins D) X.xe s
def gwp (tg : Expr) : TG := fun v σ H Q => ∀ pins s u, Inv X pins σ H s → RelV v u → wpAny (model X.prog X.w) X.A (assign tg X.env u) (fun _ s' => ∃ σ' H', Inv X pins σ' H' s' ∧ Q σ' H') X.xe s
def iwp (tg iter : Expr) : TI := fun σ H R => ∀ pins s, Inv X pins σ H s → wpAny (model X.prog X.w) X.A (eval iter X.env) (fun v s1 => wpAny (model X.prog X.w) X.A (pyIter v) (PIE X pins σ tg R) X.xe s1) X.xe s
end
section
variable {X : Cx}
theorem pe_wp (e : Expr) : PE X e (ewp X e) := ⟨fun pins s _ _ _ I h => h pins s I⟩
theorem pt_wp (e : Expr) : PT X e (bwp X e) := ⟨fun pins s _ _ _ I h => h pins s I⟩
theorem pw_wp (e : Expr) : PW X e (wwp X e) := ⟨fun w pins s _ _ _ I h => h w pins s I⟩
theorem pa_wp (es : List Expr) : PA X es (awp X es) := ⟨fun pos pins s _ _ _ I h => h pos pins s I⟩
theorem ps_wp (st : Stmt) : PS X st (swp X st) := ⟨fun pins s _ _ _ I h => h pins s I⟩
theorem pss_wp (st : List Stmt) : PSs X st (sswp X st) := ⟨fun pins s _ _ _ I h => h pins s I⟩
theorem pg_wp (tg : Expr) : PG X tg (gwp X tg) := ⟨fun pins s _ _ _ u _ I r h => h pins s u I r⟩
theorem pi_wp (tg iter : Expr) : PI X tg iter (iwp X tg iter) := ⟨fun pins s _ _ _ I h => h pins s I⟩
theorem ewp_of {e : Expr} {t : TE} (h : PE X e t) {σ : L2.St} {H : Hp} {Q : VK} (q : t σ H Q) : ewp X e σ H Q := fun pins s I => h.run pins s σ H Q I q
theorem bwp_of {e : Expr} {t : TT} (h : PT X e t) {σ : L2.St} {H : Hp} {Q : Bool → Hp → Prop} (q : t σ H Q) : bwp X e σ H Q := fun pins s I => h.run pins s σ H Q I q
theorem wwp_of {e : Expr} {t : TT} (h : PW X e t) {σ : L2.St} {H : Hp} {Q : Bool → Hp → Prop} (q : t σ H Q) : wwp X e σ H Q := fun w pins s I => h.run w pins s σ H Q I q
theorem awp_of {es : List Expr} {t : TA} (h : PA X es t) {σ : L2.St} {H : Hp} {Q : List V → Hp → Prop} (q : t σ H Q) : awp X es σ H Q := fun pos pins s I => h.run pos pins s σ H Q I q
theorem swp_of {st : Stmt} {t : TS} (h : PS X st t) {σ : L2.St} {H : Hp} {D : Ends} (q : t D σ H) : swp X st D σ H := fun pins s I => h.run pins s σ H D I q
theorem sswp_of {st : List Stmt} {t : TS} (h : PSs X st t) {σ : L2.St} {H : Hp} {D : Ends} (q : t D σ H) : sswp X st D σ H := fun pins s I => h.run pins s σ H D I q
theorem gwp_of {tg : Expr} {t : TG} (h : PG X tg t) {v : V} {σ : L2.St} {H : Hp} {Q : L2.St → Hp → Prop} (q : t v σ H Q) : gwp X tg v σ H Q := fun pins s u I r => h.run pins s σ H v u Q I r q
theorem iwp_of {tg iter : Expr} {t : TI} (h : PI X tg iter t) {σ : L2.St} {H : Hp} {R : It → Hp → Prop} (q : t σ H R) : iwp X tg iter σ H R := fun pins s I => h.run pins s σ H R I q
theorem EP.imp {pins : List (Addr × Obj)} {σ : L2.St} {Q Q' : VK} {u : Value} {s : Shared} (h : EP X pins σ Q u s) (f : ∀ v H, Q v H → Q' v H) : EP X pins σ Q' u s := by
  obtain ⟨v, H, I, r, q⟩ := h
  exact ⟨v, H, I, r, f v H q⟩
theorem ewp_imp {e : Expr} {σ : L2.St} {H : Hp} {Q Q' : VK} (h : ewp X e σ H Q) (f : ∀ v H, Q v H → Q' v H) : ewp X e σ H Q' := fun pins s I => wpAny_mono (h pins s I) (fun _ _ q => EP.imp q f) fun _ _ x => x
end

/-! ### the context's facts -/
structure CxD (X : Cx) (N : List Str) (sc : Scope) (k : Nat) : Prop where
  hN : X.N = N
  nd : N.Nodup
  hsc : X.env.scope = sc
  fun_ : sc.kind = .function
  calm : X.calm = true
  room : Room k X.A
  never : ∀ e s, ¬ X.xe e s
theorem CxD.po {X : Cx} {N : List Str} {sc : Scope} {k : Nat} (h : CxD X N sc k) : PassesOwn (model X.prog X.w) X.A X.env X.xe := fun e s z => (h.never e s z).elim
theorem CxD.hu {X : Cx} {N : List Str} {sc : Scope} {k : Nat} (h : CxD X N sc k) : X.A.units + 64 < cLine := h.room.units
theorem CxD.hu1 {X : Cx} {N : List Str} {sc : Scope} {k : Nat} (h : CxD X N sc k) : X.A.units + 1 < cLine := Nat.lt_of_le_of_lt (Nat.add_le_add_left (by decide : 1 ≤ 64) _) h.hu
def visB (sc : Scope) (x : Str) : Bool := match sc.names.lookup x with
  | some .local => true
  | some .cell => true
  | some .free => true
  | _ => false
def locB (sc : Scope) (x : Str) : Bool := match sc.names.lookup x with
  | some .local => true
  | some .cell => true
  | _ => false
theorem visB.of {sc : Scope} {x : Str} (h : visB sc x = true) : Vis sc x := by
  unfold visB at h
  unfold Vis
  split at h <;> simp_all
theorem locB.of {sc : Scope} {x : Str} (h : locB sc x = true) : L2.Loc sc x := by
  unfold locB at h
  unfold L2.Loc
  split at h <;> simp_all
theorem CxD.gl {X : Cx} {N : List Str} {sc : Scope} {k : Nat} (h : CxD X N sc k) {x : Str} (g : sc.names.lookup x = some .globalImplicit) : Gl X x := by
  show X.env.scope.names.lookup x = _
  rw [h.hsc]; exact g

/-! ### judgements -/
section
variable (tb : List Addr) (X : Cx) (G : List Slt)
def E (e : Expr) (T : Ty) : Prop := ∀ (B : Bs) (σ : L2.St) (F H : Hp) (Q : VK), Has tb X.K G B F H σ → (∀ v F' H', Ext F H F' H' → T.p X.K F' v → Q v H') → ewp X e σ H Q
def EA (es : List Expr) (Ts : List Ty) : Prop := ∀ (B : Bs) (σ : L2.St) (F H : Hp) (Q : List V → Hp → Prop), Has tb X.K G B F H σ → (∀ vs F' H', Ext F H F' H' → Al X.K F' Ts vs → Q vs H') → awp X es σ H Q
def EB (e : Expr) (b : Bool) : Prop := ∀ (B : Bs) (σ : L2.St) (F H : Hp) (Q : Bool → Hp → Prop), Has tb X.K G B F H σ → (∀ F' H', Ext F H F' H' → Q b H') → bwp X e σ H Q
def EW (e : Expr) (b : Bool) : Prop := ∀ (B : Bs) (σ : L2.St) (F H : Hp) (Q : Bool → Hp → Prop), Has tb X.K G B F H σ → (∀ F' H', Ext F H F' H' → Q b H') → wwp X e σ H Q
end
section
variable {tb : List Addr} {X : Cx} {G : List Slt} {N : List Str} {sc : Scope} {k : Nat} {pos : Pos}
theorem EW.eb {e : Expr} {b : Bool} (h : EW tb X G e b) : EB tb X G e b := fun B σ F H Q hs q => bwp_of (pw_wp e).pt (h B σ F H Q hs q)
theorem e_sub {e : Expr} {T U : Ty} (h : E tb X G e T) (s : Sub T U) : E tb X G e U := fun B σ F H Q hs q => h B σ F H Q hs fun v F' H' x t => q v F' H' x (s t)
theorem e_eq {e : Expr} {T U : Ty} (h : E tb X G e T) (s : T = U) : E tb X G e U := s ▸ h
/-- two in a row -/
theorem e2 {a b : Expr} {T U : Ty} (ha : E tb X G a T) (hb : E tb X G b U) {B : Bs} {σ : L2.St} {F H : Hp} (hs : Has tb X.K G B F H σ) {R : V → V → Hp → Prop}
    (q : ∀ x y F' H', Ext F H F' H' → T.p X.K F' x → U.p X.K F' y → R x y H') : ewp X a σ H fun x H1 => ewp X b σ H1 fun y H2 => R x y H2 :=
  ha B σ F H _ hs fun x F1 H1 x1 t1 => hb B σ F1 H1 _ (hs.up x1) fun y F2 H2 x2 t2 => q x y F2 H2 (x1.trans x2) (T.mono x2.ff t1) t2
/-- a rule for two values -/
def RR2 (K : PySem.W.Frag) (r : R2) (T U W : Ty) : Prop := ∀ (F H : Hp) (x y : V) (Q : VK), Fz F H → T.p K F x → U.p K F y → (∀ v F' H', Ext F H F' H' → W.p K F' v → Q v H') → r x y H Q
def RR1 (K : PySem.W.Frag) (r : List V → Hp → VK → Prop) (Ts : List Ty) (W : Ty) : Prop := ∀ (F H : Hp) (vs : List V) (Q : VK), Fz F H → Al K F Ts vs → (∀ v F' H', Ext F H F' H' → W.p K F' v → Q v H') → r vs H Q
theorem e_op {op : Operator} {a b : Expr} {T U W : Ty} {r : R2} (ho : OpR X (binaryOp op) r) (hr : RR2 X.K r T U W) (ha : E tb X G a T) (hb : E tb X G b U) : E tb X G (.BinOp a op b pos) W :=
  fun B σ F H Q hs q => ewp_of (pe_op ho (pe_wp a) (pe_wp b)) (e2 ha hb hs fun x y F1 H1 x1 t u => hr F1 H1 x y Q x1.fz t u fun v F2 H2 x2 w => q v F2 H2 (x1.trans x2) w)
theorem e_cmp {op : CmpOp} {a b : Expr} {T U W : Ty} {r : R2} (ho : OpR X (compareOp op) r) (hr : RR2 X.K r T U W) (ha : E tb X G a T) (hb : E tb X G b U) (hm : behindInMarks op b = false) : E tb X G (.Compare a [op] [b] pos) W :=
  fun B σ F H Q hs q => ewp_of (pe_cmpR ho (pe_wp a) (pe_wp b) hm) (e2 ha hb hs fun x y F1 H1 x1 t u => hr F1 H1 x y Q x1.fz t u fun v F2 H2 x2 w => q v F2 H2 (x1.trans x2) w)
theorem eb_cmp {op : CmpOp} {a b : Expr} {T U : Ty} {c : Bool} {r : R2} (ho : OpR X (compareOp op) r) (hr : RR2 X.K r T U (boolT c)) (ha : E tb X G a T) (hb : E tb X G b U) (hm : behindInMarks op b = false) : EB tb X G (.Compare a [op] [b] pos) c :=
  fun B σ F H Q hs q => bwp_of (pt_cmpR ho (pe_wp a) (pe_wp b) hm) (e2 ha hb hs fun x y F1 H1 x1 t u => hr F1 H1 x y _ x1.fz t u fun v F2 H2 x2 w => ⟨c, w, q F2 H2 (x1.trans x2)⟩)
/-- an expression that gives a bool, as a test -/
theorem eb_val {e : Expr} {c : Bool} (h : E tb X G e (boolT c)) (he : ∀ whole, isTrue e X.env whole = (do let v ← whole; standAt e.pos; holding [v] (truthy v)) := by intro _; rfl) : EB tb X G e c :=
  fun B σ F H Q hs q => bwp_of (pt_val (pe_wp e) he) (h B σ F H _ hs fun v F' H' x t => ⟨c, t, q F' H' x⟩)
theorem eb_not {e : Expr} {c : Bool} (h : EB tb X G e c) : EB tb X G (.UnaryOp .Not e pos) (!c) :=
  fun B σ F H Q hs q => bwp_of (pt_not (pt_wp e)) (h B σ F H _ hs fun F' H' x => q F' H' x)
theorem ew_and1 {a : Expr} {c : Bool} (h : EB tb X G a c) : EW tb X G (.BoolOp .And [a] pos) c := fun B σ F H Q hs q => wwp_of (pw_and1 (pt_wp a)) (h B σ F H Q hs q)
theorem ew_or1 {a : Expr} {c : Bool} (h : EB tb X G a c) : EW tb X G (.BoolOp .Or [a] pos) c := fun B σ F H Q hs q => wwp_of (pw_or1 (pt_wp a)) (h B σ F H Q hs q)
theorem ew_and {a b : Expr} {es : List Expr} {c d : Bool} (h : EB tb X G a c) (h2 : c = true → EW tb X G (.BoolOp .And (b :: es) pos) d) : EW tb X G (.BoolOp .And (a :: b :: es) pos) (c && d) :=
  fun B σ F H Q hs q => wwp_of (pw_and (pt_wp a) (pw_wp _)) (h B σ F H _ hs fun F1 H1 x1 => by
    cases c with
    | true => exact iteT (h2 rfl B σ F1 H1 Q (hs.up x1) fun F2 H2 x2 => q F2 H2 (x1.trans x2))
    | false => exact iteF (q F1 H1 x1))
theorem ew_or {a b : Expr} {es : List Expr} {c d : Bool} (h : EB tb X G a c) (h2 : c = false → EW tb X G (.BoolOp .Or (b :: es) pos) d) : EW tb X G (.BoolOp .Or (a :: b :: es) pos) (c || d) :=
  fun B σ F H Q hs q => wwp_of (pw_or (pt_wp a) (pw_wp _)) (h B σ F H _ hs fun F1 H1 x1 => by
    cases c with
    | false => exact iteF (h2 rfl B σ F1 H1 Q (hs.up x1) fun F2 H2 x2 => q F2 H2 (x1.trans x2))
    | true => exact iteT (q F1 H1 x1))
/-- a and b as a value -/
theorem e_one {op : BoolOp} {a : Expr} {c : Bool} (h : E tb X G a (boolT c)) : E tb X G (.BoolOp op [a] pos) (boolT c) := fun B σ F H Q hs q => ewp_of (pe_one (pe_wp a)) (h B σ F H Q hs q)
theorem e_and {a b : Expr} {es : List Expr} {c d : Bool} (h : E tb X G a (boolT c)) (h2 : c = true → E tb X G (.BoolOp .And (b :: es) pos) (boolT d)) : E tb X G (.BoolOp .And (a :: b :: es) pos) (boolT (c && d)) :=
  fun B σ F H Q hs q => ewp_of (pe_and (pe_wp a) (pe_wp _)) (h B σ F H _ hs fun v F1 H1 x1 t => by
    refine ⟨c, t, ?_⟩
    cases c with
    | true => exact iteT (h2 rfl B σ F1 H1 Q (hs.up x1) fun v F2 H2 x2 t => q v F2 H2 (x1.trans x2) t)
    | false => exact iteF (q _ F1 H1 x1 rfl))
theorem e_notB {a : Expr} {c : Bool} (h : E tb X G a (boolT c)) : E tb X G (.UnaryOp .Not a pos) (boolT (!c)) := fun B σ F H Q hs q => ewp_of (pe_not (pe_wp a)) (h B σ F H _ hs fun v F1 H1 x1 t => ⟨c, t, q _ F1 H1 x1 rfl⟩)
/-- a if c else b -/
theorem e_ifExp {c a b : Expr} {t : Bool} {T : Ty} (hc : EB tb X G c t) (ha : t = true → E tb X G a T) (hb : t = false → E tb X G b T) : E tb X G (.IfExp c a b pos) T :=
  fun B σ F H Q hs q => ewp_of (pe_ifExp (pt_wp c) (pe_wp a) (pe_wp b)) (hc B σ F H _ hs fun F1 H1 x1 => by
    cases t with
    | true => exact iteT (ha rfl B σ F1 H1 Q (hs.up x1) fun v F2 H2 x2 w => q v F2 H2 (x1.trans x2) w)
    | false => exact iteF (hb rfl B σ F1 H1 Q (hs.up x1) fun v F2 H2 x2 w => q v F2 H2 (x1.trans x2) w))
theorem e_ifI {c a b : Expr} {t : Bool} {i j : Int} (hc : EB tb X G c t) (ha : t = true → E tb X G a (intT i)) (hb : t = false → E tb X G b (intT j)) : E tb X G (.IfExp c a b pos) (intT (if t = true then i else j)) :=
  e_ifExp hc (fun h => by rw [if_pos h]; exact ha h) fun h => by rw [if_neg (by rw [h]; decide)]; exact hb h

/-! ### names and constants -/
theorem e_var (h : CxD X N sc k) (i : Nat) {x : Str} {T : Ty} (hN : N[i]? = some x := by rfl) (hv : visB sc x = true := by rfl) (hG : G[i]? = some (.v T) := by rfl) (hd : (x == ("__debug__" : Str)) = false := by decide)
    (hcd : (x == ("__classdict__" : Str)) = false := by decide) : E tb X G (.Name x pos) T :=
  fun B σ F H Q hs q => by
    have hv2 : Vis X.env.scope x := by rw [h.hsc]; exact visB.of hv
    refine ewp_of (pe_var (i := i) (by rw [h.hN]; exact hN) hv2 hd hcd) ?_
    obtain ⟨v, e, t⟩ := hs.val i T hG
    exact ⟨v, e, q v F H (Ext.refl hs.fz) t⟩
theorem e_int {i : Int} {j : Nat} : E tb X G (.Constant (.int i) j pos) (intT i) := fun B σ F H Q hs q => ewp_of pe_int (q _ F H (Ext.refl hs.fz) rfl)
theorem e_bl {b : Bool} {j : Nat} : E tb X G (.Constant (.bool b) j pos) (boolT b) := fun B σ F H Q hs q => ewp_of pe_bl (q _ F H (Ext.refl hs.fz) rfl)
theorem e_non {j : Nat} : E tb X G (.Constant .none j pos) noneT := fun B σ F H Q hs q => ewp_of pe_non (q _ F H (Ext.refl hs.fz) rfl)
/-- a module's name with a value of that type -/
def GT (K : PySem.W.Frag) (mg : Str → Option Value) (x : Str) (T : Ty) : Prop := ∃ v u, mg x = some u ∧ RelV v u ∧ ∀ F, T.p K F v
theorem e_glob (h : CxD X N sc k) {x : Str} {T : Ty} (g : GT X.K X.mg x T) (hg : sc.names.lookup x = some .globalImplicit := by rfl) (hd : (x == ("__debug__" : Str)) = false := by decide) : E tb X G (.Name x pos) T :=
  fun B σ F H Q hs q => by
    obtain ⟨v, u, hm, r, t⟩ := g
    exact ewp_of (pe_glob (h.gl hg) hm r hd) (q v F H (Ext.refl hs.fz) (t F))

/-! ### arithmetic of ints -/
theorem rr_I0 {K : PySem.W.Frag} {g : Int → Int → V} {i j : Int} {W : Ty} (hW : ∀ F, W.p K F (g i j)) : RR2 K (rI0 g) (intT i) (intT j) W := fun F H x y Q fz hx hy q => ⟨i, j, hx, hy, q _ F H (Ext.refl fz) (hW F)⟩
theorem rr_I {K : PySem.W.Frag} {C : Int → Int → Prop} {g : Int → Int → V} {i j : Int} {W : Ty} (hc : C i j) (hW : ∀ F, W.p K F (g i j)) : RR2 K (rI C g) (intT i) (intT j) W := fun F H x y Q fz hx hy q => ⟨i, j, hx, hy, hc, q _ F H (Ext.refl fz) (hW F)⟩
theorem e_add {a b : Expr} {i j : Int} (ha : E tb X G a (intT i)) (hb : E tb X G b (intT j)) : E tb X G (.BinOp a .Add b pos) (intT (i + j)) := e_op op_add (rr_I0 fun _ => rfl) ha hb
theorem e_subI {a b : Expr} {i j : Int} (ha : E tb X G a (intT i)) (hb : E tb X G b (intT j)) : E tb X G (.BinOp a .Sub b pos) (intT (i - j)) := e_op op_sub (rr_I0 fun _ => rfl) ha hb
theorem e_mul {a b : Expr} {i j : Int} (ha : E tb X G a (intT i)) (hb : E tb X G b (intT j)) (hc : CMulW i j) : E tb X G (.BinOp a .Mult b pos) (intT (i * j)) := e_op op_mulW (rr_I hc fun _ => rfl) ha hb
theorem e_mod {a b : Expr} {i j : Int} (ha : E tb X G a (intT i)) (hb : E tb X G b (intT j)) (hc : 0 < j) : E tb X G (.BinOp a .Mod b pos) (intT (i % j)) := e_op op_mod (rr_I (C := fun _ j => 0 < j) hc fun _ => rfl) ha hb
/-- // by any divisor below 2 ^ 9000 -/
def CDivA (_ j : Int) : Prop := j ≠ 0 ∧ j.natAbs.log2 < 9000
theorem op_fdivA : OpR X (binaryOp .FloorDiv) (rI CDivA fun i j => .int (i.fdiv j)) := opI fun i j _ _ _ _ _ hc q => floordiv_int hc.1 q (.inl (PyProof.noPylong_of_log2 hc.2))
theorem e_fdiv {a b : Expr} {i j : Int} (ha : E tb X G a (intT i)) (hb : E tb X G b (intT j)) (hc : CDivA i j) : E tb X G (.BinOp a .FloorDiv b pos) (intT (i.fdiv j)) := e_op op_fdivA (rr_I hc fun _ => rfl) ha hb
theorem e_neg {a : Expr} {i : Int} (ha : E tb X G a (intT i)) : E tb X G (.UnaryOp .USub a pos) (intT (-i)) :=
  fun B σ F H Q hs q => ewp_of (pe_un un_neg (pe_wp a)) (ha B σ F H _ hs fun v F1 H1 x t => ⟨i, t, q _ F1 H1 x rfl⟩)
/-! ### comparisons of ints -/
theorem eb_lt {a b : Expr} {i j : Int} (ha : E tb X G a (intT i)) (hb : E tb X G b (intT j)) : EB tb X G (.Compare a [.Lt] [b] pos) (decide (i < j)) := eb_cmp op_lt (rr_I0 fun _ => rfl) ha hb (nomark _)
theorem eb_le {a b : Expr} {i j : Int} (ha : E tb X G a (intT i)) (hb : E tb X G b (intT j)) : EB tb X G (.Compare a [.LtE] [b] pos) (decide (i ≤ j)) := eb_cmp op_le (rr_I0 fun _ => rfl) ha hb (nomark _)
theorem eb_gt {a b : Expr} {i j : Int} (ha : E tb X G a (intT i)) (hb : E tb X G b (intT j)) : EB tb X G (.Compare a [.Gt] [b] pos) (decide (j < i)) := eb_cmp op_gt (rr_I0 fun _ => rfl) ha hb (nomark _)
theorem eb_ge {a b : Expr} {i j : Int} (ha : E tb X G a (intT i)) (hb : E tb X G b (intT j)) : EB tb X G (.Compare a [.GtE] [b] pos) (decide (j ≤ i)) := eb_cmp op_ge (rr_I0 fun _ => rfl) ha hb (nomark _)
theorem e_ltV {a b : Expr} {i j : Int} (ha : E tb X G a (intT i)) (hb : E tb X G b (intT j)) : E tb X G (.Compare a [.Lt] [b] pos) (boolT (decide (i < j))) := e_cmp op_lt (rr_I0 fun _ => rfl) ha hb (nomark _)
theorem rr_eqI {K : PySem.W.Frag} {i j : Int} : RR2 K rEq (intT i) (intT j) (boolT (decide (i = j))) := fun F H x y Q fz hx hy q => by
  cases (show x = V.int i from hx)
  cases (show y = V.int j from hy)
  refine ⟨rfl, q _ F H (Ext.refl fz) ?_⟩
  show V.bl _ = V.bl _
  rw [dec_int, Bool.beq_eq_decide_eq]
theorem rr_neI {K : PySem.W.Frag} {i j : Int} : RR2 K rNe (intT i) (intT j) (boolT (decide (i ≠ j))) := fun F H x y Q fz hx hy q => by
  cases (show x = V.int i from hx)
  cases (show y = V.int j from hy)
  refine ⟨rfl, q _ F H (Ext.refl fz) ?_⟩
  show V.bl _ = V.bl _
  rw [dec_int, Bool.beq_eq_decide_eq, decide_not]
theorem eb_eqI {a b : Expr} {i j : Int} (ha : E tb X G a (intT i)) (hb : E tb X G b (intT j)) : EB tb X G (.Compare a [.Eq] [b] pos) (decide (i = j)) := eb_cmp op_eq rr_eqI ha hb (nomark _)
theorem e_eqI {a b : Expr} {i j : Int} (ha : E tb X G a (intT i)) (hb : E tb X G b (intT j)) : E tb X G (.Compare a [.Eq] [b] pos) (boolT (decide (i = j))) := e_cmp op_eq rr_eqI ha hb (nomark _)
theorem eb_neI {a b : Expr} {i j : Int} (ha : E tb X G a (intT i)) (hb : E tb X G b (intT j)) : EB tb X G (.Compare a [.NotEq] [b] pos) (decide (i ≠ j)) := eb_cmp op_ne rr_neI ha hb (nomark _)
/-- bools -/
theorem rr_neB {K : PySem.W.Frag} {i j : Bool} : RR2 K rNe (boolT i) (boolT j) (boolT (decide (i ≠ j))) := fun F H x y Q fz hx hy q => by
  cases (show x = V.bl i from hx)
  cases (show y = V.bl j from hy)
  refine ⟨rfl, q _ F H (Ext.refl fz) ?_⟩
  show V.bl _ = V.bl _
  rw [dec_bl, Bool.beq_eq_decide_eq, decide_not]
theorem eb_neB {a b : Expr} {i j : Bool} (ha : E tb X G a (boolT i)) (hb : E tb X G b (boolT j)) : EB tb X G (.Compare a [.NotEq] [b] pos) (decide (i ≠ j)) := eb_cmp op_ne rr_neB ha hb (nomark _)
/-- low <= x <= high of ints -/
theorem e_chain {op op' : CmpOp} {a b c : Expr} {i j l : Int} {p p' : Int → Int → Bool} (ho : OpR X (compareOp op) (rI0 fun i j => .bl (p i j))) (ho' : OpR X (compareOp op') (rI0 fun i j => .bl (p' i j)))
    (ha : E tb X G a (intT i)) (hb : E tb X G b (intT j)) (hc : E tb X G c (intT l)) (hm : lastMarks [op, op'] [b, c] = false) : E tb X G (.Compare a [op, op'] [b, c] pos) (boolT (p i j && p' j l)) :=
  fun B σ F H Q hs q => ewp_of (pe_chain ho ho' (pe_wp a) (pe_wp b) (pe_wp c) hm) (e2 ha hb hs fun x y F1 H1 x1 t u => ⟨i, j, t, u, p i j, rfl, by
    cases e : p i j with
    | true => exact iteT (hc B σ F1 H1 _ (hs.up x1) fun z F2 H2 x2 w => ⟨j, l, u, w, q _ F2 H2 (x1.trans x2) (by rw [e]; rfl)⟩)
    | false => exact iteF (q _ F1 H1 x1 (by rw [e]; rfl))⟩)

/-- not a starred expression -/
def NoStar (e : Expr) : Prop := ∀ (es : List Expr) (env : Env), starEach (e :: es) env = (false, eval e env) :: starEach es env
/-! ### argument lists, displays -/
theorem ea_nil : EA tb X G [] [] := fun B σ F H Q hs q => awp_of pa_nil (q [] F H (Ext.refl hs.fz) .nil)
theorem ea_cons {e : Expr} {es : List Expr} {T : Ty} {Ts : List Ty} (h : E tb X G e T) (hr : EA tb X G es Ts) (hs : NoStar e := by intro _ _; rfl) : EA tb X G (e :: es) (T :: Ts) :=
  fun B σ F H Q hh q => awp_of (pa_cons (pe_wp e) (pa_wp es) (hs es X.env)) (h B σ F H _ hh fun v F1 H1 x1 t => hr B σ F1 H1 _ (hh.up x1) fun vs F2 H2 x2 ts => q (v :: vs) F2 H2 (x1.trans x2) (.cons (T.mono x2.ff t) ts))
theorem al_seq {K : PySem.W.Frag} {F H : Hp} (fz : Fz F H) {a : Addr} {xs : List V} (h : SqL K F a xs) : SqL K H a xs := by
  rcases h with (h | ⟨o, h⟩) | h
  · exact .inl (.inl (fz _ _ h).1)
  · exact .inl (.inr ⟨o, (fz _ _ h).1⟩)
  · exact .inr h
theorem al_sqt {K : PySem.W.Frag} {F H : Hp} (fz : Fz F H) {a : Addr} {xs : List V} (h : SqT K F a xs) : SqT K H a xs := by
  rcases h with (h | ⟨o, h⟩) | h
  · exact .inl (.inl (fz _ _ h).1)
  · exact .inl (.inr ⟨o, (fz _ _ h).1⟩)
  · exact .inr h
/-- a list or a tuple -/
inductive IsSeq : Ty → List Ty → Prop
  | lst (Ts) : IsSeq (lstT Ts) Ts
  | tup (Ts) : IsSeq (tupT Ts) Ts
theorem IsSeq.get {T : Ty} {Ts : List Ty} (h : IsSeq T Ts) {K : PySem.W.Frag} {F : Hp} {v : V} (t : T.p K F v) : ∃ a vs, v = .ref a ∧ (SqL K F a vs ∨ SqT K F a vs) ∧ Al K F Ts vs := by
  cases h with
  | lst Ts => obtain ⟨a, vs, e, s, al⟩ := t; exact ⟨a, vs, e, .inl s, al⟩
  | tup Ts => obtain ⟨a, vs, e, s, al⟩ := t; exact ⟨a, vs, e, .inr s, al⟩
theorem ea_star {e : Expr} {p : Pos} {es : List Expr} {T : Ty} {Us Ts : List Ty} (h : E tb X G e T) (hq : IsSeq T Us) (hr : EA tb X G es Ts) (hs : starEach (.Starred e p :: es) X.env = (true, eval e X.env) :: starEach es X.env := by rfl) :
    EA tb X G (.Starred e p :: es) (Us ++ Ts) :=
  fun B σ F H Q hh q => awp_of (StX.pa_star (pe_wp e) (pa_wp es) hs) (h B σ F H _ hh fun v F1 H1 x1 t => by
    obtain ⟨a, vs, e, s, al⟩ := hq.get t
    refine ⟨a, vs, e, ?_, hr B σ F1 H1 _ (hh.up x1) fun ws F2 H2 x2 ts => q (vs ++ ws) F2 H2 (x1.trans x2) ((al.up x2.ff).append ts)⟩
    rcases s with s | s
    · exact .inr (al_seq x1.fz s)
    · exact .inl (al_sqt x1.fz s))
theorem e_tup {es : List Expr} {Ts : List Ty} {kk : Nat} (h : EA tb X G es Ts) (hz : Ts.length ≤ sizeLine := by (simp only [List.length_cons, List.length_nil]; decide)) : E tb X G (.Tuple es kk pos) (tupT Ts) :=
  fun B σ F H Q hh q => ewp_of (pe_tup (pa_wp es)) (h B σ F H _ hh fun vs F1 H1 x1 al => ⟨by rw [← al.length]; exact hz, fun p hp => q _ _ _ (x1.trans (Ext.new x1.fz hp fun _ z => nomatch z))
    ⟨p, vs, rfl, SqT.of upd_same, al.up (Ext.new x1.fz hp (o := .tup vs) fun _ z => nomatch z).ff⟩⟩)
theorem al_ints_eq {K : PySem.W.Frag} {H : Hp} : ∀ {ks : List Int} {vs : List V}, Al K H (ks.map intT) vs → vs = ks.map V.int
  | [], _, .nil => rfl
  | _ :: _, _, .cons h t => by rw [List.map_cons, ← al_ints_eq t]; exact congrArg (· :: _) h
theorem e_key {es : List Expr} {ks : List Int} {kk : Nat} (h : EA tb X G es (ks.map intT)) (hz : ks.length ≤ sizeLine := by (simp only [List.length_cons, List.length_nil]; decide)) : E tb X G (.Tuple es kk pos) (keyT ks) :=
  fun B σ F H Q hh q => ewp_of (pe_tup (pa_wp es)) (h B σ F H _ hh fun vs F1 H1 x1 al => by
    have e := al_ints_eq al
    subst e
    exact ⟨by rw [List.length_map]; exact hz, fun p hp => q _ _ _ (x1.trans (Ext.new x1.fz hp fun _ z => nomatch z)) ⟨p, rfl, upd_same⟩⟩)
theorem e_lst {es : List Expr} {Ts : List Ty} (h : EA tb X G es Ts) (hz : Ts.length ≤ sizeLine := by (simp only [List.length_cons, List.length_nil]; decide)) : E tb X G (.List es pos) (lstT Ts) :=
  fun B σ F H Q hh q => ewp_of (pe_lst (pa_wp es)) (h B σ F H _ hh fun vs F1 H1 x1 al => ⟨by rw [← al.length]; exact hz, fun p hp => q _ _ _ (x1.trans (Ext.new x1.fz hp fun _ z => nomatch z))
    ⟨p, vs, rfl, SqL.of upd_same, al.up (Ext.new x1.fz hp (o := .lst vs) fun _ z => nomatch z).ff⟩⟩)

/-! ### subscripts, slices -/
theorem al_atI {K : PySem.W.Frag} {F : Hp} {Ts : List Ty} {vs : List V} (al : Al K F Ts vs) {i : Int} {T : Ty} (h : atI Ts i = some T) : ∃ v, atI vs i = some v ∧ T.p K F v := by
  unfold atI at h ⊢
  rw [← al.length]
  cases e : ixN Ts.length i with
  | none => rw [e] at h; cases h
  | some j =>
    rw [e] at h
    exact al.get h
theorem e_ix {a b : Expr} {T U : Ty} {Ts : List Ty} {i : Int} (ha : E tb X G a T) (hq : IsSeq T Ts) (hb : E tb X G b (intT i)) (hu : atI Ts i = some U) (hs : PlainIx b := by intro _ _; rfl) : E tb X G (.Subscript a b pos) U :=
  fun B σ F H Q hh q => ewp_of (pe_ix ix_seq (pe_wp a) (pe_wp b) hs) (e2 ha hb hh fun x y F1 H1 x1 t u => by
    obtain ⟨p, vs, e, s, al⟩ := hq.get t
    obtain ⟨v, ev, tv⟩ := al_atI al hu
    rcases s with s | s
    · exact .inl ⟨p, vs, i, v, e, u, al_seq x1.fz s, ev, q v F1 H1 x1 tv⟩
    · exact .inr (.inl ⟨p, vs, i, v, e, u, al_sqt x1.fz s, ev, q v F1 H1 x1 tv⟩))
/-- a list's or a tuple's item at a place -/
theorem e_ixL {a b : Expr} {U : Ty} {Ts : List Ty} {i : Int} (ha : E tb X G a (lstT Ts)) (hb : E tb X G b (intT i)) (hu : atI Ts i = some U) (hs : PlainIx b := by intro _ _; rfl) : E tb X G (.Subscript a b pos) U := e_ix ha (.lst Ts) hb hu hs
theorem e_ixT {a b : Expr} {U : Ty} {Ts : List Ty} {i : Int} (ha : E tb X G a (tupT Ts)) (hb : E tb X G b (intT i)) (hu : atI Ts i = some U) (hs : PlainIx b := by intro _ _; rfl) : E tb X G (.Subscript a b pos) U := e_ix ha (.tup Ts) hb hu hs
theorem atI_ofNat {α : Type} {xs : List α} {j : Nat} {v : α} (h : xs[j]? = some v) : atI xs (j : Int) = some v := atI_nat h
/-- an item of an own list -/
theorem e_ixOwn (h : CxD X N sc k) (i : Nat) {x : Str} {p0 : Pos} {b : Expr} {U : Ty} {Ts : List Ty} {j : Int} (hb : E tb X G b (intT j)) (hu : atI Ts j = some U) (hG : G[i]? = some (.own Ts) := by rfl) (hN : N[i]? = some x := by rfl) (hv : visB sc x = true := by rfl)
    (hs : PlainIx b := by intro _ _; rfl) (hd : (x == ("__debug__" : Str)) = false := by decide) (hcd : (x == ("__classdict__" : Str)) = false := by decide) : E tb X G (.Subscript (.Name x p0) b pos) U :=
  fun B σ F H Q hh q => by
    have hv2 : Vis X.env.scope x := by rw [h.hsc]; exact visB.of hv
    refine ewp_of (pe_ix ix_list (pe_var (i := i) (by rw [h.hN]; exact hN) hv2 hd hcd) (pe_wp b) hs) ?_
    obtain ⟨a, vs, e1, _⟩ := hh.own i Ts hG
    refine ⟨.ref a, e1, hb B σ F H _ hh fun y F1 H1 x1 t => ?_⟩
    obtain ⟨a', vs', q1, q2, q3, q4, q5⟩ := (hh.up x1).own i Ts hG
    rw [e1] at q1
    cases q1
    obtain ⟨v, ev, tv⟩ := al_atI q5 hu
    exact ⟨a, vs', j, v, rfl, t, SqL.of q4, ev, q v F1 H1 x1 tv⟩
def cutT (Ts : List Ty) (lo hi : Option Int) : List Ty := (Ts.drop (HT.sIx Ts.length 0 lo)).take (HT.sIx Ts.length Ts.length hi - HT.sIx Ts.length 0 lo)
theorem al_cut {K : PySem.W.Frag} {F : Hp} {Ts : List Ty} {vs : List V} (al : Al K F Ts vs) (lo hi : Option Int) : Al K F (cutT Ts lo hi) (cutV vs lo hi) := by
  unfold cutT cutV
  rw [← al.length]
  exact (al.drop _).take _
/-- a slice's part -/
def EO (tb : List Addr) (X : Cx) (G : List Slt) (e : Option Expr) (o : Option Int) : Prop := (e = none ∧ o = none) ∨ ∃ (a : Expr) (i : Int), e = some a ∧ o = some i ∧ E tb X G a (intT i)
theorem eo_none : EO tb X G none none := .inl ⟨rfl, rfl⟩
theorem eo_some {a : Expr} {i : Int} (h : E tb X G a (intT i)) : EO tb X G (some a) (some i) := .inr ⟨a, i, rfl, rfl, h⟩
theorem eo_use {e : Option Expr} {o : Option Int} (h : EO tb X G e o) : ∃ t, PO X e t ∧ ∀ (B : Bs) (σ : L2.St) (F H : Hp) (Q : Option Int → Hp → Prop), Has tb X.K G B F H σ → (∀ F' H', Ext F H F' H' → Q o H') → t σ H Q := by
  rcases h with ⟨rfl, rfl⟩ | ⟨a, i, rfl, rfl, h⟩
  · exact ⟨_, po_none, fun B σ F H Q hs q => q F H (Ext.refl hs.fz)⟩
  · exact ⟨_, po_some (pe_wp a), fun B σ F H Q hs q => h B σ F H _ hs fun v F1 H1 x t => ⟨i, t, q F1 H1 x⟩⟩
theorem e_slL {a : Expr} {lo hi : Option Expr} {l u : Option Int} {Ts : List Ty} {p2 : Pos} (ha : E tb X G a (lstT Ts)) (hl : EO tb X G lo l) (hu : EO tb X G hi u) : E tb X G (.Subscript a (.Slice lo hi none p2) pos) (lstT (cutT Ts l u)) :=
  fun B σ F H Q hh q => by
    obtain ⟨t1, p1, k1⟩ := eo_use hl
    obtain ⟨t2, p2, k2⟩ := eo_use hu
    refine ewp_of (pe_slice sl_list (pe_wp a) p1 p2) (ha B σ F H _ hh fun v F1 H1 x1 t => k1 B σ F1 H1 _ (hh.up x1) fun F2 H2 x2 => k2 B σ F2 H2 _ ((hh.up x1).up x2) fun F3 H3 x3 => ?_)
    obtain ⟨p, vs, e, s, al⟩ := (lstT Ts).mono (Same.trans x2.ff x3.ff) t
    refine ⟨p, vs, e, al_seq x3.fz s, fun z hz => ?_⟩
    have x4 := Ext.new x3.fz hz (o := .lst (cutV vs l u)) fun _ z => nomatch z
    exact q _ _ _ (((x1.trans x2).trans x3).trans x4) ⟨z, _, rfl, SqL.of upd_same, (al_cut al l u).up x4.ff⟩
theorem e_slT {a : Expr} {lo hi : Option Expr} {l u : Option Int} {Ts : List Ty} {p2 : Pos} (ha : E tb X G a (tupT Ts)) (hl : EO tb X G lo l) (hu : EO tb X G hi u) (hz : ¬ (HT.sIx Ts.length 0 l = 0 ∧ HT.sIx Ts.length Ts.length u = Ts.length)) :
    E tb X G (.Subscript a (.Slice lo hi none p2) pos) (tupT (cutT Ts l u)) :=
  fun B σ F H Q hh q => by
    obtain ⟨t1, p1, k1⟩ := eo_use hl
    obtain ⟨t2, p2, k2⟩ := eo_use hu
    refine ewp_of (pe_slice sl_tup (pe_wp a) p1 p2) (ha B σ F H _ hh fun v F1 H1 x1 t => k1 B σ F1 H1 _ (hh.up x1) fun F2 H2 x2 => k2 B σ F2 H2 _ ((hh.up x1).up x2) fun F3 H3 x3 => ?_)
    obtain ⟨p, vs, e, s, al⟩ := (tupT Ts).mono (Same.trans x2.ff x3.ff) t
    refine ⟨p, vs, e, al_sqt x3.fz s, ?_, fun z hz => ?_⟩
    · rw [← al.length]; exact hz
    have x4 := Ext.new x3.fz hz (o := .tup (cutV vs l u)) fun _ z => nomatch z
    exact q _ _ _ (((x1.trans x2).trans x3).trans x4) ⟨z, _, rfl, SqT.of upd_same, (al_cut al l u).up x4.ff⟩

/-! ### calls -/
theorem e_callB (h : CxD X N sc k) {x : Str} {id : String} {p : Pos} {e : Expr} {es : List Expr} {Ts : List Ty} {W : Ty} {r : List V → Hp → VK → Prop} (hc : CallR X (.builtin id) r) (hr : RR1 X.K r Ts W) (ha : EA tb X G (e :: es) Ts) (hm : X.mg x = none)
    (hv : bootBuiltins x = some (.builtin id)) (hg : sc.names.lookup x = some .globalImplicit := by rfl) (hn : x ≠ "__name__" := by decide) (hdb : (x == ("__debug__" : Str)) = false := by decide)
    (he : NoStar e := by intro _ _; rfl) (hpl : (backTo pos (starEach es X.env)).any (·.1) = false := by rfl) : E tb X G (.Call (.Name x p) (e :: es) [] pos) W :=
  fun B σ F H Q hs q => ewp_of (pe_callB hc (h.gl hg) hm hv (pa_wp _) hn hdb (he es X.env) hpl) (ha B σ F H _ hs fun vs F1 H1 x1 al => hr F1 H1 vs Q x1.fz al fun v F2 H2 x2 t => q v F2 H2 (x1.trans x2) t)
theorem e_callTy (h : CxD X N sc k) {x : Str} {T : String} {p : Pos} {e : Expr} {es : List Expr} {Ts : List Ty} {W : Ty} {r : List V → Hp → VK → Prop} (hc : CallR X (.type T) r) (hr : RR1 X.K r Ts W) (ha : EA tb X G (e :: es) Ts) (hm : X.mg x = none)
    (hv : bootBuiltins x = some (.type T)) (hg : sc.names.lookup x = some .globalImplicit := by rfl) (hn : x ≠ "__name__" := by decide) (hdb : (x == ("__debug__" : Str)) = false := by decide)
    (he : NoStar e := by intro _ _; rfl) (hpl : (backTo pos (starEach es X.env)).any (·.1) = false := by rfl) : E tb X G (.Call (.Name x p) (e :: es) [] pos) W :=
  fun B σ F H Q hs q => ewp_of (pe_callTy hc (h.gl hg) hm hv (pa_wp _) hn hdb (he es X.env) hpl) (ha B σ F H _ hs fun vs F1 H1 x1 al => hr F1 H1 vs Q x1.fz al fun v F2 H2 x2 t => q v F2 H2 (x1.trans x2) t)
theorem al1 {K : PySem.W.Frag} {F : Hp} {T : Ty} {vs : List V} (h : Al K F [T] vs) : ∃ v, vs = [v] ∧ T.p K F v := by
  cases h with
  | cons a b => cases b; exact ⟨_, rfl, a⟩
theorem al2 {K : PySem.W.Frag} {F : Hp} {T U : Ty} {vs : List V} (h : Al K F [T, U] vs) : ∃ v w, vs = [v, w] ∧ T.p K F v ∧ U.p K F w := by
  cases h with
  | cons a b =>
    obtain ⟨w, rfl, hw⟩ := al1 b
    exact ⟨_, w, rfl, a, hw⟩
theorem e_abs (h : CxD X N sc k) {p : Pos} {e : Expr} {i : Int} (ha : E tb X G e (intT i)) (hm : X.mg "abs" = none) (hg : sc.names.lookup ("abs" : Str) = some .globalImplicit := by rfl) (nst : NoStar e := by intro _ _; rfl) : E tb X G (.Call (.Name "abs" p) [e] [] pos) (intT (i.natAbs : Int)) :=
  e_callB h call_abs (Ts := [intT i]) (fun F H vs Q fz al q => by
    obtain ⟨v, rfl, t⟩ := al1 al
    cases (show v = V.int i from t)
    refine ⟨i, rfl, q _ F H (Ext.refl fz) ?_⟩
    show V.int _ = V.int _
    congr 1
    split <;> omega) (ea_cons ha ea_nil nst) hm (by decide +kernel) hg (he := nst)
theorem e_len (h : CxD X N sc k) {p : Pos} {e : Expr} {T : Ty} {Ts : List Ty} (ha : E tb X G e T) (hq : IsSeq T Ts) (hm : X.mg "len" = none) (hg : sc.names.lookup ("len" : Str) = some .globalImplicit := by rfl) (nst : NoStar e := by intro _ _; rfl) : E tb X G (.Call (.Name "len" p) [e] [] pos) (intT (Ts.length : Int)) :=
  e_callB h call_len_seq (Ts := [T]) (fun F H vs Q fz al q => by
    obtain ⟨v, rfl, t⟩ := al1 al
    obtain ⟨a, ws, rfl, s, al⟩ := hq.get t
    refine ⟨a, ws, rfl, ?_, q _ F H (Ext.refl fz) (by show V.int _ = V.int _; rw [al.length])⟩
    rcases s with s | s
    · exact .inl (al_seq fz s)
    · exact .inr (al_sqt fz s)) (ea_cons ha ea_nil nst) hm PySem.boot_len hg (he := nst)
theorem e_intI (h : CxD X N sc k) {p : Pos} {e : Expr} {i : Int} (ha : E tb X G e (intT i)) (hm : X.mg "int" = none) (hg : sc.names.lookup ("int" : Str) = some .globalImplicit := by rfl) (nst : NoStar e := by intro _ _; rfl) : E tb X G (.Call (.Name "int" p) [e] [] pos) (intT i) :=
  e_callTy h call_int1 (Ts := [intT i]) (fun F H vs Q fz al q => by
    obtain ⟨v, rfl, t⟩ := al1 al
    cases (show v = V.int i from t)
    exact .inl ⟨i, rfl, q _ F H (Ext.refl fz) rfl⟩) (ea_cons ha ea_nil nst) hm (by decide +kernel) hg (he := nst)
theorem e_intB (h : CxD X N sc k) {p : Pos} {e : Expr} {b : Bool} (ha : E tb X G e (boolT b)) (hm : X.mg "int" = none) (hg : sc.names.lookup ("int" : Str) = some .globalImplicit := by rfl) (nst : NoStar e := by intro _ _; rfl) : E tb X G (.Call (.Name "int" p) [e] [] pos) (intT (if b then 1 else 0)) :=
  e_callTy h call_int1 (Ts := [boolT b]) (fun F H vs Q fz al q => by
    obtain ⟨v, rfl, t⟩ := al1 al
    cases (show v = V.bl b from t)
    exact .inr ⟨b, rfl, q _ F H (Ext.refl fz) rfl⟩) (ea_cons ha ea_nil nst) hm (by decide +kernel) hg (he := nst)
theorem e_listOf (h : CxD X N sc k) {p : Pos} {e : Expr} {T : Ty} {Ts : List Ty} (ha : E tb X G e T) (hq : IsSeq T Ts) (hm : X.mg "list" = none) (hg : sc.names.lookup ("list" : Str) = some .globalImplicit := by rfl) (nst : NoStar e := by intro _ _; rfl) : E tb X G (.Call (.Name "list" p) [e] [] pos) (lstT Ts) :=
  e_callTy h call_list_of (Ts := [T]) (fun F H vs Q fz al q => by
    obtain ⟨v, rfl, t⟩ := al1 al
    obtain ⟨a, ws, rfl, s, al⟩ := hq.get t
    refine ⟨a, ws, rfl, ?_, fun l hl => ?_⟩
    · rcases s with s | s
      · exact .inl (al_seq fz s)
      · exact .inr (al_sqt fz s)
    · have x4 := Ext.new fz hl (o := .lst ws) fun _ z => nomatch z
      exact q _ _ _ x4 ⟨l, ws, rfl, SqL.of upd_same, al.up x4.ff⟩) (ea_cons ha ea_nil nst) hm (by decide +kernel) hg (he := nst)
theorem e_tupleOf (h : CxD X N sc k) {p : Pos} {e : Expr} {Ts : List Ty} (ha : E tb X G e (lstT Ts)) (hm : X.mg "tuple" = none) (hg : sc.names.lookup ("tuple" : Str) = some .globalImplicit := by rfl) (nst : NoStar e := by intro _ _; rfl) : E tb X G (.Call (.Name "tuple" p) [e] [] pos) (tupT Ts) :=
  e_callTy h call_tuple_of (Ts := [lstT Ts]) (fun F H vs Q fz al q => by
    obtain ⟨v, rfl, t⟩ := al1 al
    obtain ⟨a, ws, rfl, s, al⟩ := t
    refine ⟨a, ws, rfl, .inl ⟨al_seq fz s, fun l hl => ?_⟩⟩
    have x4 := Ext.new fz hl (o := .tup ws) fun _ z => nomatch z
    exact q _ _ _ x4 ⟨l, ws, rfl, SqT.of upd_same, al.up x4.ff⟩) (ea_cons ha ea_nil nst) hm (by decide +kernel) hg (he := nst)
theorem al_ints2 {K : PySem.W.Frag} {F : Hp} {ns : List Int} {a : Addr} (t : (lstT (ns.map intT)).p K F (.ref a)) : SqL K F a (ns.map V.int) := by
  obtain ⟨a', ws, e, s, al⟩ := t
  cases e
  rw [al_ints_eq al] at s
  exact s
theorem e_sum (h : CxD X N sc k) {p : Pos} {e : Expr} {ns : List Int} (ha : E tb X G e (lstT (ns.map intT))) (hm : X.mg "sum" = none) (hg : sc.names.lookup ("sum" : Str) = some .globalImplicit := by rfl) (nst : NoStar e := by intro _ _; rfl) : E tb X G (.Call (.Name "sum" p) [e] [] pos) (intT ns.sum) :=
  e_callB h (cr_sum h.calm) (Ts := [lstT (ns.map intT)]) (fun F H vs Q fz al q => by
    obtain ⟨v, rfl, t⟩ := al1 al
    obtain ⟨a, ws, rfl, s, al⟩ := t
    rw [al_ints_eq al] at s
    exact ⟨a, ns, rfl, al_seq fz s, q _ F H (Ext.refl fz) rfl⟩) (ea_cons ha ea_nil nst) hm (by decide +kernel) hg (he := nst)
theorem al_bls_eq {K : PySem.W.Frag} {H : Hp} : ∀ {bs : List Bool} {vs : List V}, Al K H (bs.map boolT) vs → vs = bs.map V.bl
  | [], _, .nil => rfl
  | _ :: _, _, .cons h t => by rw [List.map_cons, ← al_bls_eq t]; exact congrArg (· :: _) h
theorem e_all (h : CxD X N sc k) {p : Pos} {e : Expr} {bs : List Bool} (ha : E tb X G e (lstT (bs.map boolT))) (hm : X.mg "all" = none) (hg : sc.names.lookup ("all" : Str) = some .globalImplicit := by rfl) (nst : NoStar e := by intro _ _; rfl) : E tb X G (.Call (.Name "all" p) [e] [] pos) (boolT (bs.all id)) :=
  e_callB h (cr_all h.calm) (Ts := [lstT (bs.map boolT)]) (fun F H vs Q fz al q => by
    obtain ⟨v, rfl, t⟩ := al1 al
    obtain ⟨a, ws, rfl, s, al⟩ := t
    rw [al_bls_eq al] at s
    exact ⟨a, bs, rfl, al_seq fz s, q _ F H (Ext.refl fz) rfl⟩) (ea_cons ha ea_nil nst) hm (by decide +kernel) hg (he := nst)
theorem e_any (h : CxD X N sc k) {p : Pos} {e : Expr} {bs : List Bool} (ha : E tb X G e (lstT (bs.map boolT))) (hm : X.mg "any" = none) (hg : sc.names.lookup ("any" : Str) = some .globalImplicit := by rfl) (nst : NoStar e := by intro _ _; rfl) : E tb X G (.Call (.Name "any" p) [e] [] pos) (boolT (bs.any id)) :=
  e_callB h (cr_any h.calm) (Ts := [lstT (bs.map boolT)]) (fun F H vs Q fz al q => by
    obtain ⟨v, rfl, t⟩ := al1 al
    obtain ⟨a, ws, rfl, s, al⟩ := t
    rw [al_bls_eq al] at s
    exact ⟨a, bs, rfl, al_seq fz s, q _ F H (Ext.refl fz) rfl⟩) (ea_cons ha ea_nil nst) hm (by decide +kernel) hg (he := nst)
end

/-! ### defs -/
/-- a def that changes nothing: arguments A a where pre a, the answer R a -/
def spF {α : Type} (tb : List Addr) (A : α → List Ty) (pre : α → Prop) (R : α → Ty) (K : PySem.W.Frag) : Sp := fun vs H Q _ => ∃ (a : α) (F : Hp), pre a ∧ Fz F H ∧ (∀ P ∈ tb, GxR.TabG H P) ∧ Al K F (A a) vs ∧ ∀ v F' H', Ext F H F' H' → (R a).p K F' v → Q v H'
end JL

set_option Elab.async false
set_option linter.all false
set_option maxRecDepth 100000
set_option maxHeartbeats 4000000
set_option autoImplicit false
/-! What is walked, targets, comprehensions. -/
namespace JL
open PySem PySem.Spec PyProof.Rows L2

/-! ### targets -/
/-- tg takes a value of type T: the slots is may change, G becomes G' -/
def TG' (tb : List Addr) (X : Cx) (tg : Expr) (T : Ty) (is : List Nat) (G G' : List Slt) : Prop :=
  ∀ (B : Bs) (σ : L2.St) (F H : Hp) (v : V) (Q : L2.St → Hp → Prop), Has tb X.K G B F H σ → T.p X.K F v → (∀ σ', Has tb X.K G' B F H σ' → σ'.length = σ.length → (∀ j, j ∉ is → σ'[j]? = σ[j]?) → Q σ' H) → gwp X tg v σ H Q
def TGs' (tb : List Addr) (X : Cx) (tgs : List Expr) (Ts : List Ty) (is : List Nat) (G G' : List Slt) : Prop :=
  ∃ t : TGs, PGs X tgs t ∧ ∀ (B : Bs) (σ : L2.St) (F H : Hp) (vs : List V) (Q : L2.St → Hp → Prop), Has tb X.K G B F H σ → Al X.K F Ts vs → (∀ σ', Has tb X.K G' B F H σ' → σ'.length = σ.length → (∀ j, j ∉ is → σ'[j]? = σ[j]?) → Q σ' H) → t vs σ H Q
section
variable {tb : List Addr} {X : Cx} {G G1 G2 : List Slt} {N : List Str} {sc : Scope} {k : Nat} {pos : Pos}
theorem tg_nameL (h : CxD X N sc k) (i : Nat) {x : Str} {T : Ty} (hN : N[i]? = some x) (hl : L2.Loc sc x) (hf : X.fn x = true ∨ sc.names.lookup x = some .local) : TG' tb X (.Name x pos) T [i] G (G.set i (.v T)) :=
  fun B σ F H v Q hs t q => by
    have hl2 : L2.Loc X.env.scope x := by rw [h.hsc]; exact hl
    refine gwp_of (pg_name (i := i) (by rw [h.hN]; exact h.nd) (by rw [h.hN]; exact hN) hl2 (by rw [h.hsc]; exact hf)) ?_
    refine q _ (hs.set i t) (by simp) fun j hj => ?_
    have : i ≠ j := fun z => hj (by simp [z])
    exact List.getElem?_set_ne this
theorem tg_name (h : CxD X N sc k) (i : Nat) {x : Str} {T : Ty} (hN : N[i]? = some x := by rfl) (hl : sc.names.lookup x = some .local := by rfl) : TG' tb X (.Name x pos) T [i] G (G.set i (.v T)) := tg_nameL h i hN (.inl hl) (.inr hl)
theorem tg_cell (h : CxD X N sc k) (hf : ∀ x, X.fn x = true) (i : Nat) {x : Str} {T : Ty} (hN : N[i]? = some x := by rfl) (hl : sc.names.lookup x = some .cell := by rfl) : TG' tb X (.Name x pos) T [i] G (G.set i (.v T)) := tg_nameL h i hN (.inr hl) (.inl (hf x))
theorem tgs_nil : TGs' tb X [] [] [] G G := ⟨_, pgs_nil, fun B σ F H vs Q hs al q => by
  cases al
  exact ⟨rfl, q σ hs rfl fun _ _ => rfl⟩⟩
theorem tgs_cons {e : Expr} {es : List Expr} {T : Ty} {Ts : List Ty} {is js : List Nat} (h1 : TG' tb X e T is G G1) (h2 : TGs' tb X es Ts js G1 G2) (hs : (assignEach (e :: es) X.env).map (·.2) = assign e X.env :: (assignEach es X.env).map (·.2) := by rfl) :
    TGs' tb X (e :: es) (T :: Ts) (is ++ js) G G2 := by
  obtain ⟨t, p, q2⟩ := h2
  refine ⟨_, pgs_cons (pg_wp e) p hs, fun B σ F H vs Q hh al q => ?_⟩
  cases al with
  | cons a al =>
    refine ⟨_, _, rfl, h1 B σ F H _ _ hh a fun σ1 hs1 hl1 off1 => q2 B σ1 F H _ Q hs1 al fun σ2 hs2 hl2 off2 => q σ2 hs2 (hl2.trans hl1) fun j hj => ?_⟩
    simp only [List.mem_append, not_or] at hj
    exact (off2 j hj.2).trans (off1 j hj.1)
theorem tg_tup (h : CxD X N sc k) {es : List Expr} {Ts : List Ty} {is : List Nat} {kk : Nat} {G' : List Slt} (h1 : TGs' tb X es Ts is G G') (hn : (assignEach es X.env).length = Ts.length := by rfl) (hst : (assignEach es X.env).findIdx? (·.1) = none := by rfl) :
    TG' tb X (.Tuple es kk pos) (tupT Ts) is G G' := by
  obtain ⟨t, p, q2⟩ := h1
  intro B σ F H v Q hs tv q
  refine gwp_of (pg_tup h.calm p hn hst) ?_
  obtain ⟨a, vs, e, s, al⟩ := tv
  exact ⟨a, vs, e, al_sqt hs.fz s, al.length.symm, q2 B σ F H vs Q hs al q⟩
theorem tg_sub {tg : Expr} {T U : Ty} {is : List Nat} (h : TG' tb X tg T is G G1) (s : Sub U T) : TG' tb X tg U is G G1 := fun B σ F H v Q hs t q => h B σ F H v Q hs (s t) q
end

/-! ### what is walked -/
/-- an iterator that gives values of the types T x, x in xs, while the frozen part grows from F1 on -/
structure Itd (K : PySem.W.Frag) (J : It) {α : Type} (xs : List α) (T : α → Ty) (F1 : Hp) : Prop where
  ex : ∃ (Gd : Hp → Prop) (Y : Nat → Hp → V → Hp → Prop), Walk J xs.length Gd Y ∧ (∀ F2 H2, Same F1 F2 → Fz F2 H2 → Gd H2) ∧
    ∀ i F2 H2 v H2', i < xs.length → Same F1 F2 → Fz F2 H2 → Y i H2 v H2' → ∃ F2' x, Ext F2 H2 F2' H2' ∧ xs[i]? = some x ∧ (T x).p K F2' v
def IT (tb : List Addr) (X : Cx) (G : List Slt) (tg iter : Expr) {α : Type} (xs : List α) (T : α → Ty) : Prop :=
  ∀ (B : Bs) (σ : L2.St) (F H : Hp) (R : It → Hp → Prop), Has tb X.K G B F H σ → (∀ J F1 H1, Ext F H F1 H1 → Itd X.K J xs T F1 → R J H1) → iwp X tg iter σ H R
section
variable {tb : List Addr} {X : Cx} {G : List Slt} {N : List Str} {sc : Scope} {k : Nat} {pos : Pos}
theorem al_map {K : PySem.W.Frag} {F : Hp} {α : Type} {xs : List α} {T : α → Ty} {vs : List V} (al : Al K F (xs.map T) vs) {i : Nat} {v : V} (h : vs[i]? = some v) : ∃ x, xs[i]? = some x ∧ (T x).p K F v := by
  obtain ⟨U, e, t⟩ := al.getV h
  rw [List.getElem?_map] at e
  cases q : xs[i]? with
  | none => rw [q] at e; cases e
  | some x => rw [q] at e; cases e; exact ⟨x, rfl, t⟩
theorem itd_list {K : PySem.W.Frag} {α : Type} {xs : List α} {T : α → Ty} {F : Hp} {a : Addr} {vs : List V} (s : SqL K F a vs) (al : Al K F (xs.map T) vs) : Itd K (Itl K a) xs T F := by
  have hl : vs.length = xs.length := by rw [← al.length, List.length_map]
  refine ⟨fun H => SqL K H a vs, YAt vs, hl ▸ walk_list, fun F2 H2 s2 fz => al_seq fz (s2.seq s), fun i F2 H2 v H2' hi s2 fz y => ?_⟩
  obtain ⟨rfl, e⟩ := y
  obtain ⟨x, ex, t⟩ := al_map al e
  exact ⟨F2, x, Ext.refl fz, ex, (T x).mono s2 t⟩
theorem itd_tup {K : PySem.W.Frag} {α : Type} {xs : List α} {T : α → Ty} {F : Hp} {a : Addr} {vs : List V} (s : SqT K F a vs) (al : Al K F (xs.map T) vs) : Itd K (Itt K a) xs T F := by
  have hl : vs.length = xs.length := by rw [← al.length, List.length_map]
  refine ⟨fun H => SqT K H a vs, YAt vs, hl ▸ walk_tup, fun F2 H2 s2 fz => al_sqt fz (sqT_up s2 s), fun i F2 H2 v H2' hi s2 fz y => ?_⟩
  obtain ⟨rfl, e⟩ := y
  obtain ⟨x, ex, t⟩ := al_map al e
  exact ⟨F2, x, Ext.refl fz, ex, (T x).mono s2 t⟩
theorem it_list {tg e : Expr} {α : Type} {xs : List α} {T : α → Ty} (h : E tb X G e (lstT (xs.map T))) : IT tb X G tg e xs T := fun B σ F H R hs q => iwp_of (pi_list (pe_wp e)) (h B σ F H _ hs fun v F1 H1 x1 t => by
  obtain ⟨a, vs, ev, s, al⟩ := t
  exact ⟨a, ev, ⟨vs, al_seq x1.fz s⟩, q _ F1 H1 x1 (itd_list s al)⟩)
theorem it_tup {tg e : Expr} {α : Type} {xs : List α} {T : α → Ty} (h : E tb X G e (tupT (xs.map T))) : IT tb X G tg e xs T := fun B σ F H R hs q => iwp_of (pi_tup (pe_wp e)) (h B σ F H _ hs fun v F1 H1 x1 t => by
  obtain ⟨a, vs, ev, s, al⟩ := t
  exact ⟨a, ev, ⟨vs, al_sqt x1.fz s⟩, q _ F1 H1 x1 (itd_tup s al)⟩)
theorem itd_range {K : PySem.W.Frag} {lo n : Nat} {F : Hp} : Itd K (Itr (lo : Int) n) (List.range' lo n) (fun i => intT (i : Nat)) F := by
  refine ⟨fun _ => True, _, by rw [List.length_range']; exact walk_range, fun _ _ _ _ => trivial, fun i F2 H2 v H2' hi s2 fz y => ?_⟩
  obtain ⟨rfl, e⟩ := y
  rw [List.length_range'] at hi
  refine ⟨F2, lo + i, Ext.refl fz, ?_, ?_⟩
  · rw [List.getElem?_range' hi]; simp
  · show v = V.int _
    rw [e]
    congr 1
theorem it_range1 (h : CxD X N sc k) {tg e : Expr} {p : Pos} {n : Nat} (he : E tb X G e (intT (n : Int))) (hm : X.mg "range" = none) (hn : n < 2 ^ 62) (hg : sc.names.lookup ("range" : Str) = some .globalImplicit := by rfl) (hst : NoStar e := by intro _ _; rfl) :
    IT tb X G tg (.Call (.Name "range" p) [e] [] pos) (List.range n) (fun i => intT (i : Nat)) := fun B σ F H R hs q => by
  refine iwp_of (pi_range1 (h.gl hg) hm (pa_cons (pe_wp e) pa_nil (hst [] X.env)) (hst [] X.env)) ?_
  refine he B σ F H _ hs fun v F1 H1 x1 t => ?_
  refine ⟨n, by rw [show v = V.int n from t], by omega, by omega, ?_⟩
  have z := itd_range (K := X.K) (lo := 0) (n := n) (F := F1)
  rw [← List.range_eq_range'] at z
  exact q _ F1 H1 x1 z
theorem it_range2 (h : CxD X N sc k) {tg a b : Expr} {p : Pos} {lo hi : Nat} (ha : E tb X G a (intT (lo : Int))) (hb : E tb X G b (intT (hi : Int))) (hm : X.mg "range" = none) (h1 : lo < 2 ^ 62) (h2 : hi < 2 ^ 62) (hg : sc.names.lookup ("range" : Str) = some .globalImplicit := by rfl)
    (hsa : NoStar a := by intro _ _; rfl) (hsb : NoStar b := by intro _ _; rfl) : IT tb X G tg (.Call (.Name "range" p) [a, b] [] pos) (List.range' lo (hi - lo)) (fun i => intT (i : Nat)) := fun B σ F H R hs q => by
  refine iwp_of (pi_range2 (h.gl hg) hm (pa_cons (pe_wp a) (pa_cons (pe_wp b) pa_nil (hsb [] X.env)) (hsa [b] X.env)) ((hsa [b] X.env).trans (congrArg _ (hsb [] X.env))) (hsb [] X.env)) ?_
  refine ha B σ F H _ hs fun v F1 H1 x1 t => hb B σ F1 H1 _ (hs.up x1) fun w F2 H2 x2 t2 => ?_
  refine ⟨lo, hi, by rw [show v = V.int lo from t, show w = V.int hi from t2], ⟨by omega, by omega, by omega, by omega⟩, ?_⟩
  have z := itd_range (K := X.K) (lo := lo) (n := hi - lo) (F := F2)
  have e : (((hi : Int) - (lo : Int)).toNat) = hi - lo := by omega
  rw [e]
  exact q _ F2 H2 (x1.trans x2) z
/-- a new pair at T -/
theorem new_pair {K : PySem.W.Frag} {F2 H2 : Hp} (fz : Fz F2 H2) {Tp : Addr} (hT : H2 Tp = none) {x y : V} {T U : Ty} (tx : T.p K F2 x) (ty : U.p K F2 y) :
    ∃ F2', Ext F2 H2 F2' (upd H2 Tp (.tup [x, y])) ∧ (tupT [T, U]).p K F2' (.ref Tp) := by
  have x := Ext.new fz hT (o := .tup [x, y]) fun _ z => nomatch z
  exact ⟨_, x, Tp, _, rfl, SqT.of upd_same, .cons (T.mono x.ff tx) (.cons (U.mono x.ff ty) .nil)⟩
theorem itd_pair {K : PySem.W.Frag} {J : It} {n : Nat} {Gd : Hp → Prop} {f g : Nat → Option V} {F1 : Hp} {α : Type} {zs : List α} {T U : α → Ty} (hn : zs.length = n) (w : Walk J n Gd (YPair f g)) (hG : ∀ F2 H2, Same F1 F2 → Fz F2 H2 → Gd H2)
    (hf : ∀ (i : Nat) (x y : V), i < n → f i = some x → g i = some y → ∃ z, zs[i]? = some z ∧ (T z).p K F1 x ∧ (U z).p K F1 y) : Itd K J zs (fun z => tupT [T z, U z]) F1 := by
  subst hn
  refine ⟨Gd, _, w, hG, fun i F2 H2 v H2' hi s2 fz y => ?_⟩
  obtain ⟨Tp, x, z, rfl, hT, rfl, ex, ez⟩ := y
  obtain ⟨q, eq, t1, t2⟩ := hf i x z hi ex ez
  obtain ⟨F3, x3, t3⟩ := new_pair fz hT ((T q).mono s2 t1) ((U q).mono s2 t2)
  exact ⟨F3, q, x3, eq, t3⟩
theorem it_enum (h : CxD X N sc k) {elts : List Expr} {kk : Nat} {tpos p : Pos} {e : Expr} {α : Type} {xs : List α} {T : α → Ty} (he : E tb X G e (lstT (xs.map T))) (hm : X.mg "enumerate" = none) (hg : sc.names.lookup ("enumerate" : Str) = some .globalImplicit := by rfl)
    (hst : NoStar e := by intro _ _; rfl) : IT tb X G (.Tuple elts kk tpos) (.Call (.Name "enumerate" p) [e] [] pos) xs.zipIdx (fun z => tupT [intT (z.2 : Nat), T z.1]) := fun B σ F H R hs q => by
  refine iwp_of (pi_enum (h.gl hg) hm (pa_cons (pe_wp e) pa_nil (hst [] X.env)) (hst [] X.env)) ?_
  refine he B σ F H _ hs fun v F1 H1 x1 t => ?_
  obtain ⟨a, vs, ev, s, al⟩ := t
  refine ⟨a, vs, by rw [ev], al_seq x1.fz s, q _ F1 H1 x1 ?_⟩
  have hl : vs.length = xs.length := by rw [← al.length, List.length_map]
  refine itd_pair (n := vs.length) (T := fun z : α × Nat => intT (z.2 : Nat)) (U := fun z => T z.1) (by simp [hl]) walk_enum (fun F2 H2 s2 fz => al_seq fz (s2.seq s)) fun i x y hi e1 e2 => ?_
  obtain ⟨z, ez, tz⟩ := al_map al e2
  cases e1
  exact ⟨(z, i), by simp [List.getElem?_zipIdx, ez], rfl, tz⟩
theorem it_zip (h : CxD X N sc k) {elts : List Expr} {kk : Nat} {tpos p : Pos} {a b : Expr} {α β : Type} {xs : List α} {ys : List β} {T : α → Ty} {U : β → Ty} (ha : E tb X G a (lstT (xs.map T))) (hb : E tb X G b (lstT (ys.map U))) (hm : X.mg "zip" = none)
    (hg : sc.names.lookup ("zip" : Str) = some .globalImplicit := by rfl) (hsa : NoStar a := by intro _ _; rfl) (hsb : NoStar b := by intro _ _; rfl) (hpl : (backTo pos (starEach [b] X.env)).any (·.1) = false := by rfl) :
    IT tb X G (.Tuple elts kk tpos) (.Call (.Name "zip" p) [a, b] [] pos) (xs.zip ys) (fun z => tupT [T z.1, U z.2]) := fun B σ F H R hs q => by
  refine iwp_of (pi_zip (h.gl hg) hm (pa_cons (pe_wp a) (pa_cons (pe_wp b) pa_nil (hsb [] X.env)) (hsa [b] X.env)) (hsa [b] X.env) hpl) ?_
  refine ha B σ F H _ hs fun v F1 H1 x1 t => hb B σ F1 H1 _ (hs.up x1) fun w F2 H2 x2 t2 => ?_
  obtain ⟨p1, vs, ev, s, al⟩ := (lstT (xs.map T)).mono x2.ff t
  obtain ⟨p2, ws, ew, s2, al2⟩ := t2
  refine ⟨p1, p2, vs, ws, by rw [ev, ew], al_seq x2.fz s, al_seq x2.fz s2, q _ F2 H2 (x1.trans x2) ?_⟩
  have hl : vs.length = xs.length := by rw [← al.length, List.length_map]
  have hl2 : ws.length = ys.length := by rw [← al2.length, List.length_map]
  refine itd_pair (n := min vs.length ws.length) (T := fun z : α × β => T z.1) (U := fun z => U z.2) (by simp [hl, hl2]) (walk_zip rfl) (fun F2 H2 s3 fz => ⟨al_seq fz (s3.seq s), al_seq fz (s3.seq s2)⟩) fun i x y hi e1 e2 => ?_
  obtain ⟨z, ez, tz⟩ := al_map al e1
  obtain ⟨z2, ez2, tz2⟩ := al_map al2 e2
  exact ⟨(z, z2), by simp [List.getElem?_zip_eq_some, ez, ez2], tz, tz2⟩
end

/-! ### comprehensions -/
def wipeG (G : List Slt) : List Nat → List Slt
  | [] => G
  | v :: vs => (wipeG G vs).set v .no
theorem Has.wipe {tb : List Addr} {K : PySem.W.Frag} {G : List Slt} {B : Bs} {F H : Hp} {σ : L2.St} (h : Has tb K G B F H σ) : ∀ vs : List Nat, Has tb K (wipeG G vs) B F H (wipe σ vs)
  | [] => h
  | v :: vs => (Has.wipe h vs).drop v none
theorem wipe_get {σ : L2.St} {i : Nat} : ∀ {vs : List Nat}, i ∈ vs → (wipe σ vs)[i]? = (if i < σ.length then some none else none)
  | v :: vs, hi => by
    unfold wipe
    by_cases e : v = i
    · subst e
      by_cases hl : v < σ.length
      · rw [List.getElem?_set_self (by rw [wipe_length]; exact hl), if_pos hl]
      · rw [if_neg hl, List.getElem?_eq_none (by simpa [wipe_length] using hl)]
    · rw [List.getElem?_set_ne e]
      exact wipe_get (by rcases List.mem_cons.mp hi with z | z; exact absurd z.symm e; exact z)
theorem wipe_off {σ σ' : L2.St} {vs is : List Nat} (hl : σ'.length = σ.length) (hi : ∀ j ∈ is, j ∈ vs) (h : ∀ j, j ∉ is → σ'[j]? = σ[j]?) : wipe σ' vs = wipe σ vs := by
  apply List.ext_getElem?
  intro j
  by_cases hj : j ∈ vs
  · rw [wipe_get hj, wipe_get hj, hl]
  · rw [wipe_out hj, wipe_out hj]
    exact h j fun z => hj (hi j z)
theorem wipe_wipe {σ : L2.St} {vs : List Nat} : L2.wipe (L2.wipe σ vs) vs = L2.wipe σ vs := wipe_off (is := vs) (wipe_length _ _) (fun _ h => h) fun j hj => wipe_out hj
section
variable {tb : List Addr} {X : Cx} {G : List Slt} {N : List Str} {sc : Scope} {k : Nat} {pos : Pos}
/-- the facts of a comprehension's block -/
theorem CxD.blk (h : CxD X N sc k) {scope : Scope} (hk : scope.kind = .function) {s : Shared} {H : Hp} {C : Addr} {cl : List (Str × Addr)} {fp : List Addr} :
    CxD (X.blk s H scope (compEnvC scope cl C X.env) fp) N (relS scope sc) k := by
  refine ⟨h.hN, h.nd, ?_, hk, h.calm, h.room, fun _ _ z => z⟩
  show relS scope X.env.scope = relS scope sc
  rw [h.hsc]
/-- the block of a comprehension -/
abbrev Blk (X : Cx) (scope : Scope) (s : Shared) (H : Hp) (C : Addr) (cl : List (Str × Addr)) (fp : List Addr) : Cx := X.blk s H scope (compEnvC scope cl C X.env) fp
/-- for all blocks -/
def AllB (X : Cx) (N : List Str) (sc : Scope) (k : Nat) (scope : Scope) (φ : Cx → Prop) : Prop := ∀ (s : Shared) (H : Hp) (C : Addr) (cl : List (Str × Addr)) (fp : List Addr), CxD (Blk X scope s H C cl fp) N (relS scope sc) k → φ (Blk X scope s H C cl fp)
/-- a new list of one's own -/
def EL (tb : List Addr) (X : Cx) (G : List Slt) (e : Expr) (Ts : List Ty) : Prop :=
  ∀ (B : Bs) (σ : L2.St) (F H : Hp) (Q : VK), Has tb X.K G B F H σ → (∀ p vs F' H', Ext F H F' H' → H p = none → F' p = none → H' p = some (.lst vs) → Al X.K F' Ts vs → Q (.ref p) H') → ewp X e σ H Q
theorem ext_own {F H F' H' : Hp} (fz : Fz F H) (x : Ext F H F' H') {p : Addr} (hp : H p = none) {o : HO} (ho : ∀ ps, o ≠ .tbl ps) (hH : H' p = some o) : Ext F H (upd F' p o) H' := by
  refine ⟨x.hh, fun b u q => ?_, fun a h1 h2 => ?_, fun b u q => ?_⟩
  · rw [upd_ne (ne_of_none q (fz.none hp))]
    exact x.ff b u q
  · have hb : a ≠ p := fun z => h1 (z ▸ hp)
    rw [upd_ne hb]
    exact x.av a h1 h2
  · by_cases hb : b = p
    · subst hb; rw [upd_same] at q; cases q; exact ⟨hH, ho⟩
    · rw [upd_ne hb] at q; exact x.fz b u q
theorem same_upd' {H : Hp} {p : Addr} {o : HO} (h : H p = none) : Same H (upd H p o) := fun b u q => by rw [upd_ne (ne_of_none q h)]; exact q
theorem e_of_el {e : Expr} {Ts : List Ty} (h : EL tb X G e Ts) : E tb X G e (lstT Ts) := fun B σ F H Q hs q => h B σ F H Q hs fun p vs F' H' x hp hf hH al =>
  q _ _ _ (ext_own hs.fz x hp (by intro _ z; cases z) hH) ⟨p, vs, rfl, SqL.of upd_same, al.up (same_upd' hf)⟩
/-- an object that is no slot's has changed -/
theorem Has.updAt {K : PySem.W.Frag} {B : Bs} {F H : Hp} {σ : L2.St} (h : Has tb K G B F H σ) {D : Addr} {o : HO} (hF : F D = none) (hB : B.H D = none) (ho : ∀ i a, OwnS G i → σ[i]? = some (some (.ref a)) → a ≠ D) (ht : ∀ P ∈ tb, P ≠ D) : Has tb K G B F (upd H D o) σ := by
  have x := h.ext.mut (o := o) (o' := o) hB hF
  refine ⟨x.fz, h.len, h.val, fun i Ts e => ?_, fun i Ts e => ?_, h.dis, x, fun P hP => ?_⟩
  · obtain ⟨a, vs, q1, q2, q3, q4, q5⟩ := h.own i Ts e
    exact ⟨a, vs, q1, q2, q3, by rw [upd_ne (ho i a (.inl ⟨Ts, e⟩) q1)]; exact q4, q5⟩
  · obtain ⟨a, vs, q1, q2, q3, q4, q5⟩ := h.ownD i Ts e
    exact ⟨a, vs, q1, q2, q3, by rw [upd_ne (ho i a (.inr ⟨Ts, e⟩) q1)]; exact q4, q5⟩
  · obtain ⟨ps, e, q⟩ := h.tab P hP
    exact ⟨ps, by rw [upd_ne (ht P hP)]; exact e, q⟩
/-- a new place is no slot's and no table's -/
theorem Has.apart {K : PySem.W.Frag} {B : Bs} {F H : Hp} {σ : L2.St} (h : Has tb K G B F H σ) {D : Addr} (hD : H D = none) : (∀ i a, OwnS G i → σ[i]? = some (some (.ref a)) → a ≠ D) ∧ (∀ P ∈ tb, P ≠ D) ∧ F D = none ∧ B.H D = none := by
  refine ⟨fun i a ho e z => ?_, fun P hP z => ?_, h.fz.none hD, h.ext.hh.free hD⟩
  · subst z
    rcases ho with ⟨Ts, q⟩ | ⟨Ts, q⟩
    · obtain ⟨a', vs, q1, q2, q3, q4, q5⟩ := h.own i Ts q
      rw [e] at q1; cases q1
      rw [hD] at q4; cases q4
    · obtain ⟨a', vs, q1, q2, q3, q4, q5⟩ := h.ownD i Ts q
      rw [e] at q1; cases q1
      rw [hD] at q4; cases q4
  · obtain ⟨ps, e, _⟩ := h.tab P hP
    subst z
    rw [hD] at e; cases e
/-- tests of a clause -/
def ETs (tb : List Addr) (X : Cx) (G : List Slt) (ifs : List Expr) (b : Bool) : Prop := (ifs = [] ∧ b = true) ∨ ∃ c, ifs = [c] ∧ EB tb X G c b
theorem ets_nil : ETs tb X G [] true := .inl ⟨rfl, rfl⟩
theorem ets_one {c : Expr} {b : Bool} (h : EB tb X G c b) : ETs tb X G [c] b := .inr ⟨c, rfl, h⟩
/-- the reading of a clause's tests, for all blocks at once -/
def tTs (X : Cx) (scope : Scope) (ifs : List Expr) : TT := fun σ H Q => match ifs with
  | [] => Q true H
  | [c] => ∀ (s : Shared) (H0 : Hp) (C : Addr) (cl : List (Str × Addr)) (fp : List Addr), bwp (Blk X scope s H0 C cl fp) c σ H Q
  | _ => False
theorem pts_wp {scope : Scope} {ifs : List Expr} (hl : ifs.length ≤ 1) (s : Shared) (H0 : Hp) (C : Addr) (cl : List (Str × Addr)) (fp : List Addr) : PTs (Blk X scope s H0 C cl fp) ifs (tTs X scope ifs) := by
  match ifs, hl with
  | [], _ => exact pts_nil
  | [c], _ => exact pts_one ⟨fun pins s' σ H Q I h => h s H0 C cl fp pins s' I⟩
theorem take_succ_map {α : Type} {xs : List α} {i : Nat} {z : α} (h : xs[i]? = some z) : xs.take (i + 1) = xs.take i ++ [z] := by
  rw [List.take_add_one, h]; rfl
/-- a target's, an expression's reading for all blocks at once -/
def gB (X : Cx) (scope : Scope) (tg : Expr) : TG := fun v σ H Q => ∀ (s : Shared) (H0 : Hp) (C : Addr) (cl : List (Str × Addr)) (fp : List Addr), gwp (Blk X scope s H0 C cl fp) tg v σ H Q
def eB (X : Cx) (scope : Scope) (elt : Expr) : TE := fun σ H Q => ∀ (s : Shared) (H0 : Hp) (C : Addr) (cl : List (Str × Addr)) (fp : List Addr), ewp (Blk X scope s H0 C cl fp) elt σ H Q
/-- a comprehension's reading comes to a new list of the types Ts -/
structure LCR (tb : List Addr) (X : Cx) (G : List Slt) (elt tg iter : Expr) (ifs : List Expr) (scope : Scope) (own : List (Str × Nat)) (N : List Str) (sc : Scope) (Ts : List Ty) : Prop where
  ok : BlkOk N sc scope own
  hl : ifs.length ≤ 1
  hs : ∀ x, foldedSetIterable iter X.env x = pure x
  rd : ∀ (B : Bs) (σ : L2.St) (F H : Hp) (Q : VK), Has tb X.K G B F H σ → (∀ p vs F' H', Ext F H F' H' → H p = none → F' p = none → H' p = some (.lst vs) → Al X.K F' Ts vs → Q (.ref p) H') →
    tLc (iwp X tg iter) (gB X scope tg) (tTs X scope ifs) (eB X scope elt) (own.map (·.2)) σ H Q
theorem LCR.el (h : CxD X N sc k) {elt tg iter : Expr} {ifs : List Expr} {scope : Scope} {own : List (Str × Nat)} {Ts : List Ty} (l : LCR tb X G elt tg iter ifs scope own N sc Ts) : EL tb X G (.ListComp elt [⟨tg, iter, ifs, 0⟩] scope pos) Ts := by
  intro B σ F H Q hh q
  have ok' : BlkOk X.N X.env.scope scope own := by rw [h.hN, h.hsc]; exact l.ok
  exact ewp_of (pe_lc (own := own) (g := gB X scope tg) (te := eB X scope elt)
    h.calm (by rw [h.hN]; exact h.nd) (pi_wp tg iter) ok' (fun s H0 C cl fp => ⟨fun pins s' σ H v u Q I r g => g s H0 C cl fp pins s' u I r⟩) (fun s H0 C cl fp => pts_wp l.hl s H0 C cl fp) (fun s H0 C cl fp => ⟨fun pins s' σ H Q I g => g s H0 C cl fp pins s' I⟩) l.hs) (l.rd B σ F H Q hh q)
/-- [elt for tg in iter (if c)]: a new list -/
theorem lc_read (h : CxD X N sc k) {α : Type} {xs : List α} {T R : α → Ty} {own : List (Str × Nat)} {tg iter elt : Expr} {ifs : List Expr} {scope : Scope} {is : List Nat} {Gx : α → List Slt} {b : α → Bool}
    (hi : IT tb X G tg iter xs T) (ok : blkC N sc scope own = true) (hl : ifs.length ≤ 1) (his : ∀ j ∈ is, j ∈ own.map (·.2))
    (ht : AllB X N sc k scope fun X' => ∀ x ∈ xs, TG' tb X' tg (T x) is (wipeG G (own.map (·.2))) (Gx x))
    (hc : AllB X N sc k scope fun X' => ∀ x ∈ xs, ETs tb X' (Gx x) ifs (b x))
    (he : AllB X N sc k scope fun X' => ∀ x ∈ xs, b x = true → E tb X' (Gx x) elt (R x)) (hz : xs.length ≤ 1000) (hs : ∀ x, foldedSetIterable iter X.env x = pure x) :
    LCR tb X G elt tg iter ifs scope own N sc ((xs.filter b).map R) := by
  refine ⟨blkOk_by ok, hl, hs, ?_⟩
  intro B σ F H Q hh q
  have hk : scope.kind = .function := (blkOk_by ok).kind
  refine hi B σ F H _ hh fun J F1 H1 x1 itd => fun D hD => ?_
  obtain ⟨Gd, Y, w, hG, hY⟩ := itd.ex
  have hs1 := hh.up x1
  obtain ⟨ap1, ap2, hF1, hB1⟩ := hs1.apart hD
  refine lc_it w (g := gB X scope tg) (te := eB X scope elt) (tt := tTs X scope ifs) (vs := own.map (·.2)) (σ := σ) (D := D) (Qd := fun H => Q (.ref D) H) (fun i H2 => ∃ F2 vs, Has tb X.K G B F2 H2 σ ∧ Ext F1 H1 F2 H2 ∧ F2 D = none ∧ H2 D = some (.lst vs) ∧ Al X.K F2 (((xs.take i).filter b).map R) vs) ?_ ?_ ?_ ?_
  · have x2 : Ext F1 H1 F1 (upd H1 D (.lst [])) := Ext.own hs1.fz hD
    exact ⟨F1, [], hs1.up x2, x2, hF1, upd_same, .nil⟩
  · rintro i H2 hi ⟨F2, vs, a1, a2, a3, a4, a5⟩
    exact hG F2 H2 a2.ff a1.fz
  · rintro i v H2 H2' hin ⟨F2, vs, a1, a2, a3, a4, a5⟩ y
    obtain ⟨F3, z, x3, ez, tz⟩ := hY i F2 H2 v H2' hin a2.ff a1.fz y
    have hzm : z ∈ xs := List.mem_of_getElem? ez
    intro s0 H0 C cl fp
    refine ht s0 H0 C cl fp (h.blk hk) z hzm B _ F3 H2' v _ ((a1.up x3).wipe _) tz fun σ' hs' hl' off => ⟨?_, ?_⟩
    · rw [wipe_off (is := is) hl' his off, wipe_wipe]
    have a1' := a1.up x3
    have d3 : F3 D = none := x3.av D (by rw [a4]; intro z; cases z) a3
    have e3 : H2' D = some (.lst vs) := x3.hh.keep D _ a4 (fun _ z => nomatch z)
    have a5' := a5.up x3.ff
    have a2' := a2.trans x3
    have key : ∀ F4 H4, Ext F3 H2' F4 H4 → (if b z = true then (eB X scope elt σ' H4 fun y H5 => ∃ acc, H5 D = some (.lst acc) ∧ acc.length < sizeLine ∧
        (∃ F2 vs, Has tb X.K G B F2 (upd H5 D (.lst (acc ++ [y]))) σ ∧ Ext F1 H1 F2 (upd H5 D (.lst (acc ++ [y]))) ∧ F2 D = none ∧ (upd H5 D (.lst (acc ++ [y]))) D = some (.lst vs) ∧ Al X.K F2 (((xs.take (i + 1)).filter b).map R) vs))
        else (∃ F2 vs, Has tb X.K G B F2 H4 σ ∧ Ext F1 H1 F2 H4 ∧ F2 D = none ∧ H4 D = some (.lst vs) ∧ Al X.K F2 (((xs.take (i + 1)).filter b).map R) vs)) := by
      intro F4 H4 x4
      have d4 : F4 D = none := x4.av D (by rw [e3]; intro z; cases z) d3
      have e4 : H4 D = some (.lst vs) := x4.hh.keep D _ e3 (fun _ z => nomatch z)
      by_cases hb : b z = true
      · rw [if_pos hb]
        intro s1 H01 C1 cl1 fp1
        refine he s1 H01 C1 cl1 fp1 (h.blk hk) z hzm hb B σ' F4 H4 _ (hs'.up x4) fun y F5 H5 x5 ty => ?_
        have d5 : F5 D = none := x5.av D (by rw [e4]; intro z; cases z) d4
        have e5 : H5 D = some (.lst vs) := x5.hh.keep D _ e4 (fun _ z => nomatch z)
        have hvl : vs.length ≤ xs.length := by
          rw [← a5.length, List.length_map]
          exact Nat.le_trans (List.length_filter_le _ _) (by rw [List.length_take]; omega)
        refine ⟨vs, e5, small1000 (by omega), F5, vs ++ [y], ?_, ?_, d5, upd_same, ?_⟩
        · exact ((a1'.up x4).up x5).updAt d5 hB1 ap1 ap2
        · exact ((a2'.trans x4).trans x5).mut (o := .lst []) hD d5
        · rw [take_succ_map ez, List.filter_append, List.map_append]
          have : (List.filter b [z]).map R = [R z] := by simp [List.filter, hb]
          rw [this]
          exact (a5'.up (Same.trans x4.ff x5.ff)).append (.cons ty .nil)
      · rw [if_neg hb]
        refine ⟨F4, vs, a1'.up x4, a2'.trans x4, d4, e4, ?_⟩
        rw [take_succ_map ez, List.filter_append, List.map_append]
        have : (List.filter b [z]).map R = [] := by simp [List.filter, hb]
        rw [this, List.append_nil]
        exact a5'.up x4.ff
    rcases hc s0 H0 C cl fp (h.blk hk) z hzm with ⟨ei, eb⟩ | ⟨c, ei, _⟩
    · subst ei
      have := key F3 H2' (Ext.refl x3.fz)
      rw [eb] at this
      exact this
    · subst ei
      intro s1 H01 C1 cl1 fp1
      rcases hc s1 H01 C1 cl1 fp1 (h.blk hk) z hzm with ⟨ei, _⟩ | ⟨c', ei, hcb⟩
      · cases ei
      · cases ei
        exact hcb B σ' F3 H2' _ hs' fun F4 H4 x4 => key F4 H4 x4
  · rintro H2 ⟨F2, vs, a1, a2, a3, a4, a5⟩
    rw [List.take_length] at a5
    exact q D vs F2 H2 (x1.trans a2) (x1.hh.free hD) a3 a4 a5
theorem lc_of (h : CxD X N sc k) {α : Type} {xs : List α} {T R : α → Ty} (own : List (Str × Nat)) {tg iter elt : Expr} {scope : Scope} {is : List Nat} {Gx : α → List Slt}
    (hi : IT tb X G tg iter xs T)
    (ht : AllB X N sc k scope fun X' => ∀ x ∈ xs, TG' tb X' tg (T x) is (wipeG G (own.map (·.2))) (Gx x))
    (he : AllB X N sc k scope fun X' => ∀ x ∈ xs, E tb X' (Gx x) elt (R x)) (hz : xs.length ≤ 1000) (ok : blkC N sc scope own = true := by decide +kernel) (his : is.all (fun j => (own.map (·.2)).contains j) = true := by rfl) (hs : ∀ x, foldedSetIterable iter X.env x = pure x := by intro _; rfl) :
    LCR tb X G elt tg iter [] scope own N sc (xs.map R) := by
  have := lc_read (b := fun _ => true) h hi ok (by simp) (fun j hj => by simpa using List.all_eq_true.mp his j hj) ht (fun s H C cl fp hx x hm => ets_nil) (fun s H C cl fp hx x hm _ => he s H C cl fp hx x hm) hz hs
  rwa [List.filter_eq_self.mpr fun _ _ => rfl] at this
theorem lc_ofI (h : CxD X N sc k) {α : Type} {xs : List α} {T R : α → Ty} (own : List (Str × Nat)) {tg iter elt c : Expr} {scope : Scope} {is : List Nat} {Gx : α → List Slt} {b : α → Bool}
    (hi : IT tb X G tg iter xs T)
    (ht : AllB X N sc k scope fun X' => ∀ x ∈ xs, TG' tb X' tg (T x) is (wipeG G (own.map (·.2))) (Gx x))
    (hc : AllB X N sc k scope fun X' => ∀ x ∈ xs, EB tb X' (Gx x) c (b x))
    (he : AllB X N sc k scope fun X' => ∀ x ∈ xs, b x = true → E tb X' (Gx x) elt (R x)) (hz : xs.length ≤ 1000) (ok : blkC N sc scope own = true := by decide +kernel) (his : is.all (fun j => (own.map (·.2)).contains j) = true := by rfl) (hs : ∀ x, foldedSetIterable iter X.env x = pure x := by intro _; rfl) :
    LCR tb X G elt tg iter [c] scope own N sc ((xs.filter b).map R) :=
  lc_read h hi ok (by simp) (fun j hj => by simpa using List.all_eq_true.mp his j hj) ht (fun s H C cl fp hx x hm => ets_one (hc s H C cl fp hx x hm)) he hz hs
end
end JL

set_option Elab.async false
set_option linter.all false
set_option maxRecDepth 100000
set_option maxHeartbeats 4000000
set_option autoImplicit false
/-! Statements. -/
namespace JL
open PySem PySem.Spec PyProof.Rows L2

/-! ### values for slots -/
/-- v is to stand in a slot of the kind s; H: the heap ahead of its making -/
def SV (K : PySem.W.Frag) (s : Slt) (v : V) (H F' H' : Hp) : Prop := match s with
  | .no => False
  | .v T => T.p K F' v
  | .own Ts => ∃ p vs, v = .ref p ∧ H p = none ∧ F' p = none ∧ H' p = some (.lst vs) ∧ Al K F' Ts vs
  | .ownD kvs => ∃ p vs, v = .ref p ∧ H p = none ∧ F' p = none ∧ H' p = some (.dT vs) ∧ AlD K F' kvs vs
theorem SV.up {K : PySem.W.Frag} {s : Slt} {v : V} {H F1 H1 F2 H2 : Hp} (h : SV K s v H F1 H1) (x : Ext F1 H1 F2 H2) : SV K s v H F2 H2 := by
  cases s with
  | no => exact h
  | v T => exact T.mono x.ff h
  | own Ts =>
    obtain ⟨p, vs, e, a, b, c, d⟩ := h
    exact ⟨p, vs, e, a, x.av p (by rw [c]; intro z; cases z) b, x.hh.keep p _ c (fun _ z => nomatch z), d.up x.ff⟩
  | ownD Ts =>
    obtain ⟨p, vs, e, a, b, c, d⟩ := h
    exact ⟨p, vs, e, a, x.av p (by rw [c]; intro z; cases z) b, x.hh.keep p _ c (fun _ z => nomatch z), d.up x.ff⟩
/-- a slot gets such a value -/
theorem Has.setS {tb : List Addr} {K : PySem.W.Frag} {G : List Slt} {B : Bs} {F H F' H' : Hp} {σ : L2.St} (h : Has tb K G B F H σ) (x : Ext F H F' H') (i : Nat) {s : Slt} {v : V} (hv : SV K s v H F' H') : Has tb K (G.set i s) B F' H' (σ.set i (some v)) := by
  have key : ∀ (p : Addr) (o : HO), v = .ref p → H p = none → F' p = none → H' p = some o → ((∃ Ts vs, s = .own Ts ∧ o = .lst vs ∧ Al K F' Ts vs) ∨ (∃ kvs vs, s = .ownD kvs ∧ o = .dT vs ∧ AlD K F' kvs vs)) → Has tb K (G.set i s) B F' H' (σ.set i (some v)) := by
    intro p o e hp hf hH hs
    subst e
    obtain ⟨ap1, ap2, _, hB⟩ := h.apart hp
    -- the heap without p
    let H0 : Hp := fun b => if b = p then none else H' b
    have eH : H' = upd H0 p o := by
      funext b
      unfold upd
      by_cases hb : b = p
      · rw [if_pos hb, hb, hH]
      · rw [if_neg hb]; show H' b = if b = p then none else H' b; rw [if_neg hb]
    have ne0 : ∀ b, b ≠ p → H0 b = H' b := fun b hb => by show (if b = p then none else H' b) = _; rw [if_neg hb]
    have h1 := h.up x
    have h0 : Has tb K G B F' H0 σ := by
      refine ⟨fun b u q => ?_, h1.len, h1.val, fun j Ts e => ?_, fun j Ts e => ?_, h1.dis, ⟨⟨fun b u q n => ?_, fun b q => ?_, fun b q => ?_⟩, h1.ext.ff, h1.ext.av, fun b u q => ?_⟩, fun P hP => ?_⟩
      · rw [ne0 b (ne_of_none q hf)]; exact h1.fz b u q
      · obtain ⟨a, vs, q1, q2, q3, q4, q5⟩ := h1.own j Ts e
        exact ⟨a, vs, q1, q2, q3, by rw [ne0 a (ap1 j a (.inl ⟨Ts, e⟩) q1)]; exact q4, q5⟩
      · obtain ⟨a, vs, q1, q2, q3, q4, q5⟩ := h1.ownD j Ts e
        exact ⟨a, vs, q1, q2, q3, by rw [ne0 a (ap1 j a (.inr ⟨Ts, e⟩) q1)]; exact q4, q5⟩
      · rw [ne0 b (ne_of_none q hB)]; exact h1.ext.hh.keep b u q n
      · obtain ⟨ps, e, t⟩ := h1.ext.hh.tab b q
        obtain ⟨ps0, e0, _⟩ := q
        exact ⟨ps, by rw [ne0 b (ne_of_none e0 hB)]; exact e, t⟩
      · have hb : b ≠ p := fun z => q (z ▸ hB)
        rw [ne0 b hb]; exact h1.ext.hh.has b q
      · rw [ne0 b (ne_of_none q hf)]; exact h1.fz b u q
      · obtain ⟨ps, e, t⟩ := h1.tab P hP
        exact ⟨ps, by rw [ne0 P (ap2 P hP)]; exact e, t⟩
    have e0 : H0 p = none := by show (if p = p then none else H' p) = none; rw [if_pos rfl]
    rw [eH]
    exact h0.setOwn i e0 hs
  cases s with
  | no => exact hv.elim
  | v T => exact (h.up x).set i hv
  | own Ts =>
    obtain ⟨p, vs, e, a, b, c, d⟩ := hv
    exact key p _ e a b c (.inl ⟨Ts, vs, rfl, rfl, d⟩)
  | ownD Ts =>
    obtain ⟨p, vs, e, a, b, c, d⟩ := hv
    exact key p _ e a b c (.inr ⟨Ts, vs, rfl, rfl, d⟩)
/-- an expression for a slot of the kind s -/
def ES (tb : List Addr) (X : Cx) (G : List Slt) (e : Expr) (s : Slt) : Prop :=
  ∀ (B : Bs) (σ : L2.St) (F H : Hp) (Q : VK), Has tb X.K G B F H σ → (∀ v F' H', Ext F H F' H' → SV X.K s v H F' H' → Q v H') → ewp X e σ H Q
section
variable {tb : List Addr} {X : Cx} {G : List Slt} {N : List Str} {sc : Scope} {k : Nat} {pos : Pos}
theorem es_v {e : Expr} {T : Ty} (h : E tb X G e T) : ES tb X G e (.v T) := fun B σ F H Q hs q => h B σ F H Q hs fun v F' H' x t => q v F' H' x t
theorem es_own {e : Expr} {Ts : List Ty} (h : EL tb X G e Ts) : ES tb X G e (.own Ts) := fun B σ F H Q hs q => h B σ F H Q hs fun p vs F' H' x a b c d => q _ F' H' x ⟨p, vs, rfl, a, b, c, d⟩
theorem es_dnew : ES tb X G (.Dict [] [] pos) (.ownD []) := fun B σ F H Q hs q => ewp_of pe_dnewT fun p hp => q _ F _ (Ext.own hs.fz hp) ⟨p, [], rfl, hp, hs.fz.none hp, upd_same, .nil⟩
/-! ### new lists -/
theorem el_lst {es : List Expr} {Ts : List Ty} (h : EA tb X G es Ts) (hz : Ts.length ≤ sizeLine := by (simp only [List.length_cons, List.length_nil]; decide)) : EL tb X G (.List es pos) Ts :=
  fun B σ F H Q hh q => ewp_of (pe_lst (pa_wp es)) (h B σ F H _ hh fun vs F1 H1 x1 al => ⟨by rw [← al.length]; exact hz, fun p hp => q p vs F1 _ (x1.trans (Ext.own x1.fz hp)) (x1.hh.free hp) (x1.fz.none hp) upd_same al⟩)
theorem el_listOf (h : CxD X N sc k) {p : Pos} {e : Expr} {T : Ty} {Ts : List Ty} (ha : E tb X G e T) (hq : IsSeq T Ts) (hm : X.mg "list" = none) (hg : sc.names.lookup ("list" : Str) = some .globalImplicit := by rfl) (nst : NoStar e := by intro _ _; rfl)
    (hpl : (backTo pos (starEach ([] : List Expr) X.env)).any (·.1) = false := by rfl) : EL tb X G (.Call (.Name "list" p) [e] [] pos) Ts :=
  fun B σ F H Q hh q => ewp_of (pe_callTy call_list_of (h.gl hg) hm (by decide +kernel) (pa_cons (pe_wp e) pa_nil (nst [] X.env)) (by decide) (by decide) (nst [] X.env) hpl) (ha B σ F H _ hh fun v F1 H1 x1 t => by
    obtain ⟨a, ws, rfl, s, al⟩ := hq.get t
    refine ⟨a, ws, rfl, ?_, fun l hl => q l ws F1 _ (x1.trans (Ext.own x1.fz hl)) (x1.hh.free hl) (x1.fz.none hl) upd_same al⟩
    rcases s with s | s
    · exact .inl (al_seq x1.fz s)
    · exact .inr (al_sqt x1.fz s))
theorem Fz.lstSeq {K : PySem.W.Frag} {F H : Hp} (fz : Fz F H) {a : Addr} {vs : List V} {Ts : List Ty} (t : (lstT Ts).p K F (.ref a)) : ∃ vs, SqL K H a vs ∧ Al K F Ts vs := by
  obtain ⟨a', vs, e, s, al⟩ := t
  cases e
  exact ⟨vs, al_seq fz s, al⟩
end
/-- a list that stands tracked (not written in the text) -/
def lstH (Ts : List Ty) : Ty := ⟨fun K H v => ∃ a vs, v = .ref a ∧ H a = some (.lst vs) ∧ Al K H Ts vs, fun s ⟨a, vs, e, h, al⟩ => ⟨a, vs, e, s _ _ h, al.up s⟩⟩
theorem lstH_sub {Ts : List Ty} : Sub (lstH Ts) (lstT Ts) := fun ⟨a, vs, e, h, al⟩ => ⟨a, vs, e, SqL.of h, al⟩
section
variable {tb : List Addr} {X : Cx} {G : List Slt} {N : List Str} {sc : Scope} {k : Nat} {pos : Pos}
theorem e_of_elH {e : Expr} {Ts : List Ty} (h : EL tb X G e Ts) : E tb X G e (lstH Ts) := fun B σ F H Q hs q => h B σ F H Q hs fun p vs F' H' x hp hf hH al =>
  q _ _ _ (ext_own hs.fz x hp (by intro _ z; cases z) hH) ⟨p, vs, rfl, upd_same, al.up (same_upd' hf)⟩
/-- xs + ys of lists -/
theorem el_cat {a b : Expr} {Ts Us : List Ty} (ha : E tb X G a (lstH Ts)) (hb : E tb X G b (lstH Us)) (hz : Ts.length + Us.length ≤ sizeLine) : EL tb X G (.BinOp a .Add b pos) (Ts ++ Us) :=
  fun B σ F H Q hh q => ewp_of (pe_op op_cat (pe_wp a) (pe_wp b)) (e2 ha hb hh fun x y F1 H1 x1 t u => by
    obtain ⟨p, vs, rfl, s, al⟩ := t
    obtain ⟨p2, ws, rfl, s2, al2⟩ := u
    refine ⟨p, p2, vs, ws, rfl, rfl, (x1.fz _ _ s).1, (x1.fz _ _ s2).1, by rw [← al.length, ← al2.length]; exact hz, fun l hl => q l _ F1 _ (x1.trans (Ext.own x1.fz hl)) (x1.hh.free hl) (x1.fz.none hl) upd_same (al.append al2)⟩)
theorem al_rep {K : PySem.W.Frag} {F : Hp} {Ts : List Ty} {vs : List V} (al : Al K F Ts vs) : ∀ n : Nat, Al K F (List.replicate n Ts).flatten (List.replicate n vs).flatten
  | 0 => .nil
  | n + 1 => by
    rw [List.replicate_succ, List.replicate_succ, List.flatten_cons, List.flatten_cons]
    exact al.append (al_rep al n)
/-- xs * n of a list -/
theorem el_rep {a b : Expr} {Ts : List Ty} {n : Nat} (ha : E tb X G a (lstH Ts)) (hb : E tb X G b (intT (n : Int))) (hz : Ts.length * n ≤ sizeLine) (hn : n < 2 ^ 63) : EL tb X G (.BinOp a .Mult b pos) (List.replicate n Ts).flatten :=
  fun B σ F H Q hh q => ewp_of (pe_op op_rep (pe_wp a) (pe_wp b)) (e2 ha hb hh fun x y F1 H1 x1 t u => by
    obtain ⟨p, vs, rfl, s, al⟩ := t
    cases (show y = V.int n from u)
    refine ⟨p, (n : Int), vs, rfl, rfl, (x1.fz _ _ s).1, by omega, by omega, by rw [← al.length]; simpa using hz, fun l hl => ?_⟩
    refine q l _ F1 _ (x1.trans (Ext.own x1.fz hl)) (x1.hh.free hl) (x1.fz.none hl) upd_same ?_
    simpa using al_rep al n)

/-! ### statements -/
structure Kn where
  nx : List Slt → Prop
  rt : Ty → Prop
  bk : List Slt → Prop := fun _ => False
  ct : List Slt → Prop := fun _ => False
structure KS (tb : List Addr) (K : PySem.W.Frag) (kn : Kn) (B : Bs) (D : Ends) : Prop where
  nx : ∀ G F H σ, kn.nx G → Has tb K G B F H σ → D.nx σ H
  bk : ∀ G F H σ, kn.bk G → Has tb K G B F H σ → D.bk σ H
  ct : ∀ G F H σ, kn.ct G → Has tb K G B F H σ → D.ct σ H
  rt : ∀ T v F H, kn.rt T → Ext B.F B.H F H → T.p K F v → D.rt v H
def S1 (tb : List Addr) (X : Cx) (G : List Slt) (st : Stmt) (kn : Kn) : Prop := ∀ (B : Bs) (σ : L2.St) (F H : Hp) (D : Ends), Has tb X.K G B F H σ → KS tb X.K kn B D → swp X st D σ H
def SS (tb : List Addr) (X : Cx) (G : List Slt) (st : List Stmt) (kn : Kn) : Prop := ∀ (B : Bs) (σ : L2.St) (F H : Hp) (D : Ends), Has tb X.K G B F H σ → KS tb X.K kn B D → sswp X st D σ H
variable {kn : Kn} {st : Stmt} {sts : List Stmt}
theorem ss_nil (h : kn.nx G) : SS tb X G [] kn := fun B σ F H D hs ks => sswp_of pss_nil (ks.nx G F H σ h hs)
theorem ss_cons (h : S1 tb X G st { kn with nx := fun G' => SS tb X G' sts kn }) : SS tb X G (st :: sts) kn := fun B σ F H D hs ks =>
  sswp_of (pss_cons (ps_wp st) (pss_wp sts)) (h B σ F H { D with nx := fun σ H => sswp X sts D σ H } hs ⟨fun G' F' H' σ' h' hs' => h' B σ' F' H' D hs' ks, ks.bk, ks.ct, ks.rt⟩)
theorem ss_one (h : S1 tb X G st kn) : SS tb X G [st] kn := fun B σ F H D hs ks => sswp_of (pss_one (ps_wp st)) (h B σ F H D hs ks)
/-- a statement list whose first is known to bring this -/
theorem s_ret {e : Expr} {T : Ty} (h : E tb X G e T) (hr : kn.rt T) : S1 tb X G (.Return (some e) pos) kn := fun B σ F H D hs ks => swp_of (ps_ret (pe_wp e)) (h B σ F H _ hs fun v F' H' x t => ks.rt T v F' H' hr (hs.up x).ext t)
theorem s_expr {e : Expr} {T : Ty} (h : E tb X G e T) (hn : kn.nx G) (hs : swapsWith e none pos.line X.env = pure false := by rfl) : S1 tb X G (.Expr e pos) kn := fun B σ F H D hh ks => swp_of (ps_expr (pe_wp e) hs) (h B σ F H _ hh fun v F' H' x t => ks.nx G F' H' σ hn (hh.up x))
theorem s_doc {x : Str} {j : Nat} {pos' : Pos} (hn : kn.nx G) : S1 tb X G (.Expr (.Constant (.str x) j pos) pos') kn := fun B σ F H D hh ks => swp_of ps_doc (ks.nx G F H σ hn hh)
theorem s_pass (hn : kn.nx G) : S1 tb X G (.Pass pos) kn := fun B σ F H D hh ks => swp_of ps_pass (ks.nx G F H σ hn hh)
theorem s_if {c : Expr} {b : Bool} {t e : List Stmt} (hc : EB tb X G c b) (ht : b = true → SS tb X G t kn) (he : b = false → SS tb X G e kn) : S1 tb X G (.If c t e pos) kn := fun B σ F H D hh ks =>
  swp_of (ps_if (pt_wp c) (pss_wp t) (pss_wp e)) (hc B σ F H _ hh fun F' H' x => by
    cases b with
    | true => exact iteT (ht rfl B σ F' H' D (hh.up x) ks)
    | false => exact iteF (he rfl B σ F' H' D (hh.up x) ks))
/-- an if that is not taken, whatever its suite is -/
theorem s_ifNo {c : Expr} {t : List Stmt} (hc : EB tb X G c false) (hn : kn.nx G) : S1 tb X G (.If c t [] pos) kn := s_if hc (fun z => nomatch z) fun _ => ss_nil hn
/-- x = e -/
theorem s_setL (h : CxD X N sc k) (i : Nat) {x : Str} {px : Pos} {e : Expr} {s : Slt} (he : ES tb X G e s) (hn : kn.nx (G.set i s)) (hN : N[i]? = some x) (hl : L2.Loc sc x) (hf : X.fn x = true ∨ sc.names.lookup x = some .local) (hs : swapsWith e (some (.Name x px)) pos.line X.env = pure false) :
    S1 tb X G (.Assign [.Name x px] e pos) kn := fun B σ F H D hh ks =>
  swp_of (ps_set (i := i) (by rw [h.hN]; exact h.nd) (by rw [h.hN]; exact hN) (by rw [h.hsc]; exact hl) (pe_wp e) hs (by rw [h.hsc]; exact hf)) (he B σ F H _ hh fun v F' H' x sv => ks.nx _ F' H' _ hn (hh.setS x i sv))
theorem s_set (h : CxD X N sc k) (i : Nat) {x : Str} {px : Pos} {e : Expr} {s : Slt} (he : ES tb X G e s) (hn : kn.nx (G.set i s)) (hN : N[i]? = some x := by rfl) (hl : sc.names.lookup x = some .local := by rfl) (hs : swapsWith e (some (.Name x px)) pos.line X.env = pure false := by rfl) :
    S1 tb X G (.Assign [.Name x px] e pos) kn := s_setL h i he hn hN (.inl hl) (.inr hl) hs
theorem sw_cell (h : CxD X N sc k) {x : Str} {px : Pos} {e : Expr} {l : Nat} (hl : sc.names.lookup x = some .cell) : swapsWith e (some (.Name x px)) l X.env = pure false := by
  have hk : X.env.kindOf x = some .cell := by show X.env.scope.names.lookup x = _; rw [h.hsc]; exact hl
  unfold swapsWith
  cases e <;> first
    | rfl
    | (simp only [hk]; rw [show ((some NameKind.cell : Option NameKind) == some NameKind.local) = false from rfl, Bool.and_false, Bool.false_and, Bool.false_and])
theorem s_setC (h : CxD X N sc k) (hf : ∀ x, X.fn x = true) (i : Nat) {x : Str} {px : Pos} {e : Expr} {s : Slt} (he : ES tb X G e s) (hn : kn.nx (G.set i s)) (hN : N[i]? = some x := by rfl) (hl : sc.names.lookup x = some .cell := by rfl) :
    S1 tb X G (.Assign [.Name x px] e pos) kn := s_setL h i he hn hN (.inr hl) (.inl (hf x)) (sw_cell h hl)
/-- x = [..], x a local -/
theorem s_setLc (h : CxD X N sc k) (i : Nat) {x : Str} {px : Pos} {elt tg iter : Expr} {ifs : List Expr} {scope : Scope} {own : List (Str × Nat)} {Ts : List Ty} {cpos : Pos} (he : LCR tb X G elt tg iter ifs scope own N sc Ts) (hn : kn.nx (G.set i (.own Ts))) (hN : N[i]? = some x := by rfl) (hl : sc.names.lookup x = some .local := by rfl)
    (hline : (px.line == cpos.line) = true := by rfl) (ha : (scope.names.any fun (n, k) => n == x && (k == .local || k == .cell)) = false := by decide +kernel) : S1 tb X G (.Assign [.Name x px] (.ListComp elt [⟨tg, iter, ifs, 0⟩] scope cpos) pos) kn := fun B σ F H D hh ks => by
  have ok' : BlkOk X.N X.env.scope scope own := by rw [h.hN, h.hsc]; exact he.ok
  have hl' : X.env.scope.names.lookup x = some .local := by rw [h.hsc]; exact hl
  refine swp_of (ps_setLc (i := i) (own := own) (g := gB X scope tg) (te := eB X scope elt) h.calm (by rw [h.hN]; exact h.nd) (by rw [h.hN]; exact hN) hl' (sw_true (by rw [h.hsc]; exact h.fun_) hl' hline ha) (pi_wp tg iter) ok'
    (fun s H0 C cl fp => ⟨fun pins s' σ H v u Q I r g => g s H0 C cl fp pins s' u I r⟩) (fun s H0 C cl fp => pts_wp he.hl s H0 C cl fp) (fun s H0 C cl fp => ⟨fun pins s' σ H Q I g => g s H0 C cl fp pins s' I⟩) he.hs) ?_
  exact he.rd B σ F H _ hh fun p vs F' H' x a b c d => ks.nx _ F' H' _ hn (hh.setS x i (s := .own Ts) ⟨p, vs, rfl, a, b, c, d⟩)
/-- x, y = e1, e2 with plain local names -/
theorem s_par (h : CxD X N sc k) (i j : Nat) {x y : Str} {px py pt pt2 : Pos} {kt k2 : Nat} {a b : Expr} {s t : Slt} (ha : ES tb X G a s) (hb : ES tb X G b t) (hn : kn.nx ((G.set i s).set j t)) (hNi : N[i]? = some x := by rfl) (hNj : N[j]? = some y := by rfl)
    (hx : sc.names.lookup x = some .local := by rfl) (hy : sc.names.lookup y = some .local := by rfl) (hij : i ≠ j := by decide) (hw : ∀ env : Env, env.scope = sc → swappedStores [.Tuple [.Name x px, .Name y py] kt pt] (.Tuple [a, b] k2 pt2) env = pure (some [x, y]) := by (intro env he; cases env; cases he; rfl))
    (hs : swapsWithSole [.Tuple [.Name x px, .Name y py] kt pt] (.Tuple [a, b] k2 pt2) pos.line X.env = pure false := by rfl) (hsa : NoStar a := by intro _ _; rfl) (hsb : NoStar b := by intro _ _; rfl) :
    S1 tb X G (.Assign [.Tuple [.Name x px, .Name y py] kt pt] (.Tuple [a, b] k2 pt2) pos) kn := fun B σ F H D hh ks =>
  swp_of (ps_par (i := i) (j := j) h.calm (by rw [h.hN]; exact h.nd) (by rw [h.hN]; exact hNi) (by rw [h.hN]; exact hNj) hij (by rw [h.hsc]; exact hx) (by rw [h.hsc]; exact hy) (pa_cons (pe_wp a) (pa_cons (pe_wp b) pa_nil (hsb [] X.env)) (hsa [b] X.env)) (hw X.env h.hsc) hs)
    (ha B σ F H _ hh fun v F1 H1 x1 sv => hb B σ F1 H1 _ (hh.up x1) fun w F2 H2 x2 sw => ⟨v, w, rfl, ks.nx _ F2 H2 _ hn ((hh.setS x1 i sv).setS x2 j sw)⟩)
/-- tg = e -/
theorem s_asg {tg e : Expr} {T : Ty} {is : List Nat} {G' : List Slt} (he : E tb X G e T) (ht : TG' tb X tg T is G G') (hn : kn.nx G') (hs : swapsWithSole [tg] e pos.line X.env = pure false := by rfl) (hw : swappedStores [tg] e X.env = pure none := by rfl)
    (h1 : (assignEach [tg] X.env).map (·.2) = [assign tg X.env] := by rfl) : S1 tb X G (.Assign [tg] e pos) kn := fun B σ F H D hh ks =>
  swp_of (ps_asg (pe_wp e) (pg_wp tg) hs hw h1) (he B σ F H _ hh fun v F' H' x t => ht B σ F' H' v _ (hh.up x) t fun σ' hs' _ _ => ks.nx _ F' H' σ' hn hs')
/-- own lists -/
theorem s_append (h : CxD X N sc k) (i : Nat) {x : Str} {p1 p2 p3 : Pos} {e : Expr} {T : Ty} {Ts : List Ty} (he : E tb X G e T) (hn : kn.nx (G.set i (.own (Ts ++ [T])))) (hz : Ts.length < sizeLine) (hG : G[i]? = some (.own Ts) := by rfl) (hN : N[i]? = some x := by rfl) (hv : visB sc x = true := by rfl)
    (hd : (x == ("__debug__" : Str)) = false := by decide) (hcd : (x == ("__classdict__" : Str)) = false := by decide) (hns : NoStar e := by intro _ _; rfl)
    (hfew : ((backTo p3 (starEach [e] X.env)).all (fun x => !x.1) && (backToKw p3 (keywordEach [] X.env)).all (fun x => x.1.isSome) && decide ([e].length + ([] : List Keyword).length + (if ([] : List Keyword).isEmpty then 0 else 1) < 30)) = true := by rfl)
    (hline : (p2.endLine == p3.line) = true := by rfl) : S1 tb X G (.Expr (.Call (.Attribute (.Name x p1) "append" p2) [e] [] p3) pos) kn := fun B σ F H D hh ks => by
  have hv2 : Vis X.env.scope x := by rw [h.hsc]; exact visB.of hv
  refine swp_of (ps_expr (pe_bm PySem.F.plainAttrs_list PySem.F.slot_list_append PySem.F.type_list_append mt_append (pe_var (i := i) (by rw [h.hN]; exact hN) hv2 hd hcd) (pa_cons (pe_wp e) pa_nil (hns [] X.env)) (by rfl) hfew hline (hns [] X.env) (by rfl))) ?_
  obtain ⟨a, vs, q1, q2, q3, q4, q5⟩ := hh.own i Ts hG
  refine ⟨.ref a, q1, .inl ⟨rfl, vs, SqL.of q4⟩, he B σ F H _ hh fun v F' H' x1 t => ?_⟩
  have hh' := hh.up x1
  obtain ⟨a', vs', r1, r2, r3, r4, r5⟩ := hh'.own i Ts hG
  rw [q1] at r1
  cases r1
  exact ⟨a, vs', v, rfl, rfl, r4, by rw [← r5.length]; exact hz, ks.nx _ F' _ σ hn (hh'.mutOwn (.inl ⟨Ts, hG⟩) q1 (.inl ⟨_, _, rfl, rfl, r5.append (.cons t .nil)⟩))⟩
theorem s_setItem (h : CxD X N sc k) (i : Nat) {x : Str} {p1 p2 : Pos} {b e : Expr} {T : Ty} {Ts : List Ty} {j : Int} {n : Nat} (he : E tb X G e T) (hb : E tb X G b (intT j)) (hj : ixN Ts.length j = some n) (hn : kn.nx (G.set i (.own (Ts.set n T)))) (hG : G[i]? = some (.own Ts) := by rfl) (hN : N[i]? = some x := by rfl) (hv : visB sc x = true := by rfl)
    (hd : (x == ("__debug__" : Str)) = false := by decide) (hcd : (x == ("__classdict__" : Str)) = false := by decide)
    (hs : swapsWithSole [.Subscript (.Name x p1) b p2] e pos.line X.env = pure false := by rfl) (hw : swappedStores [.Subscript (.Name x p1) b p2] e X.env = pure none := by rfl)
    (ha : ∀ v, assign (.Subscript (.Name x p1) b p2) X.env v = (do
      let ov ← holding [v] (eval (.Name x p1) X.env)
      let iv ← holding [v, ov] (eval b X.env)
      standAt p2
      holding [v, ov, iv] (setItem ov iv v)
      release [v, ov, iv] []) := by intro _; rfl) : S1 tb X G (.Assign [.Subscript (.Name x p1) b p2] e pos) kn := fun B σ F H D hh ks => by
  have hv2 : Vis X.env.scope x := by rw [h.hsc]; exact visB.of hv
  refine swp_of (ps_asg (pe_wp e) (pg_sub (pe_var (i := i) (by rw [h.hN]; exact hN) hv2 hd hcd) (pe_wp b) set_list ha) hs hw (by rfl)) ?_
  refine he B σ F H _ hh fun v F1 H1 x1 t => ?_
  obtain ⟨a, vs, q1, q2, q3, q4, q5⟩ := (hh.up x1).own i Ts hG
  refine ⟨.ref a, q1, hb B σ F1 H1 _ (hh.up x1) fun w F2 H2 x2 tw => ?_⟩
  have hh' := (hh.up x1).up x2
  obtain ⟨a', vs', r1, r2, r3, r4, r5⟩ := hh'.own i Ts hG
  rw [q1] at r1
  cases r1
  refine ⟨a, vs', j, n, rfl, tw, r4, by rw [← r5.length]; exact hj, ks.nx _ F2 _ σ hn (hh'.mutOwn (.inl ⟨Ts, hG⟩) q1 (.inl ⟨_, _, rfl, rfl, r5.set (T.mono x2.ff t) n⟩))⟩
/-- an own list or dict becomes a value -/
theorem ss_freeze (i : Nat) {Ts : List Ty} (h : SS tb X (G.set i (.v (lstT Ts))) sts kn) (hG : G[i]? = some (.own Ts) := by rfl) : SS tb X G sts kn := fun B σ F H D hh ks => by
  obtain ⟨F', _, hh'⟩ := hh.freeze (T := lstT Ts) (.inl ⟨Ts, rfl, rfl⟩) hG
  exact h B σ F' H D hh' ks
theorem ss_freezeD (i : Nat) {kvs : List (List Int × Ty)} (h : SS tb X (G.set i (.v (dctT kvs))) sts kn) (hG : G[i]? = some (.ownD kvs) := by rfl) : SS tb X G sts kn := fun B σ F H D hh ks => by
  obtain ⟨F', _, hh'⟩ := hh.freeze (T := dctT kvs) (.inr ⟨kvs, rfl, rfl⟩) hG
  exact h B σ F' H D hh' ks
theorem s_freeze (i : Nat) {Ts : List Ty} (h : S1 tb X (G.set i (.v (lstT Ts))) st kn) (hG : G[i]? = some (.own Ts) := by rfl) : S1 tb X G st kn := fun B σ F H D hh ks => by
  obtain ⟨F', _, hh'⟩ := hh.freeze (T := lstT Ts) (.inl ⟨Ts, rfl, rfl⟩) hG
  exact h B σ F' H D hh' ks
/-- a slot's type is weakened -/
theorem ss_sub (i : Nat) {T U : Ty} (h : SS tb X (G.set i (.v U)) sts kn) (hs : Sub T U) (hG : G[i]? = some (.v T) := by rfl) : SS tb X G sts kn := fun B σ F H D hh ks => by
  obtain ⟨v, e, t⟩ := hh.val i T hG
  have hσ : σ.set i (some v) = σ := by
    apply List.ext_getElem?
    intro j
    by_cases hj : i = j
    · subst hj
      rw [List.getElem?_set_self (List.getElem?_eq_some_iff.mp e).1, e]
    · rw [List.getElem?_set_ne hj]
  have := hh.set i (T := U) (hs t)
  rw [hσ] at this
  exact h B σ F H D this ks
/-- for -/
theorem s_for (h : CxD X N sc k) {α : Type} {xs : List α} {T : α → Ty} {tg iter : Expr} {body : List Stmt} (hi : IT tb X G tg iter xs T) (Iv : Nat → List Slt → Prop) (h0 : Iv 0 G)
    (hs : ∀ (i : Nat) (x : α) (G1 : List Slt), xs[i]? = some x → Iv i G1 → ∃ is G2, TG' tb X tg (T x) is G1 G2 ∧ SS tb X G2 body ⟨Iv (i + 1), kn.rt, kn.nx, Iv (i + 1)⟩)
    (hd : ∀ G1, Iv xs.length G1 → kn.nx G1) (hfs : ∀ x, foldedSetIterable iter X.env x = pure x := by intro _; rfl) : S1 tb X G (.For tg iter body [] pos) kn := fun B σ F H D hh ks => by
  refine swp_of (ps_for h.po h.calm (pi_wp tg iter) (pg_wp tg) (pss_wp body) hfs) ?_
  refine hi B σ F H _ hh fun J F1 H1 x1 itd => ?_
  obtain ⟨Gd, Y, w, hG, hY⟩ := itd.ex
  refine for_it w (fun i σ2 H2 => ∃ G1 F2, Iv i G1 ∧ Has tb X.K G1 B F2 H2 σ2 ∧ Same F1 F2) ⟨G, F1, h0, hh.up x1, Same.refl _⟩ ?_ ?_ ?_
  · rintro i σ2 H2 hin ⟨G1, F2, a1, a2, a3⟩
    exact hG F2 H2 a3 a2.fz
  · rintro i v σ2 H2 H2' hin ⟨G1, F2, a1, a2, a3⟩ y
    obtain ⟨F3, z, x3, ez, tz⟩ := hY i F2 H2 v H2' hin a3 a2.fz y
    obtain ⟨is, G2, tg2, bd⟩ := hs i z G1 ez a1
    refine tg2 B σ2 F3 H2' v _ (a2.up x3) tz fun σ3 hs3 hl3 off3 => ?_
    have s13 : Same F1 F3 := Same.trans a3 x3.ff
    -- the frozen part behind the body still holds F1
    refine bd { F := F3, H := B.H } σ3 F3 H2' _ ?_ ?_
    · exact ⟨hs3.fz, hs3.len, hs3.val, hs3.own, hs3.ownD, hs3.dis, ⟨hs3.ext.hh, Same.refl _, fun a h1 h2 => h2, hs3.fz⟩, hs3.tab⟩
    · have conv : ∀ G4 F4 H4 σ4, Has tb X.K G4 { F := F3, H := B.H } F4 H4 σ4 → Has tb X.K G4 B F4 H4 σ4 := fun G4 F4 H4 σ4 q => ⟨q.fz, q.len, q.val, q.own, q.ownD, q.dis, ⟨q.ext.hh, Same.trans hs3.ext.ff q.ext.ff, fun a h1 h2 => q.ext.av a h1 (hs3.ext.av a h1 h2), q.fz⟩, q.tab⟩
      refine ⟨fun G4 F4 H4 σ4 q hq => ⟨G4, F4, q, conv _ _ _ _ hq, Same.trans s13 hq.ext.ff⟩, fun G4 F4 H4 σ4 q hq => ks.nx G4 F4 H4 σ4 q (conv _ _ _ _ hq), fun G4 F4 H4 σ4 q hq => ⟨G4, F4, q, conv _ _ _ _ hq, Same.trans s13 hq.ext.ff⟩, fun T v F4 H4 q xq t => ?_⟩
      exact ks.rt T v F4 H4 q ⟨xq.hh, Same.trans hs3.ext.ff xq.ff, fun a h1 h2 => xq.av a h1 (hs3.ext.av a h1 h2), xq.fz⟩ t
  · rintro σ2 H2 ⟨G1, F2, a1, a2, a3⟩
    exact ks.nx G1 F2 H2 σ2 (hd G1 a1) a2
/-- for over a list: the invariant by the part taken -/
theorem s_forL (h : CxD X N sc k) {α : Type} {xs : List α} {T : α → Ty} {tg iter : Expr} {body : List Stmt} (hi : IT tb X G tg iter xs T) (Iv : List α → List Slt → Prop) (h0 : Iv [] G)
    (hs : ∀ (pre : List α) (x : α) (post : List α) (G1 : List Slt), xs = pre ++ x :: post → Iv pre G1 → ∃ is G2, TG' tb X tg (T x) is G1 G2 ∧ SS tb X G2 body ⟨Iv (pre ++ [x]), kn.rt, kn.nx, Iv (pre ++ [x])⟩)
    (hd : ∀ G1, Iv xs G1 → kn.nx G1) (hfs : ∀ x, foldedSetIterable iter X.env x = pure x := by intro _; rfl) : S1 tb X G (.For tg iter body [] pos) kn := by
  refine s_for h hi (fun i G1 => Iv (xs.take i) G1) (by simpa using h0) (fun i x G1 ei a => ?_) (fun G1 a => hd G1 (by simpa using a)) hfs
  have e := (List.take_append_drop i xs).symm
  have hlt : i < xs.length := (List.getElem?_eq_some_iff.mp ei).1
  have e2 : xs.drop i = x :: xs.drop (i + 1) := by
    rw [List.drop_eq_getElem_cons hlt]
    congr 1
    exact Option.some.inj ((List.getElem?_eq_getElem hlt).symm.trans ei)
  have := hs (xs.take i) x (xs.drop (i + 1)) G1 (by rw [← e2]; exact e) a
  rw [take_succ_map ei]
  exact this
/-- for over a list, a state that is folded: the slots are a function of the state -/
theorem s_fold (h : CxD X N sc k) {α β : Type} {xs : List α} {T : α → Ty} {tg iter : Expr} {body : List Stmt} (hi : IT tb X G tg iter xs T) (Gs : β → List Slt → Prop) (f : β → α → β) (b0 : β) (h0 : Gs b0 G)
    (hs : ∀ (pre : List α) (x : α) (post : List α) (G1 : List Slt), xs = pre ++ x :: post → Gs (pre.foldl f b0) G1 → ∃ is G2, TG' tb X tg (T x) is G1 G2 ∧ SS tb X G2 body ⟨Gs (f (pre.foldl f b0) x), kn.rt, kn.nx, Gs (f (pre.foldl f b0) x)⟩)
    (hd : ∀ G1, Gs (xs.foldl f b0) G1 → kn.nx G1) (hfs : ∀ x, foldedSetIterable iter X.env x = pure x := by intro _; rfl) : S1 tb X G (.For tg iter body [] pos) kn :=
  s_forL h hi (fun pre G1 => Gs (pre.foldl f b0) G1) h0 (fun pre x post G1 e a => by
    have := hs pre x post G1 e a
    rw [List.foldl_append]
    exact this) hd hfs
/-- while -/
theorem s_while (h : CxD X N sc k) {c : Expr} {body : List Stmt} (Iv : Nat → List Slt → Prop) (h0 : ∃ m, Iv m G)
    (hs : ∀ m G1, Iv m G1 → ∃ b, EB tb X G1 c b ∧ (b = true → SS tb X G1 body ⟨fun G2 => ∃ m', m' < m ∧ Iv m' G2, kn.rt, kn.nx, fun G2 => ∃ m', m' < m ∧ Iv m' G2⟩) ∧ (b = false → kn.nx G1)) : S1 tb X G (.While c body [] pos) kn := fun B σ F H D hh ks => by
  refine swp_of (ps_while h.po (pt_wp c) (pss_wp body)) ?_
  obtain ⟨m0, i0⟩ := h0
  refine ⟨fun m σ H => ∃ G1 F2, Iv m G1 ∧ Has tb X.K G1 B F2 H σ, ⟨m0, G, F, i0, hh⟩, ?_⟩
  rintro m σ1 H1 ⟨G1, F1, a1, a2⟩
  obtain ⟨b, hc, ht, hf⟩ := hs m G1 a1
  refine hc B σ1 F1 H1 _ a2 fun F2 H2 x2 => ?_
  cases b with
  | false => exact iteF (ks.nx G1 F2 H2 σ1 (hf rfl) (a2.up x2))
  | true =>
    refine iteT ⟨fun σ' H' => ∃ m', m' < m ∧ ∃ G1 F2, Iv m' G1 ∧ Has tb X.K G1 B F2 H' σ', fun σ' H' q => q, ?_⟩
    refine ht rfl B σ1 F2 H2 _ (a2.up x2) ⟨?_, fun G4 F4 H4 σ4 q hq => ks.nx G4 F4 H4 σ4 q hq, ?_, ks.rt⟩
    · rintro G4 F4 H4 σ4 ⟨m', hm, q⟩ hq
      exact ⟨m', hm, G4, F4, q, hq⟩
    · rintro G4 F4 H4 σ4 ⟨m', hm, q⟩ hq
      exact ⟨m', hm, G4, F4, q, hq⟩
end

/-! ### defs -/
/-- what of the program stands around -/
structure Ev where
  P : Program
  w : World
  K : PySem.W.Frag
  mg : Str → Option Value
  base : Heap
abbrev evX (X : Cx) : Ev := ⟨X.prog, X.w, X.K, X.mg, X.base⟩
/-- the def x of the module -/
structure DefOk (ev : Ev) (tb : List Addr) (x : Str) (j : Nat) {α : Type} (A : α → List Ty) (pre : α → Prop) (R : α → Ty) : Prop where
  ex : ∃ (f : Addr) (fd : FuncData) (ps : List Str), ev.mg x = some (.ref f) ∧ PySem.W.keepIn ev.K (.ref f) = true ∧ Binds ev.K fd ps [] ∧ FnOk ev.P ev.w ev.K ev.mg ev.base CX0 j f fd ps (spF tb A pre R ev.K)
section
variable {tb : List Addr} {X : Cx} {G : List Slt} {N : List Str} {sc : Scope} {k : Nat} {pos : Pos}
theorem e_call (h : CxD X N sc k) {x : Str} {j : Nat} {α : Type} {A : α → List Ty} {pre : α → Prop} {R : α → Ty} (D : DefOk (evX X) tb x j A pre R) (a : α) {p : Pos} {e : Expr} {es : List Expr} {Ts : List Ty} (ha : EA tb X G (e :: es) Ts) (hp : pre a) (hT : Ts = A a) (hj : j ≤ k := by decide)
    (hg : sc.names.lookup x = some .globalImplicit := by rfl) (hdb : (x == ("__debug__" : Str)) = false := by decide) (he : NoStar e := by intro _ _; rfl) (hpl : (backTo pos (starEach es X.env)).any (·.1) = false := by rfl) : E tb X G (.Call (.Name x p) (e :: es) [] pos) (R a) := fun B σ F H Q hh q => by
  obtain ⟨f, fd, ps, hm, hk, hb, F0⟩ := D.ex
  refine ewp_of (pe_call F0 (h.room.mono hj) (h.gl hg) hm hk hb .nil pass0 (pa_wp _) hdb (he es X.env) hpl) (ha B σ F H _ hh fun vs F1 H1 x1 al => ?_)
  rw [List.append_nil]
  exact ⟨a, F1, hp, x1.fz, (hh.up x1).tab, hT ▸ al, fun v F2 H2 x2 t => q v F2 H2 (x1.trans x2) t⟩
end
theorem has_start {tb : List Addr} {K : PySem.W.Frag} {F H : Hp} {vs : List V} {Ts : List Ty} {n : Nat} (fz : Fz F H) (ht : ∀ P ∈ tb, GxR.TabG H P) (al : Al K F Ts vs) (hl : Ts.length ≤ n) {N : List Str} (hN : N.length = n) :
    Has tb K (Ts.map .v ++ List.replicate (n - Ts.length) .no) ⟨F, H⟩ F H (L2.start N vs) := by
  have hlen := al.length
  have get : ∀ (i : Nat) (s : Slt), s ≠ .no → (Ts.map Slt.v ++ List.replicate (n - Ts.length) Slt.no)[i]? = some s → ∃ T, Ts[i]? = some T ∧ s = .v T := fun i s hs e => by
    by_cases hi : i < Ts.length
    · rw [List.getElem?_append_left (by simpa using hi), List.getElem?_map] at e
      cases q : Ts[i]? with
      | none => rw [q] at e; cases e
      | some T => rw [q] at e; cases e; exact ⟨T, rfl, rfl⟩
    · rw [List.getElem?_append_right (by simpa using hi), List.getElem?_replicate] at e
      split at e
      · cases e; exact absurd rfl hs
      · cases e
  refine ⟨fz, ?_, fun i T e => ?_, fun i Ts' e => ?_, fun i Ts' e => ?_, fun i j a hi _ _ _ => ?_, Ext.refl fz, ht⟩
  · unfold L2.start
    simp [hN, hlen]
  · obtain ⟨U, e1, e2⟩ := get i _ (by intro z; cases z) e
    cases e2
    obtain ⟨v, ev, t⟩ := al.get e1
    refine ⟨v, ?_, t⟩
    unfold L2.start
    rw [List.getElem?_append_left (by simpa using (List.getElem?_eq_some_iff.mp ev).1), List.getElem?_map, ev]
    rfl
  · obtain ⟨U, _, e2⟩ := get i _ (by intro z; cases z) e
    cases e2
  · obtain ⟨U, _, e2⟩ := get i _ (by intro z; cases z) e
    cases e2
  · rcases hi with ⟨Ts', e⟩ | ⟨Ts', e⟩
    · obtain ⟨U, _, e2⟩ := get i _ (by intro z; cases z) e
      cases e2
    · obtain ⟨U, _, e2⟩ := get i _ (by intro z; cases z) e
      cases e2
/-- THE RULE for a def that changes nothing that stands -/
theorem fn_pure {P : Program} {w : World} {K : PySem.W.Frag} {mg : Str → Option Value} {base : Heap} {tb : List Addr} {x qual : Str} {st : Stmt} {f : Addr} {fd : FuncData} {N ps : List Str} {sc : Scope} {k : Nat} {α : Type} {A : α → List Ty} {pre : α → Prop} {R : α → Ty}
    (F : Fun K x qual st f fd) (S : FnScope N ps sc) (hsc : defScope st = sc) (hA : ∀ a, pre a → (A a).length = ps.length)
    (hb : ∀ X : Cx, evX X = ⟨P, w, K, mg, base⟩ → CxD X N sc k → (∀ x, X.fn x = true) → ∀ a, pre a → SS tb X ((A a).map .v ++ List.replicate (N.length - (A a).length) .no) (defBody st) ⟨fun _ => Sub noneT (R a), fun T => Sub T (R a), fun _ => False, fun _ => False⟩) :
    FnOk P w K mg base CX0 (k + 1) f fd ps (spF tb A pre R K) := by
  subst hsc
  refine F.ok S (fun vs H Q E ⟨a, F, hp, _, _, al, _⟩ => by rw [← al.length]; exact hA a hp) fun cdv A0 outer s H vs Q E hr hsp => ?_
  obtain ⟨a, F0, hp, fz, ht, al, q⟩ := hsp
  refine ⟨sswp _ _, pss_wp _, ?_⟩
  have hpl : ps.length ≤ N.length := by have := congrArg List.length S.pre; rw [List.length_take] at this; omega
  refine hb _ rfl ⟨rfl, S.nd, rfl, S.kind, rfl, hr, fun _ _ z => z⟩ (fun _ => rfl) a hp ⟨F0, H⟩ (L2.start N vs) F0 H _ (has_start fz ht al (by rw [hA a hp]; exact hpl) rfl) ⟨fun G F' H' σ h hs => q _ F' H' hs.ext (h rfl), fun _ _ _ _ h => h.elim, fun _ _ _ _ h => h.elim, fun T v F' H' h x t => q v F' H' x (h t)⟩
theorem defOk_of {ev : Ev} {tb : List Addr} {x : Str} {j : Nat} {α : Type} {A : α → List Ty} {pre : α → Prop} {R : α → Ty} {f : Addr} {fd : FuncData} {ps : List Str} (hm : ev.mg x = some (.ref f)) (hk : PySem.W.keepIn ev.K (.ref f) = true) (hb : Binds ev.K fd ps []) (h : FnOk ev.P ev.w ev.K ev.mg ev.base CX0 j f fd ps (spF tb A pre R ev.K)) :
    DefOk ev tb x j A pre R := ⟨f, fd, ps, hm, hk, hb, h⟩
end JL

set_option Elab.async false
set_option linter.all false
set_option maxRecDepth 100000
set_option maxHeartbeats 4000000
set_option autoImplicit false
/-! The text by places, fractions, what the top leaves. -/
namespace JL
open PySem PySem.Spec PyProof.Rows L2
def topS (i : Nat) : Stmt := PySem.Challenge.pw_joinline_k31_whole_neighbours.main.body.getD i (.Pass ⟨0, 0, 0, 0⟩)
def fracT (q : Rat) : Ty := tupT [intT q.num, intT (q.den : Int)]
/-- a pair of small numbers -/
def spT (p : Nat × Nat) : Ty := keyT [(p.1 : Int), (p.2 : Int)]
/-- bits of a fraction -/
def Bd (b : Nat) (q : Rat) : Prop := q.num.natAbs < 2 ^ b ∧ q.den < 2 ^ b
/-- two fractions that may be added, multiplied, compared -/
def Fit (q r : Rat) : Prop := ∃ a b, Bd a q ∧ Bd b r ∧ a + b ≤ 8990
theorem Bd.mono {a b : Nat} {q : Rat} (h : Bd a q) (hab : a ≤ b) : Bd b q := ⟨Nat.lt_of_lt_of_le h.1 (Nat.pow_le_pow_right (by decide) hab), Nat.lt_of_lt_of_le h.2 (Nat.pow_le_pow_right (by decide) hab)⟩
theorem Fit.mk {a b : Nat} {q r : Rat} (h : Bd a q) (h2 : Bd b r) (hab : a + b ≤ 8990) : Fit q r := ⟨a, b, h, h2, hab⟩
theorem Fit.symm {q r : Rat} (h : Fit q r) : Fit r q := let ⟨a, b, h1, h2, h3⟩ := h; ⟨b, a, h2, h1, by omega⟩
theorem natAbs_mul_lt {i j : Int} {a b : Nat} (hi : i.natAbs < 2 ^ a) (hj : j.natAbs < 2 ^ b) : (i * j).natAbs < 2 ^ (a + b) := by
  rw [Int.natAbs_mul, Nat.pow_add]
  exact Nat.mul_lt_mul'' hi hj
theorem mulW_of {i j : Int} {a b : Nat} (hi : i.natAbs < 2 ^ a) (hj : j.natAbs < 2 ^ b) (h : a + b ≤ 900000) : CMulW i j :=
  wide_mul (a := a + 1) (b := b + 1) (Nat.lt_of_lt_of_le hi (Nat.pow_le_pow_right (by decide) (Nat.le_succ _))) (Nat.lt_of_lt_of_le hj (Nat.pow_le_pow_right (by decide) (Nat.le_succ _))) (Nat.succ_pos _) (Nat.succ_pos _) (by omega)
theorem Fit.muls {q r : Rat} (h : Fit q r) : CMulW q.num (r.den : Int) ∧ CMulW r.num (q.den : Int) ∧ CMulW (q.den : Int) (r.den : Int) ∧ CMulW q.num r.num ∧ CMulW (q.den : Int) r.num := by
  obtain ⟨a, b, ⟨h1, h2⟩, ⟨h3, h4⟩, h5⟩ := h
  exact ⟨mulW_of h1 (by simpa using h4) (by omega), mulW_of h3 (by simpa using h2) (by omega), mulW_of (a := a) (b := b) (by simpa using h2) (by simpa using h4) (by omega), mulW_of h1 h3 (by omega), mulW_of (a := a) (b := b) (by simpa using h2) h3 (by omega)⟩
theorem Fit.dens {q r : Rat} (h : Fit q r) : (q.den : Int) * (r.den : Int) ≠ 0 ∧ ((q.den : Int) * (r.den : Int)).natAbs < 2 ^ 8990 := by
  obtain ⟨a, b, ⟨h1, h2⟩, ⟨h3, h4⟩, h5⟩ := h
  refine ⟨Int.mul_ne_zero (by have := q.den_nz; omega) (by have := r.den_nz; omega), ?_⟩
  exact Nat.lt_of_lt_of_le (natAbs_mul_lt (a := a) (b := b) (by simpa using h2) (by simpa using h4)) (Nat.pow_le_pow_right (by decide) h5)

/-- what the top leaves: names of the built-ins, constants -/
structure Tx (ev : Ev) : Prop where
  abs : ev.mg "abs" = none
  len : ev.mg "len" = none
  range : ev.mg "range" = none
  next : ev.mg "next" = none
  zip : ev.mg "zip" = none
  isinstance : ev.mg "isinstance" = none
  int : ev.mg "int" = none
  bool : ev.mg "bool" = none
  tuple : ev.mg "tuple" = none
  all : ev.mg "all" = none
  any : ev.mg "any" = none
  sum : ev.mg "sum" = none
  list : ev.mg "list" = none
  enumerate : ev.mg "enumerate" = none
  dict : ev.mg "dict" = none
  iter : ev.mg "iter" = none
  gNONE : GT ev.K ev.mg "NONE" (fracT 0)
  gONE : GT ev.K ev.mg "ONE" (fracT 1)
  gTENTHS : GT ev.K ev.mg "TENTHS" (intT 10)
  gAWAY : GT ev.K ev.mg "AWAY" (intT 0)
  gHERE : GT ev.K ev.mg "HERE" (intT 1)
  gTHERE : GT ev.K ev.mg "THERE" (intT 2)
  gMAX_PAIRS : GT ev.K ev.mg "MAX_PAIRS" (intT 12)
  gMAX_ROOM : GT ev.K ev.mg "MAX_ROOM" (intT 6)
  gMAX_COME : GT ev.K ev.mg "MAX_COME" (intT 9)
  gMAX_SERVE : GT ev.K ev.mg "MAX_SERVE" (intT 10)
  gMAX_COST : GT ev.K ev.mg "MAX_COST" (intT 9)
  gMAX_KINDS : GT ev.K ev.mg "MAX_KINDS" (intT 3)
  gMAX_PART : GT ev.K ev.mg "MAX_PART" (intT 6)
  gMAX_GAIN : GT ev.K ev.mg "MAX_GAIN" (intT 60)
/-- a body's end: it gives R -/
abbrev Gv (R : Ty) : Kn := ⟨fun _ => False, fun T => Sub T R, fun _ => False, fun _ => False⟩
theorem fracT_eq {q r : Rat} (h : q = r) : fracT q = fracT r := by rw [h]
end JL

set_option Elab.async false
set_option linter.all false
set_option maxRecDepth 100000
set_option maxHeartbeats 4000000
set_option autoImplicit false
/-! Numbers: lowest, plus, minus, times, over, is_less, total, and the law's own ones. -/
namespace JL
open PySem PySem.Spec PyProof.Rows L2

/-! ### lowest terms, plainly -/
theorem gcd_fdiv_num {a b : Int} {g : Nat} (hg : g = Nat.gcd a.natAbs b.natAbs) (hb : b ≠ 0) : ((if b < 0 then (-1 : Int) else 1) * a).fdiv g = (Rat.divInt a b).num := by
  rw [Rat.num_divInt]
  have e : (b.gcd a : Int) = (g : Int) := by rw [hg]; show ((Nat.gcd b.natAbs a.natAbs : Nat) : Int) = _; rw [Nat.gcd_comm]
  rw [e, Int.fdiv_eq_ediv_of_nonneg _ (by omega)]
  congr 1
  by_cases h : b < 0
  · rw [if_pos h, Int.sign_eq_neg_one_of_neg h]
  · rw [if_neg h, Int.sign_eq_one_of_pos (by omega)]
theorem gcd_fdiv_den {a b : Int} {g : Nat} (hg : g = Nat.gcd a.natAbs b.natAbs) (hb : b ≠ 0) : ((if b < 0 then (-1 : Int) else 1) * b).fdiv g = ((Rat.divInt a b).den : Int) := by
  rw [Rat.den_divInt, if_neg hb]
  have e : b.gcd a = g := by rw [hg]; show Nat.gcd b.natAbs a.natAbs = _; rw [Nat.gcd_comm]
  rw [e, Int.fdiv_eq_ediv_of_nonneg _ (by omega), Int.natCast_ediv]
  congr 1
  split <;> omega
theorem gcd_pos {a b : Int} {g : Nat} (hg : g = Nat.gcd a.natAbs b.natAbs) (hb : b ≠ 0) : 0 < g ∧ g ≤ b.natAbs := by
  have hb' : 0 < b.natAbs := by omega
  exact ⟨by rw [hg]; exact Nat.gcd_pos_of_pos_right _ hb', by rw [hg]; exact Nat.le_of_dvd hb' (Nat.gcd_dvd_right _ _)⟩
theorem log2_lt {n b : Nat} (hb : 0 < b) (h : n < 2 ^ b) : n.log2 < b := PySem.Flt.log2_lt_of hb h
theorem divA_nat {i : Int} {g : Nat} (h0 : 0 < g) (h : g < 2 ^ 8990) : CDivA i (g : Int) := ⟨by omega, Nat.lt_of_lt_of_le (log2_lt (b := 8990) (by decide) (by rw [Int.natAbs_natCast]; exact h)) (by decide)⟩
abbrev preLow (p : Int × Int) : Prop := p.2 ≠ 0 ∧ p.2.natAbs < 2 ^ 8990 ∧ p.1.natAbs < 2 ^ 20000
abbrev Ok_lowest (ev : Ev) (tb : List Addr) (x : Str := "lowest") : Prop := DefOk ev tb x 1 (fun p : Int × Int => [intT p.1, intT p.2]) preLow (fun p => fracT (Rat.divInt p.1 p.2))
abbrev sc9 : Scope := defScope (topS 9)
abbrev nm9 : List Str := ["top", "bottom", "one", "other", "sign"]
theorem fs9 : FnScope nm9 ["top", "bottom"] sc9 := ⟨rfl, rfl, rfl, by decide +kernel, rfl, by decide +kernel, by decide +kernel⟩
abbrev sc64 : Scope := defScope (topS 64)
abbrev nm64 : List Str := ["_law_top", "_law_bottom", "_law_one", "_law_other"]
theorem fs64 : FnScope nm64 ["_law_top", "_law_bottom"] sc64 := ⟨rfl, rfl, rfl, by decide +kernel, rfl, by decide +kernel, by decide +kernel⟩
section
variable {X : Cx} {tb : List Addr} {k : Nat} {G : List Slt} {N : List Str} {sc : Scope} {pos : Pos}
theorem b9 (h : CxD X nm9 sc9 k) (T : Tx (evX X)) (a b : Int) (hp : preLow (a, b)) : SS tb X [.v (intT a), .v (intT b), .no, .no, .no] (defBody (topS 9)) (Gv (fracT (Rat.divInt a b))) := by
  obtain ⟨h0, h1, h2⟩ := hp
  have h0 : b ≠ 0 := h0
  have h1 : b.natAbs < 2 ^ 8990 := h1
  have h2 : a.natAbs < 2 ^ 20000 := h2
  refine (ss_cons (s_par h 2 3 (es_v (e_abs h (e_var h 0) T.abs)) (es_v (e_abs h (e_var h 1) T.abs)) ?_))
  refine (ss_cons (s_while h (fun m G1 => ∃ x y : Nat, G1 = [.v (intT a), .v (intT b), .v (intT x), .v (intT y), .no] ∧ m = y ∧ Nat.gcd x y = Nat.gcd a.natAbs b.natAbs) ⟨_, _, _, rfl, rfl, rfl⟩ ?_))
  rintro m G1 ⟨x, y, rfl, rfl, hg⟩
  refine ⟨_, (eb_neI (e_var h 3) e_int), fun hb => ?_, fun hb => ?_⟩
  · have hy : 0 < m := by
      have := of_decide_eq_true hb
      omega
    refine (ss_one (s_par h 2 3 (es_v (e_var h 3)) (es_v (e_eq (e_mod (e_var h 2) (e_var h 3) (by omega)) (congrArg intT (Int.natCast_emod x m).symm))) ⟨x % m, Nat.mod_lt _ hy, m, x % m, rfl, rfl, ?_⟩))
    rw [← hg, Nat.gcd_comm x m, Nat.gcd_rec m x, Nat.gcd_comm]
  · have hy : m = 0 := by
      have := of_decide_eq_false hb
      omega
    subst hy
    have hgx : x = Nat.gcd a.natAbs b.natAbs := by rw [← hg, Nat.gcd_zero_right]
    obtain ⟨g0, g1⟩ := gcd_pos hgx h0
    have hx : x < 2 ^ 8990 := Nat.lt_of_le_of_lt g1 h1
    have hs : (if decide (b < 0) = true then (-1 : Int) else 1) = (if b < 0 then (-1 : Int) else 1) := by
      by_cases q : b < 0
      · rw [if_pos (decide_eq_true q), if_pos q]
      · rw [if_neg (by simp [q]), if_neg q]
    refine (ss_cons (s_set h 4 (es_v (e_eq (e_ifI (eb_lt (e_var h 1) e_int) (fun hc => (e_neg e_int)) (fun hc => e_int)) (congrArg intT hs)))
     (ss_one (s_ret (e_tup (ea_cons (e_fdiv (e_mul (e_var h 4) (e_var h 0) ?_) (e_var h 2) (divA_nat g0 hx)) (ea_cons (e_fdiv (e_mul (e_var h 4) (e_var h 1) ?_) (e_var h 2) (divA_nat g0 hx)) ea_nil))) ?_))))
    · refine mulW_of (a := 1) (b := 20000) ?_ h2 (by decide)
      split <;> decide
    · refine mulW_of (a := 1) (b := 8990) ?_ h1 (by decide)
      split <;> decide
    · refine Sub.of_eq ?_
      unfold fracT
      rw [gcd_fdiv_num hgx h0, gcd_fdiv_den hgx h0]
theorem gcd_fdiv_num' {a b : Int} {g : Nat} (hg : g = Nat.gcd a.natAbs b.natAbs) (hb : b ≠ 0) : a.fdiv (if b > 0 then (g : Int) else 0 - g) = (Rat.divInt a b).num := by
  rw [← gcd_fdiv_num hg hb]
  obtain ⟨g0, _⟩ := gcd_pos hg hb
  by_cases h : b < 0
  · rw [if_neg (by omega), if_pos h, Int.zero_sub, Int.neg_one_mul]
    have e : a.fdiv (-(g : Int)) = (-a).fdiv (g : Int) := by
      have := Int.neg_fdiv_neg (-a) (g : Int)
      rw [Int.neg_neg] at this
      exact this
    exact e
  · rw [if_pos (by omega), if_neg h, Int.one_mul]
theorem gcd_fdiv_den' {a b : Int} {g : Nat} (hg : g = Nat.gcd a.natAbs b.natAbs) (hb : b ≠ 0) : b.fdiv (if b > 0 then (g : Int) else 0 - g) = ((Rat.divInt a b).den : Int) := by
  rw [← gcd_fdiv_den hg hb]
  by_cases h : b < 0
  · rw [if_neg (by omega), if_pos h, Int.zero_sub, Int.neg_one_mul]
    have e : b.fdiv (-(g : Int)) = (-b).fdiv (g : Int) := by
      have := Int.neg_fdiv_neg (-b) (g : Int)
      rw [Int.neg_neg] at this
      exact this
    exact e
  · rw [if_pos (by omega), if_neg h, Int.one_mul]
theorem b64 (h : CxD X nm64 sc64 k) (T : Tx (evX X)) (a b : Int) (hp : preLow (a, b)) : SS tb X [.v (intT a), .v (intT b), .no, .no] (defBody (topS 64)) (Gv (fracT (Rat.divInt a b))) := by
  obtain ⟨h0, h1, h2⟩ := hp
  have h0 : b ≠ 0 := h0
  have h1 : b.natAbs < 2 ^ 8990 := h1
  have h2 : a.natAbs < 2 ^ 20000 := h2
  refine (ss_cons (s_par h 2 3 (es_v (e_abs h (e_var h 0) T.abs)) (es_v (e_abs h (e_var h 1) T.abs)) ?_))
  refine (ss_cons (s_while h (fun m G1 => ∃ x y : Nat, G1 = [.v (intT a), .v (intT b), .v (intT x), .v (intT y)] ∧ m = y ∧ Nat.gcd x y = Nat.gcd a.natAbs b.natAbs) ⟨_, _, _, rfl, rfl, rfl⟩ ?_))
  rintro m G1 ⟨x, y, rfl, rfl, hg⟩
  refine ⟨_, (eb_neI (e_var h 3) e_int), fun hb => ?_, fun hb => ?_⟩
  · have hy : 0 < m := by
      have := of_decide_eq_true hb
      omega
    refine (ss_one (s_par h 2 3 (es_v (e_var h 3)) (es_v (e_eq (e_mod (e_intI h (e_var h 2) T.int) (e_var h 3) (by omega)) (congrArg intT (Int.natCast_emod x m).symm))) ⟨x % m, Nat.mod_lt _ hy, m, x % m, rfl, rfl, ?_⟩))
    rw [← hg, Nat.gcd_comm x m, Nat.gcd_rec m x, Nat.gcd_comm]
  · have hy : m = 0 := by
      have := of_decide_eq_false hb
      omega
    subst hy
    have hgx : x = Nat.gcd a.natAbs b.natAbs := by rw [← hg, Nat.gcd_zero_right]
    obtain ⟨g0, g1⟩ := gcd_pos hgx h0
    have hx : x < 2 ^ 8990 := Nat.lt_of_le_of_lt g1 h1
    have hs : (if decide (0 < b) = true then (x : Int) else 0 - x) = (if b > 0 then (x : Int) else 0 - x) := by
      by_cases q : 0 < b
      · rw [if_pos (decide_eq_true q), if_pos q]
      · rw [if_neg (by simp [q]), if_neg q]
    have hd : ∀ i : Int, CDivA i (if b > 0 then (x : Int) else 0 - x) := fun i => by
      have := divA_nat (i := i) g0 hx
      split
      · exact this
      · refine ⟨by omega, ?_⟩
        have e : (0 - (x : Int)).natAbs = ((x : Int)).natAbs := by omega
        rw [e]
        exact this.2
    refine (ss_cons (s_set h 2 (es_v (e_eq (e_ifI (eb_gt (e_var h 1) e_int) (fun hc => (e_var h 2)) (fun hc => (e_subI e_int (e_var h 2)))) (congrArg intT hs)))
     (ss_one (s_ret (e_tup (ea_cons (e_fdiv (e_var h 0) (e_var h 2) (hd _)) (ea_cons (e_fdiv (e_var h 1) (e_var h 2) (hd _)) ea_nil))) ?_))))
    refine Sub.of_eq ?_
    unfold fracT
    rw [gcd_fdiv_num' hgx h0, gcd_fdiv_den' hgx h0]
theorem e_lowest {j : Nat} {x : Str} (h : CxD X N sc k) (D : Ok_lowest (evX X) tb x) {p : Pos} {e1 e2 : Expr} {a b : Int} (h1 : E tb X G e1 (intT a)) (h2 : E tb X G e2 (intT b)) (hp : preLow (a, b)) (hj : 1 ≤ k := by decide) (hg : sc.names.lookup x = some .globalImplicit := by rfl)
    (hdb : (x == ("__debug__" : Str)) = false := by decide) (he : NoStar e1 := by intro _ _; rfl) (he2 : NoStar e2 := by intro _ _; rfl) (hpl : (backTo pos (starEach [e2] X.env)).any (·.1) = false := by rfl) :
    E tb X G (.Call (.Name x p) [e1, e2] [] pos) (fracT (Rat.divInt a b)) := e_call h D (a, b) (ea_cons h1 (ea_cons h2 ea_nil he2) he) hp rfl hj hg hdb he hpl

/-! ### plus, minus, times, over, less -/
abbrev two (p : Rat × Rat) : List Ty := [fracT p.1, fracT p.2]
abbrev fit2 (p : Rat × Rat) : Prop := Fit p.1 p.2
abbrev Ok_plus (ev : Ev) (tb : List Addr) (x : Str := "plus") : Prop := DefOk ev tb x 2 two fit2 (fun p => fracT (p.1 + p.2))
abbrev Ok_minus (ev : Ev) (tb : List Addr) (x : Str := "minus") (j : Nat := 2) : Prop := DefOk ev tb x j two fit2 (fun p => fracT (p.1 - p.2))
abbrev Ok_times (ev : Ev) (tb : List Addr) (x : Str := "times") : Prop := DefOk ev tb x 2 two fit2 (fun p => fracT (p.1 * p.2))
abbrev Ok_over (ev : Ev) (tb : List Addr) (x : Str := "over") : Prop := DefOk ev tb x 2 two (fun p => Fit p.1 p.2 ∧ p.2 ≠ 0) (fun p => fracT (p.1 / p.2))
/-- two fractions that may be compared -/
def FitW (q r : Rat) : Prop := ∃ a b, Bd a q ∧ Bd b r ∧ a + b ≤ 100000
theorem FitW.mk {a b : Nat} {q r : Rat} (h : Bd a q) (h2 : Bd b r) (hab : a + b ≤ 100000) : FitW q r := ⟨a, b, h, h2, hab⟩
theorem FitW.muls {q r : Rat} (h : FitW q r) : CMulW q.num (r.den : Int) ∧ CMulW r.num (q.den : Int) := by
  obtain ⟨a, b, ⟨h1, h2⟩, ⟨h3, h4⟩, h5⟩ := h
  exact ⟨mulW_of h1 (by simpa using h4) (by omega), mulW_of h3 (by simpa using h2) (by omega)⟩
abbrev Ok_is_less (ev : Ev) (tb : List Addr) (x : Str := "is_less") : Prop := DefOk ev tb x 1 two (fun p => FitW p.1 p.2) (fun p => boolT (decide (p.1 < p.2)))
theorem nat_lt_pow {n a b : Nat} (h : n < 2 ^ a) (hab : a ≤ b) : n < 2 ^ b := Nat.lt_of_lt_of_le h (Nat.pow_le_pow_right (by decide) hab)
theorem natAbs_add_lt {i j : Int} {a : Nat} (hi : i.natAbs < 2 ^ a) (hj : j.natAbs < 2 ^ a) : (i + j).natAbs < 2 ^ (a + 1) := by
  have := Int.natAbs_add_le i j
  rw [Nat.pow_succ]
  omega
theorem natAbs_sub_lt {i j : Int} {a : Nat} (hi : i.natAbs < 2 ^ a) (hj : j.natAbs < 2 ^ a) : (i - j).natAbs < 2 ^ (a + 1) := by
  rw [Nat.pow_succ]
  omega
theorem Fit.low_plus {q r : Rat} (h : Fit q r) : preLow (q.num * r.den + r.num * q.den, q.den * r.den) := by
  have d := h.dens
  obtain ⟨a, b, ⟨h1, h2⟩, ⟨h3, h4⟩, h5⟩ := h
  have m1 : (q.num * (r.den : Int)).natAbs < 2 ^ (a + b) := natAbs_mul_lt h1 (by rw [Int.natAbs_natCast]; exact h4)
  have m2 : (r.num * (q.den : Int)).natAbs < 2 ^ (a + b) := by rw [Nat.add_comm a b]; exact natAbs_mul_lt h3 (by rw [Int.natAbs_natCast]; exact h2)
  exact ⟨d.1, d.2, nat_lt_pow (natAbs_add_lt m1 m2) (by omega)⟩
theorem Fit.low_minus {q r : Rat} (h : Fit q r) : preLow (q.num * r.den - r.num * q.den, q.den * r.den) := by
  have d := h.dens
  obtain ⟨a, b, ⟨h1, h2⟩, ⟨h3, h4⟩, h5⟩ := h
  have m1 : (q.num * (r.den : Int)).natAbs < 2 ^ (a + b) := natAbs_mul_lt h1 (by rw [Int.natAbs_natCast]; exact h4)
  have m2 : (r.num * (q.den : Int)).natAbs < 2 ^ (a + b) := by rw [Nat.add_comm a b]; exact natAbs_mul_lt h3 (by rw [Int.natAbs_natCast]; exact h2)
  exact ⟨d.1, d.2, nat_lt_pow (natAbs_sub_lt m1 m2) (by omega)⟩
theorem Fit.low_times {q r : Rat} (h : Fit q r) : preLow (q.num * r.num, q.den * r.den) := by
  have d := h.dens
  obtain ⟨a, b, ⟨h1, h2⟩, ⟨h3, h4⟩, h5⟩ := h
  exact ⟨d.1, d.2, nat_lt_pow (natAbs_mul_lt h1 h3) (by omega)⟩
theorem Fit.low_over {q r : Rat} (h : Fit q r) (hr : r ≠ 0) : preLow (q.num * r.den, q.den * r.num) := by
  obtain ⟨a, b, ⟨h1, h2⟩, ⟨h3, h4⟩, h5⟩ := h
  refine ⟨Int.mul_ne_zero (by have := q.den_nz; omega) (fun z => hr (Rat.num_eq_zero.mp z)), ?_, ?_⟩
  · exact nat_lt_pow (natAbs_mul_lt (a := a) (b := b) (by rw [Int.natAbs_natCast]; exact h2) h3) (by omega)
  · exact nat_lt_pow (natAbs_mul_lt h1 (by rw [Int.natAbs_natCast]; exact h4)) (by omega)
theorem plus_eq (q r : Rat) : Rat.divInt (q.num * r.den + r.num * q.den) (q.den * r.den) = q + r := by
  rw [Rat.add_def', ← Rat.divInt_ofNat, Int.natCast_mul]
theorem minus_eq (q r : Rat) : Rat.divInt (q.num * r.den - r.num * q.den) (q.den * r.den) = q - r := by
  rw [Rat.sub_def', ← Rat.divInt_ofNat, Int.natCast_mul]
theorem times_eq (q r : Rat) : Rat.divInt (q.num * r.num) (q.den * r.den) = q * r := by
  rw [Rat.mul_def', ← Rat.divInt_ofNat, Int.natCast_mul]
theorem over_eq (q r : Rat) : Rat.divInt (q.num * r.den) (q.den * r.num) = q / r := by
  have e1 : q = Rat.divInt q.num q.den := (Rat.num_divInt_den q).symm
  have e2 : r = Rat.divInt r.num r.den := (Rat.num_divInt_den r).symm
  have e3 : q / r = Rat.divInt q.num q.den * (Rat.divInt r.num r.den)⁻¹ := by rw [← e1, ← e2, Rat.div_def]
  rw [e3, Rat.inv_divInt, Rat.divInt_mul_divInt]
abbrev sc10 : Scope := defScope (topS 10)
abbrev nm2 : List Str := ["one", "other"]
theorem fs10 : FnScope nm2 ["one", "other"] sc10 := ⟨rfl, rfl, rfl, by decide +kernel, rfl, by decide +kernel, by decide +kernel⟩
abbrev sc11 : Scope := defScope (topS 11)
theorem fs11 : FnScope nm2 ["one", "other"] sc11 := ⟨rfl, rfl, rfl, by decide +kernel, rfl, by decide +kernel, by decide +kernel⟩
abbrev sc12 : Scope := defScope (topS 12)
theorem fs12 : FnScope nm2 ["one", "other"] sc12 := ⟨rfl, rfl, rfl, by decide +kernel, rfl, by decide +kernel, by decide +kernel⟩
abbrev sc13 : Scope := defScope (topS 13)
theorem fs13 : FnScope nm2 ["one", "other"] sc13 := ⟨rfl, rfl, rfl, by decide +kernel, rfl, by decide +kernel, by decide +kernel⟩
abbrev sc14 : Scope := defScope (topS 14)
theorem fs14 : FnScope nm2 ["one", "other"] sc14 := ⟨rfl, rfl, rfl, by decide +kernel, rfl, by decide +kernel, by decide +kernel⟩
abbrev nmL2 : List Str := ["_law_one", "_law_other"]
abbrev sc65 : Scope := defScope (topS 65)
theorem fs65 : FnScope nmL2 ["_law_one", "_law_other"] sc65 := ⟨rfl, rfl, rfl, by decide +kernel, rfl, by decide +kernel, by decide +kernel⟩
abbrev sc66 : Scope := defScope (topS 66)
theorem fs66 : FnScope nmL2 ["_law_one", "_law_other"] sc66 := ⟨rfl, rfl, rfl, by decide +kernel, rfl, by decide +kernel, by decide +kernel⟩
abbrev sc67 : Scope := defScope (topS 67)
theorem fs67 : FnScope nmL2 ["_law_one", "_law_other"] sc67 := ⟨rfl, rfl, rfl, by decide +kernel, rfl, by decide +kernel, by decide +kernel⟩
abbrev sc68 : Scope := defScope (topS 68)
theorem fs68 : FnScope nmL2 ["_law_one", "_law_other"] sc68 := ⟨rfl, rfl, rfl, by decide +kernel, rfl, by decide +kernel, by decide +kernel⟩
abbrev sc70 : Scope := defScope (topS 70)
theorem fs70 : FnScope nmL2 ["_law_one", "_law_other"] sc70 := ⟨rfl, rfl, rfl, by decide +kernel, rfl, by decide +kernel, by decide +kernel⟩
theorem b10 (h : CxD X nm2 sc10 k) (hk : 1 ≤ k) (D_lowest : Ok_lowest (evX X) tb) (q r : Rat) (hz : Fit q r) : SS tb X [.v (fracT q), .v (fracT r)] (defBody (topS 10)) (Gv (fracT (q + r))) :=
  (ss_one (s_ret (e_lowest (j := 1) h D_lowest (e_add (e_mul (e_ixT (e_var h 0) e_int rfl) (e_ixT (e_var h 1) e_int rfl) hz.muls.1) (e_mul (e_ixT (e_var h 1) e_int rfl) (e_ixT (e_var h 0) e_int rfl) hz.muls.2.1)) (e_mul (e_ixT (e_var h 0) e_int rfl) (e_ixT (e_var h 1) e_int rfl) hz.muls.2.2.1) hz.low_plus hk) (Sub.of_eq (fracT_eq (plus_eq q r)))))
theorem b11 (h : CxD X nm2 sc11 k) (hk : 1 ≤ k) (D_lowest : Ok_lowest (evX X) tb) (q r : Rat) (hz : Fit q r) : SS tb X [.v (fracT q), .v (fracT r)] (defBody (topS 11)) (Gv (fracT (q - r))) :=
  (ss_one (s_ret (e_lowest (j := 1) h D_lowest (e_subI (e_mul (e_ixT (e_var h 0) e_int rfl) (e_ixT (e_var h 1) e_int rfl) hz.muls.1) (e_mul (e_ixT (e_var h 1) e_int rfl) (e_ixT (e_var h 0) e_int rfl) hz.muls.2.1)) (e_mul (e_ixT (e_var h 0) e_int rfl) (e_ixT (e_var h 1) e_int rfl) hz.muls.2.2.1) hz.low_minus hk) (Sub.of_eq (fracT_eq (minus_eq q r)))))
theorem b12 (h : CxD X nm2 sc12 k) (hk : 1 ≤ k) (D_lowest : Ok_lowest (evX X) tb) (q r : Rat) (hz : Fit q r) : SS tb X [.v (fracT q), .v (fracT r)] (defBody (topS 12)) (Gv (fracT (q * r))) :=
  (ss_one (s_ret (e_lowest (j := 1) h D_lowest (e_mul (e_ixT (e_var h 0) e_int rfl) (e_ixT (e_var h 1) e_int rfl) hz.muls.2.2.2.1) (e_mul (e_ixT (e_var h 0) e_int rfl) (e_ixT (e_var h 1) e_int rfl) hz.muls.2.2.1) hz.low_times hk) (Sub.of_eq (fracT_eq (times_eq q r)))))
theorem b13 (h : CxD X nm2 sc13 k) (hk : 1 ≤ k) (D_lowest : Ok_lowest (evX X) tb) (q r : Rat) (hz : Fit q r) (hr : r ≠ 0) : SS tb X [.v (fracT q), .v (fracT r)] (defBody (topS 13)) (Gv (fracT (q / r))) :=
  (ss_one (s_ret (e_lowest (j := 1) h D_lowest (e_mul (e_ixT (e_var h 0) e_int rfl) (e_ixT (e_var h 1) e_int rfl) hz.muls.1) (e_mul (e_ixT (e_var h 0) e_int rfl) (e_ixT (e_var h 1) e_int rfl) hz.muls.2.2.2.2) (hz.low_over hr) hk) (Sub.of_eq (fracT_eq (over_eq q r)))))
theorem b14 (h : CxD X nm2 sc14 k) (q r : Rat) (hz : FitW q r) : SS tb X [.v (fracT q), .v (fracT r)] (defBody (topS 14)) (Gv (boolT (decide (q < r)))) :=
  (ss_one (s_ret (e_ltV (e_mul (e_ixT (e_var h 0) e_int rfl) (e_ixT (e_var h 1) e_int rfl) hz.muls.1) (e_mul (e_ixT (e_var h 1) e_int rfl) (e_ixT (e_var h 0) e_int rfl) hz.muls.2)) (Sub.of_eq (congrArg boolT (by rw [decide_eq_decide, Rat.lt_iff])))))
theorem b65 (h : CxD X nmL2 sc65 k) (hk : 1 ≤ k) (D_lowest : Ok_lowest (evX X) tb "_law_low") (q r : Rat) (hz : Fit q r) : SS tb X [.v (fracT q), .v (fracT r)] (defBody (topS 65)) (Gv (fracT (q + r))) :=
  (ss_one (s_ret (e_lowest (j := 1) h D_lowest (e_add (e_mul (e_ixT (e_var h 0) e_int rfl) (e_ixT (e_var h 1) e_int rfl) hz.muls.1) (e_mul (e_ixT (e_var h 1) e_int rfl) (e_ixT (e_var h 0) e_int rfl) hz.muls.2.1)) (e_mul (e_ixT (e_var h 0) e_int rfl) (e_ixT (e_var h 1) e_int rfl) hz.muls.2.2.1) hz.low_plus hk) (Sub.of_eq (fracT_eq (plus_eq q r)))))
theorem b66 (h : CxD X nmL2 sc66 k) (hk : 1 ≤ k) (D_lowest : Ok_lowest (evX X) tb "_law_low") (q r : Rat) (hz : Fit q r) : SS tb X [.v (fracT q), .v (fracT r)] (defBody (topS 66)) (Gv (fracT (q * r))) :=
  (ss_one (s_ret (e_lowest (j := 1) h D_lowest (e_mul (e_ixT (e_var h 0) e_int rfl) (e_ixT (e_var h 1) e_int rfl) hz.muls.2.2.2.1) (e_mul (e_ixT (e_var h 0) e_int rfl) (e_ixT (e_var h 1) e_int rfl) hz.muls.2.2.1) hz.low_times hk) (Sub.of_eq (fracT_eq (times_eq q r)))))
theorem b68 (h : CxD X nmL2 sc68 k) (q r : Rat) (hz : FitW q r) : SS tb X [.v (fracT q), .v (fracT r)] (defBody (topS 68)) (Gv (boolT (decide (q < r)))) :=
  (ss_one (s_ret (e_ltV (e_mul (e_ixT (e_var h 0) e_int rfl) (e_ixT (e_var h 1) e_int rfl) hz.muls.1) (e_mul (e_ixT (e_var h 1) e_int rfl) (e_ixT (e_var h 0) e_int rfl) hz.muls.2)) (Sub.of_eq (congrArg boolT (by rw [decide_eq_decide, Rat.lt_iff])))))
theorem b70 (h : CxD X nmL2 sc70 k) (hk : 1 ≤ k) (D_lowest : Ok_lowest (evX X) tb "_law_low") (q r : Rat) (hz : Fit q r) (hr : r ≠ 0) : SS tb X [.v (fracT q), .v (fracT r)] (defBody (topS 70)) (Gv (fracT (q / r))) :=
  (ss_one (s_ret (e_lowest (j := 1) h D_lowest (e_mul (e_ixT (e_var h 0) e_int rfl) (e_ixT (e_var h 1) e_int rfl) hz.muls.1) (e_mul (e_ixT (e_var h 0) e_int rfl) (e_ixT (e_var h 1) e_int rfl) hz.muls.2.2.2.2) (hz.low_over hr) hk) (Sub.of_eq (fracT_eq (over_eq q r)))))
/-- a call of one of these -/
theorem e_two {j : Nat} {x : Str} {pre : Rat × Rat → Prop} {R : Rat × Rat → Ty} (h : CxD X N sc k) (D : DefOk (evX X) tb x j two pre R) {p : Pos} {e1 e2 : Expr} {a b : Rat} (h1 : E tb X G e1 (fracT a)) (h2 : E tb X G e2 (fracT b)) (hp : pre (a, b)) (hj : j ≤ k := by first | assumption | omega) (hg : sc.names.lookup x = some .globalImplicit := by rfl)
    (hdb : (x == ("__debug__" : Str)) = false := by decide) (he : NoStar e1 := by intro _ _; rfl) (he2 : NoStar e2 := by intro _ _; rfl) (hpl : (backTo pos (starEach [e2] X.env)).any (·.1) = false := by rfl) :
    E tb X G (.Call (.Name x p) [e1, e2] [] pos) (R (a, b)) := e_call h D (a, b) (ea_cons h1 (ea_cons h2 ea_nil he2) he) hp rfl hj hg hdb he hpl
theorem Bd.neg {b : Nat} {q : Rat} (h : Bd b q) : Bd b (-q) := ⟨by rw [Rat.neg_num, Int.natAbs_neg]; exact h.1, h.2⟩
theorem b67 (h : CxD X nmL2 sc67 k) (hk : 2 ≤ k) (D_Lplus : Ok_plus (evX X) tb "_law_plus") (q r : Rat) (hz : Fit q r) : SS tb X [.v (fracT q), .v (fracT r)] (defBody (topS 67)) (Gv (fracT (q - r))) := by
  obtain ⟨a, b, h1, h2, h3⟩ := hz
  exact (ss_one (s_ret (e_two (b := -r) h D_Lplus (e_var h 0) (e_eq (e_tup (ea_cons (e_subI e_int (e_ixT (e_var h 1) e_int rfl)) (ea_cons (e_ixT (e_var h 1) e_int rfl) ea_nil))) (by unfold fracT; rw [Rat.neg_num, Rat.neg_den, Int.zero_sub])) (Fit.mk h1 h2.neg h3)) (Sub.of_eq (fracT_eq (Rat.sub_eq_add_neg q r).symm))))

/-! ### sums -/
def qsum (l : List Rat) : Rat := l.foldl (· + ·) 0
/-- all partial sums may be made -/
def FitL (l : List Rat) : Prop := ∀ pre x post, l = pre ++ x :: post → Fit (qsum pre) x
theorem qsum_snoc (l : List Rat) (x : Rat) : qsum (l ++ [x]) = qsum l + x := by unfold qsum; rw [List.foldl_append]; rfl
abbrev Ok_total (ev : Ev) (tb : List Addr) (x : Str := "total") : Prop := DefOk ev tb x 3 (fun l : List Rat => [lstT (l.map fracT)]) FitL (fun l => fracT (qsum l))
abbrev sc15 : Scope := defScope (topS 15)
abbrev nm15 : List Str := ["some", "found", "one"]
theorem fs15 : FnScope nm15 ["some"] sc15 := ⟨rfl, rfl, rfl, by decide +kernel, rfl, by decide +kernel, by decide +kernel⟩
abbrev sc69 : Scope := defScope (topS 69)
abbrev nm69 : List Str := ["_law_some", "_law_found", "_law_one"]
theorem fs69 : FnScope nm69 ["_law_some"] sc69 := ⟨rfl, rfl, rfl, by decide +kernel, rfl, by decide +kernel, by decide +kernel⟩
theorem b15 (h : CxD X nm15 sc15 k) (hk : 2 ≤ k) (T : Tx (evX X)) (D_plus : Ok_plus (evX X) tb) (l : List Rat) (hz : FitL l) : SS tb X [.v (lstT (l.map fracT)), .no, .no] (defBody (topS 15)) (Gv (fracT (qsum l))) := by
  refine (ss_cons (s_set h 1 (es_v (e_glob h T.gNONE))
    (ss_cons (s_forL h (it_list (e_var h 0)) (fun pre G1 => ∃ s, G1 = [.v (lstT (l.map fracT)), .v (fracT (qsum pre)), s]) ⟨_, rfl⟩ (fun pre x post G1 e iv => ?_) (fun G1 iv => ?_)))))
  · obtain ⟨s, rfl⟩ := iv
    exact ⟨_, _, (tg_name h 2), (ss_one (s_set h 1 (es_v (e_two h D_plus (e_var h 1) (e_var h 2) (hz pre x post e))) ⟨_, by rw [qsum_snoc]; rfl⟩))⟩
  · obtain ⟨s, rfl⟩ := iv
    exact (ss_one (s_ret (e_var h 1) Sub.rfl))
theorem b69 (h : CxD X nm69 sc69 k) (hk : 2 ≤ k) (T : Tx (evX X)) (D_Lplus : Ok_plus (evX X) tb "_law_plus") (l : List Rat) (hz : FitL l) : SS tb X [.v (lstT (l.map fracT)), .no, .no] (defBody (topS 69)) (Gv (fracT (qsum l))) := by
  refine (ss_cons (s_set h 1 (es_v (e_tup (ea_cons e_int (ea_cons e_int ea_nil))))
    (ss_cons (s_forL h (it_list (e_var h 0)) (fun pre G1 => ∃ s, G1 = [.v (lstT (l.map fracT)), .v (fracT (qsum pre)), s]) ⟨_, rfl⟩ (fun pre x post G1 e iv => ?_) (fun G1 iv => ?_)))))
  · obtain ⟨s, rfl⟩ := iv
    exact ⟨_, _, (tg_name h 2), (ss_one (s_set h 1 (es_v (e_two h D_Lplus (e_var h 1) (e_var h 2) (hz pre x post e))) ⟨_, by rw [qsum_snoc]; rfl⟩))⟩
  · obtain ⟨s, rfl⟩ := iv
    exact (ss_one (s_ret (e_var h 1) Sub.rfl))
theorem e_total {j : Nat} {x : Str} {R : List Rat → Ty} {pre : List Rat → Prop} (h : CxD X N sc k) (D : DefOk (evX X) tb x j (fun l : List Rat => [lstT (l.map fracT)]) pre R) {p : Pos} {e1 : Expr} {l : List Rat} (h1 : E tb X G e1 (lstT (l.map fracT))) (hp : pre l) (hj : j ≤ k := by first | assumption | omega) (hg : sc.names.lookup x = some .globalImplicit := by rfl)
    (hdb : (x == ("__debug__" : Str)) = false := by decide) (he : NoStar e1 := by intro _ _; rfl) (hpl : (backTo pos (starEach ([] : List Expr) X.env)).any (·.1) = false := by rfl) :
    E tb X G (.Call (.Name x p) [e1] [] pos) (R l) := e_call h D l (ea_cons h1 ea_nil he) hp rfl hj hg hdb he hpl
end
end JL

set_option Elab.async false
set_option linter.all false
set_option maxRecDepth 100000
set_option maxHeartbeats 4000000
set_option autoImplicit false
/-! Objects, dicts, equality, in, index, tuples times. -/
namespace JL
open PySem PySem.Spec PyProof.Rows L2

/-! ### slotted objects -/
/-- the method m of the class at C -/
structure MethOk (ev : Ev) (tb : List Addr) (C : Addr) (m : Str) (j : Nat) {α : Type} (A : α → List Ty) (pre : α → Prop) (R : α → Ty) : Prop where
  ex : ∃ (g : Addr) (fd : FuncData) (ps : List Str), Meth ev.K C m g ∧ Binds ev.K fd ps [] ∧ FnOk ev.P ev.w ev.K ev.mg ev.base CX0 j g fd ps (spF tb A pre R ev.K)
/-- a class with slots: its slots' names, in order -/
structure ClsOk (K : PySem.W.Frag) (C : Addr) (fs : List Str) : Prop where
  cl : SlX.SCls K C
  sl : ∀ (i : Nat) (f : Str), fs[i]? = some f → ∃ p, SlX.Slot1 K C f p i
section
variable {tb : List Addr} {X : Cx} {G : List Slt} {N : List Str} {sc : Scope} {k : Nat} {pos : Pos}
theorem slt_of {K : PySem.W.Frag} {F H : Hp} (fz : Fz F H) {C : Addr} {Ts : List Ty} {v : V} (t : (objT C Ts).p K F v) : ∃ a dx vs, v = .ref a ∧ SlX.Slt H a C dx (vs.map some) ∧ Al K F Ts vs := by
  obtain ⟨a, dx, vs, e, h1, h2, al⟩ := t
  exact ⟨a, dx, vs, e, .inr ⟨(fz _ _ h1).1, (fz _ _ h2).1⟩, al⟩
theorem e_fld (h : CxD X N sc k) {o : Expr} {f : Str} {C : Addr} {fs : List Str} {Ts : List Ty} {T : Ty} (i : Nat) (ho : E tb X G o (objT C Ts)) (c : ClsOk X.K C fs) (hf : fs[i]? = some f := by rfl) (hT : Ts[i]? = some T := by rfl)
    (hb : attributeBase o f X.env (eval o X.env) = eval o X.env := by rfl) : E tb X G (.Attribute o f pos) T := fun B σ F H Q hs q =>
  ewp_of (SlX.pe_sl (pe_wp o) hb) (ho B σ F H _ hs fun v F1 H1 x1 t => by
    obtain ⟨a, dx, vs, e, sl, al⟩ := slt_of x1.fz t
    obtain ⟨p, s1⟩ := c.sl i f hf
    obtain ⟨w, ew, tw⟩ := al.get hT
    exact ⟨a, C, dx, p, _, i, w, e, sl, c.cl, s1, by rw [List.getElem?_map, ew]; rfl, q w F1 H1 x1 tw⟩)
theorem e_meth (h : CxD X N sc k) {o e : Expr} {es : List Expr} {m : Str} {apos : Pos} {C : Addr} {fs : List Str} {Ts Us : List Ty} {j : Nat} {α : Type} {A : α → List Ty} {pre : α → Prop} {R : α → Ty} {pl : Sem Bool} (c : ClsOk X.K C fs) (D : MethOk (evX X) tb C m j A pre R) (a : α)
    (ho : E tb X G o (objT C Ts)) (ha : EA tb X G (e :: es) Us) (hp : pre a) (hT : objT C Ts :: Us = A a) (hj : j ≤ k := by first | assumption | omega) (hst : NoStar e := by intro _ _; rfl) (hpl : (backTo pos (starEach es X.env)).any (·.1) = false := by rfl)
    (ht : eval (.Call (.Attribute o m apos) (e :: es) [] pos) X.env = (do
      let ov ← eval o X.env
      standAt apos.atName
      let (f, first) ← holding [ov] (getMethod ov m pl)
      callWith pos f first (backTo pos (starEach (e :: es) X.env)) (backToKw pos (keywordEach [] X.env))) := by rfl) : E tb X G (.Call (.Attribute o m apos) (e :: es) [] pos) (R a) := fun B σ F H Q hh q => by
  obtain ⟨g, fd, ps, hm, hb, F0⟩ := D.ex
  refine ewp_of (SlX.pe_methSl (pe_wp o) c.cl hm (F0.raw hb .nil) (h.room.mono hj) pass0 (pa_wp _) (hst es X.env) hpl ht) (ho B σ F H _ hh fun v F1 H1 x1 t => ?_)
  obtain ⟨p, dx, vs, e, sl, al⟩ := slt_of x1.fz t
  refine ⟨p, dx, _, e, sl, ha B σ F1 H1 _ (hh.up x1) fun ws F2 H2 x2 al2 => ?_⟩
  show spF tb A pre R _ ((v :: ws) ++ []) H2 Q E0
  rw [List.append_nil]
  exact ⟨a, F2, hp, x2.fz, ((hh.up x1).up x2).tab, hT ▸ .cons ((objT C Ts).mono x2.ff t) al2, fun v F3 H3 x3 t3 => q v F3 H3 ((x1.trans x2).trans x3) t3⟩
theorem e_meth0 (h : CxD X N sc k) {o : Expr} {m : Str} {apos : Pos} {C : Addr} {fs : List Str} {Ts : List Ty} {j : Nat} {α : Type} {A : α → List Ty} {pre : α → Prop} {R : α → Ty} {pl : Sem Bool} (c : ClsOk X.K C fs) (D : MethOk (evX X) tb C m j A pre R) (a : α)
    (ho : E tb X G o (objT C Ts)) (hp : pre a) (hT : [objT C Ts] = A a) (hj : j ≤ k := by first | assumption | omega)
    (ht : eval (.Call (.Attribute o m apos) [] [] pos) X.env = (do
      let ov ← eval o X.env
      standAt apos.atName
      let (f, first) ← holding [ov] (getMethod ov m pl)
      callWith pos f first (backTo pos (starEach [] X.env)) (backToKw pos (keywordEach [] X.env))) := by rfl) : E tb X G (.Call (.Attribute o m apos) [] [] pos) (R a) := fun B σ F H Q hh q => by
  obtain ⟨g, fd, ps, hm, hb, F0⟩ := D.ex
  refine ewp_of (SlX.pe_methSl0 (pe_wp o) c.cl hm (F0.raw hb .nil) (h.room.mono hj) pass0 ht) (ho B σ F H _ hh fun v F1 H1 x1 t => ?_)
  obtain ⟨p, dx, vs, e, sl, al⟩ := slt_of x1.fz t
  refine ⟨p, dx, _, e, sl, ?_⟩
  show spF tb A pre R _ ([v] ++ []) H1 Q E0
  rw [List.append_nil]
  exact ⟨a, F1, hp, x1.fz, (hh.up x1).tab, hT ▸ .cons t .nil, fun v F3 H3 x3 t3 => q v F3 H3 (x1.trans x3) t3⟩
/-- an __init__ that stores its slots: the new instance at x, H0 the heap ahead of it -/
def spI {α : Type} (tb : List Addr) (C : Addr) (A : α → List Ty) (pre : α → Prop) (R : α → List Ty) (K : PySem.W.Frag) : Sp := fun vs H Q _ =>
  ∃ (a : α) (F H0 : Hp) (x dx : Addr) (ws : List V), vs = .ref x :: ws ∧ pre a ∧ Fz F H0 ∧ H0 x = none ∧ H0 dx = none ∧ dx ≠ x ∧ H = upd (upd H0 dx (.own x)) x (.ins C dx []) ∧ (∀ P ∈ tb, GxR.TabG H0 P) ∧ Al K F (A a) ws ∧
    ∀ F' H', Ext F H0 F' H' → (objT C (R a)).p K F' (.ref x) → Q .non H'
/-- the class x of the module, made by such an __init__ -/
structure MakeOk (ev : Ev) (tb : List Addr) (x : Str) (C : Addr) (j : Nat) {α : Type} (A : α → List Ty) (pre : α → Prop) (R : α → List Ty) : Prop where
  ex : ∃ (g : Addr) (fd : FuncData) (ps : List Str), ev.mg x = some (.ref C) ∧ Mk ev.K C g ∧ Binds ev.K fd ps [] ∧ FnOk ev.P ev.w ev.K ev.mg ev.base CX0 j g fd ps (spI tb C A pre R ev.K)
theorem e_make (h : CxD X N sc k) {x : Str} {C : Addr} {j : Nat} {α : Type} {A : α → List Ty} {pre : α → Prop} {R : α → List Ty} (D : MakeOk (evX X) tb x C j A pre R) (a : α) {p : Pos} {e : Expr} {es : List Expr} {Ts : List Ty} (ha : EA tb X G (e :: es) Ts) (hp : pre a) (hT : Ts = A a)
    (hj : j + 1 ≤ k := by first | assumption | omega) (hg : sc.names.lookup x = some .globalImplicit := by rfl) (hdb : (x == ("__debug__" : Str)) = false := by decide) (he : NoStar e := by intro _ _; rfl) (hpl : (backTo pos (starEach es X.env)).any (·.1) = false := by rfl) :
    E tb X G (.Call (.Name x p) (e :: es) [] pos) (objT C (R a)) := fun B σ F H Q hh q => by
  obtain ⟨g, fd, ps, hm, mk, hb, F0⟩ := D.ex
  refine ewp_of (pe_make mk F0 (h.room.mono hj) (h.gl hg) hm hb .nil pass0 (pa_wp _) hdb (he es X.env) hpl) (ha B σ F H _ hh fun vs F1 H1 x1 al => fun y dx hy hdx ne => ?_)
  rw [List.append_nil]
  exact ⟨a, F1, H1, y, dx, vs, rfl, hp, x1.fz, hy, hdx, ne, rfl, (hh.up x1).tab, hT ▸ al, fun F' H' x2 t => ⟨rfl, q _ F' H' (x1.trans x2) t⟩⟩
/-- len(o) by an own __len__ -/
theorem e_lenO (h : CxD X N sc k) {p : Pos} {o : Expr} {C : Addr} {fs : List Str} {Ts : List Ty} {j : Nat} {α : Type} {A : α → List Ty} {pre : α → Prop} {n : α → Nat} (c : ClsOk X.K C fs) (D : MethOk (evX X) tb C "__len__" j A pre (fun a => intT (n a))) (a : α) (ho : E tb X G o (objT C Ts)) (hp : pre a) (hT : [objT C Ts] = A a) (hn : n a < 2 ^ 63)
    (hm : X.mg "len" = none) (hj : j + 1 ≤ k := by first | assumption | omega) (hg : sc.names.lookup ("len" : Str) = some .globalImplicit := by rfl) (nst : NoStar o := by intro _ _; rfl) (hpl : (backTo pos (starEach ([] : List Expr) X.env)).any (·.1) = false := by rfl) : E tb X G (.Call (.Name "len" p) [o] [] pos) (intT (n a)) := fun B σ F H Q hh q => by
  obtain ⟨g, fd, ps, hme, hb, F0⟩ := D.ex
  have cr : CallR X (.builtin "len") (fun xs H Q => ∃ b dx vs, xs = [.ref b] ∧ SlX.Slt H b C dx vs ∧ spF tb A pre (fun a => intT (n a)) X.K [.ref b] H (fun v H' => (∃ i : Int, v = .int i ∧ 0 ≤ i ∧ i < 2 ^ 63 ∧ Q (.int i) H')) E0) := by
    intro pins s σ H xs us Q I r hx
    obtain ⟨b, dx, vs, rfl, sl, q⟩ := hx
    obtain ⟨u, rfl, ru⟩ := vals1 r
    obtain rfl : u = Value.ref b := ru
    obtain ⟨sl', od, rr, J, _⟩ := SlX.slt_inst I sl
    obtain ⟨m, hF⟩ := I.fr
    refine PySem.W.len_K hF I.ok.mod.kin J hme.at_ hme.fn (wpAny_call (codeAny_mono (F0.raw hb .nil X.A.in1 X.stack s H [.ref b] [.ref b] _ E0 (h.room.mono hj).in1 I.env0.in1 (.cons rfl .nil) (by show spF tb A pre _ X.K ([V.ref b] ++ []) H _ E0; rw [List.append_nil]; exact q)) fun r s' hq => ?_))
    cases r with
    | error e => exact hq.elim
    | ok fl =>
      cases fl with
      | ret u =>
        obtain ⟨v, H', I2, rv, i, ev, i0, i1, q2⟩ := I.after hq
        subst ev
        obtain ⟨t, rfl⟩ := rv
        exact ⟨⟨i0, i1⟩, .int i, H', I2.tok _, ⟨_, rfl⟩, q2⟩
      | next => exact hq.elim
      | brk => exact hq.elim
      | cont => exact hq.elim
  refine ewp_of (pe_callB cr (h.gl hg) hm PySem.boot_len (pa_cons (pe_wp o) pa_nil (nst [] X.env)) (by decide) (by decide) (nst [] X.env) hpl) (ho B σ F H _ hh fun v F1 H1 x1 t => ?_)
  obtain ⟨b, dx, vs, e, sl, al⟩ := slt_of x1.fz t
  subst e
  exact ⟨b, dx, _, rfl, sl, a, F1, hp, x1.fz, (hh.up x1).tab, hT ▸ .cons t .nil, fun v F2 H2 x2 tv => ⟨(n a : Int), tv, by omega, by omega, q _ F2 H2 (x1.trans x2) rfl⟩⟩

/-! ### equality of data -/
/-- T's values are the datum d -/
structure Dat (T : Ty) (d : PyData) : Prop where
  is : ∀ {K H v}, T.p K H v → Dp K H v d
inductive DatL : List Ty → List PyData → Prop
  | nil : DatL [] []
  | cons {T d Ts ds} : Dat T d → DatL Ts ds → DatL (T :: Ts) (d :: ds)
theorem dat_int (i : Int) : Dat (intT i) (.int i) := ⟨fun {_ _ v} h => by cases (show v = V.int i from h); exact .int i⟩
theorem dat_bool (b : Bool) : Dat (boolT b) (.bool b) := ⟨fun {_ _ v} h => by cases (show v = V.bl b from h); exact .bl b⟩
theorem dat_none : Dat noneT .none := ⟨fun {_ _ v} h => by cases (show v = V.non from h); exact .non⟩
theorem DatL.all {K : PySem.W.Frag} {H : Hp} : ∀ {Ts : List Ty} {ds : List PyData} {vs : List V}, DatL Ts ds → Al K H Ts vs → DpAll K H vs ds
  | _, _, _, .nil, .nil => .nil
  | _, _, _, .cons h t, .cons a b => .cons (h.is a) (DatL.all t b)
theorem dat_tup {Ts : List Ty} {ds : List PyData} (h : DatL Ts ds) : Dat (tupT Ts) (.tuple ds) := ⟨fun ⟨a, vs, e, s, al⟩ => by subst e; exact .tup s (h.all al)⟩
theorem dat_lst {Ts : List Ty} {ds : List PyData} (h : DatL Ts ds) : Dat (lstT Ts) (.list ds) := ⟨fun ⟨a, vs, e, s, al⟩ => by subst e; exact .lst s (h.all al)⟩
theorem datL_map {α : Type} {T : α → Ty} {d : α → PyData} (h : ∀ x, Dat (T x) (d x)) : ∀ xs : List α, DatL (xs.map T) (xs.map d)
  | [] => .nil
  | x :: xs => .cons (h x) (datL_map h xs)
theorem Dat.sub {T U : Ty} {d : PyData} (h : Dat T d) (s : Sub U T) : Dat U d := ⟨fun t => h.is (s t)⟩
mutual
theorem dp_up {K : PySem.W.Frag} {F H : Hp} (fz : Fz F H) : ∀ {v : V} {d : PyData}, Dp K F v d → Dp K H v d
  | _, _, .non => .non
  | _, _, .bl b => .bl b
  | _, _, .int i => .int i
  | _, _, .str x => .str x
  | _, _, .lst s a => .lst (al_seq fz s) (dp_upAll fz a)
  | _, _, .tup s a => .tup (al_sqt fz s) (dp_upAll fz a)
theorem dp_upAll {K : PySem.W.Frag} {F H : Hp} (fz : Fz F H) : ∀ {vs : List V} {ds : List PyData}, DpAll K F vs ds → DpAll K H vs ds
  | _, _, .nil => .nil
  | _, _, .cons a b => .cons (dp_up fz a) (dp_upAll fz b)
end
theorem rr_eqD {K : PySem.W.Frag} {T U : Ty} {d e : PyData} (h1 : Dat T d) (h2 : Dat U e) (s1 : SeqAt.shaped d = true) (s2 : SeqAt.shaped e = true) : RR2 K (rEqD K) T U (boolT (PyData.eqv d e)) := fun F H x y Q fz hx hy q =>
  ⟨d, e, dp_up fz (h1.is hx), dp_up fz (h2.is hy), s1, s2, q _ F H (Ext.refl fz) rfl⟩
theorem rr_neD {K : PySem.W.Frag} {T U : Ty} {d e : PyData} (h1 : Dat T d) (h2 : Dat U e) (s1 : SeqAt.shaped d = true) (s2 : SeqAt.shaped e = true) : RR2 K (rNeD K) T U (boolT (!PyData.eqv d e)) := fun F H x y Q fz hx hy q =>
  ⟨d, e, dp_up fz (h1.is hx), dp_up fz (h2.is hy), s1, s2, q _ F H (Ext.refl fz) rfl⟩
theorem eb_eqD (h : CxD X N sc k) {a b : Expr} {T U : Ty} {d e : PyData} (ha : E tb X G a T) (hb : E tb X G b U) (h1 : Dat T d) (h2 : Dat U e) (s1 : SeqAt.shaped d = true) (s2 : SeqAt.shaped e = true) : EB tb X G (.Compare a [.Eq] [b] pos) (PyData.eqv d e) := eb_cmp (op_eqD h.hu) (rr_eqD h1 h2 s1 s2) ha hb (nomark _)
theorem e_eqD (h : CxD X N sc k) {a b : Expr} {T U : Ty} {d e : PyData} (ha : E tb X G a T) (hb : E tb X G b U) (h1 : Dat T d) (h2 : Dat U e) (s1 : SeqAt.shaped d = true) (s2 : SeqAt.shaped e = true) : E tb X G (.Compare a [.Eq] [b] pos) (boolT (PyData.eqv d e)) := e_cmp (op_eqD h.hu) (rr_eqD h1 h2 s1 s2) ha hb (nomark _)
theorem eb_neD (h : CxD X N sc k) {a b : Expr} {T U : Ty} {d e : PyData} (ha : E tb X G a T) (hb : E tb X G b U) (h1 : Dat T d) (h2 : Dat U e) (s1 : SeqAt.shaped d = true) (s2 : SeqAt.shaped e = true) : EB tb X G (.Compare a [.NotEq] [b] pos) (!PyData.eqv d e) := eb_cmp (op_neD h.hu) (rr_neD h1 h2 s1 s2) ha hb (nomark _)

/-! ### in, index -/
theorem inV_ints (x : Int) : ∀ ns : List Int, inV (.int x) (ns.map V.int) = ns.contains x
  | [] => rfl
  | n :: ns => by
    have ih := inV_ints x ns
    unfold inV at ih ⊢
    rw [List.map_cons, List.any_cons, List.contains_cons, ih]
    congr 1
    show eqV (.int n) (.int x) = _
    show (n == x) = (x == n)
    exact Bool.beq_comm
theorem flat_ints : ∀ ns : List Int, (ns.map V.int).all flatV = true
  | [] => rfl
  | _ :: ns => by rw [List.map_cons, List.all_cons, flat_ints ns]; rfl
theorem e_inI (h : CxD X N sc k) {a b : Expr} {x : Int} {ns : List Int} (ha : E tb X G a (intT x)) (hb : E tb X G b (lstT (ns.map intT))) (hm : behindInMarks .In b = false := by rfl) : E tb X G (.Compare a [.In] [b] pos) (boolT (ns.contains x)) :=
  e_cmp op_in_seq (fun F H u v Q fz hu hv q => by
    cases (show u = V.int x from hu)
    obtain ⟨p, vs, rfl, s, al⟩ := hv
    rw [al_ints_eq al] at s
    refine ⟨p, _, rfl, .inl (al_seq fz s), rfl, flat_ints ns, q _ F H (Ext.refl fz) ?_⟩
    show V.bl _ = V.bl _
    rw [if_neg (by decide), inV_ints]) ha hb hm

/-! ### dicts with keys that are tuples of ints -/
def keyOf (ks : List Int) : List Key := ks.map Sum.inl
theorem keyOf_inj : ∀ {a b : List Int}, keyOf a = keyOf b → a = b
  | [], [], _ => rfl
  | [], _ :: _, e => by cases e
  | _ :: _, [], e => by cases e
  | x :: a, y :: b, e => by
    unfold keyOf at e
    rw [List.map_cons, List.map_cons] at e
    injection e with e1 e2
    cases e1
    rw [keyOf_inj (a := a) (b := b) e2]
theorem kV_ints : ∀ ks : List Int, (keyOf ks).map kV = ks.map V.int
  | [] => rfl
  | _ :: ks => by unfold keyOf; rw [List.map_cons, List.map_cons, List.map_cons]; exact congrArg (_ :: ·) (kV_ints ks)
/-- what the dict holds at a key -/
def dvAt {α : Type} (kvs : List (List Int × α)) (ks : List Int) : Option α := (kvs.find? fun p => decide (p.1 = ks)).map (·.2)
def dvPut {α : Type} (kvs : List (List Int × α)) (ks : List Int) (x : α) : List (List Int × α) := if (kvs.any fun p => decide (p.1 = ks)) = true then kvs.map fun p => if p.1 = ks then (p.1, x) else p else kvs ++ [(ks, x)]
theorem alD_at {K : PySem.W.Frag} {F : Hp} : ∀ {kvs : List (List Int × Ty)} {vs : List (List Key × V)} (ks : List Int), AlD K F kvs vs → (∀ T, dvAt kvs ks = some T → ∃ v, valV vs (keyOf ks) = some v ∧ T.p K F v) ∧ (dvAt kvs ks = none → valV vs (keyOf ks) = none)
  | [], _, ks, .nil => ⟨fun T e => (by cases e), fun _ => rfl⟩
  | (k, U) :: kvs, _, ks, .cons (b := b) h t => by
    obtain ⟨h1, h2⟩ := alD_at ks t
    have hb : b.1 = keyOf k := h.1
    by_cases e : k = ks
    · subst e
      refine ⟨fun T q => ⟨b.2, valV_pos hb, ?_⟩, fun q => ?_⟩
      · have : dvAt ((k, U) :: kvs) k = some U := by unfold dvAt; simp
        rw [this] at q; cases q; exact h.2
      · have : dvAt ((k, U) :: kvs) k = some U := by unfold dvAt; simp
        rw [this] at q; cases q
    · have e1 : dvAt ((k, U) :: kvs) ks = dvAt kvs ks := by unfold dvAt; simp [e]
      have e2 : ¬ b.1 = keyOf ks := fun z => e (keyOf_inj (hb.symm.trans z))
      rw [e1, valV_neg e2]
      exact ⟨h1, h2⟩
theorem alD_any {K : PySem.W.Frag} {F : Hp} : ∀ {kvs : List (List Int × Ty)} {vs : List (List Key × V)} (ks : List Int), AlD K F kvs vs → (vs.any fun p => decide (p.1 = keyOf ks)) = (kvs.any fun p => decide (p.1 = ks))
  | [], _, ks, .nil => rfl
  | (k, U) :: kvs, _, ks, .cons (b := b) h t => by
    rw [List.any_cons, List.any_cons, alD_any ks t]
    congr 1
    have hb : b.1 = keyOf k := h.1
    rw [decide_eq_decide, hb]
    exact ⟨fun z => keyOf_inj z, fun z => congrArg keyOf z⟩
theorem alD_map {K : PySem.W.Frag} {F : Hp} {T : Ty} {v : V} (tv : T.p K F v) : ∀ {kvs : List (List Int × Ty)} {vs : List (List Key × V)} (ks : List Int), AlD K F kvs vs → AlD K F (kvs.map fun p => if p.1 = ks then (p.1, T) else p) (vs.map fun p => if p.1 = keyOf ks then (p.1, v) else p)
  | [], _, ks, .nil => .nil
  | (k, U) :: kvs, _, ks, .cons (b := b) h t => by
    have hb : b.1 = keyOf k := h.1
    refine .cons ?_ (alD_map tv ks t)
    show (if b.1 = keyOf ks then (b.1, v) else b).1 = List.map Sum.inl (if k = ks then (k, T) else (k, U)).1 ∧ (if k = ks then (k, T) else (k, U)).2.p K F (if b.1 = keyOf ks then (b.1, v) else b).2
    by_cases e : k = ks
    · rw [if_pos e, if_pos (by rw [hb, e])]
      exact ⟨hb, tv⟩
    · rw [if_neg e, if_neg (fun z => e (keyOf_inj (hb.symm.trans z)))]
      exact h
theorem alD_append {K : PySem.W.Frag} {F : Hp} : ∀ {a b : List (List Int × Ty)} {vs ws : List (List Key × V)}, AlD K F a vs → AlD K F b ws → AlD K F (a ++ b) (vs ++ ws)
  | _, _, _, _, .nil, s => s
  | _, _, _, _, .cons r t, s => .cons r (alD_append t s)
theorem alD_put {K : PySem.W.Frag} {F : Hp} {T : Ty} {v : V} (tv : T.p K F v) {kvs : List (List Int × Ty)} {vs : List (List Key × V)} (ks : List Int) (al : AlD K F kvs vs) : AlD K F (dvPut kvs ks T) (putK vs (keyOf ks) v) := by
  unfold dvPut putK
  rw [alD_any ks al]
  split
  · exact alD_map tv ks al
  · exact alD_append al (.cons ⟨rfl, tv⟩ .nil)
theorem alD_length {K : PySem.W.Frag} {F : Hp} {kvs : List (List Int × Ty)} {vs : List (List Key × V)} (al : AlD K F kvs vs) : kvs.length = vs.length := Paired.length al
/-- d[key] -/
theorem e_dget (h : CxD X N sc k) {o i : Expr} {kvs : List (List Int × Ty)} {ks : List Int} {T : Ty} (ho : E tb X G o (dctT kvs)) (hi : E tb X G i (keyT ks)) (hT : dvAt kvs ks = some T) (hs : NoSl i := by intro _ _; rfl) : E tb X G (.Subscript o i pos) T := fun B σ F H Q hh q =>
  ewp_of (pe_dget h.hu1 (pe_wp o) (pe_wp i) hs) (e2 ho hi hh fun x y F1 H1 x1 t u => by
    obtain ⟨a, vs, rfl, hd, al⟩ := t
    obtain ⟨b, rfl, hk⟩ := u
    obtain ⟨v, ev, tv⟩ := (alD_at ks al).1 T hT
    refine ⟨a, v, rfl, ?_, q v F1 H1 x1 tv⟩
    have := DGet.t (k := keyOf ks) (x1.fz _ _ hd).1 (by rw [kV_ints]; exact (x1.fz _ _ hk).1)
    rw [ev] at this
    exact this)
/-- d[key] of an own dict -/
theorem e_dgetOwn (h : CxD X N sc k) (n : Nat) {x : Str} {p0 : Pos} {i : Expr} {kvs : List (List Int × Ty)} {ks : List Int} {T : Ty} (hi : E tb X G i (keyT ks)) (hT : dvAt kvs ks = some T) (hG : G[n]? = some (.ownD kvs) := by rfl) (hN : N[n]? = some x := by rfl) (hv : visB sc x = true := by rfl) (hs : NoSl i := by intro _ _; rfl)
    (hd : (x == ("__debug__" : Str)) = false := by decide) (hcd : (x == ("__classdict__" : Str)) = false := by decide) : E tb X G (.Subscript (.Name x p0) i pos) T := fun B σ F H Q hh q => by
  have hv2 : Vis X.env.scope x := by rw [h.hsc]; exact visB.of hv
  refine ewp_of (pe_dget h.hu1 (pe_var (i := n) (by rw [h.hN]; exact hN) hv2 hd hcd) (pe_wp i) hs) ?_
  obtain ⟨a, vs, q1, q2, q3, q4, q5⟩ := hh.ownD n kvs hG
  refine ⟨.ref a, q1, hi B σ F H _ hh fun y F1 H1 x1 u => ?_⟩
  obtain ⟨a', vs', r1, r2, r3, r4, r5⟩ := (hh.up x1).ownD n kvs hG
  rw [q1] at r1
  cases r1
  obtain ⟨b, rfl, hk⟩ := u
  obtain ⟨v, ev, tv⟩ := (alD_at ks r5).1 T hT
  refine ⟨a, v, rfl, ?_, q v F1 H1 x1 tv⟩
  have := DGet.t (k := keyOf ks) r4 (by rw [kV_ints]; exact (x1.fz _ _ hk).1)
  rw [ev] at this
  exact this
/-- d[key] = e of an own dict -/
theorem s_dput (h : CxD X N sc k) (n : Nat) {x : Str} {p0 pt : Pos} {i e : Expr} {kn : Kn} {kvs : List (List Int × Ty)} {ks : List Int} {T : Ty} (he : E tb X G e T) (hi : E tb X G i (keyT ks)) (hz : kvs.length < sizeLine) (hn : kn.nx (G.set n (.ownD (dvPut kvs ks T)))) (hG : G[n]? = some (.ownD kvs) := by rfl) (hN : N[n]? = some x := by rfl) (hv : visB sc x = true := by rfl)
    (hd : (x == ("__debug__" : Str)) = false := by decide) (hcd : (x == ("__classdict__" : Str)) = false := by decide) (hs : swapsWith e (some (.Subscript (.Name x p0) i pt)) pos.line X.env = pure false := by rfl) :
    S1 tb X G (.Assign [.Subscript (.Name x p0) i pt] e pos) kn := fun B σ F H D hh ks' => by
  have hv2 : Vis X.env.scope x := by rw [h.hsc]; exact visB.of hv
  refine swp_of (ps_dput h.hu1 (pe_var (i := n) (by rw [h.hN]; exact hN) hv2 hd hcd) (pe_wp i) (pe_wp e) hs) ?_
  refine he B σ F H _ hh fun v F1 H1 x1 t => ?_
  obtain ⟨a, vs, q1, q2, q3, q4, q5⟩ := (hh.up x1).ownD n kvs hG
  refine ⟨.ref a, q1, hi B σ F1 H1 _ (hh.up x1) fun y F2 H2 x2 u => ?_⟩
  have hh' := (hh.up x1).up x2
  obtain ⟨a', vs', r1, r2, r3, r4, r5⟩ := hh'.ownD n kvs hG
  rw [q1] at r1
  cases r1
  obtain ⟨b, rfl, hk⟩ := u
  refine ⟨a, _, rfl, DPut.t (k := keyOf ks) r4 (by rw [kV_ints]; exact (x2.fz _ _ hk).1) (by rw [← alD_length r5]; exact hz), ks'.nx _ F2 _ σ hn (hh'.mutOwn (.inr ⟨kvs, hG⟩) q1 (.inr ⟨_, _, rfl, rfl, alD_put (T.mono x2.ff t) ks r5⟩))⟩
end
end JL

set_option Elab.async false
set_option linter.all false
set_option maxRecDepth 100000
set_option maxHeartbeats 4000000
set_option autoImplicit false
/-! tuple * int, tuple.index, in. -/
namespace JL
open PySem PySem.Spec PyProof.Rows L2
theorem tuple_mul1 (l : Addr) (items : Array Value) (n : Nat) (dd : Option Addr) (sl : Array (Option Value)) (u : Tok) :
    Meets (Builtin.«tuple.__mul__» ⟨[.ref l, .int 1 u], []⟩) (fun _ R s => s.heap.get? l = some { cls := .type "tuple", dict := dd, data := .seq items n, slots := sl } ∧
      R (.ok (.ret (Value.ref l))) s) :=
  .of_wp fun prog w A R s h => by
    obtain ⟨hp, g, d, tk, os⟩ := s
    obtain ⟨hl, h⟩ := h
    have f1 := AutoSeq1.idx_int
    wp_walk using wpAny_loadPart' hl
    repeat (first
      | (refine wpAny_ite_false (by decide) ?_; wp_walk using wpAny_loadPart' hl)
      | (refine wpAny_ite_true (by simp) ?_; wp_walk using wpAny_loadPart' hl))
    exact ⟨_, rfl, h⟩
section
variable {X : Cx}
/-- t * 1: t itself -/
def rRep1 (K : PySem.W.Frag) : R2 := fun x y H Q => ∃ l xs, x = .ref l ∧ y = .int 1 ∧ SqT K H l xs ∧ Q (.ref l) H
theorem op_rep1 : OpR X (binaryOp .Mult) (rRep1 X.K) := by
  intro pins s σ H x y v u Q I rx ry h
  obtain ⟨l, xs, rfl, rfl, hT, q⟩ := h
  cases rx
  obtain ⟨t, rfl⟩ := ry
  obtain ⟨its, r, ⟨⟨cls, dd, data, sl⟩, ho, hc, n, hd⟩, hs⟩ := I.tuple hT
  simp only at hc hd
  subst hc hd
  refine wpAny_binaryOp_repeat_ref (T := "tuple") (U := "int") (by decide) ⟨_, ho, rfl⟩ (fun s' => typeIs_int s' 1 t) noFill_tuple_mul F.fills_int_mul F.slot_int_rmul repeat_tuple F.slot_int_index.lookup
    (call_meets F.slot_int_rmul (typeIs_int s 1 t) F.entry_int_rmul (F.args_int_rmul_2 _ _) (int_rmul_tuple 1 t l its.toArray n dd sl)
      ⟨ho, rfl, ⟨_, ho, rfl⟩, call_meets F.slot_tuple_mul ⟨_, ho, rfl⟩ F.entry_tuple_mul (F.args_tuple_mul_2 _ _) (tuple_mul1 l its.toArray n dd sl t) ⟨ho, ?_⟩⟩)
  exact ⟨.ref l, H, I, rfl, q⟩
variable {tb : List Addr} {G : List Slt} {N : List Str} {sc : Scope} {k : Nat} {pos : Pos}
/-- t * n -/
theorem e_repT {a b : Expr} {Ts : List Ty} {n : Nat} (ha : E tb X G a (tupT Ts)) (hb : E tb X G b (intT (n : Int))) (h0 : Ts ≠ []) (h1 : Ts.length ≤ 1000) (h2 : 1 ≤ n) (h3 : n ≤ 1000) : E tb X G (.BinOp a .Mult b pos) (tupT (List.replicate n Ts).flatten) :=
  e_op (OpR.or op_rep1 op_repT) (fun F H x y Q fz hx hy q => by
    obtain ⟨p, vs, rfl, s, al⟩ := hx
    cases (show y = V.int n from hy)
    by_cases e : n = 1
    · subst e
      refine .inl ⟨p, vs, rfl, rfl, al_sqt fz s, q _ F H (Ext.refl fz) ⟨p, vs, rfl, s, ?_⟩⟩
      simpa using al
    · refine .inr ⟨p, (n : Int), vs, rfl, rfl, al_sqt fz s, ?_, by omega, by omega, by rw [← al.length]; exact h1, fun l hl => ?_⟩
      · intro z
        subst z
        cases al
        exact h0 rfl
      · have x4 := Ext.new fz hl (o := .tup (List.replicate n vs).flatten) fun _ z => nomatch z
        exact q _ _ _ x4 ⟨l, _, rfl, SqT.of upd_same, (al_rep al n).up x4.ff⟩) ha hb
/-! ### xs.index(x), x in xs, of pairs of ints -/
def kD (ks : List Int) : PyData := .tuple (ks.map PyData.int)
theorem dat_key (ks : List Int) : Dat (keyT ks) (kD ks) := Dat.sub (dat_tup (datL_map dat_int ks)) key_tup
def pD (p : Nat × Nat) : PyData := .tuple [.int p.1, .int p.2]
theorem dat_sp (p : Nat × Nat) : Dat (spT p) (pD p) := dat_key [(p.1 : Int), (p.2 : Int)]
theorem pD_lay (z : Nat × Nat) : (pD z).canLay0 = true := by simp [pD, PyData.canLay0, PyData.canLayAll0]
theorem pD_depth (z : Nat × Nat) : (pD z).depth ≤ 1 := by simp [pD, PyData.depth, PyData.depthAll]
theorem pDs_lay : ∀ zs : List (Nat × Nat), PyData.canLayAll0 (zs.map pD) = true
  | [] => by simp [PyData.canLayAll0]
  | z :: zs => by simp [PyData.canLayAll0, pD_lay z, pDs_lay zs]
theorem pDs_depth : ∀ zs : List (Nat × Nat), PyData.depthAll (zs.map pD) ≤ 2
  | [] => by simp [PyData.depthAll]
  | z :: zs => by
    have h1 := pDs_depth zs
    have h2 := pD_depth z
    simp only [List.map_cons, PyData.depthAll]
    omega
theorem pD_shaped (z : Nat × Nat) : SeqAt.shaped (pD z) = true := by
  have h := pD_depth z
  show ((pD z).canLay0 && decide ((pD z).depth ≤ 64)) = true
  rw [Bool.and_eq_true]
  exact ⟨pD_lay z, decide_eq_true (by omega)⟩
theorem pDs_shaped (zs : List (Nat × Nat)) : SeqAt.shaped (.list (zs.map pD)) = true := by
  have h1 := pDs_depth zs
  have h2 : PyData.depth (.list (zs.map pD)) ≤ 64 := by
    simp only [PyData.depth]
    omega
  show (PyData.canLay0 (.list (zs.map pD)) && decide (PyData.depth (.list (zs.map pD)) ≤ 64)) = true
  rw [Bool.and_eq_true]
  exact ⟨by simp only [PyData.canLay0]; exact pDs_lay zs, decide_eq_true h2⟩
theorem pD_eqv (z w : Nat × Nat) : PyData.eqv (pD z) (pD w) = decide (z = w) := by
  obtain ⟨a, b⟩ := z
  obtain ⟨a', b'⟩ := w
  have e : PyData.eqv (pD (a, b)) (pD (a', b')) = (((a : Int) == (a' : Int)) && (((b : Int) == (b' : Int)) && true)) := by simp only [pD, PyData.eqv, PyData.eqvAll]
  rw [e, Bool.eq_iff_iff]
  simp
  omega
/-- xs.index(x) of spots -/
theorem e_index (h : CxD X N sc k) {o e : Expr} {apos cpos : Pos} {ps : List (Nat × Nat)} {p : Nat × Nat} {j : Nat} (ho : E tb X G o (lstT (ps.map spT))) (he : E tb X G e (spT p)) (hj : ps[j]? = some p) (hn : ∀ m, m < j → ps[m]? ≠ some p) (hns : NoStar e := by intro _ _; rfl)
    (hbase : attributeBase o "index" X.env (eval o X.env) = eval o X.env := by rfl)
    (hfew : ((backTo cpos (starEach [e] X.env)).all (fun x => !x.1) && (backToKw cpos (keywordEach [] X.env)).all (fun x => x.1.isSome) && decide ([e].length + ([] : List Keyword).length + (if ([] : List Keyword).isEmpty then 0 else 1) < 30)) = true := by rfl)
    (hline : (apos.endLine == cpos.line) = true := by rfl) : E tb X G (.Call (.Attribute o "index" apos) [e] [] cpos) (intT (j : Nat)) := fun B σ F H Q hh q => by
  have hu : X.A.units + 65 < cLine := by have := h.room.un; omega
  refine ewp_of (pe_bm PySem.F.plainAttrs_list PySem.F.slot_list_index PySem.F.type_list_index (mt_indexD hu) (pe_wp o) (pa_cons (pe_wp e) pa_nil (hns [] X.env)) hbase hfew hline (hns [] X.env) (by rfl)) ?_
  refine ho B σ F H _ hh fun x F1 H1 x1 t => ?_
  obtain ⟨a, vs, rfl, s, al⟩ := t
  refine ⟨.inl ⟨rfl, vs, al_seq x1.fz s⟩, he B σ F1 H1 _ (hh.up x1) fun y F2 H2 x2 ty => ?_⟩
  have tl : (lstT (ps.map spT)).p X.K F2 (.ref a) := (lstT (ps.map spT)).mono x2.ff ⟨a, vs, rfl, s, al⟩
  refine ⟨a, y, pD p, ps.map pD, j, pD p, rfl, rfl, dp_up x2.fz ((dat_lst (datL_map dat_sp ps)).is tl), dp_up x2.fz ((dat_sp p).is ty), pDs_shaped ps, pD_shaped p, by rw [List.getElem?_map, hj]; rfl, by rw [pD_eqv]; simp, fun m z' hm hz => ?_, q _ F2 H2 (x1.trans x2) rfl⟩
  rw [List.getElem?_map] at hz
  cases e2 : ps[m]? with
  | none => rw [e2] at hz; cases hz
  | some p' =>
    rw [e2] at hz
    cases hz
    rw [pD_eqv]
    exact decide_eq_false fun z => hn m hm (by rw [e2, z])
/-! ### d.get(key, x) -/
theorem e_dgetD (h : CxD X N sc k) {o i e : Expr} {apos cpos : Pos} {kvs : List (List Int × Ty)} {ks : List Int} {T T0 : Ty} (ho : E tb X G o (dctT kvs)) (hi : E tb X G i (keyT ks)) (he : E tb X G e T0) (hT : ∀ U, dvAt kvs ks = some U → Sub U T) (h0 : dvAt kvs ks = none → Sub T0 T)
    (m : M2 X o "get" apos i e cpos := by constructor <;> rfl) : E tb X G (.Call (.Attribute o "get" apos) [i, e] [] cpos) T := fun B σ F H Q hh q =>
  ewp_of (pe_dget2 h.hu1 (pe_wp o) (pe_wp i) (pe_wp e) m) (ho B σ F H _ hh fun x F1 H1 x1 t => by
    obtain ⟨a, vs, rfl, hd, al⟩ := t
    refine ⟨a, rfl, .inr ⟨vs, .inl (x1.fz _ _ hd).1⟩, e2 hi he (hh.up x1) fun y z F2 H2 x2 ty tz => ?_⟩
    obtain ⟨b, rfl, hk⟩ := ty
    have g := DGet.t (k := keyOf ks) (x2.fz _ _ (x2.ff _ _ hd)).1 (by rw [kV_ints]; exact (x2.fz _ _ hk).1)
    refine ⟨_, g, ?_⟩
    obtain ⟨g1, g2⟩ := alD_at ks (al.up x2.ff)
    cases ed : dvAt kvs ks with
    | none => rw [g2 ed]; exact q _ F2 H2 (x1.trans x2) (h0 ed tz)
    | some U =>
      obtain ⟨v, ev, tv⟩ := g1 U ed
      rw [ev]
      exact q _ F2 H2 (x1.trans x2) (hT U ed tv))
/-- d.get(key, x) of an own dict -/
theorem e_dgetDOwn (h : CxD X N sc k) (n : Nat) {x : Str} {p0 : Pos} {i e : Expr} {apos cpos : Pos} {kvs : List (List Int × Ty)} {ks : List Int} {T T0 : Ty} (hi : E tb X G i (keyT ks)) (he : E tb X G e T0) (hT : ∀ U, dvAt kvs ks = some U → Sub U T) (h0 : dvAt kvs ks = none → Sub T0 T) (hG : G[n]? = some (.ownD kvs) := by rfl) (hN : N[n]? = some x := by rfl) (hv : visB sc x = true := by rfl)
    (hd : (x == ("__debug__" : Str)) = false := by decide) (hcd : (x == ("__classdict__" : Str)) = false := by decide) (m : M2 X (.Name x p0) "get" apos i e cpos := by constructor <;> rfl) : E tb X G (.Call (.Attribute (.Name x p0) "get" apos) [i, e] [] cpos) T := fun B σ F H Q hh q => by
  have hv2 : Vis X.env.scope x := by rw [h.hsc]; exact visB.of hv
  refine ewp_of (pe_dget2 h.hu1 (pe_var (i := n) (by rw [h.hN]; exact hN) hv2 hd hcd) (pe_wp i) (pe_wp e) m) ?_
  obtain ⟨a, vs, q1, q2, q3, q4, q5⟩ := hh.ownD n kvs hG
  refine ⟨.ref a, q1, a, rfl, .inr ⟨vs, .inl q4⟩, e2 hi he hh fun y z F2 H2 x2 ty tz => ?_⟩
  obtain ⟨a', vs', r1, r2, r3, r4, r5⟩ := (hh.up x2).ownD n kvs hG
  rw [q1] at r1
  cases r1
  obtain ⟨b, rfl, hk⟩ := ty
  have g := DGet.t (k := keyOf ks) r4 (by rw [kV_ints]; exact (x2.fz _ _ hk).1)
  refine ⟨_, g, ?_⟩
  obtain ⟨g1, g2⟩ := alD_at ks r5
  cases ed : dvAt kvs ks with
  | none => rw [g2 ed]; exact q _ F2 H2 x2 (h0 ed tz)
  | some U =>
    obtain ⟨v, ev, tv⟩ := g1 U ed
    rw [ev]
    exact q _ F2 H2 x2 (hT U ed tv)
end
end JL

set_option Elab.async false
set_option linter.all false
set_option maxRecDepth 100000
set_option maxHeartbeats 4000000
set_option autoImplicit false
/-! zip of a list and a tuple; enumerate of a tuple. -/
namespace JL
open PySem PySem.Spec PyProof.Rows L2
/-- the list at a, the tuple at b, the items in new pairs -/
def ItzLT (K : PySem.W.Frag) (a b : Addr) : It :=
  ⟨fun i H => ∃ (xs ys : List V) (x y : V), SqL K H a xs ∧ SqT K H b ys ∧ xs[i]? = some x ∧ ys[i]? = some y,
    fun i H v H' => ∃ T x y, v = .ref T ∧ H T = none ∧ H' = upd H T (.tup [x, y]) ∧ (∀ xs, SqL K H a xs → xs[i]? = some x) ∧ ∀ ys, SqT K H b ys → ys[i]? = some y,
    fun i H => ∃ xs ys : List V, SqL K H a xs ∧ SqT K H b ys ∧ i = min xs.length ys.length⟩
theorem turn_zipLT {P : Program} {w : World} {K : PySem.W.Frag} {elts : List Expr} {kk : Nat} {tpos : Pos} {a b z TI TO i1 i2 : Addr} (D : ZipSep2 z TI TO i1 i2 [i1, a] [i2, b]) :
    Turn P w K (.Tuple elts kk tpos) (ItzLT K a b) [z, TI, TO, i1, i2] z (fun i h => IsZip h z TI TO .none ∧ IsTupOf2 h TI (.ref i1) (.ref i2) ∧ (∃ x y, IsTupOf2 h TO x y) ∧ h.IsListIter i1 a i ∧ h.IsTupleIter i2 b i) where
  mem := by simp
  obj := fun i h st c hc => by
    obtain ⟨hz, hTI, ⟨x, y, hTO⟩, ⟨o1, e1, _, d1⟩, ⟨o2, e2, _, d2⟩⟩ := st
    have e' : c = z ∨ c = TI ∨ c = TO ∨ c = i1 ∨ c = i2 := by simpa using hc
    rcases e' with q | q | q | q | q
    · rw [q]; exact ⟨_, hz, fun v q => nomatch q⟩
    · rw [q]; exact ⟨_, hTI, fun v q => nomatch q⟩
    · rw [q]; exact ⟨_, hTO, fun v q => nomatch q⟩
    · rw [q]; exact ⟨o1, e1, fun v q => by rw [d1] at q; cases q⟩
    · rw [q]; exact ⟨o2, e2, fun v q => by rw [d2] at q; cases q⟩
  keep := fun i h h' st k => by
    obtain ⟨hz, hTI, ⟨x, y, hTO⟩, h1, h2⟩ := st
    exact ⟨k z (by simp) _ hz, k TI (by simp) _ hTI, ⟨x, y, k TO (by simp) _ hTO⟩, h1.at fun o q => k i1 (by simp) o q, h2.at fun o q => k i2 (by simp) o q⟩
  item := by
    intro X hP hw hK hc i pins s σ H E I hf st hg
    subst hP hw hK
    obtain ⟨hz, hTI, ⟨x0, y0, hTO⟩, h1, h2⟩ := st
    obtain ⟨xs, ys, x, y, hqx, hqy, hx, hy⟩ := hg
    obtain ⟨its, rv, p, _⟩ := I.list hqx
    obtain ⟨its2, rv2, p2, _⟩ := I.tuple hqy
    obtain ⟨u, hu, ru⟩ := rv.get hx
    obtain ⟨u2, hu2, ru2⟩ := rv2.get hy
    have hzl : z < s.heap.objs.size := Heap.lt_size hz
    have hh : X.A.in1.handled = none := I.ok.hd hc
    have hne1 : a ≠ i1 := fun q => by
      obtain ⟨o1, e1, c1, _⟩ := h1
      obtain ⟨o, e, c, _⟩ := p.isList
      rw [q, e1] at e
      cases e
      rw [c1] at c
      revert c; decide
    have hne2 : b ≠ i2 := fun q => by
      obtain ⟨o1, e1, c1, _⟩ := h2
      obtain ⟨o, e, c, _⟩ := p2
      rw [q, e1] at e
      cases e
      rw [c1] at c
      revert c; decide
    have hl1 : i < its.toArray.size := by simpa using (List.getElem?_eq_some_iff.mp hu).1
    have hl2 : i < its2.toArray.size := by simpa using (List.getElem?_eq_some_iff.mp hu2).1
    refine wpAny_pyNext_zipD2_item D (Draws.list hh i1 a hne1 its.toArray) (Draws.tuple hh i2 b hne2 its2.toArray) hz hTI hTO ⟨h1, p.isList⟩ ⟨h2, p2⟩ hl1 hl2 fun x1 x2 h' tk e1 e2 z' TO' st1' st2' hT hsz hk => ?_
    have e1' : x1 = u := Option.some.inj (e1.symm.trans (by simpa using hu))
    have e2' : x2 = u2 := Option.some.inj (e2.symm.trans (by simpa using hu2))
    subst e1' e2'
    refine ⟨_, rfl, wpAny_letOwnedTupleGo_zip (s := { s with heap := h', toks := tk }) z' fun h'' z'' sb => ?_⟩
    have hT2 : h''.get? s.heap.objs.size = some { cls := .type "tuple", data := .seq #[x1, x2] } := (sb.2 _ (Nat.ne_of_gt hzl)).trans hT
    have new : ObjOk X.prog X.w (upd H s.heap.objs.size (.tup [x, y])) h'' s.heap.objs.size (.tup [x, y]) :=
      ⟨by show 2 ≤ sizeLine; decide, [x1, x2], .cons ru (.cons ru2 .nil), ⟨_, hT2, rfl, _, rfl⟩⟩
    have I1 : Inv X pins σ (upd H s.heap.objs.size (.tup [x, y])) { s with heap := h'', toks := tk } :=
      I.turnedNew (t' := tk) (ch := [z, TI, TO, i1, i2]) (fun c o hb q => (sb.2 c (fun q' => hb (by simp [q']))).trans (hk c o (fun q' => hb (by simp [q'])) (fun q' => hb (by simp [q'])) (fun q' => hb (by simp [q'])) (fun q' => hb (by simp [q'])) q)) hf (Nat.le_refl _) new
    have i1z : i1 ≠ z := fun q => D.zf1 (by rw [← q]; simp)
    have i2z : i2 ≠ z := fun q => D.zf2 (by rw [← q]; simp)
    refine ⟨.ref s.heap.objs.size, _, I1, rfl, ⟨_, x, y, rfl, I.hok.fresh (Nat.le_refl _), rfl, fun l hl => by rw [I.list_inj hl hqx]; exact hx, fun l hl => by rw [I.tuple_inj hl hqy]; exact hy⟩, ⟨z'', ?_, ⟨x1, x2, ?_⟩, ?_, ?_⟩, fun c hcm => ?_⟩
    · exact (sb.2 _ D.TIz).trans (hk _ _ D.TIz D.TITO D.TIi1 D.TIi2 hTI)
    · exact (sb.2 _ D.TOz).trans TO'
    · exact st1'.1.at fun o q => (sb.2 _ i1z).trans q
    · exact st2'.1.at fun o q => (sb.2 _ i2z).trans q
    · have hlt : c < s.heap.objs.size := by
        have e' : c = z ∨ c = TI ∨ c = TO ∨ c = i1 ∨ c = i2 := by simpa using hcm
        rcases e' with q | q | q | q | q
        · rw [q]; exact hzl
        · rw [q]; exact Heap.lt_size hTI
        · rw [q]; exact Heap.lt_size hTO
        · rw [q]; obtain ⟨_, e1, _⟩ := h1; exact Heap.lt_size e1
        · rw [q]; obtain ⟨_, e2, _⟩ := h2; exact Heap.lt_size e2
      rw [upd_ne (Nat.ne_of_lt hlt)]
      exact (hf c hcm).1
  done := by
    intro X hP hw hK hc i pins s σ H E I hf st hg
    subst hP hw hK
    obtain ⟨hz, hTI, ⟨x0, y0, hTO⟩, h1, h2⟩ := st
    obtain ⟨xs, ys, hqx, hqy, hend⟩ := hg
    obtain ⟨its, rv, p, _⟩ := I.list hqx
    obtain ⟨its2, rv2, p2, _⟩ := I.tuple hqy
    have l1 := rv.length
    have l2 := rv2.length
    have hh : X.A.in1.handled = none := I.ok.hd hc
    have hne1 : a ≠ i1 := fun q => by
      obtain ⟨o1, e1, c1, _⟩ := h1
      obtain ⟨o, e, c, _⟩ := p.isList
      rw [q, e1] at e
      cases e
      rw [c1] at c
      revert c; decide
    have hne2 : b ≠ i2 := fun q => by
      obtain ⟨o1, e1, c1, _⟩ := h2
      obtain ⟨o, e, c, _⟩ := p2
      rw [q, e1] at e
      cases e
      rw [c1] at c
      revert c; decide
    refine wpAny_pyNext_zipD2_end D (Draws.list hh i1 a hne1 its.toArray) (Draws.tuple hh i2 b hne2 its2.toArray) hz hTI hTO ⟨h1, p.isList⟩ ⟨h2, p2⟩ ?_ ?_ ?_ fun h' tk hk => ⟨rfl, I.turnedL (t' := tk) (ch := [z, TI, TO, i1, i2]) (fun c o hb q =>
      hk c o (fun q' => hb (by simp [q'])) (fun q' => hb (by simp [q'])) (fun q' => hb (by simp [q'])) (fun q' => hb (by simp [q'])) q) hf⟩
    · simp; omega
    · simp; omega
    · simp; omega
  self := fun A i s Q E st h => wpAny_pyIter_zip st.1 h
def iZipLT (K : PySem.W.Frag) (ta : TA) : TI := fun σ H R => ta σ H fun vs H1 => ∃ a b xs ys, vs = [.ref a, .ref b] ∧ SqL K H1 a xs ∧ SqT K H1 b ys ∧ R (ItzLT K a b) H1
theorem pi_zipLT {X : Cx} {e e2 : Expr} {ta : TA} {p pos tpos : Pos} {elts : List Expr} {kk : Nat} (hg : Gl X "zip") (hm : X.mg "zip" = none) (ha : PA X [e, e2] ta)
    (hs : starEach [e, e2] X.env = (false, eval e X.env) :: starEach [e2] X.env := by rfl) (hpl : (backTo pos (starEach [e2] X.env)).any (·.1) = false := by rfl) :
    PI X (.Tuple elts kk tpos) (.Call (.Name "zip" p) [e, e2] [] pos) (iZipLT X.K ta) := by
  refine ⟨fun pins s σ H R I h => ?_⟩
  refine Call_ (ld_blt I hg hm PyProof.Rows.boot_zip (PyProof.Rows.callWith_type1 (thn (ha.run pos pins s σ H _ I h) fun us s1 ⟨vs, H1, I1, r1, q1⟩ => ?_) hs hpl))
  obtain ⟨a, b, xs, ys, ex, hqx, hqy, q⟩ := q1
  subst ex
  cases r1 with
  | cons r rr =>
    cases rr with
    | cons r' rr =>
      cases rr
      cases r
      cases r'
      obtain ⟨its, rv, p1, _⟩ := I1.list hqx
      obtain ⟨its2, rv2, p2, _⟩ := I1.tuple hqy
      obtain ⟨o2, ho2, _⟩ := id p2
      refine zip_begins2 (begins_list a its.toArray) (begins_tuple b its2.toArray) p1.isList p2 fun h' hz hTI hTO h1 h2 hsz hk => wpAny_pyIter_zip hz ?_
      have I2 : Inv X pins σ H1 { s1 with heap := h' } := I1.kept (t' := s1.toks) hk
      have la : a < s1.heap.objs.size := p1.lt
      have lb : b < s1.heap.objs.size := Heap.lt_size ho2
      refine ⟨s1.heap.objs.size + 4, [s1.heap.objs.size + 4, s1.heap.objs.size + 2, s1.heap.objs.size + 3, s1.heap.objs.size, s1.heap.objs.size + 1], _, _, H1, rfl, I2, turn_zipLT (zip_sep2 (fp1 := [a]) (fp2 := [b]) (by simpa using la) (by simpa using lb)), ⟨hz, hTI, ⟨_, _, hTO⟩, ⟨_, h1, rfl, rfl⟩, ⟨_, h2, rfl, rfl⟩⟩, fun c hcm => ?_, q⟩
      have e' : c = s1.heap.objs.size + 4 ∨ c = s1.heap.objs.size + 2 ∨ c = s1.heap.objs.size + 3 ∨ c = s1.heap.objs.size ∨ c = s1.heap.objs.size + 1 := by simpa using hcm
      have hle : s1.heap.objs.size ≤ c := by
        rcases e' with z | z | z | z | z
        · rw [z]; exact Nat.le_add_right _ _
        · rw [z]; exact Nat.le_add_right _ _
        · rw [z]; exact Nat.le_add_right _ _
        · rw [z]; exact Nat.le_refl _
        · rw [z]; exact Nat.le_add_right _ _
      exact I1.fpOk hle (I1.hok.fresh hle)
theorem walk_zipLT {K : PySem.W.Frag} {a b : Addr} {xs ys : List V} : Walk (ItzLT K a b) (min xs.length ys.length) (fun H => SqL K H a xs ∧ SqT K H b ys) (YPair (fun i => xs[i]?) (fun i => ys[i]?)) := by
  refine ⟨fun i _ hi q => ?_, fun _ q => ⟨xs, ys, q.1, q.2, rfl⟩, fun i H v H' _ q y => ?_⟩
  · have h1 : i < xs.length := by omega
    have h2 : i < ys.length := by omega
    exact ⟨xs, ys, xs[i], ys[i], q.1, q.2, by simp [h1], by simp [h2]⟩
  · obtain ⟨T, x, z, h1, h2, h3, h4, h5⟩ := y
    exact ⟨T, x, z, h1, h2, h3, h4 xs q.1, h5 ys q.2⟩

/-! ### enumerate(tuple) -/
/-- the tuple at a, each item in a new pair -/
def IteT (K : PySem.W.Frag) (a : Addr) : It :=
  ⟨fun i H => ∃ (xs : List V) (x : V), SqT K H a xs ∧ xs[i]? = some x, fun i H v H' => ∃ T x, v = .ref T ∧ H T = none ∧ H' = upd H T (.tup [.int (i : Nat), x]) ∧ ∀ xs, SqT K H a xs → xs[i]? = some x, fun i H => ∃ xs : List V, SqT K H a xs ∧ xs.length = i⟩
theorem turn_enumT {P : Program} {w : World} {K : PySem.W.Frag} {elts : List Expr} {kk : Nat} {tpos : Pos} (a e it : Addr) (hea : e ≠ a) :
    Turn P w K (.Tuple elts kk tpos) (IteT K a) [e, it] e (fun i h => (∃ old, IsEnum h e it ((i : Nat) : Int) old) ∧ h.IsTupleIter it a i ∧ e ≠ it) where
  mem := by simp
  obj := fun i h st b hb => by
    obtain ⟨⟨old, he⟩, ⟨o, ho, hc, hd⟩, _⟩ := st
    have e' : b = e ∨ b = it := by simpa using hb
    rcases e' with z | z
    · rw [z]; exact ⟨_, he, fun v q => nomatch q⟩
    · rw [z]; exact ⟨o, ho, fun v q => by rw [hd] at q; cases q⟩
  keep := fun i h h' st k => let ⟨⟨old, he⟩, hi, hne⟩ := st; ⟨⟨old, k e (by simp) _ he⟩, hi.at fun o q => k it (by simp) o q, hne⟩
  item := by
    intro X hP hw hK hc i pins s σ H E I hf st hg
    subst hP hw hK
    obtain ⟨⟨old, he⟩, hit, hne⟩ := st
    obtain ⟨xs, x, hq, hx⟩ := hg
    obtain ⟨its, rv, p, hz⟩ := I.tuple hq
    obtain ⟨u, hu, ru⟩ := rv.get hx
    have hel : e < s.heap.objs.size := Heap.lt_size he
    have hil : it < s.heap.objs.size := by obtain ⟨_, q, _⟩ := hit; exact Heap.lt_size q
    have hh : X.A.in1.handled = none := I.ok.hd hc
    have hne2 : a ≠ it := fun q => by
      obtain ⟨o1, e1, c1, _⟩ := hit
      obtain ⟨o, e, c, _⟩ := p
      rw [q, e1] at e
      cases e
      rw [c1] at c
      revert c; decide
    have hl2 : i < its.toArray.size := by simpa using (List.getElem?_eq_some_iff.mp hu).1
    refine wpAny_pyNext_enum_itemD (Draws.tuple hh it a hne2 its.toArray) he ⟨hit, p⟩ hl2 hne (by simp [hne, hea]) fun x1 h' tk e1 ho st' hT hsz hk => ?_
    have e1' : x1 = u := Option.some.inj (e1.symm.trans (by simpa using hu))
    subst e1'
    refine ⟨_, rfl, wpAny_letOwnedTupleGo_enum (s := { s with heap := h', toks := tk + 1 }) ho fun h'' he' sb => ?_⟩
    have hT2 : h''.get? s.heap.objs.size = some { cls := .type "tuple", data := .seq #[.int i tk, x1] } := (sb.2 _ (Nat.ne_of_gt hel)).trans hT
    have new : ObjOk X.prog X.w (upd H s.heap.objs.size (.tup [.int (i : Nat), x])) h'' s.heap.objs.size (.tup [.int (i : Nat), x]) :=
      ⟨by show 2 ≤ sizeLine; decide, [.int i tk, x1], .cons ⟨_, rfl⟩ (.cons ru .nil), ⟨_, hT2, rfl, _, rfl⟩⟩
    have I1 : Inv X pins σ (upd H s.heap.objs.size (.tup [.int (i : Nat), x])) { s with heap := h'', toks := tk + 1 } :=
      I.turnedNew (ch := [e, it]) (fun b ob hb q => (sb.2 b (fun z => hb (by simp [z]))).trans (hk b ob (fun z => hb (by simp [z])) (fun z => hb (by simp [z])) q)) hf (Nat.le_refl _) new
    refine ⟨.ref s.heap.objs.size, _, I1, rfl, ⟨_, x, rfl, I.hok.fresh (Nat.le_refl _), rfl, fun ys hy => by rw [I.tuple_inj hy hq]; exact hx⟩, ⟨⟨x1, ?_⟩, st'.1.at fun o q => (sb.2 it (Ne.symm hne)).trans q, hne⟩, fun b hb => ?_⟩
    · have e1 : ((i + 1 : Nat) : Int) = (i : Int) + 1 := by omega
      rw [e1]; exact he'
    · have hb' : b < s.heap.objs.size := by
        have e' : b = e ∨ b = it := by simpa using hb
        rcases e' with z | z
        · rw [z]; exact hel
        · rw [z]; exact hil
      rw [upd_ne (Nat.ne_of_lt hb')]
      exact (hf b hb).1
  done := by
    intro X hP hw hK hc i pins s σ H E I hf st hg
    subst hP hw hK
    obtain ⟨⟨old, he⟩, hit, hne⟩ := st
    obtain ⟨xs, hq, hx⟩ := hg
    obtain ⟨its, rv, p, hz⟩ := I.tuple hq
    obtain ⟨f0, f1, f2, f3, f4, f5⟩ := hf it (by simp)
    have hl := rv.length
    have hh : X.A.in1.handled = none := I.ok.hd hc
    have hne2 : a ≠ it := fun q => by
      obtain ⟨o1, e1, c1, _⟩ := hit
      obtain ⟨o, e, c, _⟩ := p
      rw [q, e1] at e
      cases e
      rw [c1] at c
      revert c; decide
    have hi : i = its.toArray.size := by simp; omega
    subst hi
    exact wpAny_pyNext_enum_endD (Draws.tuple hh it a hne2 its.toArray) he ⟨hit, p⟩ fun h' eb => ⟨rfl, I.turned (t' := s.toks) (fun b o hb q => eb b o hb q) f0 f1 f3 f4 f5⟩
  self := fun A i s Q E st h => let ⟨⟨_, he⟩, _⟩ := st; wpAny_pyIter_enum he h
theorem meets_enumerate_newT {v : Value} {o : Obj} {H : Heap → Prop} (B : Begins v o H) :
    Meets (Builtin.«enumerate.__new__» ⟨[.type "enumerate", v], []⟩) (fun _ R s => H s.heap ∧
      R (.ok (.ret (.ref (s.heap.push o).objs.size))) { s with heap := (s.heap.push o).push { cls := .type "enumerate", data := .fields #[.none, .bool false, .ref s.heap.objs.size, rawInt 0, .none, .none] } }) :=
  .of_wp fun prog w A R s h => by
    obtain ⟨hp, g, d, tk, os⟩ := s; obtain ⟨h1, h⟩ := h
    have hsub := sub_enumerate
    have q1 : ∀ {A' : Around} {E : Value → Shared → Prop} {Q : Value → Shared → Prop}, Q (.ref hp.objs.size) ⟨hp.push o, g, d, tk, os⟩ → wpAny (model prog w) A' (pyIter v) Q E ⟨hp, g, d, tk, os⟩ :=
      fun q => B.iter prog w _ _ ⟨hp, g, d, tk, os⟩ _ h1 q
    wp_walk using q1
    refine wpAny_stack_any fun st => wpAny_pure ?_
    split
    · rename_i c _ _ _ _ _
      cases (c == Value.type "enumerate")
      · wp_walk using q1
        exact ⟨_, rfl, h⟩
      · wp_walk using q1
        exact ⟨_, rfl, h⟩
    · wp_walk using q1
      exact ⟨_, rfl, h⟩
theorem call_enumerate_tuple {prog : Program} {w : World} {A : Around} {E : Value → Shared → Prop} {s : Shared} {l : Addr} {items : Array Value} {Q : Value → Shared → Prop} (hL : s.heap.IsTuple l items)
    (h : ∀ h', IsEnum h' (s.heap.objs.size + 1) s.heap.objs.size 0 .none → h'.IsTupleIter s.heap.objs.size l 0 → h'.objs.size = s.heap.objs.size + 2 →
      (∀ b o, s.heap.get? b = some o → h'.get? b = some o) → Q (.ref (s.heap.objs.size + 1)) { s with heap := h' }) :
    wpAny (model prog w) A (call (.type "enumerate") [.ref l]) Q E s := by
  refine callType_new F.called_enumerate (by decide) (F.typeCall_enumerate_1 _) (F.newCall_enumerate_1 _) (fun obj => F.args_object_init_2 obj _) F.entry_enumerate_new
    (meets_enumerate_newT (begins_tuple l items)) ⟨hL, ?_⟩
  have hz : (s.heap.push { cls := .type "tuple_iterator", data := .fields #[.ref l, .int 0 0] }).objs.size = s.heap.objs.size + 1 := Heap.size_push ..
  show _ ∧ _
  rw [hz]
  have he : IsEnum ((s.heap.push { cls := .type "tuple_iterator", data := .fields #[.ref l, .int 0 0] }).push
      { cls := .type "enumerate", data := .fields #[.none, .bool false, .ref s.heap.objs.size, rawInt 0, .none, .none] }) (s.heap.objs.size + 1) s.heap.objs.size 0 .none := by
    have := Heap.get?_push_size (s.heap.push { cls := .type "tuple_iterator", data := .fields #[.ref l, .int 0 0] })
      (o := { cls := .type "enumerate", data := .fields #[.none, .bool false, .ref s.heap.objs.size, rawInt 0, .none, .none] }) rfl
    rw [hz] at this; exact this
  refine ⟨⟨_, he, rfl⟩, h _ he ⟨_, Heap.get?_push_of_some _ (Heap.get?_push_size _ rfl), rfl, rfl⟩ (by rw [Heap.size_push, hz]) fun b o x => Heap.get?_push_of_some _ (Heap.get?_push_of_some _ x)⟩
def iEnumT (K : PySem.W.Frag) (ta : TA) : TI := fun σ H R => ta σ H fun vs H1 => ∃ a xs, vs = [.ref a] ∧ SqT K H1 a xs ∧ R (IteT K a) H1
theorem pi_enumT {X : Cx} {e : Expr} {ta : TA} {p pos tpos : Pos} {elts : List Expr} {kk : Nat} (hg : Gl X "enumerate") (hm : X.mg "enumerate" = none) (ha : PA X [e] ta) (hs : starEach [e] X.env = [(false, eval e X.env)] := by rfl) :
    PI X (.Tuple elts kk tpos) (.Call (.Name "enumerate" p) [e] [] pos) (iEnumT X.K ta) := by
  refine ⟨fun pins s σ H R I h => ?_⟩
  refine Call_ (ld_blt I hg hm boot_enumerate (PyProof.Rows.callWith_type1 (thn (ha.run pos pins s σ H _ I h) fun us s1 ⟨vs, H1, I1, r1, q1⟩ => ?_) hs rfl))
  obtain ⟨a, xs, ex, hq, q⟩ := q1
  subst ex
  cases r1 with
  | cons r rr =>
    cases rr
    cases r
    obtain ⟨its, rv, p', hz⟩ := I1.tuple hq
    obtain ⟨o2, ho2, _⟩ := id p'
    have lb : a < s1.heap.objs.size := Heap.lt_size ho2
    refine call_enumerate_tuple p' fun h' he hit hsz hk => wpAny_pyIter_enum he ?_
    have I2 : Inv X pins σ H1 { s1 with heap := h' } := I1.kept (t' := s1.toks) hk
    refine ⟨s1.heap.objs.size + 1, [s1.heap.objs.size + 1, s1.heap.objs.size], _, _, H1, rfl, I2, turn_enumT a (s1.heap.objs.size + 1) s1.heap.objs.size (Nat.ne_of_gt (Nat.lt_succ_of_lt lb)), ⟨⟨.none, he⟩, hit, Nat.succ_ne_self _⟩, fun b hb => ?_, q⟩
    have e' : b = s1.heap.objs.size + 1 ∨ b = s1.heap.objs.size := by simpa using hb
    have hle : s1.heap.objs.size ≤ b := by
      rcases e' with z | z
      · rw [z]; exact Nat.le_add_right _ _
      · rw [z]; exact Nat.le_refl _
    exact I1.fpOk hle (I1.hok.fresh hle)
theorem walk_enumT {K : PySem.W.Frag} {a : Addr} {xs : List V} : Walk (IteT K a) xs.length (fun H => SqT K H a xs) (YPair (fun i => some (.int (i : Nat))) (fun i => xs[i]?)) := by
  refine ⟨fun i _ hi q => ⟨xs, xs[i], q, by simp [hi]⟩, fun _ q => ⟨xs, q, rfl⟩, fun i H v H' _ q y => ?_⟩
  obtain ⟨T, x, h1, h2, h3, h4⟩ := y
  exact ⟨T, .int (i : Nat), x, h1, h2, h3, rfl, h4 xs q⟩

section
variable {tb : List Addr} {X : Cx} {G : List Slt} {N : List Str} {sc : Scope} {k : Nat} {pos : Pos}
theorem it_enumT (h : CxD X N sc k) {elts : List Expr} {kk : Nat} {tpos p : Pos} {e : Expr} {α : Type} {xs : List α} {T : α → Ty} (he : E tb X G e (tupT (xs.map T))) (hm : X.mg "enumerate" = none) (hg : sc.names.lookup ("enumerate" : Str) = some .globalImplicit := by rfl)
    (hst : NoStar e := by intro _ _; rfl) : IT tb X G (.Tuple elts kk tpos) (.Call (.Name "enumerate" p) [e] [] pos) xs.zipIdx (fun z => tupT [intT (z.2 : Nat), T z.1]) := fun B σ F H R hs q => by
  refine iwp_of (pi_enumT (h.gl hg) hm (pa_cons (pe_wp e) pa_nil (hst [] X.env)) (hst [] X.env)) ?_
  refine he B σ F H _ hs fun v F1 H1 x1 t => ?_
  obtain ⟨a, vs, ev, s, al⟩ := t
  refine ⟨a, vs, by rw [ev], al_sqt x1.fz s, q _ F1 H1 x1 ?_⟩
  have hl : vs.length = xs.length := by rw [← al.length, List.length_map]
  refine itd_pair (n := vs.length) (T := fun z : α × Nat => intT (z.2 : Nat)) (U := fun z => T z.1) (by simp [hl]) walk_enumT (fun F2 H2 s2 fz => al_sqt fz (sqT_up s2 s)) fun i x y hi e1 e2 => ?_
  obtain ⟨z, ez, tz⟩ := al_map al e2
  cases e1
  exact ⟨(z, i), by simp [List.getElem?_zipIdx, ez], rfl, tz⟩
theorem it_zipLT (h : CxD X N sc k) {elts : List Expr} {kk : Nat} {tpos p : Pos} {a b : Expr} {α β : Type} {xs : List α} {ys : List β} {T : α → Ty} {U : β → Ty} (ha : E tb X G a (lstT (xs.map T))) (hb : E tb X G b (tupT (ys.map U))) (hm : X.mg "zip" = none)
    (hg : sc.names.lookup ("zip" : Str) = some .globalImplicit := by rfl) (hsa : NoStar a := by intro _ _; rfl) (hsb : NoStar b := by intro _ _; rfl) (hpl : (backTo pos (starEach [b] X.env)).any (·.1) = false := by rfl) :
    IT tb X G (.Tuple elts kk tpos) (.Call (.Name "zip" p) [a, b] [] pos) (xs.zip ys) (fun z => tupT [T z.1, U z.2]) := fun B σ F H R hs q => by
  refine iwp_of (pi_zipLT (h.gl hg) hm (pa_cons (pe_wp a) (pa_cons (pe_wp b) pa_nil (hsb [] X.env)) (hsa [b] X.env)) (hsa [b] X.env) hpl) ?_
  refine ha B σ F H _ hs fun v F1 H1 x1 t => hb B σ F1 H1 _ (hs.up x1) fun w F2 H2 x2 t2 => ?_
  obtain ⟨p1, vs, ev, s, al⟩ := (lstT (xs.map T)).mono x2.ff t
  obtain ⟨p2, ws, ew, s2, al2⟩ := t2
  refine ⟨p1, p2, vs, ws, by rw [ev, ew], al_seq x2.fz s, al_sqt x2.fz s2, q _ F2 H2 (x1.trans x2) ?_⟩
  have hl : vs.length = xs.length := by rw [← al.length, List.length_map]
  have hl2 : ws.length = ys.length := by rw [← al2.length, List.length_map]
  refine itd_pair (n := min vs.length ws.length) (T := fun z : α × β => T z.1) (U := fun z => U z.2) (by simp [hl, hl2]) walk_zipLT (fun F2 H2 s3 fz => ⟨al_seq fz (s3.seq s), al_sqt fz (sqT_up s3 s2)⟩) fun i x y hi e1 e2 => ?_
  obtain ⟨z, ez, tz⟩ := al_map al e1
  obtain ⟨z2, ez2, tz2⟩ := al_map al2 e2
  exact ⟨(z, z2), by simp [List.getElem?_zip_eq_some, ez, ez2], tz, tz2⟩
end
end JL

set_option Elab.async false
set_option linter.all false
set_option maxRecDepth 100000
set_option maxHeartbeats 4000000
set_option autoImplicit false
/-! Comprehensions of two clauses. -/
namespace JL
open PySem PySem.Spec PyProof.Rows L2
section
variable {J : It} {n : Nat} {G : Hp → Prop} {Y : Nat → Hp → V → Hp → Prop}
/-- the loop of a clause, from any heap -/
theorem lc_itG (w : Walk J n G Y) {g : TG} {tt : TT} {te : TE} {vs : List Nat} {σ : L2.St} {H0 : Hp} {D : Addr} {Qd : Hp → Prop} (Pv : Nat → Hp → Prop) (h0 : Pv 0 H0) (hG : ∀ i H, i ≤ n → Pv i H → G H)
    (hs : ∀ i x H H', i < n → Pv i H → Y i H x H' → g x (wipe σ vs) H' fun σ2 H2 => wipe σ2 vs = wipe σ vs ∧ tt σ2 H2 fun b H3 =>
      if b = true then te σ2 H3 fun y H4 => ∃ acc, H4 D = some (.lst acc) ∧ acc.length < sizeLine ∧ Pv (i + 1) (upd H4 D (.lst (acc ++ [y]))) else Pv (i + 1) H3) (hd : ∀ H, Pv n H → Qd H) :
    ∃ W : Nat → Nat → Hp → Prop, (∃ m, W 0 m H0) ∧ ∀ i m H, W i m H →
      (J.stop i H ∧ Qd H) ∨ (J.go i H ∧ ∃ Nx : Hp → Prop, (∀ H', Nx H' → ∃ m', m' < m ∧ W (i + 1) m' H') ∧ ∀ x H', J.yld i H x H' → g x (wipe σ vs) H' fun σ2 H2 => wipe σ2 vs = wipe σ vs ∧ tt σ2 H2 fun b H3 =>
        if b = true then te σ2 H3 fun y H4 => ∃ acc, H4 D = some (.lst acc) ∧ acc.length < sizeLine ∧ Nx (upd H4 D (.lst (acc ++ [y]))) else Nx H3) := by
  refine ⟨fun i m H => m = n - i ∧ i ≤ n ∧ Pv i H, ⟨n, by simp, Nat.zero_le _, h0⟩, ?_⟩
  rintro i m H ⟨rfl, hi, p⟩
  have q := hG i H hi p
  by_cases hlt : i < n
  · refine .inr ⟨w.goes i H hlt q, Pv (i + 1), fun H' p' => ⟨n - (i + 1), by omega, rfl, hlt, p'⟩, fun x H' y => hs i x H H' hlt p (w.yields i H x H' hlt q y)⟩
  · have e : i = n := by omega
    subst e
    exact .inl ⟨w.stops H q, hd H p⟩
/-- the outer clause's loop -/
theorem lc2_it (w : Walk J n G Y) {g : TG} {vs : List Nat} {σ : L2.St} {H0 : Hp} {Qd : Hp → Prop} {K : (Hp → Prop) → L2.St → Hp → Prop} (Pv : Nat → Hp → Prop) (h0 : Pv 0 H0) (hG : ∀ i H, i ≤ n → Pv i H → G H)
    (hs : ∀ i x H H', i < n → Pv i H → Y i H x H' → g x (wipe σ vs) H' fun σ2 H2 => wipe σ2 vs = wipe σ vs ∧ K (Pv (i + 1)) σ2 H2) (hd : ∀ H, Pv n H → Qd H) :
    ∃ W : Nat → Nat → Hp → Prop, (∃ m, W 0 m H0) ∧ ∀ i m H, W i m H →
      (J.stop i H ∧ Qd H) ∨ (J.go i H ∧ ∃ Nx : Hp → Prop, (∀ H', Nx H' → ∃ m', m' < m ∧ W (i + 1) m' H') ∧ ∀ x H', J.yld i H x H' → g x (wipe σ vs) H' fun σ2 H2 => wipe σ2 vs = wipe σ vs ∧ K Nx σ2 H2) := by
  refine ⟨fun i m H => m = n - i ∧ i ≤ n ∧ Pv i H, ⟨n, by simp, Nat.zero_le _, h0⟩, ?_⟩
  rintro i m H ⟨rfl, hi, p⟩
  have q := hG i H hi p
  by_cases hlt : i < n
  · refine .inr ⟨w.goes i H hlt q, Pv (i + 1), fun H' p' => ⟨n - (i + 1), by omega, rfl, hlt, p'⟩, fun x H' y => hs i x H H' hlt p (w.yields i H x H' hlt q y)⟩
  · have e : i = n := by omega
    subst e
    exact .inl ⟨w.stops H q, hd H p⟩
end
section
variable {tb : List Addr} {X : Cx} {G : List Slt} {N : List Str} {sc : Scope} {k : Nat} {pos : Pos}
def noOwn (G : List Slt) : Bool := G.all fun s => match s with
  | .own _ => false
  | .ownD _ => false
  | _ => true
theorem noOwn_not {G : List Slt} (h : noOwn G = true) {i : Nat} : ¬ OwnS G i := by
  rintro (⟨Ts, e⟩ | ⟨Ts, e⟩)
  · have := List.all_eq_true.mp h _ (List.mem_of_getElem? e)
    cases this
  · have := List.all_eq_true.mp h _ (List.mem_of_getElem? e)
    cases this
def iB (X : Cx) (scope : Scope) (tg iter : Expr) : TI := fun σ H R => ∀ (s : Shared) (H0 : Hp) (C : Addr) (cl : List (Str × Addr)) (fp : List Addr), iwp (Blk X scope s H0 C cl fp) tg iter σ H R
theorem flat_take {α β : Type} {f : α → List β} {xs : List α} {i : Nat} {z : α} (h : xs[i]? = some z) : (xs.take (i + 1)).flatMap f = (xs.take i).flatMap f ++ f z := by
  rw [take_succ_map h, List.flatMap_append]; simp
theorem flat_take_le {α β : Type} {f : α → List β} {xs : List α} {i : Nat} : ((xs.take i).flatMap f).length ≤ (xs.flatMap f).length := by
  have : xs.flatMap f = (xs.take i).flatMap f ++ (xs.drop i).flatMap f := by rw [← List.flatMap_append, List.take_append_drop]
  rw [this, List.length_append]
  omega
/-- [elt for tg in iter for tg1 in iter1]: a new list -/
theorem el_lc2 (h : CxD X N sc k) {α β : Type} {xs : List α} {ys : α → List β} {T : α → Ty} {U R : α → β → Ty} (own : List (Str × Nat)) (vs1 : List Nat) {tg iter tg1 iter1 elt : Expr} {scope : Scope} {is is1 : List Nat} {Gx : α → List Slt} {Gy : α → β → List Slt}
    (hi : IT tb X G tg iter xs T)
    (ht : AllB X N sc k scope fun X' => ∀ x ∈ xs, TG' tb X' tg (T x) is (wipeG G (own.map (·.2))) (Gx x))
    (hi1 : AllB X N sc k scope fun X' => ∀ x ∈ xs, IT tb X' (Gx x) tg1 iter1 (ys x) (U x))
    (ht1 : AllB X N sc k scope fun X' => ∀ x ∈ xs, ∀ y ∈ ys x, TG' tb X' tg1 (U x y) is1 (wipeG (Gx x) vs1) (Gy x y))
    (he : AllB X N sc k scope fun X' => ∀ x ∈ xs, ∀ y ∈ ys x, E tb X' (Gy x y) elt (R x y)) (hz : (xs.flatMap fun x => (ys x).map (R x)).length ≤ 1000)
    (hno : ∀ x, noOwn (Gx x) = true := by intro _; rfl) (ok : blkC N sc scope own = true := by decide +kernel) (hv : ∀ i ∈ vs1, i ∈ own.map (·.2) := by decide) (his : is.all (fun j => (own.map (·.2)).contains j) = true := by rfl) (his1 : is1.all (fun j => vs1.contains j) = true := by rfl)
    (hs : ∀ x, foldedSetIterable iter X.env x = pure x := by intro _; rfl) (hs1 : ∀ env x, foldedSetIterable iter1 env x = pure x := by intro _ _; rfl) :
    EL tb X G (.ListComp elt [⟨tg, iter, [], 0⟩, ⟨tg1, iter1, [], 0⟩] scope pos) (xs.flatMap fun x => (ys x).map (R x)) := by
  intro B σ F H Q hh q
  have okB := blkOk_by ok
  have hk : scope.kind = .function := okB.kind
  have ok' : BlkOk X.N X.env.scope scope own := by rw [h.hN, h.hsc]; exact okB
  have hisM : ∀ j ∈ is, j ∈ own.map (·.2) := fun j hj => by simpa using List.all_eq_true.mp his j hj
  have his1M : ∀ j ∈ is1, j ∈ vs1 := fun j hj => by simpa using List.all_eq_true.mp his1 j hj
  refine ewp_of (pe_lc2 (own := own) (vs1 := vs1) (g := gB X scope tg) (te := eB X scope elt) (wi1 := iB X scope tg1 iter1) (g1 := gB X scope tg1) h.calm (by rw [h.hN]; exact h.nd) (pi_wp tg iter) ok' hv
    (fun s H0 C cl fp => ⟨fun pins s' σ H v u Q I r g => g s H0 C cl fp pins s' u I r⟩) (fun s H0 C cl fp => pts_nil) (fun s H0 C cl fp => ⟨fun pins s' σ H R I g => g s H0 C cl fp pins s' I⟩)
    (fun s H0 C cl fp => ⟨fun pins s' σ H v u Q I r g => g s H0 C cl fp pins s' u I r⟩) (fun s H0 C cl fp => pts_nil) (fun s H0 C cl fp => ⟨fun pins s' σ H Q I g => g s H0 C cl fp pins s' I⟩) hs hs1) ?_
  refine hi B σ F H _ hh fun J F1 H1 x1 itd => fun D hD => ?_
  obtain ⟨Gd, Y, w, hG, hY⟩ := itd.ex
  have hsA := hh.up x1
  obtain ⟨ap1, ap2, hF1, hB1⟩ := hsA.apart hD
  refine lc2_it w (g := gB X scope tg) (vs := own.map (·.2)) (σ := σ) (Qd := fun H => Q (.ref D) H)
    (K := fun Nx σ2 H2 => tYes σ2 H2 fun b H3 => if b = true then iB X scope tg1 iter1 σ2 H3 fun J1 H4 => ∃ W1 : Nat → Nat → Hp → Prop, (∃ m, W1 0 m H4) ∧ ∀ j k H, W1 j k H →
      (J1.stop j H ∧ Nx H) ∨ (J1.go j H ∧ ∃ Nx1 : Hp → Prop, (∀ H', Nx1 H' → ∃ k', k' < k ∧ W1 (j + 1) k' H') ∧ ∀ x H', J1.yld j H x H' → gB X scope tg1 x (wipe σ2 vs1) H' fun σ3 H5 => wipe σ3 vs1 = wipe σ2 vs1 ∧ tYes σ3 H5 fun b H6 =>
        if b = true then eB X scope elt σ3 H6 fun y H7 => ∃ acc, H7 D = some (.lst acc) ∧ acc.length < sizeLine ∧ Nx1 (upd H7 D (.lst (acc ++ [y]))) else Nx1 H6)
      else Nx H3)
    (fun i H2 => ∃ F2 vs, Has tb X.K G B F2 H2 σ ∧ Ext F1 H1 F2 H2 ∧ F2 D = none ∧ H2 D = some (.lst vs) ∧ Al X.K F2 ((xs.take i).flatMap fun x => (ys x).map (R x)) vs) ?_ ?_ ?_ ?_
  · have x2 : Ext F1 H1 F1 (upd H1 D (.lst [])) := Ext.own hsA.fz hD
    exact ⟨F1, [], hsA.up x2, x2, hF1, upd_same, .nil⟩
  · rintro i H2 hi ⟨F2, vs, a1, a2, a3, a4, a5⟩
    exact hG F2 H2 a2.ff a1.fz
  · rintro i v H2 H2' hin ⟨F2, vs, a1, a2, a3, a4, a5⟩ y
    obtain ⟨F3, z, x3, ez, tz⟩ := hY i F2 H2 v H2' hin a2.ff a1.fz y
    have hzm : z ∈ xs := List.mem_of_getElem? ez
    intro s0 H0 C cl fp
    refine ht s0 H0 C cl fp (h.blk hk) z hzm B _ F3 H2' v _ ((a1.up x3).wipe _) tz fun σ' hs' hl' off => ⟨?_, ?_⟩
    · rw [wipe_off (is := is) hl' hisM off, wipe_wipe]
    unfold tYes
    refine iteT ?_
    have a1' := a1.up x3
    have d3 : F3 D = none := x3.av D (by rw [a4]; intro z; cases z) a3
    have e3 : H2' D = some (.lst vs) := x3.hh.keep D _ a4 (fun _ z => nomatch z)
    have a5' := a5.up x3.ff
    have a2' := a2.trans x3
    intro s1 H01 C1 cl1 fp1
    refine hi1 s1 H01 C1 cl1 fp1 (h.blk hk) z hzm B σ' F3 H2' _ hs' fun J1 F4 H4 x4 itd1 => ?_
    obtain ⟨Gd1, Y1, w1, hG1, hY1⟩ := itd1.ex
    have d4 : F4 D = none := x4.av D (by rw [e3]; intro z; cases z) d3
    have e4 : H4 D = some (.lst vs) := x4.hh.keep D _ e3 (fun _ z => nomatch z)
    refine lc_itG w1 (g := gB X scope tg1) (te := eB X scope elt) (tt := tYes) (vs := vs1) (σ := σ') (D := D)
      (fun j H5 => ∃ F5 ws, Has tb X.K G B F5 H5 σ ∧ Has tb X.K (Gx z) B F5 H5 σ' ∧ Ext F1 H1 F5 H5 ∧ Same F4 F5 ∧ F5 D = none ∧ H5 D = some (.lst ws) ∧ Al X.K F5 (((xs.take i).flatMap fun x => (ys x).map (R x)) ++ ((ys z).take j).map (R z)) ws) ?_ ?_ ?_ ?_
    · exact ⟨F4, vs, a1'.up x4, hs'.up x4, a2'.trans x4, Same.refl _, d4, e4, by simpa using a5'.up x4.ff⟩
    · rintro j H5 hj ⟨F5, ws, b1, b2, b3, b4, b5, b6, b7⟩
      exact hG1 F5 H5 b4 b1.fz
    · rintro j v1 H5 H5' hj ⟨F5, ws, b1, b2, b3, b4, b5, b6, b7⟩ y1
      obtain ⟨F6, z1, x6, ez1, tz1⟩ := hY1 j F5 H5 v1 H5' hj b4 b1.fz y1
      have hzm1 : z1 ∈ ys z := List.mem_of_getElem? ez1
      intro s2 H02 C2 cl2 fp2
      refine ht1 s2 H02 C2 cl2 fp2 (h.blk hk) z hzm z1 hzm1 B _ F6 H5' v1 _ ((b2.up x6).wipe _) tz1 fun σ'' hs'' hl'' off1 => ⟨?_, ?_⟩
      · rw [wipe_off (is := is1) hl'' his1M off1, wipe_wipe]
      unfold tYes
      refine iteT ?_
      have d6 : F6 D = none := x6.av D (by rw [b6]; intro z; cases z) b5
      have e6 : H5' D = some (.lst ws) := x6.hh.keep D _ b6 (fun _ z => nomatch z)
      intro s3 H03 C3 cl3 fp3
      refine he s3 H03 C3 cl3 fp3 (h.blk hk) z hzm z1 hzm1 B σ'' F6 H5' _ hs'' fun y F7 H7 x7 ty => ?_
      have d7 : F7 D = none := x7.av D (by rw [e6]; intro z; cases z) d6
      have e7 : H7 D = some (.lst ws) := x7.hh.keep D _ e6 (fun _ z => nomatch z)
      have hl : ws.length < sizeLine := by
        refine small1000 ?_
        rw [← b7.length, List.length_append, List.length_map]
        have h1 : ((xs.take (i + 1)).flatMap fun x => (ys x).map (R x)).length ≤ 1000 := Nat.le_trans flat_take_le hz
        rw [flat_take ez, List.length_append, List.length_map] at h1
        have h2 : ((ys z).take j).length ≤ (ys z).length := by rw [List.length_take]; omega
        omega
      refine ⟨ws, e7, hl, F7, ws ++ [y], ?_, ?_, ?_, Same.trans b4 (Same.trans x6.ff x7.ff), d7, upd_same, ?_⟩
      · exact ((b1.up x6).up x7).updAt d7 hB1 ap1 ap2
      · exact ((b2.up x6).up x7).updAt d7 hB1 (fun n a ho => absurd ho (noOwn_not (hno z))) ap2
      · exact ((b3.trans x6).trans x7).mut (o := .lst []) hD d7
      · rw [take_succ_map ez1, List.map_append, ← List.append_assoc]
        exact (b7.up (Same.trans x6.ff x7.ff)).append (.cons ty .nil)
    · rintro H5 ⟨F5, ws, b1, b2, b3, b4, b5, b6, b7⟩
      rw [List.take_length] at b7
      exact ⟨F5, ws, b1, b3, b5, b6, by rw [flat_take ez]; exact b7⟩
  · rintro H2 ⟨F2, vs, a1, a2, a3, a4, a5⟩
    rw [List.take_length] at a5
    exact q D vs F2 H2 (x1.trans a2) (x1.hh.free hD) a3 a4 a5
end
end JL

set_option Elab.async false
set_option linter.all false
set_option maxRecDepth 100000
set_option maxHeartbeats 4000000
set_option autoImplicit false
/-! dict(zip(xs, ys)) with tuples as keys. -/
namespace JL
open PySem PySem.Spec PyProof.Rows L2
/-- what an iterator draws, its cells -/
structure DrSrc (prog : Program) (w : World) (it : Addr) (fp : List Addr) (n : Nat) (P : Nat → Value → Prop) (St : Nat → Heap → Prop) : Prop where
  dr : ∀ A : Around, A.handled = none → Draws prog w A it fp n P St
  there : ∀ i h, St i h → ∀ b ∈ fp, ∃ o, h.get? b = some o
  frame : ∀ i h h', St i h → (∀ b ∈ fp, ∀ o, h.get? b = some o → h'.get? b = some o) → St i h'
section
variable {prog : Program} {w : World} {A : Around} {E : Value → Shared → Prop} {s : Shared} {z TI TO T i1 i2 : Addr} {fp1 fp2 : List Addr} {n1 n2 i : Nat} {P1 P2 : Nat → Value → Prop} {St1 St2 : Nat → Heap → Prop} {f : Bool} {oT : Obj}
theorem zipD2_next_item_held {Q : Value → Shared → Prop} (S : ZipSep2 z TI TO i1 i2 fp1 fp2) (D1 : Draws prog w A i1 fp1 n1 P1 St1) (D2 : Draws prog w A i2 fp2 n2 P2 St2)
    (hz : IsZipHeld s.heap z TI TO T f) (hT : s.heap.get? T = some oT) (hTI : IsTupOf2 s.heap TI (.ref i1) (.ref i2)) (st1 : St1 i s.heap) (st2 : St2 i s.heap) (hlt1 : i < n1) (hlt2 : i < n2)
    (hQ : ∀ x1 x2 h' tk, P1 i x1 → P2 i x2 → IsZipHeld h' z TI TO T true → St1 (i + 1) h' → St2 (i + 1) h' → IsTupOf2 h' s.heap.objs.size x1 x2 → h'.objs.size = s.heap.objs.size + 1 →
      (∀ c o, c ≠ z → c ≠ i1 → c ≠ i2 → s.heap.get? c = some o → h'.get? c = some o) → Q (.ref s.heap.objs.size) { s with heap := h', toks := tk }) :
    wpAny (model prog w) A (Builtin.«zip.__next__» ⟨[.ref z], []⟩) (fun fin s' => ∃ v, fin = .done (.ret v) ∧ Q v s') E s := by
  show wpAny _ _ (field (.ref z) 2 >>= _) _ _ _
  refine wpAny_bind (wpAny_field hz rfl (x := .bool false) rfl ?_)
  show wpAny _ _ (field (.ref z) 3 >>= _) _ _ _
  refine wpAny_bind (wpAny_field hz rfl (x := .ref TI) rfl ?_)
  refine wpAny_bind (wpAny_seqItems hTI rfl ?_)
  show wpAny _ _ (Builtin.SmallTypes.ownedTupleIsFree (.ref z) >>= _) _ _ _
  refine wpAny_bind (wpAny_tupleHeld_zip hz hT fun h₁ hz₁ hs₁ => ?_)
  simp only [Bool.false_eq_true, if_false]
  refine wpAny_bind ?_
  rw [← Array.forIn_toList]
  simp only [List.forIn_cons, List.forIn_nil]
  refine wpAny_bind (wpAny_bind (wpAny_holding ?_))
  show wpAny _ _ (Builtin.SmallTypes.nextOf (.ref i1) >>= _) _ _ _
  refine wpAny_bind (D1.item i { s with heap := h₁ } _ _ hlt1 (D1.over st1 hs₁ S.zf1) fun x1 h₂ tk2 hx1 sn1 hs₂ => wpAny_pure ?_)
  replace hs₂ : Heap.SameBut i1 h₁ h₂ := hs₂
  refine wpAny_pure ?_
  refine wpAny_bind (wpAny_bind (wpAny_holding ?_))
  show wpAny _ _ (Builtin.SmallTypes.nextOf (.ref i2) >>= _) _ _ _
  refine wpAny_bind (D2.item i { s with heap := h₂, toks := tk2 } _ _ hlt2 (D2.over (D2.over st2 hs₁ S.zf2) hs₂ S.sep1_2) fun x2 h₃ tk3 hx2 sn2 hs₃ => wpAny_pure ?_)
  replace hs₃ : Heap.SameBut i2 h₂ h₃ := hs₃
  refine wpAny_pure (wpAny_pure ?_)
  show wpAny _ _ (newTuple [x1, x2] >>= _) _ _ _
  refine wpAny_bind (wpAny_newTuple ?_)
  have hsz : h₃.objs.size = s.heap.objs.size := by rw [hs₃.1, hs₂.1, hs₁.1]
  have hz₃ : IsZipHeld h₃ z TI TO T true := hs₃.extBut _ _ S.zi2 (hs₂.extBut _ _ S.zi1 hz₁)
  have hk : ∀ c o, c ≠ z → c ≠ i1 → c ≠ i2 → s.heap.get? c = some o → h₃.get? c = some o := fun c o c1 c2 c3 e => hs₃.extBut _ _ c3 (hs₂.extBut _ _ c2 (hs₁.extBut _ _ c1 e))
  have h1₃ : St1 (i + 1) h₃ := D1.over sn1 hs₃ S.sep2_1
  refine wpAny_pure ⟨_, rfl, ?_⟩
  show Q (.ref h₃.objs.size) _
  have hp : IsTupOf2 (h₃.push { cls := .type "tuple", data := .seq #[x1, x2] }) h₃.objs.size x1 x2 := Heap.get?_push_size _ rfl
  have hz4 : (h₃.push { cls := .type "tuple", data := .seq #[x1, x2] }).objs.size = h₃.objs.size + 1 := Heap.size_push ..
  rw [hsz] at hp hz4 ⊢
  exact hQ x1 x2 _ tk3 hx1 hx2 (Heap.get?_push_of_some _ hz₃) (D1.frame _ _ _ h1₃ fun b _ o e => Heap.get?_push_of_some _ e) (D2.frame _ _ _ sn2 fun b _ o e => Heap.get?_push_of_some _ e) hp hz4 fun c o c1 c2 c3 e => Heap.get?_push_of_some _ (hk c o c1 c2 c3 e)
theorem zipD2_next_end_held {Q : Fin → Shared → Prop} (S : ZipSep2 z TI TO i1 i2 fp1 fp2) (D1 : Draws prog w A i1 fp1 n1 P1 St1) (D2 : Draws prog w A i2 fp2 n2 P2 St2)
    (hz : IsZipHeld s.heap z TI TO T f) (hT : s.heap.get? T = some oT) (hTI : IsTupOf2 s.heap TI (.ref i1) (.ref i2)) (st1 : St1 i s.heap) (st2 : St2 i s.heap) (hle1 : i ≤ n1) (hle2 : i ≤ n2) (hend : i = n1 ∨ i = n2)
    (hE : ∀ h' tk e, (∀ c o, c ≠ z → c ≠ i1 → c ≠ i2 → s.heap.get? c = some o → h'.get? c = some o) → (∃ o, h'.get? e = some o ∧ o.cls = .type "StopIteration") → E (.ref e) { s with heap := h', toks := tk }) :
    wpAny (model prog w) A (Builtin.«zip.__next__» ⟨[.ref z], []⟩) Q E s := by
  show wpAny _ _ (field (.ref z) 2 >>= _) _ _ _
  refine wpAny_bind (wpAny_field hz rfl (x := .bool false) rfl ?_)
  show wpAny _ _ (field (.ref z) 3 >>= _) _ _ _
  refine wpAny_bind (wpAny_field hz rfl (x := .ref TI) rfl ?_)
  refine wpAny_bind (wpAny_seqItems hTI rfl ?_)
  show wpAny _ _ (Builtin.SmallTypes.ownedTupleIsFree (.ref z) >>= _) _ _ _
  refine wpAny_bind (wpAny_tupleHeld_zip hz hT fun h₁ hz₁ hs₁ => ?_)
  simp only [Bool.false_eq_true, if_false]
  refine wpAny_bind ?_
  rw [← Array.forIn_toList]
  simp only [List.forIn_cons, List.forIn_nil]
  refine wpAny_bind (wpAny_bind (wpAny_holding ?_))
  show wpAny _ _ (Builtin.SmallTypes.nextOf (.ref i1) >>= _) _ _ _
  by_cases hlt1 : i < n1
  · refine wpAny_bind (D1.item i { s with heap := h₁ } _ _ hlt1 (D1.over st1 hs₁ S.zf1) fun x1 h₂ tk2 hx1 sn1 hs₂ => wpAny_pure ?_)
    replace hs₂ : Heap.SameBut i1 h₁ h₂ := hs₂
    refine wpAny_pure ?_
    refine wpAny_bind (wpAny_bind (wpAny_holding ?_))
    have hi2 : i = n2 := by omega
    show wpAny _ _ (Builtin.SmallTypes.nextOf (.ref i2) >>= _) _ _ _
    refine wpAny_bind (D2.done { s with heap := h₂, toks := tk2 } _ _ (by rw [← hi2]; exact D2.over (D2.over st2 hs₁ S.zf2) hs₂ S.sep1_2) fun h₃ e hs₃ he => ?_)
    exact hE h₃ tk2 e (fun c o c1 c2 c3 x => hs₃ _ _ c3 (hs₂.extBut _ _ c2 (hs₁.extBut _ _ c1 x))) he
  · have hi1 : i = n1 := by omega
    refine wpAny_bind (D1.done { s with heap := h₁ } _ _ (by rw [← hi1]; exact D1.over st1 hs₁ S.zf1) fun h₂ e hs₂ he => ?_)
    exact hE h₂ s.toks e (fun c o c1 c2 _ x => hs₂ _ _ c2 (hs₁.extBut _ _ c1 x)) he
theorem wpAny_pyNext_zipD2_item_held {Q : Option Value → Shared → Prop} (S : ZipSep2 z TI TO i1 i2 fp1 fp2) (D1 : Draws prog w A.in1 i1 fp1 n1 P1 St1) (D2 : Draws prog w A.in1 i2 fp2 n2 P2 St2)
    (hz : IsZipHeld s.heap z TI TO T f) (hT : s.heap.get? T = some oT) (hTI : IsTupOf2 s.heap TI (.ref i1) (.ref i2)) (st1 : St1 i s.heap) (st2 : St2 i s.heap) (hlt1 : i < n1) (hlt2 : i < n2)
    (hQ : ∀ x1 x2 h' tk, P1 i x1 → P2 i x2 → IsZipHeld h' z TI TO T true → St1 (i + 1) h' → St2 (i + 1) h' → IsTupOf2 h' s.heap.objs.size x1 x2 → h'.objs.size = s.heap.objs.size + 1 →
      (∀ c o, c ≠ z → c ≠ i1 → c ≠ i2 → s.heap.get? c = some o → h'.get? c = some o) → Q (some (.ref s.heap.objs.size)) { s with heap := h', toks := tk }) :
    wpAny (model prog w) A (pyNext (.ref z)) Q E s := by
  have hTy : s.TypeIs (.ref z) "zip" := ⟨_, hz, rfl⟩
  unfold pyNext
  exact wpAny_bind (wpAny_attempt (wpAny_callSpecial?_slot (name := Str.ofString "__next__") hTy F.slot_zip_next
    (wpAny_call_entry F.slot_zip_next hTy F.entry_zip_next
      (zipD2_next_item_held S D1 D2 hz hT hTI st1 st2 hlt1 hlt2 fun x1 x2 h' tk a1 a2 a3 a4 a5 a6 a7 a8 => wpAny_pure (hQ x1 x2 h' tk a1 a2 a3 a4 a5 a6 a7 a8)) (F.args_zip_next_1 _))))
theorem wpAny_pyNext_zipD2_end_held {Q : Option Value → Shared → Prop} (S : ZipSep2 z TI TO i1 i2 fp1 fp2) (D1 : Draws prog w A.in1 i1 fp1 n1 P1 St1) (D2 : Draws prog w A.in1 i2 fp2 n2 P2 St2)
    (hz : IsZipHeld s.heap z TI TO T f) (hT : s.heap.get? T = some oT) (hTI : IsTupOf2 s.heap TI (.ref i1) (.ref i2)) (st1 : St1 i s.heap) (st2 : St2 i s.heap) (hle1 : i ≤ n1) (hle2 : i ≤ n2) (hend : i = n1 ∨ i = n2)
    (hQ : ∀ h' tk, (∀ c o, c ≠ z → c ≠ i1 → c ≠ i2 → s.heap.get? c = some o → h'.get? c = some o) → Q none { s with heap := h', toks := tk }) : wpAny (model prog w) A (pyNext (.ref z)) Q E s := by
  have hTy : s.TypeIs (.ref z) "zip" := ⟨_, hz, rfl⟩
  unfold pyNext
  refine wpAny_bind (wpAny_attempt (wpAny_callSpecial?_slot (name := Str.ofString "__next__") hTy F.slot_zip_next
    (wpAny_call_entry F.slot_zip_next hTy F.entry_zip_next (zipD2_next_end_held S D1 D2 hz hT hTI st1 st2 hle1 hle2 hend fun h' tk e hk he => ?_) (F.args_zip_next_1 _))))
  obtain ⟨o, ho, hc⟩ := he
  refine wpAny_bind (wpAny_isInstance (T := "StopIteration") (b := true) ⟨o, ho, hc⟩ isSubtype_stop ?_)
  exact wpAny_pure (hQ _ _ hk)
theorem pairArg_zipD2 (S : ZipSep2 z TI TO i1 i2 fp1 fp2) (D1 : DrSrc prog w i1 fp1 n1 P1 St1) (D2 : DrSrc prog w i2 fp2 n2 P2 St2) :
    PairArg prog w "zip" z (z :: TI :: TO :: (fp1 ++ fp2)) [z, TO, i1, i2] (min n1 n2) (fun i k v => P1 i k ∧ P2 i v)
      (fun h => IsZip h z TI TO .none ∧ IsTupOf2 h TI (.ref i1) (.ref i2) ∧ (∃ a b, IsTupOf2 h TO a b) ∧ St1 0 h ∧ St2 0 h) where
  type := fun s ok => ⟨_, ok.1, rfl⟩
  notDict := by decide
  keep := fun h h' ok hk => by
    obtain ⟨hz, hTI, ⟨a, b, hTO⟩, h1, h2⟩ := ok
    exact ⟨hk _ _ hz, hk _ _ hTI, ⟨a, b, hk _ _ hTO⟩, D1.frame _ _ _ h1 fun b _ o e => hk _ o e, D2.frame _ _ _ h2 fun b _ o e => hk _ o e⟩
  there := fun h ok b hb => by
    obtain ⟨hz, hTI, ⟨a, c, hTO⟩, h1, h2⟩ := ok
    simp only [List.mem_cons, List.mem_append] at hb
    rcases hb with rfl | rfl | rfl | hb | hb
    · exact ⟨_, hz⟩
    · exact ⟨_, hTI⟩
    · exact ⟨_, hTO⟩
    · exact D1.there _ _ h1 b hb
    · exact D2.there _ _ h2 b hb
  sub := fun b hb => by
    simp only [List.mem_cons, List.not_mem_nil, or_false, List.mem_append] at hb ⊢
    rcases hb with rfl | rfl | rfl | rfl
    · simp
    · simp
    · exact .inr (.inr (.inr (.inl S.mem1)))
    · exact .inr (.inr (.inr (.inr S.mem2)))
  noKeys := fun A s Q E hA ok h => getAttrOr_miss_zip ok.1 rfl rfl rfl zip_no_keys (by decide +kernel) hA h
  iter := fun A s d Q E hA ok hd hdf h => by
    obtain ⟨hz, hTI, ⟨a, b, hTO⟩, h1, h2⟩ := ok
    simp only [List.mem_cons, List.mem_append, not_or] at hdf
    obtain ⟨dz, dTI, dTO, df1, df2⟩ := hdf
    have di1 : d ≠ i1 := fun q => df1 (q ▸ S.mem1)
    have di2 : d ≠ i2 := fun q => df2 (q ▸ S.mem2)
    have d1 := D1.dr A.in1 hA
    have d2 := D2.dr A.in1 hA
    refine wpAny_pyIter_zip hz (h z [z, TO, i1, i2] (fun i h => IsTupOf2 h TI (.ref i1) (.ref i2) ∧ St1 i h ∧ St2 i h ∧
      ((IsZip h z TI TO .none ∧ ∃ a b, IsTupOf2 h TO a b) ∨ ∃ T f oT, IsZipHeld h z TI TO T f ∧ h.get? T = some oT ∧ T ≠ z ∧ T ≠ i1 ∧ T ≠ i2 ∧ T ≠ d)) s.heap s.toks ?_
      ⟨hTI, h1, h2, .inl ⟨hz, a, b, hTO⟩⟩ (fun _ _ e => e) fun b hb => .inl hb)
    exact {
      off := fun hm => by
        simp only [List.mem_cons, List.not_mem_nil, or_false] at hm
        rcases hm with e | e | e | e
        · exact dz e
        · exact dTO e
        · exact di1 e
        · exact di2 e
      frame := fun i h₁ h₂ st hk => by
        obtain ⟨hTI, h1, h2, hz⟩ := st
        refine ⟨hk _ _ (Ne.symm dTI) hTI, d1.frame _ _ _ h1 fun b hb o e => hk _ o (fun q => df1 (q ▸ hb)) e, d2.frame _ _ _ h2 fun b hb o e => hk _ o (fun q => df2 (q ▸ hb)) e, ?_⟩
        rcases hz with ⟨hz, a, b, hTO⟩ | ⟨T, f, oT, hz, hT, r1, r2, r3, r4⟩
        · exact .inl ⟨hk _ _ (Ne.symm dz) hz, a, b, hk _ _ (Ne.symm dTO) hTO⟩
        · exact .inr ⟨T, f, oT, hk _ _ (Ne.symm dz) hz, hk _ _ r4 hT, r1, r2, r3, r4⟩
      item := fun i s₁ Q₁ E₁ hi st hds hQ => by
        obtain ⟨hTI, h1, h2, hz⟩ := st
        have hix : i < n1 := Nat.lt_of_lt_of_le hi (Nat.min_le_left ..)
        have hiy : i < n2 := Nat.lt_of_lt_of_le hi (Nat.min_le_right ..)
        have lt : ∀ {c o}, s₁.heap.get? c = some o → s₁.heap.objs.size ≠ c := fun e => Nat.ne_of_gt (Heap.lt_size e)
        have n1' : s₁.heap.objs.size ≠ i1 := let ⟨_, e⟩ := d1.live _ _ h1; lt e
        have n2' : s₁.heap.objs.size ≠ i2 := let ⟨_, e⟩ := d2.live _ _ h2; lt e
        rcases hz with ⟨hz, a, b, hTO⟩ | ⟨T, f, oT, hz, hT, r1, r2, r3, r4⟩
        · refine wpAny_pyNext_zipD2_item S d1 d2 hz hTI hTO h1 h2 hix hiy fun x1 x2 h' tk e1 e2 a1 a2 a3 a4 a5 a6 hk => ?_
          exact hQ s₁.heap.objs.size _ _ h' tk ⟨e1, e2⟩ (.inl ⟨_, a5, rfl, _, rfl⟩)
            ⟨hk _ _ S.TIz S.TITO S.TIi1 S.TIi2 hTI, a3, a4, .inr ⟨s₁.heap.objs.size, false, _, a1, a5, lt hz, n1', n2', Nat.ne_of_gt hds⟩⟩
            fun c o hc e => hk c o (fun x => hc (by simp [x])) (fun x => hc (by simp [x])) (fun x => hc (by simp [x])) (fun x => hc (by simp [x])) e
        · refine wpAny_pyNext_zipD2_item_held S d1 d2 hz hT hTI h1 h2 hix hiy fun x1 x2 h' tk e1 e2 a1 a3 a4 a5 a6 hk => ?_
          exact hQ s₁.heap.objs.size _ _ h' tk ⟨e1, e2⟩ (.inl ⟨_, a5, rfl, _, rfl⟩)
            ⟨hk _ _ S.TIz S.TIi1 S.TIi2 hTI, a3, a4, .inr ⟨T, true, oT, a1, hk _ _ r1 r2 r3 hT, r1, r2, r3, r4⟩⟩
            fun c o hc e => hk c o (fun x => hc (by simp [x])) (fun x => hc (by simp [x])) (fun x => hc (by simp [x])) e
      done := fun s₁ Q₁ E₁ st hQ => by
        obtain ⟨hTI, h1, h2, hz⟩ := st
        rcases hz with ⟨hz, a, b, hTO⟩ | ⟨T, f, oT, hz, hT, r1, r2, r3, r4⟩
        · exact wpAny_pyNext_zipD2_end S d1 d2 hz hTI hTO h1 h2 (Nat.min_le_left ..) (Nat.min_le_right ..) (by omega) fun h' tk hk => hQ h' tk fun c o hc e => hk c o (fun x => hc (by simp [x])) (fun x => hc (by simp [x])) (fun x => hc (by simp [x])) (fun x => hc (by simp [x])) e
        · exact wpAny_pyNext_zipD2_end_held S d1 d2 hz hT hTI h1 h2 (Nat.min_le_left ..) (Nat.min_le_right ..) (by omega) fun h' tk hk => hQ h' tk fun c o hc e => hk c o (fun x => hc (by simp [x])) (fun x => hc (by simp [x])) (fun x => hc (by simp [x])) e }
theorem drSrc_list (it l : Addr) (hne : l ≠ it) (items : Array Value) : DrSrc prog w it [it, l] items.size (fun i v => items[i]? = some v) (fun i h => h.IsListIter it l i ∧ h.IsList l items) :=
  ⟨fun A hh => Draws.list hh it l hne items, fun i h st b hb => by
    obtain ⟨⟨o1, e1, _⟩, ⟨o2, e2, _⟩⟩ := st
    simp only [List.mem_cons, List.not_mem_nil, or_false] at hb
    rcases hb with rfl | rfl
    · exact ⟨_, e1⟩
    · exact ⟨_, e2⟩, fun _ _ _ st hk => ⟨st.1.at fun o e => hk it (by simp) o e, st.2.at fun o e => hk l (by simp) o e⟩⟩
theorem drSrc_tuple (it l : Addr) (hne : l ≠ it) (items : Array Value) : DrSrc prog w it [it, l] items.size (fun i v => items[i]? = some v) (fun i h => h.IsTupleIter it l i ∧ h.IsTuple l items) :=
  ⟨fun A hh => Draws.tuple hh it l hne items, fun i h st b hb => by
    obtain ⟨⟨o1, e1, _⟩, ⟨o2, e2, _⟩⟩ := st
    simp only [List.mem_cons, List.not_mem_nil, or_false] at hb
    rcases hb with rfl | rfl
    · exact ⟨_, e1⟩
    · exact ⟨_, e2⟩, fun _ _ _ st hk => ⟨st.1.at fun o e => hk it (by simp) o e, st.2.at fun o e => hk l (by simp) o e⟩⟩
end
end JL

set_option Elab.async false
set_option linter.all false
set_option maxRecDepth 100000
set_option maxHeartbeats 4000000
set_option autoImplicit false
/-! dict(zip(xs, ys)) in the layer. -/
namespace JL
open PySem PySem.Spec PyProof.Rows L2
theorem KT.all {H : Hp} : ∀ (ks : List (List L2.Key × Addr)) {ys : List V} {us : List Value} {kvs : List (List L2.Key × V)} {xs : List (List L2.Key × Addr × Value)}, Vals ys us → (∀ p ∈ ks, H p.2 = some (.tup (p.1.map kV))) → KT H kvs xs →
    KT H (((ks.map (·.1)).zip ys).foldl (fun acc p => putK acc p.1 p.2) kvs) (storedAllH xs ((ks.zip us).map fun z => (z.1.1, z.1.2, z.2)))
  | [], ys, us, kvs, xs, _, _, r => by simpa [storedAllH] using r
  | k :: ks, [], _, kvs, xs, .nil, _, r => by simpa [storedAllH] using r
  | k :: ks, y :: ys, _, kvs, xs, .cons ry t, hk, r => by
    have := KT.all ks t (fun p hp => hk p (by simp [hp])) (r.put k.1 (hk k (by simp)) ry)
    simpa [storedAllH] using this
theorem any_keys {α : Type} (kvs : List (List L2.Key × α)) (k : List L2.Key) (h : k ∉ kvs.map (·.1)) : (kvs.any fun p => decide (p.1 = k)) = false := by
  rw [List.any_eq_false]
  intro p hp hq
  exact h (List.mem_map.mpr ⟨p, hp, of_decide_eq_true hq⟩)
theorem fold_put : ∀ (ls : List (List L2.Key × V)) (kvs : List (List L2.Key × V)), ((kvs ++ ls).map (·.1)).Nodup → ls.foldl (fun acc p => putK acc p.1 p.2) kvs = kvs ++ ls
  | [], kvs, _ => by simp
  | l :: ls, kvs, h => by
    have hn : l.1 ∉ kvs.map (·.1) := by
      rw [List.map_append, List.nodup_append] at h
      intro z
      exact h.2.2 _ z _ (by simp) rfl
    have e : putK kvs l.1 l.2 = kvs ++ [l] := by
      unfold putK
      rw [any_keys kvs l.1 hn]
      rfl
    rw [List.foldl_cons, e, fold_put ls (kvs ++ [l]) (by simpa using h)]
    simp
def tDictZip (K : PySem.W.Frag) (ta : TA) : TE := fun σ H Q => ta σ H fun vs H1 => ∃ (a b : Addr) (ks : List (List L2.Key × Addr)) (ys : List V), vs = [.ref a, .ref b] ∧ SqL K H1 a (ks.map fun p => V.ref p.2) ∧ (SqL K H1 b ys ∨ SqT K H1 b ys) ∧ ks.length = ys.length ∧ (ks.map (·.1)).Nodup ∧ ks.length ≤ 1000 ∧
  (∀ p ∈ ks, H1 p.2 = some (.tup (p.1.map kV))) ∧ ∀ p, H1 p = none → Q (.ref p) (upd H1 p (.dT ((ks.map (·.1)).zip ys)))
theorem pe_dictZip {X : Cx} {a b : Expr} {ta : TA} {p p2 q pos : Pos} (hu : X.A.units + 64 < cLine) (hg : Gl X "dict") (hm : X.mg "dict" = none) (hg2 : Gl X "zip") (hm2 : X.mg "zip" = none) (ha : PA X [a, b] ta) (hc : X.calm = true)
    (hs : starEach [a, b] X.env = (false, eval a X.env) :: starEach [b] X.env := by rfl) (hpl : (backTo q (starEach [b] X.env)).any (·.1) = false := by rfl) :
    PE X (.Call (.Name "dict" p) [.Call (.Name "zip" p2) [a, b] [] q] [] pos) (tDictZip X.K ta) := by
  refine ⟨fun pins s σ H Q I h => ?_⟩
  refine Call_ (ld_blt I hg hm boot_dict ?_)
  refine PyProof.Rows.callWith_type1 (PyProof.Rows.args_cons ?_ rfl) rfl rfl
  refine Call_ (ld_blt I hg2 hm2 PyProof.Rows.boot_zip (PyProof.Rows.callWith_type1 (thn (ha.run q pins s σ H _ I h) fun us s1 ⟨vs, H1, I1, r1, q1⟩ => ?_) hs hpl))
  obtain ⟨l1, l2, ks, ys, rfl, hq1, hq2, hlen, hnd, hz, hkeys, q1⟩ := q1
  have hh : X.A.handled = none := I.ok.hd hc
  cases r1 with
  | cons r rr =>
    cases rr with
    | cons r' rr =>
      cases rr
      cases r
      cases r'
      obtain ⟨its, rv, p1, _⟩ := I1.list hq1
      have la : l1 < s1.heap.objs.size := p1.lt
      -- the argument's draws, for either kind of the second
      have main : ∀ (us2 : List Value) (o2 : Obj) (H2 : Heap → Prop) (St2 : Nat → Heap → Prop), Vals ys us2 → Begins (.ref l2) o2 H2 → H2 s1.heap → l2 < s1.heap.objs.size → DrSrc X.prog X.w (s1.heap.objs.size + 1) [s1.heap.objs.size + 1, l2] us2.toArray.size (fun i v => us2.toArray[i]? = some v) St2 →
          (∀ h' : Heap, h'.get? (s1.heap.objs.size + 1) = some o2 → H2 h' → St2 0 h') →
          wpAny (model X.prog X.w) X.A (call (.type "zip") [.ref l1, .ref l2]) (fun v s' => wpAny (model X.prog X.w) X.A (spliced (backTo pos (starEach [] X.env))) (fun vs s'' => wpAny (model X.prog X.w) X.A (call (.type "dict") (v :: vs)) (EP X pins σ Q) X.xe s'') X.xe s') X.xe s1 := by
        intro us2 o2 H2 St2 rv2 B2 h2 lb D2 hst2
        refine zip_begins2 (begins_list l1 its.toArray) B2 p1.isList h2 fun h' hz' hTI hTO g1 g2 hsz hk => ?_
        refine PyProof.Rows.args_nil ?_
        have hne1 : l1 ≠ s1.heap.objs.size := Nat.ne_of_lt la
        have hlt2 : l2 ≠ s1.heap.objs.size + 1 := Nat.ne_of_lt (Nat.lt_succ_of_lt lb)
        have lv1 : its.length = ks.length := by rw [← rv.length, List.length_map]
        have lv2 : us2.length = ys.length := rv2.length.symm
        have D1 : DrSrc X.prog X.w s1.heap.objs.size [s1.heap.objs.size, l1] its.toArray.size (fun i v => its.toArray[i]? = some v) (fun i h => h.IsListIter s1.heap.objs.size l1 i ∧ h.IsList l1 its.toArray) := drSrc_list _ _ hne1 _
        have S := zip_sep2 (N := s1.heap.objs.size) (fp1 := [l1]) (fp2 := [l2]) (by simpa using la) (by simpa using lb)
        have keep : ∀ (hh2 : Heap), (∀ b o, b ∉ [s1.heap.objs.size + 4, s1.heap.objs.size + 3, s1.heap.objs.size, s1.heap.objs.size + 1] → h'.get? b = some o → hh2.get? b = some o) → ∀ b o, s1.heap.get? b = some o → hh2.get? b = some o := fun hh2 hk2 b o e => by
          have hb := Heap.lt_size e
          refine hk2 b o (fun hm => ?_) (hk b o e)
          simp only [List.mem_cons, List.not_mem_nil, or_false] at hm
          rcases hm with z | z | z | z
          · exact absurd z (Nat.ne_of_lt (Nat.lt_of_lt_of_le hb (Nat.le_add_right _ _)))
          · exact absurd z (Nat.ne_of_lt (Nat.lt_of_lt_of_le hb (Nat.le_add_right _ _)))
          · exact absurd z (Nat.ne_of_lt hb)
          · exact absurd z (Nat.ne_of_lt (Nat.lt_of_lt_of_le hb (Nat.le_add_right _ _)))
        have hps : (its.zip us2).length = (ks.zip us2).length := by rw [List.length_zip, List.length_zip, lv1]
        refine call_dict_pairsH (knd := tupleKind (mixKind X.prog X.w)) (ps := (ks.zip us2).map fun z => (z.1.1, z.1.2, z.2)) (pairArg_zipD2 S D1 D2) hh (tupleKind_room_in1 (A := X.A.in1) (by show X.A.units + 1 + 1 < cLine; omega))
          ⟨hz', hTI, ⟨_, _, hTO⟩, ⟨⟨_, g1, rfl, rfl⟩, p1.isList.at fun o e => hk _ o e⟩, hst2 h' g2 (B2.keeps _ _ h2 hk)⟩ ⟨?_, ?_⟩ ?_ ?_ fun h'' tk hd' hk2 => ?_
        · rw [List.length_map, List.length_zip, List.size_toArray, List.size_toArray, lv1]
        · rintro i key v ⟨e1, e2⟩
          have e1' : its[i]? = some key := by simpa using e1
          have e2' : us2[i]? = some v := by simpa using e2
          have hi : i < ks.length := by rw [← lv1]; exact (List.getElem?_eq_some_iff.mp e1').1
          have ek : ks[i]? = some ks[i] := List.getElem?_eq_getElem hi
          obtain ⟨u, hu', ru⟩ := rv.get (i := i) (x := V.ref ks[i].2) (by rw [List.getElem?_map, ek]; rfl)
          refine ⟨ks[i].1, ks[i].2, ?_, ?_⟩
          · rw [List.getElem?_map, (List.getElem?_zip_eq_some (z := (ks[i], v))).mpr ⟨ek, e2'⟩]
            rfl
          · rw [e1'] at hu'
            cases hu'
            exact ru
        · rintro h2' hk2 x hx
          obtain ⟨zz, hzz, rfl⟩ := List.mem_map.mp hx
          have hkm := (List.of_mem_zip hzz).1
          refine tupleKind_stays.stays (fun b o vs n e _ => ?_) (key_of I1.hok (hkeys _ hkm))
          have hb := Heap.lt_size e
          refine hk2 b o ?_ (fun hm => ?_) (hk b o e)
          · rw [hsz]; exact Nat.ne_of_lt (Nat.lt_of_lt_of_le hb (Nat.le_add_right _ _))
          · simp only [List.mem_cons, List.not_mem_nil, or_false] at hm
            rcases hm with z | z | z | z
            · exact absurd z (Nat.ne_of_lt (Nat.lt_of_lt_of_le hb (Nat.le_add_right _ _)))
            · exact absurd z (Nat.ne_of_lt (Nat.lt_of_lt_of_le hb (Nat.le_add_right _ _)))
            · exact absurd z (Nat.ne_of_lt hb)
            · exact absurd z (Nat.ne_of_lt (Nat.lt_of_lt_of_le hb (Nat.le_add_right _ _)))
        · rw [List.size_toArray, List.size_toArray, lv1, sizeLine_eq]; omega
        · have hp : H1 h'.objs.size = none := I1.hok.fresh (by rw [hsz]; exact Nat.le_add_right _ _)
          obtain ⟨oq, es, ep, hq, h2q, h3, h4, _, h5⟩ := hd'
          have kt : KT H1 ((ks.map (·.1)).zip ys) (storedAllH [] ((ks.zip us2).map fun z => (z.1.1, z.1.2, z.2))) := by
            have := KT.all ks (kvs := []) (xs := []) rv2 hkeys .nil
            rw [fold_put _ [] (by
              have e : (((ks.map (·.1)).zip ys).map (·.1)) = ks.map (·.1) := List.map_fst_zip (by rw [List.length_map]; omega)
              rw [List.nil_append, e]
              exact hnd)] at this
            exact this
          refine ⟨.ref h'.objs.size, _, I1.laid (a := h'.objs.size) (o := .dT ((ks.map (·.1)).zip ys)) (t' := tk) (keep h'' hk2) (by rw [hsz]; exact Nat.le_add_right _ _) ⟨?_, ?_, _, kt.keeps fun c cs ec => ?_, oq, es, ep, hq, h2q, h3, h4, h5⟩, rfl, q1 _ hp⟩
          · rw [List.length_zip, List.length_map, sizeLine_eq]; omega
          · refine beq_eq_false_iff_ne.mpr ?_
            rw [hsz]
            exact Ne.symm (Nat.ne_of_lt (Nat.lt_of_lt_of_le I1.big (Nat.le_add_right _ _)))
          · rw [upd_ne (ne_of_none ec hp)]
            exact ec
      rcases hq2 with hq2 | hq2
      · obtain ⟨its2, rv2, p2, _⟩ := I1.list hq2
        exact main its2 _ _ _ rv2 (begins_list l2 its2.toArray) p2.isList p2.lt (drSrc_list _ _ (Nat.ne_of_lt (Nat.lt_succ_of_lt p2.lt)) _) fun h' e1 e2 => ⟨⟨_, e1, rfl, rfl⟩, e2⟩
      · obtain ⟨its2, rv2, p2, _⟩ := I1.tuple hq2
        obtain ⟨o2, ho2, _⟩ := id p2
        exact main its2 _ _ _ rv2 (begins_tuple l2 its2.toArray) p2 (Heap.lt_size ho2) (drSrc_tuple _ _ (Nat.ne_of_lt (Nat.lt_succ_of_lt (Heap.lt_size ho2))) _) fun h' e1 e2 => ⟨⟨_, e1, rfl, rfl⟩, e2⟩
section
variable {tb : List Addr} {X : Cx} {G : List Slt} {N : List Str} {sc : Scope} {k : Nat} {pos : Pos}
theorem al_keys {K : PySem.W.Frag} {F : Hp} : ∀ {ks : List (List Int)} {vs : List V}, Al K F (ks.map keyT) vs → ∃ as : List Addr, as.length = ks.length ∧ vs = as.map V.ref ∧ ∀ p ∈ (ks.map keyOf).zip as, F p.2 = some (.tup (p.1.map kV))
  | [], _, .nil => ⟨[], rfl, rfl, by simp⟩
  | k :: ks, _, .cons h t => by
    obtain ⟨a, rfl, e⟩ := h
    obtain ⟨as, l, rfl, q⟩ := al_keys t
    refine ⟨a :: as, by simp [l], rfl, fun p hp => ?_⟩
    rw [List.map_cons, List.zip_cons_cons] at hp
    rcases List.mem_cons.mp hp with rfl | hp
    · show F a = _
      rw [kV_ints]
      exact e
    · exact q p hp
theorem alD_zip {K : PySem.W.Frag} {F : Hp} : ∀ {ks : List (List Int)} {Ts : List Ty} {ws : List V}, Al K F Ts ws → AlD K F (ks.zip Ts) ((ks.map keyOf).zip ws)
  | [], _, _, _ => .nil
  | _ :: _, [], _, .nil => .nil
  | k :: ks, T :: Ts, _, .cons h t => .cons ⟨rfl, h⟩ (alD_zip t)
theorem keyOf_nodup {ks : List (List Int)} (h : ks.Nodup) : (ks.map keyOf).Nodup := by
  rw [List.nodup_iff_pairwise_ne, List.pairwise_map] at *
  exact h.imp fun hne z => hne (keyOf_inj z)
/-- dict(zip(xs, ys)) -/
theorem e_dictZip (h : CxD X N sc k) {a b : Expr} {ks : List (List Int)} {T : Ty} {Ts : List Ty} {p p2 q pos : Pos} (ha : E tb X G a (lstT (ks.map keyT))) (hb : E tb X G b T) (hq : IsSeq T Ts) (hl : ks.length = Ts.length) (hn : ks.Nodup) (hz : ks.length ≤ 1000) (hm : X.mg "dict" = none) (hm2 : X.mg "zip" = none)
    (hg : sc.names.lookup ("dict" : Str) = some .globalImplicit := by rfl) (hg2 : sc.names.lookup ("zip" : Str) = some .globalImplicit := by rfl) (hsa : NoStar a := by intro _ _; rfl) (hsb : NoStar b := by intro _ _; rfl) (hpl : (backTo q (starEach [b] X.env)).any (·.1) = false := by rfl) :
    E tb X G (.Call (.Name "dict" p) [.Call (.Name "zip" p2) [a, b] [] q] [] pos) (dctT (ks.zip Ts)) := fun B σ F H Q hs qq => by
  refine ewp_of (pe_dictZip h.hu (h.gl hg) hm (h.gl hg2) hm2 (pa_cons (pe_wp a) (pa_cons (pe_wp b) pa_nil (hsb [] X.env)) (hsa [b] X.env)) h.calm (hsa [b] X.env) hpl) ?_
  refine ha B σ F H _ hs fun v F1 H1 x1 t => hb B σ F1 H1 _ (hs.up x1) fun w F2 H2 x2 t2 => ?_
  obtain ⟨p1, vs, rfl, s, al⟩ := (lstT (ks.map keyT)).mono x2.ff t
  obtain ⟨p2, ws, rfl, s2, al2⟩ := hq.get t2
  obtain ⟨as, la, rfl, hk⟩ := al_keys al
  have e1 : ((ks.map keyOf).zip as).map (·.1) = ks.map keyOf := List.map_fst_zip (by rw [List.length_map]; omega)
  refine ⟨p1, p2, (ks.map keyOf).zip as, ws, rfl, ?_, ?_, ?_, ?_, ?_, ?_, fun l hp => ?_⟩
  · have e : ((ks.map keyOf).zip as).map (fun p => V.ref p.2) = as.map V.ref := by
      have : ((ks.map keyOf).zip as).map (·.2) = as := List.map_snd_zip (by rw [List.length_map]; omega)
      calc _ = (((ks.map keyOf).zip as).map (·.2)).map V.ref := by rw [List.map_map]; rfl
        _ = _ := by rw [this]
    rw [e]
    exact al_seq x2.fz s
  · rcases s2 with s2 | s2
    · exact .inl (al_seq x2.fz s2)
    · exact .inr (al_sqt x2.fz s2)
  · rw [List.length_zip, List.length_map, la, Nat.min_self, hl, al2.length]
  · rw [e1]; exact keyOf_nodup hn
  · rw [List.length_zip, List.length_map, la, Nat.min_self]; exact hz
  · exact fun p hp => (x2.fz _ _ (hk p hp)).1
  · rw [e1]
    have x3 := Ext.new x2.fz hp (o := .dT ((ks.map keyOf).zip ws)) (fun _ z => nomatch z)
    exact qq _ _ _ ((x1.trans x2).trans x3) ⟨l, _, rfl, upd_same, (alD_zip al2).up x3.ff⟩
end
end JL

set_option Elab.async false
set_option linter.all false
set_option maxRecDepth 100000
set_option maxHeartbeats 4000000
set_option autoImplicit false
/-! tuple(d.values()). -/
namespace JL
open PySem PySem.Spec PyProof.Rows L2
open AutoSeq1 (wpAny_loadPart')
theorem meets_tuple_new_vals {prog : Program} {w : World} (r d : Addr) (es : Array DictEntry) (ep : Nat) (hsz : es.size ≤ sizeLine) :
    MeetsIn prog w (Builtin.«tuple.__new__» ⟨[.type "tuple", .ref r], []⟩)
      (fun A R s => A.handled = none ∧ s.heap.IsValuesView r d ∧ s.heap.DictRaw d es ep ∧ ∀ (h' : Heap) (tk : Nat), (∀ b o', s.heap.get? b = some o' → h'.get? b = some o') → R (.ok (.ret (.ref h'.objs.size))) { s with heap := h'.push { cls := .type "tuple", data := .seq (es.map (·.val)) }, toks := tk }) :=
  .of_wp fun A R s h => by
    obtain ⟨hh, hv, hr, h⟩ := h
    have hsub := sub_tuple_self
    have hinit := init_tuple_lookup
    have hmh := madeHere_tuple
    have hT : s.TypeIs (.ref r) "dict_values" := hv.typeIs
    have hh1 : A.in1.handled = none := hh
    have key : ∀ {R2 : List Value → Shared → Prop} {E : Value → Shared → Prop}, (∀ (h' : Heap) (tk : Nat) (acc : Array Value), (∀ b o, s.heap.get? b = some o → h'.get? b = some o) → ItemsOf (fun i v => ∃ hi : i < es.size, v = es[i].val) acc es.size → R2 acc.toList { s with heap := h', toks := tk }) → wpAny (model prog w) A.in1 (collect (.ref r)) R2 E s :=
      fun q => PySem.W.kdu_collect (PySem.KdlSrc.rawValues (r := r) (d := d) (es := es) (ep := ep)) hh1 ⟨hv, hr⟩ hsz q
    wp_walk using wpAny_typeOf hT, key
    intro h' tk acc hk hacc
    have e0 : acc = es.map (·.val) := by
      apply Array.ext
      · rw [hacc.1, Array.size_map]
      · intro i h1 h2
        obtain ⟨hi, e⟩ := hacc.2 i acc[i] (by simp [h1])
        rw [e, Array.getElem_map]
    show wpAny _ _ (Builtin.Tuple.tupleExact acc.toList.toArray >>= fun v => ret v) _ _ _
    unfold Builtin.Tuple.tupleExact
    refine wpAny_bind (wpAny_newObj_type ?_ (show acc.toList.toArray.size ≤ sizeLine by simp only [Array.toArray_toList]; rw [hacc.1]; exact hsz))
    refine wpAny_pure ⟨_, rfl, ?_⟩
    have e : acc.toList.toArray = acc := by simp
    rw [e, e0]
    exact h h' tk hk
theorem kt_vals {H : Hp} : ∀ {kvs : List (List L2.Key × V)} {xs : List (List L2.Key × Addr × Value)}, KT H kvs xs → Vals (kvs.map (·.2)) (xs.map (fun x => x.2.2))
  | _, _, .nil => .nil
  | _, _, .cons h t => .cons h.2.2 (kt_vals t)
/-- tuple(d.values()) -/
def tVals (td : TE) : TE := fun σ H Q => td σ H fun x H1 => ∃ d kvs, x = .ref d ∧ Rd H1 d (.dT kvs) ∧ ∀ p, H1 p = none → Q (.ref p) (upd H1 p (.tup (kvs.map (·.2))))
theorem pe_vals {X : Cx} {o : Expr} {td : TE} {p apos cpos pos : Pos} (hg : Gl X "tuple") (hm : X.mg "tuple" = none) (he : PE X o td) (hc : X.calm = true) (hbase : attributeBase o "values" X.env (eval o X.env) = eval o X.env := by rfl) (hline : (apos.endLine == cpos.line) = true := by rfl) :
    PE X (.Call (.Name "tuple" p) [.Call (.Attribute o "values" apos) [] [] cpos] [] pos) (tVals td) := by
  refine ⟨fun pins s σ H Q I h => ?_⟩
  refine Call_ (ld_blt I hg hm boot_tuple ?_)
  refine PyProof.Rows.callWith_type1 (PyProof.Rows.args_cons ?_ rfl) rfl rfl
  refine wpAny_Call_method (T := "dict") (id := "dict.values") hbase rfl hline F.plainAttrs_dict F.slot_dict_values F.type_dict_values (thn (he.run pins s σ H _ I h) fun u s1 ⟨x, H1, I1, rx, d, kvs, ex, hd, q⟩ => ?_)
  subst ex
  obtain rfl : u = Value.ref d := rx
  obtain ⟨z, hs, xs, kt, dd⟩ := dt_rd I1.hok hd
  obtain ⟨t1, t2, _⟩ := isD_at I1 (.inr ⟨kvs, hd⟩)
  refine ⟨t1, t2, ?_⟩
  obtain ⟨es, ep, hr, hsz, hes⟩ := dd.raw
  have hr2 : (s1.heap.push { cls := .type "dict_values", data := .fields #[.ref d] }).DictRaw d es ep := hr.at fun o e => Heap.get?_push_of_some _ e
  have hv : (s1.heap.push { cls := .type "dict_values", data := .fields #[.ref d] }).IsValuesView s1.heap.objs.size d := ⟨_, Heap.get?_push_size _ rfl, rfl, rfl⟩
  have lk : kvs.length = xs.length := Paired.length kt
  have vals : Vals (kvs.map (·.2)) (es.map (·.val)).toList := by
    have e : (es.map (·.val)).toList = xs.map (fun x => x.2.2) := by
      apply List.ext_getElem?
      intro i
      by_cases hi : i < es.size
      · obtain ⟨y, h1, h2, h3, h4⟩ := hes i hi
        simp [h1, h3, hi]
      · have h1 : xs[i]? = none := List.getElem?_eq_none (by omega)
        simp [h1, hi]
    rw [e]
    exact kt_vals kt
  have fin : wpAny (model X.prog X.w) X.A (call (.type "tuple") [.ref s1.heap.objs.size]) (EP X pins σ Q) X.xe { s1 with heap := s1.heap.push { cls := .type "dict_values", data := .fields #[.ref d] } } := by
    refine callType_newIn F.called_tuple (by decide) (F.typeCall_tuple_1 _) (F.newCall_tuple_1 _) (fun obj => F.args_object_init_2 obj _) F.entry_tuple_new
      (meets_tuple_new_vals _ d es ep (by omega)) ⟨I1.ok.hd hc, hv, hr2, fun h' tk hk => ⟨⟨_, Heap.get?_push_size _ rfl, rfl⟩, ?_⟩⟩
    have hk' : ∀ b o, s1.heap.get? b = some o → h'.get? b = some o := fun b o e => hk b o (Heap.get?_push_of_some _ e)
    have hle : s1.heap.objs.size ≤ h'.objs.size := Nat.le_of_lt (Heap.lt_size (hk _ _ (Heap.get?_push_size _ rfl)))
    have hp : H1 h'.objs.size = none := I1.hok.fresh hle
    refine ⟨.ref h'.objs.size, _, I1.laid (a := h'.objs.size) (o := .tup (kvs.map (·.2))) (t' := tk) (fun b o e => Heap.get?_push_of_some _ (hk' b o e)) hle ⟨by rw [List.length_map]; exact z, (es.map (·.val)).toList, vals, ?_⟩, rfl, q _ hp⟩
    have et : (es.map (·.val)).toList.toArray = es.map (·.val) := Array.toArray_toList
    rw [et]
    exact ⟨_, Heap.get?_push_size _ rfl, rfl, _, rfl⟩
  show wpAny _ _ (callWith cpos (.builtin "dict.values") [.ref d] [] []) _ X.xe s1
  exact method_meetsIn F.slot_dict_values F.entry_dict_values rfl (PySem.evalArgs_none ⟨rfl, t1, F.args_dict_values_1 _, _, meets_dict_values_raw d hs, ⟨es, ep, hr⟩, PyProof.Rows.args_nil fin⟩)
section
variable {tb : List Addr} {X : Cx} {G : List Slt} {N : List Str} {sc : Scope} {k : Nat} {pos : Pos}
theorem alD_vals {K : PySem.W.Frag} {F : Hp} : ∀ {kvs : List (List Int × Ty)} {vs : List (List Key × V)}, AlD K F kvs vs → Al K F (kvs.map (·.2)) (vs.map (·.2))
  | _, _, .nil => .nil
  | _, _, .cons h t => .cons h.2 (alD_vals t)
theorem e_vals (h : CxD X N sc k) {o : Expr} {kvs : List (List Int × Ty)} {p apos cpos : Pos} (ho : E tb X G o (dctT kvs)) (hm : X.mg "tuple" = none) (hg : sc.names.lookup ("tuple" : Str) = some .globalImplicit := by rfl)
    (hbase : attributeBase o "values" X.env (eval o X.env) = eval o X.env := by rfl) (hline : (apos.endLine == cpos.line) = true := by rfl) : E tb X G (.Call (.Name "tuple" p) [.Call (.Attribute o "values" apos) [] [] cpos] [] pos) (tupT (kvs.map (·.2))) := fun B σ F H Q hs q =>
  ewp_of (pe_vals (h.gl hg) hm (pe_wp o) h.calm hbase hline) (ho B σ F H _ hs fun x F1 H1 x1 t => by
    obtain ⟨a, vs, rfl, hd, al⟩ := t
    refine ⟨a, vs, rfl, .inl (x1.fz _ _ hd).1, fun l hl => ?_⟩
    have x3 := Ext.new x1.fz hl (o := .tup (vs.map (·.2))) (fun _ z => nomatch z)
    exact q _ _ _ (x1.trans x3) ⟨l, _, rfl, SqT.of upd_same, (alD_vals al).up x3.ff⟩)
end
end JL

set_option Elab.async false
set_option linter.all false
set_option maxRecDepth 100000
set_option maxHeartbeats 4000000
set_option autoImplicit false
/-! Comprehensions of dicts with tuples as keys. -/
namespace JL
open PySem PySem.Spec PyProof.Rows L2
theorem dictSetT {X : Cx} {pins : List (Addr × Obj)} {σ : L2.St} {H : Hp} {s : Shared} {E : Value → Shared → Prop} {D b : Addr} {kvs : List (List L2.Key × V)} {k : List L2.Key} {v : V} {r : Value} {Q : Unit → Shared → Prop} (hu : X.A.units < cLine) (I : Inv X pins σ H s)
    (hD : H D = some (.dT kvs)) (eb : H b = some (.tup (k.map kV))) (hz : kvs.length < sizeLine) (rv : RelV v r) (h : ∀ s', Inv X pins σ (upd H D (.dT (putK kvs k v))) s' → Q () s') : wpAny (model X.prog X.w) X.A (dictSet D (.ref b) r) Q E s := by
  obtain ⟨z, hd, xs, rel, dd⟩ := dt_of I.hok hD
  have hzx : xs.length ≤ sizeLine := by rw [← Paired.length rel]; exact z
  have hl : (putK kvs k v).length ≤ sizeLine := by have := length_putK kvs k v; omega
  refine wpAny_dictSet_heap (hsz := hzx) hu (key_of I.hok eb) dd fun h' dd' hs => h _ ?_
  obtain ⟨q, es, ep, hq, h2, h3, h4, _, h5⟩ := dd'
  refine d_write I (by rw [hD]; exact True.intro) hs ⟨q, hq⟩ ⟨hl, hd, _, (rel.put k eb rv).keeps fun c ys ec => ?_, q, es, ep, hq, h2, h3, h4, h5⟩
  rw [upd_ne (ne_of ec hD (fun z => nomatch z))]
  exact ec
/-- {k: v for target in iter}, the keys tuples: D the new dict -/
def tDcT (wi : TI) (g : TG) (tk tv : TE) (vs : List Nat) : TE := fun σ H Q => wi σ H fun J H1 => ∀ D, H1 D = none → ∃ W : Nat → Nat → Hp → Prop, (∃ m, W 0 m (upd H1 D (.dT []))) ∧ ∀ i m H, W i m H →
  (J.stop i H ∧ Q (.ref D) H) ∨ (J.go i H ∧ ∃ Nx : Hp → Prop, (∀ H', Nx H' → ∃ m', m' < m ∧ W (i + 1) m' H') ∧ ∀ x H', J.yld i H x H' → g x (wipe σ vs) H' fun σ2 H2 => wipe σ2 vs = wipe σ vs ∧
    tk σ2 H2 fun y H4 => tv σ2 H4 fun z H5 => ∃ kvs k b, y = .ref b ∧ H5 b = some (.tup (k.map kV)) ∧ H5 D = some (.dT kvs) ∧ kvs.length < sizeLine ∧ Nx (upd H5 D (.dT (putK kvs k z))))
section
variable {X : Cx}
theorem pe_dcT {kx vx tg iter : Expr} {scope : Scope} {own : List (Str × Nat)} {pos : Pos} {wi : TI} {g : TG} {tk tv : TE} (hu : X.A.units < cLine) (hc : X.calm = true) (hN : X.N.Nodup) (hi : PI X tg iter wi) (ok : BlkOk X.N X.env.scope scope own)
    (hg : ∀ (s : Shared) (H : Hp) (C : Addr) (cl : List (Str × Addr)) (fp : List Addr), PG (Blk X scope s H C cl fp) tg g)
    (hk : ∀ (s : Shared) (H : Hp) (C : Addr) (cl : List (Str × Addr)) (fp : List Addr), PE (Blk X scope s H C cl fp) kx tk)
    (he : ∀ (s : Shared) (H : Hp) (C : Addr) (cl : List (Str × Addr)) (fp : List Addr), PE (Blk X scope s H C cl fp) vx tv) (hs : ∀ x, foldedSetIterable iter X.env x = pure x) :
    PE X (.DictComp kx vx [⟨tg, iter, [], 0⟩] scope pos) (tDcT wi g tk tv (own.map (·.2))) := by
  refine ⟨fun pins s σ H Q I h => ?_⟩
  rw [arm_eval_DictComp]
  have hfree : ∀ y ∈ scope.names, y.2 = .free → ∃ c, X.env.cells.lookup y.1 = some c := fun y hy e => by
    rcases ok.free y hy e with k | k
    · exact I.ok.has _ (.inl k)
    · exact I.ok.has _ (.inr k)
  refine wpAny_comprehension_free rfl hs (closure_ok hfree) ok.kind (fun y hy e => by rw [ok.uniq y hy, e])
    (thn (hi.run pins s σ H _ I h) fun xv s1 hx => thn hx fun itv s2 h2 => ?_)
  obtain ⟨it, fp, tn, J, H2, e, I2, T, st2, f2, q⟩ := h2
  subst e
  refine wpAny_newObj_type (newEnv_comp ?_)
  generalize hD : s2.heap.objs.size = D
  have hDn : H2 D = none := I2.hok.fresh (Nat.le_of_eq hD)
  obtain ⟨W, ⟨m0, w0⟩, turn⟩ := q D hDn
  generalize hs3 : ({ s2 with heap := s2.heap.push { cls := .type "dict", data := .dict #[] } } : Shared) = s3
  have I3 : Inv X pins σ (upd H2 D (.dT [])) s3 := by
    rw [← hs3]
    refine I2.laid (t' := s2.toks) (fun b o e => Heap.get?_push_of_some _ e) (Nat.le_of_eq hD) ?_
    rw [← hD]
    exact dt_empty s2.heap I2.big
  have h3 : s3.heap = s2.heap.push { cls := .type "dict", data := .dict #[] } := by rw [← hs3]
  have sz : ∀ b ∈ fp, b < s2.heap.objs.size := fun b hb => let ⟨o, e, _⟩ := T.obj _ _ st2 b hb; Heap.lt_size e
  have f3 : ∀ b ∈ fp, FpOk X pins (upd H2 D (.dT [])) b ∧ b < s3.heap.objs.size := fun b hb => by
    have hlt := sz b hb
    refine ⟨⟨?_, (f2 b hb).2⟩, by rw [h3, Heap.size_push]; exact Nat.lt_succ_of_lt hlt⟩
    rw [upd_ne (by rw [← hD]; exact Nat.ne_of_lt hlt)]
    exact (f2 b hb).1
  have st3 : tn 0 s3.heap := T.keep _ _ _ st2 fun b _ o e => by rw [h3]; exact Heap.get?_push_of_some _ e
  have I4 := block_start I3 ok hN f3
  generalize hcl : cellsFrom (s3.heap.objs.size + 1) scope.names (cloFrom X.env.cells scope.names []) = cl at I4
  have pg : PG (X.blk s3 (upd H2 D (.dT [])) scope (compEnvC scope cl s3.heap.objs.size X.env) fp) tg g := hg s3 (upd H2 D (.dT [])) s3.heap.objs.size cl fp
  have pk : PE (X.blk s3 (upd H2 D (.dT [])) scope (compEnvC scope cl s3.heap.objs.size X.env) fp) kx tk := hk s3 (upd H2 D (.dT [])) s3.heap.objs.size cl fp
  have pe : PE (X.blk s3 (upd H2 D (.dT [])) scope (compEnvC scope cl s3.heap.objs.size X.env) fp) vx tv := he s3 (upd H2 D (.dT [])) s3.heap.objs.size cl fp
  have nfp : ∀ b ∈ fp, (upd H2 D (.dT [])) b = none := fun b hb => (f3 b hb).1.1
  have hRR : ∀ C s' m H', Inv X pins σ H' s' → Q (.ref D) H' → s'.heap.Ns C m → FpOk X pins H' C → compPost (model X.prog X.w) X.A X.xe none (EP X pins σ Q) (.ref D) C (.ok .next) s' := fun C s' m H' I' q hn f => ⟨m, hn, fun h'' sb => by
    obtain ⟨f0, f1, f2, f3, f4, f5⟩ := f
    exact ⟨.ref D, H', I'.turned (t' := s'.toks) (fun b o hb e => (sb.2 b hb).trans e) f0 f1 f3 f4 f5, rfl, q⟩⟩
  show codeAny _ _ (.compStart (.DictComp kx vx [⟨tg, iter, [], 0⟩] scope pos) 0 (.ref it) (.ref D) (compEnvC scope cl s3.heap.objs.size X.env)) (compPost (model X.prog X.w) X.A X.xe none (EP X pins σ Q) (.ref D) s3.heap.objs.size) { s3 with heap := pushCells (s3.heap.push { cls := .type "dict", data := .dict #[] }) scope.names }
  generalize hce : compEnvC scope cl s3.heap.objs.size X.env = ce at I4 pg pk pe ⊢
  have cL : ce.locals = s3.heap.objs.size := by subst hce; rfl
  generalize hH3 : upd H2 D (.dT []) = H3 at I3 I4 pg pk pe w0 nfp f3
  generalize hs4 : ({ s3 with heap := pushCells (s3.heap.push { cls := .type "dict", data := .dict #[] }) scope.names } : Shared) = s4 at I4 ⊢
  have st4 : tn 0 s4.heap := T.keep _ _ _ st3 fun b _ o e => by rw [← hs4]; exact pushCells_keeps _ _ _ _ (Heap.get?_push_of_some _ e)
  -- the block's context
  have stat : ∀ {σ' : L2.St} {H' : Hp} {s' : Shared}, Inv (X.blk s3 H3 scope ce fp) [] σ' H' s' → (∀ b ∈ fp, H' b = none) → ∀ b ∈ fp, FpOk (X.blk s3 H3 scope ce fp) [] H' b := fun {σ' H' s'} I' hn b hb =>
    ⟨hn b hb, (I'.ok.exf b hb).1, I'.ok.exfs b hb, .inl hb, fun x c e => (I'.ok.exf b hb).2 x c e, fun p hp => by simp at hp⟩
  have loop : codeAny (model X.prog X.w) X.A (.compLoop (.DictComp kx vx [⟨tg, iter, [], 0⟩] scope pos) 0 (.ref it) (.ref D) ce) (compPost (model X.prog X.w) X.A X.xe none (EP X pins σ Q) (.ref D) s3.heap.objs.size) s4 := by
    refine compLoop_anyD (fun n s' => ∃ i H', Inv (X.blk s3 H3 scope ce fp) [] (wipe σ (own.map (·.2))) H' s' ∧ tn i s'.heap ∧ (∀ b ∈ fp, H' b = none) ∧ W i n H') ?_ m0 ⟨0, H3, I4, st4, nfp, w0⟩
    rintro n s5 ⟨i, H5, I5, st5, n5, w5⟩
    rcases turn i n H5 w5 with ⟨stop, qq⟩ | ⟨go, Nx, hNx, step⟩
    · refine thnF (T.done (X.blk s3 H3 scope ce fp) rfl rfl rfl hc i [] s5 _ H5 (fun _ _ => False) I5 (stat I5 n5) st5 stop) fun r s6 ⟨hr, I6⟩ => ?_
      subst hr
      have I7 : Inv X pins σ H5 s6 := I3.call' (ch := fp) I6.os I6.base I6.hok I6.bare fun b hb => ⟨(f3 b hb).1.2.2.2.1, (f3 b hb).1.2.1, (f3 b hb).1.2.2.2.2.1, (f3 b hb).1.2.2.2.2.2⟩
      have nC : H5 s3.heap.objs.size = none := by
        have z : H5 ce.locals = none := I6.free
        rwa [cL] at z
      obtain ⟨m, hn, _⟩ := I6.loc
      have hn : s6.heap.Ns ce.locals m := hn
      rw [cL] at hn
      exact hRR s3.heap.objs.size s6 m H5 I7 qq hn (I3.fpOk (Nat.le_refl _) nC)
    · refine thnF (T.item (X.blk s3 H3 scope ce fp) rfl rfl rfl hc i [] s5 _ H5 (fun _ _ => False) I5 (stat I5 n5) st5 go) fun r s6 ⟨u, hr, h6⟩ => ?_
      subst hr
      refine thnF h6 fun _ s7 ⟨x, H7, I7, r7, y7, st7, n7⟩ => ?_
      refine thnF (pg.run _ s7 _ H7 x u _ (I7.pinned (stat I7 n7) (T.obj _ _ st7)) r7 (step x H7 y7)) fun _ s8 ⟨σ8, H8, I8, hw8, q8⟩ => ?_
      refine wpAny_tests_nil ?_
      rw [if_pos rfl]
      refine thnF (pk.run _ s8 σ8 H8 _ I8 q8) fun z s10 ⟨yk, H10, I10, r10, q10⟩ => ?_
      refine thnF (pe.run _ s10 σ8 H10 _ I10 q10) fun z2 s11 ⟨yv, H11, I11, r11, kvs, k, b, ek, hb, hD11, hz11, nx⟩ => ?_
      subst ek
      cases r10
      refine dictSetT (X := X.blk s3 H3 scope ce fp) hu I11 hD11 hb hz11 r11 fun s12 I' => ?_
      obtain ⟨m', hm, w'⟩ := hNx _ nx
      have pin' : ∀ b ∈ fp, ∀ o, s7.heap.get? b = some o → s12.heap.get? b = some o ∧ (upd H11 D (.dT (putK kvs k yv))) b = none := fun b hb o e =>
        let z := I'.pin (b, o) (List.mem_append_right _ (List.mem_append_right _ (mem_pinsAt hb e)))
        ⟨z.1, z.2.1⟩
      refine ⟨m', hm, i + 1, _, (I'.unpinned (pins := [])).weak (by rw [← hw8, wipe_length]) (fun j v e => ?_), T.keep _ _ _ st7 fun b hb o e => (pin' b hb o e).1, fun b hb => ?_, w'⟩
      · rw [← hw8] at e
        exact (wipe_some e).1
      · obtain ⟨o, e, _⟩ := T.obj _ _ st7 b hb
        exact (pin' b hb o e).2
  exact codeAny_compStart_dict loop (T.self X.A 0 _ _ _ st4 loop)
variable {tb : List Addr} {G : List Slt} {N : List Str} {sc : Scope} {k : Nat} {pos : Pos}
/-- {kx: vx for tg in iter} -/
theorem e_dcT (h : CxD X N sc k) {α : Type} {xs : List α} {T U : α → Ty} {kf : α → List Int} (own : List (Str × Nat)) {tg iter kx vx : Expr} {scope : Scope} {is : List Nat} {Gx : α → List Slt}
    (hi : IT tb X G tg iter xs T)
    (ht : AllB X N sc k scope fun X' => ∀ x ∈ xs, TG' tb X' tg (T x) is (wipeG G (own.map (·.2))) (Gx x))
    (hkx : AllB X N sc k scope fun X' => ∀ x ∈ xs, E tb X' (Gx x) kx (keyT (kf x)))
    (hvx : AllB X N sc k scope fun X' => ∀ x ∈ xs, E tb X' (Gx x) vx (U x)) (hn : (xs.map kf).Nodup) (hz : xs.length ≤ 1000)
    (ok : blkC N sc scope own = true := by decide +kernel) (his : is.all (fun j => (own.map (·.2)).contains j) = true := by rfl) (hs : ∀ x, foldedSetIterable iter X.env x = pure x := by intro _; rfl) :
    E tb X G (.DictComp kx vx [⟨tg, iter, [], 0⟩] scope pos) (dctT (xs.map fun x => (kf x, U x))) := by
  intro B σ F H Q hh q
  have okB := blkOk_by ok
  have hk : scope.kind = .function := okB.kind
  have ok' : BlkOk X.N X.env.scope scope own := by rw [h.hN, h.hsc]; exact okB
  have hisM : ∀ j ∈ is, j ∈ own.map (·.2) := fun j hj => by simpa using List.all_eq_true.mp his j hj
  refine ewp_of (pe_dcT (own := own) (g := gB X scope tg) (tk := eB X scope kx) (tv := eB X scope vx) h.room.units0 h.calm (by rw [h.hN]; exact h.nd) (pi_wp tg iter) ok'
    (fun s H0 C cl fp => ⟨fun pins s' σ H v u Q I r g => g s H0 C cl fp pins s' u I r⟩) (fun s H0 C cl fp => ⟨fun pins s' σ H Q I g => g s H0 C cl fp pins s' I⟩) (fun s H0 C cl fp => ⟨fun pins s' σ H Q I g => g s H0 C cl fp pins s' I⟩) hs) ?_
  refine hi B σ F H _ hh fun J F1 H1 x1 itd => fun D hD => ?_
  obtain ⟨Gd, Y, w, hG, hY⟩ := itd.ex
  have hsA := hh.up x1
  obtain ⟨ap1, ap2, hF1, hB1⟩ := hsA.apart hD
  refine lc2_it w (g := gB X scope tg) (vs := own.map (·.2)) (σ := σ) (Qd := fun H => Q (.ref D) H)
    (K := fun Nx σ2 H2 => eB X scope kx σ2 H2 fun y H4 => eB X scope vx σ2 H4 fun z H5 => ∃ kvs k b, y = .ref b ∧ H5 b = some (.tup (k.map kV)) ∧ H5 D = some (.dT kvs) ∧ kvs.length < sizeLine ∧ Nx (upd H5 D (.dT (putK kvs k z))))
    (fun i H2 => ∃ F2 vs, Has tb X.K G B F2 H2 σ ∧ Ext F1 H1 F2 H2 ∧ F2 D = none ∧ H2 D = some (.dT vs) ∧ AlD X.K F2 ((xs.take i).map fun x => (kf x, U x)) vs) ?_ ?_ ?_ ?_
  · have x2 : Ext F1 H1 F1 (upd H1 D (.dT [])) := Ext.own hsA.fz hD
    exact ⟨F1, [], hsA.up x2, x2, hF1, upd_same, .nil⟩
  · rintro i H2 hi ⟨F2, vs, a1, a2, a3, a4, a5⟩
    exact hG F2 H2 a2.ff a1.fz
  · rintro i v H2 H2' hin ⟨F2, vs, a1, a2, a3, a4, a5⟩ y
    obtain ⟨F3, z, x3, ez, tz⟩ := hY i F2 H2 v H2' hin a2.ff a1.fz y
    have hzm : z ∈ xs := List.mem_of_getElem? ez
    intro s0 H0 C cl fp
    refine ht s0 H0 C cl fp (h.blk hk) z hzm B _ F3 H2' v _ ((a1.up x3).wipe _) tz fun σ' hs' hl' off => ⟨?_, ?_⟩
    · rw [wipe_off (is := is) hl' hisM off, wipe_wipe]
    have d3 : F3 D = none := x3.av D (by rw [a4]; intro z; cases z) a3
    have e3 : H2' D = some (.dT vs) := x3.hh.keep D _ a4 (fun _ z => nomatch z)
    intro s1 H01 C1 cl1 fp1
    refine hkx s1 H01 C1 cl1 fp1 (h.blk hk) z hzm B σ' F3 H2' _ hs' fun ky F4 H4 x4 tk => ?_
    have d4 : F4 D = none := x4.av D (by rw [e3]; intro z; cases z) d3
    have e4 : H4 D = some (.dT vs) := x4.hh.keep D _ e3 (fun _ z => nomatch z)
    intro s2 H02 C2 cl2 fp2
    refine hvx s2 H02 C2 cl2 fp2 (h.blk hk) z hzm B σ' F4 H4 _ (hs'.up x4) fun vy F5 H5 x5 tv => ?_
    have d5 : F5 D = none := x5.av D (by rw [e4]; intro z; cases z) d4
    have e5 : H5 D = some (.dT vs) := x5.hh.keep D _ e4 (fun _ z => nomatch z)
    obtain ⟨bk, rfl, hb⟩ := tk
    have hl : vs.length = ((xs.take i).map fun x => (kf x, U x)).length := (alD_length a5).symm
    have al5 := a5.up (Same.trans x3.ff (Same.trans x4.ff x5.ff))
    refine ⟨vs, keyOf (kf z), bk, rfl, by rw [kV_ints]; exact (x5.fz _ _ (x5.ff _ _ hb)).1, e5, by rw [hl, List.length_map, List.length_take, sizeLine_eq]; omega, F5, _, ?_, ?_, d5, upd_same, ?_⟩
    · exact (((a1.up x3).up x4).up x5).updAt d5 hB1 ap1 ap2
    · exact (((a2.trans x3).trans x4).trans x5).mut (o := .lst []) hD d5
    · rw [take_succ_map ez, List.map_append]
      have := alD_put tv (kf z) al5
      unfold dvPut at this
      have hnot : ((((xs.take i).map fun x => (kf x, U x)).any fun p => decide (p.1 = kf z))) = false := by
        rw [List.any_eq_false]
        intro p hp hq
        obtain ⟨x, hx, rfl⟩ := List.mem_map.mp hp
        have hq : kf x = kf z := of_decide_eq_true hq
        obtain ⟨j, hj, ej⟩ := List.mem_iff_getElem.mp hx
        have hji : j < i := by rw [List.length_take] at hj; omega
        have e1 : (xs.map kf)[j]? = some (kf x) := by
          rw [List.getElem?_map, ← ej, List.getElem_take]
          rw [List.getElem?_eq_getElem (by rw [List.length_take] at hj; omega)]
          rfl
        have e2 : (xs.map kf)[i]? = some (kf z) := by rw [List.getElem?_map, ez]; rfl
        obtain ⟨l1, f1⟩ := List.getElem?_eq_some_iff.mp e1
        obtain ⟨l2, f2⟩ := List.getElem?_eq_some_iff.mp e2
        exact List.pairwise_iff_getElem.mp hn j i l1 l2 hji (by rw [f1, f2, hq])
      rw [hnot] at this
      exact this
  · rintro H2 ⟨F2, vs, a1, a2, a3, a4, a5⟩
    rw [List.take_length] at a5
    have x2 := x1.trans a2
    exact q _ _ _ (ext_own hh.fz x2 (x1.hh.free hD) (by intro _ z; cases z) a4) ⟨D, vs, rfl, upd_same, a5.up (same_upd' a3)⟩
end
end JL

set_option Elab.async false
set_option linter.all false
set_option maxRecDepth 100000
set_option maxHeartbeats 4000000
set_option autoImplicit false
/-! list(range(n)), swaps, pairs of names of any kind, starred targets. -/
namespace JL
open PySem PySem.Spec PyProof.Rows L2
def rngT (n : Nat) : Ty := ⟨fun _ H v => ∃ a, v = .ref a ∧ H a = some (.rng 0 (n : Int)), fun s ⟨a, e, h⟩ => ⟨a, e, s _ _ h⟩⟩
section
variable {X : Cx}
theorem cr_range1 : CallR X (.type "range") (fun vs H Q => ∃ n : Nat, vs = [V.int (n : Int)] ∧ ∀ p, H p = none → Q (.ref p) (upd H p (.rng 0 (n : Int)))) := by
  intro pins s σ H vs us Q I r h
  obtain ⟨n, rfl, q⟩ := h
  obtain ⟨u, rfl, ru⟩ := vals1 r
  obtain ⟨t, rfl⟩ := ru
  refine call_range_1 ⟨.ref s.heap.objs.size, upd H s.heap.objs.size (.rng 0 (n : Int)), I.laid (t' := s.toks + 2) (fun b o e => Heap.get?_push_of_some _ e) (Nat.le_refl _) ?_, rfl, q _ (I.hok.fresh (Nat.le_refl _))⟩
  exact ⟨_, _, _, Heap.get?_push_size _ rfl⟩
theorem range_size (n : Nat) : Builtin.Range.rangeSize 0 (n : Int) 1 = n := by
  rw [rangeSize_one]
  split <;> omega
theorem cr_list_rng (hc : X.calm = true) : CallR X (.type "list") (fun vs H Q => ∃ (a : Addr) (n : Nat), vs = [V.ref a] ∧ H a = some (.rng 0 (n : Int)) ∧ n ≤ 1000 ∧ ∀ p, H p = none → Q (.ref p) (upd H p (.lst ((List.range n).map fun i => V.int (i : Nat))))) := by
  intro pins s σ H vs us Q I r h
  obtain ⟨a, n, rfl, hr, hn, q⟩ := h
  obtain ⟨u, rfl, ru⟩ := vals1 r
  obtain rfl : u = Value.ref a := ru
  obtain ⟨t, u, v, ho⟩ := (show ObjOk X.prog X.w H s.heap a (.rng 0 (n : Int)) from I.hok _ _ hr)
  refine call_list_range (n := n) (I.ok.hd hc) ho (small_one (by omega) (by omega) (by omega) (by omega)) (range_size n) (by omega) fun h' tk acc' c' hk hS hacc => ?_
  have hp : H s.heap.objs.size = none := I.hok.fresh (Nat.le_refl _)
  refine ⟨.ref s.heap.objs.size, _, I.laid (a := s.heap.objs.size) (o := .lst ((List.range n).map fun i => V.int (i : Nat))) (t' := tk) hk (Nat.le_refl _) ⟨by rw [List.length_map, List.length_range, sizeLine_eq]; omega, acc'.toList, c', ?_, by simpa using hS⟩, rfl, q _ hp⟩
  have e : ∀ (l : List Value) (k : Nat), (∀ j v, l[j]? = some v → ∃ t, v = Value.int ((k + j : Nat) : Int) t) → Vals ((List.range' k l.length).map fun i => V.int (i : Nat)) l := by
    intro l
    induction l with
    | nil => intro k _; exact .nil
    | cons x l ih =>
      intro k hx
      obtain ⟨t, ht⟩ := hx 0 x rfl
      rw [List.length_cons, List.range'_succ, List.map_cons]
      refine .cons ⟨t, by rw [ht]; rfl⟩ (ih (k + 1) fun j v hv => ?_)
      obtain ⟨t, ht⟩ := hx (j + 1) v (by simpa using hv)
      exact ⟨t, by rw [ht]; congr 1; omega⟩
  have := e acc'.toList 0 fun j v hv => by
    obtain ⟨t, ht⟩ := hacc.2 j v (by simpa using hv)
    exact ⟨t, by rw [ht]; congr 1; omega⟩
  rw [Array.length_toList, hacc.1, ← List.range_eq_range'] at this
  exact this
variable {tb : List Addr} {G : List Slt} {N : List Str} {sc : Scope} {k : Nat} {pos : Pos}
theorem e_range1 (h : CxD X N sc k) {p : Pos} {e : Expr} {n : Nat} (ha : E tb X G e (intT (n : Int))) (hm : X.mg "range" = none) (hg : sc.names.lookup ("range" : Str) = some .globalImplicit := by rfl) (nst : NoStar e := by intro _ _; rfl) : E tb X G (.Call (.Name "range" p) [e] [] pos) (rngT n) :=
  e_callTy h cr_range1 (Ts := [intT (n : Int)]) (fun F H vs Q fz al q => by
    obtain ⟨v, rfl, t⟩ := al1 al
    cases (show v = V.int (n : Int) from t)
    refine ⟨n, rfl, fun l hl => ?_⟩
    have x4 := Ext.new fz hl (o := .rng 0 (n : Int)) fun _ z => nomatch z
    exact q _ _ _ x4 ⟨l, rfl, upd_same⟩) (ea_cons ha ea_nil nst) hm (by decide +kernel) hg (he := nst)
/-- list(range(n)) -/
theorem e_listRange (h : CxD X N sc k) {p : Pos} {e : Expr} {n : Nat} (ha : E tb X G e (rngT n)) (hn : n ≤ 1000) (hm : X.mg "list" = none) (hg : sc.names.lookup ("list" : Str) = some .globalImplicit := by rfl) (nst : NoStar e := by intro _ _; rfl) : E tb X G (.Call (.Name "list" p) [e] [] pos) (lstT ((List.range n).map fun i => intT (i : Nat))) :=
  e_callTy h (cr_list_rng h.calm) (Ts := [rngT n]) (fun F H vs Q fz al q => by
    obtain ⟨v, rfl, t⟩ := al1 al
    obtain ⟨a, rfl, hr⟩ := t
    refine ⟨a, n, rfl, (fz _ _ hr).1, hn, fun l hl => ?_⟩
    have x4 := Ext.new fz hl (o := .lst ((List.range n).map fun i => V.int (i : Nat))) fun _ z => nomatch z
    refine q _ _ _ x4 ⟨l, _, rfl, SqL.of upd_same, ?_⟩
    have := al_ints (K := X.K) (H := upd F l (.lst ((List.range n).map fun i => V.int (i : Nat)))) ((List.range n).map fun i => ((i : Nat) : Int))
    rw [List.map_map, List.map_map] at this
    exact this) (ea_cons ha ea_nil nst) hm (by decide +kernel) hg (he := nst)

/-! ### assignments of pairs -/
variable {kn : Kn}
/-- x, y = a, b, names of any kind, a new tuple between -/
theorem s_parG (h : CxD X N sc k) (hf : ∀ x, X.fn x = true) (i j : Nat) {x y : Str} {px py pt pt2 : Pos} {kt k2 : Nat} {a b : Expr} {s t : Slt} (ha : ES tb X G a s) (hb : ES tb X G b t) (hn : kn.nx ((G.set i s).set j t)) (hNi : N[i]? = some x := by rfl) (hNj : N[j]? = some y := by rfl)
    (hx : locB sc x = true := by rfl) (hy : locB sc y = true := by rfl) (hw : ∀ env : Env, env.scope = sc → swappedStores [.Tuple [.Name x px, .Name y py] kt pt] (.Tuple [a, b] k2 pt2) env = pure none := by (intro env he; cases env; cases he; rfl))
    (hs : swapsWithSole [.Tuple [.Name x px, .Name y py] kt pt] (.Tuple [a, b] k2 pt2) pos.line X.env = pure false := by rfl) (hsa : NoStar a := by intro _ _; rfl) (hsb : NoStar b := by intro _ _; rfl) :
    S1 tb X G (.Assign [.Tuple [.Name x px, .Name y py] kt pt] (.Tuple [a, b] k2 pt2) pos) kn := fun B σ F H D hh ks => by
  have lx : L2.Loc X.env.scope x := by rw [h.hsc]; exact locB.of hx
  have ly : L2.Loc X.env.scope y := by rw [h.hsc]; exact locB.of hy
  refine swp_of (ps_asg (pe_tup (pa_cons (pe_wp a) (pa_cons (pe_wp b) pa_nil (hsb [] X.env)) (hsa [b] X.env)))
    (pg_tup h.calm (pgs_cons (pg_name (i := i) (by rw [h.hN]; exact h.nd) (by rw [h.hN]; exact hNi) lx (.inl (hf x))) (pgs_cons (pg_name (i := j) (by rw [h.hN]; exact h.nd) (by rw [h.hN]; exact hNj) ly (.inl (hf y))) pgs_nil rfl) rfl) rfl rfl) hs (hw X.env h.hsc) rfl) ?_
  refine ha B σ F H _ hh fun v F1 H1 x1 sv => hb B σ F1 H1 _ (hh.up x1) fun w F2 H2 x2 sw => ?_
  refine ⟨by show 2 ≤ sizeLine; rw [sizeLine_eq]; omega, fun p hp => ?_⟩
  refine ⟨p, [v, w], rfl, SqT.of upd_same, rfl, ?_⟩
  have h2 := (hh.setS x1 i sv).setS x2 j sw
  have x3 : Ext F2 H2 F2 (upd H2 p (.tup [v, w])) := Ext.own h2.fz hp
  exact ⟨v, [w], rfl, w, [], rfl, rfl, ks.nx _ F2 _ _ hn (h2.up x3)⟩
/-- xs[b1], xs[b2] = e of an own list -/
theorem s_swapOwn (h : CxD X N sc k) (i : Nat) {x : Str} {p1 p2 p3 p4 pt : Pos} {kt : Nat} {b1 b2 e : Expr} {T U : Ty} {Ts : List Ty} {j1 j2 : Int} {n1 n2 : Nat} (he : E tb X G e (tupT [T, U])) (hb1 : E tb X G b1 (intT j1)) (hb2 : E tb X (G.set i (.own (Ts.set n1 T))) b2 (intT j2))
    (hj1 : ixN Ts.length j1 = some n1) (hj2 : ixN Ts.length j2 = some n2) (hn : kn.nx (G.set i (.own ((Ts.set n1 T).set n2 U)))) (hG : G[i]? = some (.own Ts) := by rfl) (hN : N[i]? = some x := by rfl) (hv : visB sc x = true := by rfl)
    (hd : (x == ("__debug__" : Str)) = false := by decide) (hcd : (x == ("__classdict__" : Str)) = false := by decide)
    (hs : swapsWithSole [.Tuple [.Subscript (.Name x p1) b1 p2, .Subscript (.Name x p3) b2 p4] kt pt] e pos.line X.env = pure false := by rfl) (hw : ∀ env : Env, env.scope = sc → swappedStores [.Tuple [.Subscript (.Name x p1) b1 p2, .Subscript (.Name x p3) b2 p4] kt pt] e env = pure none := by (intro env he; cases env; cases he; rfl))
    (ha1 : ∀ v, assign (.Subscript (.Name x p1) b1 p2) X.env v = (do
      let ov ← holding [v] (eval (.Name x p1) X.env)
      let iv ← holding [v, ov] (eval b1 X.env)
      standAt p2
      holding [v, ov, iv] (setItem ov iv v)
      release [v, ov, iv] []) := by intro _; rfl)
    (ha2 : ∀ v, assign (.Subscript (.Name x p3) b2 p4) X.env v = (do
      let ov ← holding [v] (eval (.Name x p3) X.env)
      let iv ← holding [v, ov] (eval b2 X.env)
      standAt p4
      holding [v, ov, iv] (setItem ov iv v)
      release [v, ov, iv] []) := by intro _; rfl) :
    S1 tb X G (.Assign [.Tuple [.Subscript (.Name x p1) b1 p2, .Subscript (.Name x p3) b2 p4] kt pt] e pos) kn := fun B σ F H D hh ks => by
  have hv2 : Vis X.env.scope x := by rw [h.hsc]; exact visB.of hv
  refine swp_of (ps_asg (pe_wp e) (pg_tup h.calm (pgs_cons (pg_sub (pe_var (i := i) (by rw [h.hN]; exact hN) hv2 hd hcd) (pe_wp b1) set_list ha1) (pgs_cons (pg_sub (pe_var (i := i) (by rw [h.hN]; exact hN) hv2 hd hcd) (pe_wp b2) set_list ha2) pgs_nil rfl) rfl) rfl rfl) hs (hw X.env h.hsc) rfl) ?_
  refine he B σ F H _ hh fun v F1 H1 x1 t => ?_
  obtain ⟨p, ws, rfl, st, al⟩ := t
  obtain ⟨w1, w2, rfl, tw1, tw2⟩ := al2 al
  refine ⟨p, [w1, w2], rfl, al_sqt x1.fz st, rfl, w1, [w2], rfl, ?_⟩
  obtain ⟨a, vs, q1, q2, q3, q4, q5⟩ := (hh.up x1).own i Ts hG
  refine ⟨.ref a, q1, hb1 B σ F1 H1 _ (hh.up x1) fun w F2 H2 x2 tw => ?_⟩
  have hh2 := (hh.up x1).up x2
  obtain ⟨a', vs', r1, r2, r3, r4, r5⟩ := hh2.own i Ts hG
  rw [q1] at r1
  cases r1
  refine ⟨a, vs', j1, n1, rfl, tw, r4, by rw [← r5.length]; exact hj1, w2, [], rfl, .ref a, q1, ?_⟩
  have hh3 := hh2.mutOwn (.inl ⟨Ts, hG⟩) q1 (o := .lst (vs'.set n1 w1)) (s := .own (Ts.set n1 T)) (.inl ⟨_, _, rfl, rfl, r5.set (T.mono x2.ff tw1) n1⟩)
  refine hb2 B σ F2 _ _ hh3 fun w' F3 H3 x3 tw' => ?_
  have hh4 := hh3.up x3
  have hi : i < G.length := (List.getElem?_eq_some_iff.mp hG).1
  have hG' : (G.set i (.own (Ts.set n1 T)))[i]? = some (.own (Ts.set n1 T)) := List.getElem?_set_self hi
  obtain ⟨a'', vs'', u1, u2, u3, u4, u5⟩ := hh4.own i _ hG'
  rw [q1] at u1
  cases u1
  refine ⟨a, vs'', j2, n2, rfl, tw', u4, by rw [← u5.length, List.length_set]; exact hj2, rfl, ?_⟩
  have hh5 := hh4.mutOwn (.inl ⟨_, hG'⟩) q1 (o := .lst (vs''.set n2 w2)) (s := .own ((Ts.set n1 T).set n2 U)) (.inl ⟨_, _, rfl, rfl, u5.set (U.mono (Same.trans x2.ff x3.ff) tw2) n2⟩)
  rw [List.set_set] at hh5
  exact ks.nx _ F3 _ σ hn hh5

/-! ### x, *y = a list -/
theorem unpackStar {prog : Program} {w : World} {A : Around} {E : Value → Shared → Prop} {s : Shared} {l : Addr} {v0 : Value} {vs : List Value} {Q : List Value → Shared → Prop} (hl : s.heap.IsList l (v0 :: vs).toArray) (hh : A.handled = none) (hz : vs.length ≤ 1000)
    (h : ∀ (h' : Heap) (tk : Nat), (∀ b o, s.heap.get? b = some o → h'.get? b = some o) → Q [v0, .ref h'.objs.size] { s with heap := h'.push { cls := .type "list", data := .seq vs.toArray }, toks := tk }) : wpAny (model prog w) A (unpackItems (.ref l) 2 (some 1)) Q E s := by
  have hll : l < s.heap.objs.size := by obtain ⟨o, ho, _⟩ := hl; exact Heap.lt_size ho
  have hlt : l ≠ s.heap.objs.size := Nat.ne_of_lt hll
  have hsz : (v0 :: vs).toArray.size = vs.length + 1 := by simp
  unfold unpackItems
  refine wpAny_bind ?_
  unfold notIterableAtAll
  refine wpAny_bind (wpAny_specialOf hl.typeIs slot_list_iter.lookup (wpAny_pure ?_))
  simp only [Bool.false_eq_true, if_false]
  refine wpAny_bind (wpAny_holding (wpAny_pyIter_list hl ?_))
  refine wpAny_bind (wpAny_holding (PySem.W.kun_draw hlt 1 0 _ _ ⟨_, Heap.get?_push_size _ rfl, rfl, rfl⟩ (hl.push _) (by rw [hsz]; omega) fun h₁ hit₁ hs₁ => ?_))
  have hl₁ : h₁.IsList l (v0 :: vs).toArray := (hl.push _).extBut hs₁.extBut hlt
  obtain ⟨oi, hoi, _⟩ := id hit₁
  obtain ⟨ol, hol, _⟩ := id hl₁
  have e1 : ((v0 :: vs).toArray.toList.drop 0).take 1 = [v0] := by simp
  rw [e1, if_neg (show ¬ ([v0].length < 1) from Nat.lt_irrefl 1)]
  refine wpAny_bind (wpAny_holding (PySem.W.kun_collect (s := { s with heap := h₁ }) (T := "list_iterator") (.inr (.inr (.inl rfl))) (Walks.list (A := A.in1) hh s.heap.objs.size l hlt (v0 :: vs).toArray) (fun j u st => st.1.typeIs) (k := 1) (by rw [hsz]; omega) ⟨hit₁, hl₁⟩ (Heap.lt_size hoi) (Heap.lt_size hol) (fun h₂ tk hk => ?_) (by rw [hsz, sizeLine_eq]; omega)))
  have e2 : (v0 :: vs).toArray.toList.drop 1 = vs := by simp
  rw [e2]
  show wpAny _ _ (if vs.length < 0 then _ else _) _ _ _
  rw [if_neg (Nat.not_lt_zero _)]
  show wpAny _ _ (newList (vs.take (vs.length - 0)) >>= fun d => pure ([v0] ++ [d] ++ vs.drop (vs.length - 0))) _ _ _
  rw [Nat.sub_zero, List.take_length, List.drop_length]
  refine wpAny_bind (wpAny_newList (wpAny_pure ?_) (by rw [sizeLine_eq]; omega))
  exact h h₂ tk fun b o e => hk b o (Nat.ne_of_lt (Heap.lt_size e)) (hs₁.extBut b o (Nat.ne_of_lt (Heap.lt_size e)) (Heap.get?_push_of_some _ e))
/-- x, *y = .. -/
def gStar (K : PySem.W.Frag) (t : TGs) : TG := fun v σ H Q => ∃ a x xs, v = .ref a ∧ SqL K H a (x :: xs) ∧ xs.length ≤ 1000 ∧ ∀ D, H D = none → t [x, .ref D] σ (upd H D (.lst xs)) Q
theorem pg_star {es es' : List Expr} {kk : Nat} {t : TGs} (hc : X.calm = true) (h : PGs X es' t) (hn : (assignEach es X.env).length = 2) (hst : (assignEach es X.env).findIdx? (·.1) = some 1) (he : (assignEach es X.env).map (·.2) = (assignEach es' X.env).map (·.2)) :
    PG X (.Tuple es kk pos) (gStar X.K t) := by
  refine ⟨fun pins s σ H v u Q I r hw => ?_⟩
  obtain ⟨a, x, xs, rfl, hq, hl, hw⟩ := hw
  cases r
  obtain ⟨its, rv, ht, hz⟩ := I.list hq
  cases rv with
  | cons rx rxs =>
    rename_i u0 us
    rw [assign_Tuple]
    refine wpAny_bind (wpAny_standAt ?_)
    unfold unpack
    rw [hn, hst]
    refine wpAny_bind (wpAny_holding (unpackStar ht.isList (I.ok.hd hc) (by rw [← rxs.length]; exact hl) fun h' tk hk => ?_))
    have I2 : Inv X pins σ H { s with heap := h', toks := tk } := I.kept (t' := tk) hk
    have hp : H h'.objs.size = none := I2.hok.fresh (Nat.le_refl _)
    rw [he]
    refine h.run pins _ σ (upd H h'.objs.size (.lst xs)) [x, .ref h'.objs.size] _ Q (I2.laid (a := h'.objs.size) (o := .lst xs) (t' := tk) (fun b o e => Heap.get?_push_of_some _ e) (Nat.le_refl _) ⟨by rw [sizeLine_eq]; omega, us, _, rxs, Heap.get?_push_size h' rfl⟩) (.cons rx (.cons rfl .nil)) (hw _ hp)
/-- x, *y = a list -/
theorem s_star (h : CxD X N sc k) (hf : ∀ x, X.fn x = true) (i j : Nat) {x y : Str} {px py ps pt : Pos} {kt : Nat} {e : Expr} {T : Ty} {Ts : List Ty} (he : E tb X G e (lstT (T :: Ts))) (hz : Ts.length ≤ 1000) (hn : kn.nx ((G.set i (.v T)).set j (.own Ts))) (hNi : N[i]? = some x := by rfl) (hNj : N[j]? = some y := by rfl)
    (hx : locB sc x = true := by rfl) (hy : locB sc y = true := by rfl) (hs : swapsWithSole [.Tuple [.Name x px, .Starred (.Name y py) ps] kt pt] e pos.line X.env = pure false := by rfl) (hw : swappedStores [.Tuple [.Name x px, .Starred (.Name y py) ps] kt pt] e X.env = pure none := by rfl)
    (h2 : (assignEach [.Name x px, .Starred (.Name y py) ps] X.env).findIdx? (·.1) = some 1 := by rfl) (h3 : (assignEach [.Name x px, .Starred (.Name y py) ps] X.env).map (·.2) = (assignEach [.Name x px, .Name y py] X.env).map (·.2) := by rfl) :
    S1 tb X G (.Assign [.Tuple [.Name x px, .Starred (.Name y py) ps] kt pt] e pos) kn := fun B σ F H D hh ks => by
  have lx : L2.Loc X.env.scope x := by rw [h.hsc]; exact locB.of hx
  have ly : L2.Loc X.env.scope y := by rw [h.hsc]; exact locB.of hy
  refine swp_of (ps_asg (pe_wp e) (pg_star (es' := [.Name x px, .Name y py]) h.calm (pgs_cons (pg_name (i := i) (by rw [h.hN]; exact h.nd) (by rw [h.hN]; exact hNi) lx (.inl (hf x))) (pgs_cons (pg_name (i := j) (by rw [h.hN]; exact h.nd) (by rw [h.hN]; exact hNj) ly (.inl (hf y))) pgs_nil rfl) rfl) rfl h2 h3) hs hw rfl) ?_
  refine he B σ F H _ hh fun v F1 H1 x1 t => ?_
  obtain ⟨a, vs, rfl, st, al⟩ := t
  cases al with
  | cons tv al =>
    rename_i w ws
    refine ⟨a, w, ws, rfl, al_seq x1.fz st, by rw [← al.length]; exact hz, fun p hp => ?_⟩
    have hh1 := (hh.up x1).set i tv
    exact ⟨w, [.ref p], rfl, .ref p, [], rfl, rfl, ks.nx _ F1 _ _ hn (hh1.setOwn j hp (.inl ⟨_, _, rfl, rfl, al⟩))⟩
end
end JL

set_option Elab.async false
set_option linter.all false
set_option maxRecDepth 100000
set_option maxHeartbeats 4000000
set_option autoImplicit false
/-! next(at for at in range(..) if rows[at][col][0] != 0, None). -/
namespace JL
open PySem PySem.Spec PyProof.Rows L2
/-- the test of a row's number, in the generator's frame -/
theorem ev_test {prog : Program} {w : World} {A' : Around} {E' : Value → Shared → Prop} {cenv : Env} {s : Shared} {m : Str → Option Value} {xl xa xc : Str} {cL cC l r tp : Addr} {a c j1 j2 : Nat} {t tc tq : Tok} {q : Int} {its row its3 : Array Value} {p1 p2 p3 p4 p5 p6 p7 p8 p9 : Pos}
    (hk : cenv.scope.kind = .function) (hl : cenv.kindOf xl = some .free) (ha : cenv.kindOf xa = some .local) (hc : cenv.kindOf xc = some .free) (dl : (xl == ("__debug__" : Str)) = false) (da : (xa == ("__debug__" : Str)) = false) (dc : (xc == ("__debug__" : Str)) = false)
    (el : (xl == ("__classdict__" : Str)) = false) (ec : (xc == ("__classdict__" : Str)) = false)
    (hcL : cenv.cells.lookup xl = some cL) (hcC : cenv.cells.lookup xc = some cC) (vL : s.heap.IsCell cL (some (.ref l))) (vC : s.heap.IsCell cC (some (.int c tc))) (hn : s.heap.Ns cenv.locals m) (hm : m xa = some (.int a t))
    (h1 : s.heap.IsList l its) (e1 : its[a]? = some (.ref r)) (h2 : s.heap.IsList r row) (e2 : row[c]? = some (.ref tp)) (h3 : IsTup s.heap tp its3) (e3 : its3[0]? = some (.int q tq)) (b1 : a < 1000) (b2 : c < 1000) (b3 : its3.size ≤ 1000) :
    wpAny (model prog w) A' (isTrue (.Compare (.Subscript (.Subscript (.Subscript (.Name xl p1) (.Name xa p2) p3) (.Name xc p4) p5) (.Constant (.int 0) j1 p6) p7) [.NotEq] [.Constant (.int 0) j2 p8] p9) cenv
      (eval (.Compare (.Subscript (.Subscript (.Subscript (.Name xl p1) (.Name xa p2) p3) (.Name xc p4) p5) (.Constant (.int 0) j1 p6) p7) [.NotEq] [.Constant (.int 0) j2 p8] p9) cenv)) (fun ok s₃ => ok = decide (q ≠ 0) ∧ Keeps s s₃) E' s := by
  refine wpAny_isTrue_Compare1 ?_
  refine Subscript_ (Subscript_ (Subscript_ (wpAny_Name (wpAny_loadName_free hk hl hcL vL ?_ el) dl)))
  refine wpAny_Name (wpAny_loadName_local hk ha hn hm ?_) da
  refine item_listR h1 (by omega) (by omega) (by simpa using e1) ?_ (by rfl)
  refine wpAny_Name (wpAny_loadName_free hk hc hcC vC ?_ ec) dc
  refine item_listR h2 (by omega) (by omega) (by simpa using e2) ?_ (by rfl)
  refine wpAny_Constant_int ?_
  have hz : 0 < its3.size := by
    apply Nat.lt_of_not_le
    intro hle
    rw [Array.getElem?_eq_none hle] at e3
    cases e3
  have hsi : seqIndex? 0 its3.size = some 0 := by
    have hz' : (0 : Int) < (its3.size : Int) := by omega
    simp [seqIndex?]
    intro z
    rw [z] at hz
    simp at hz
  refine subscriptTail_builtinR (x := .int q tq) (T := "tuple") (let ⟨o, ho, hcl, _⟩ := h3; ⟨o, ho, hcl⟩) slot_tuple_getitem.lookup
    (PyProof.Rows.getItem_tuple (j := 0) (Q := fun r s' => r = .int q tq ∧ wpAny (model prog w) A' (eval (.Constant (.int 0) j2 p8) cenv) (fun b s₂ => wpAny (model prog w) A' (compareOp .NotEq r b) (fun c s₃ => wpAny (model prog w) A' (truthy c) (fun ok s₃ => ok = decide (q ≠ 0) ∧ Keeps s s₃) E' s₃) E' s₂) E' s')
      h3 (by omega) (by omega) hsi e3 ⟨rfl, ?_⟩) (by rfl)
  refine wpAny_Constant_int ?_
  refine PyProof.Rows.ne_int (wpAny_truthy_bool ⟨?_, _, _, rfl, fun _ _ e => e⟩)
  rw [Bool.eq_iff_iff]
  simp

/-- the generator's own scope -/
structure GenF (N : List Str) (sc scope : Scope) (xl xa xc : Str) : Prop where
  kind : scope.kind = .function
  co : scope.isCoroutine = false
  cell : ∀ y ∈ scope.names, y.2 ≠ .cell
  dot : scope.names.lookup (".0" : Str) = some NameKind.local
  a : scope.names.lookup xa = some .local
  l : scope.names.lookup xl = some .free
  c : scope.names.lookup xc = some .free
  fr : ∀ y ∈ scope.names, y.2 = .free → y.1 = xl ∨ y.1 = xc
  ol : sc.names.lookup xl = some .cell
  oc : sc.names.lookup xc = some .cell
theorem look_mem {α : Type} : ∀ {l : List (Str × α)} {n : Str} {c : α}, l.lookup n = some c → (n, c) ∈ l
  | [], _, _, h => by cases h
  | (a, b) :: l, n, c, h => by
    rw [List.lookup_cons] at h
    split at h
    · rename_i e
      cases h
      have : n = a := by simpa using e
      rw [this]
      exact List.mem_cons_self ..
    · exact List.mem_cons_of_mem _ (look_mem h)
theorem clo_look {cells : List (Str × Addr)} {names : List (Str × NameKind)} {n : Str} {c : Addr} (hn : names.lookup n = some .free) (hc : cells.lookup n = some c) : (cloFrom cells names []).lookup n = some c := by
  have hm := look_mem hn
  obtain ⟨c', e⟩ := mem_lookup (cloFrom_has (cells := cells) (acc := []) hm)
  rw [e]
  rcases cloFrom_mem (look_mem e) with z | ⟨_, z⟩
  · cases z
  · rw [z, hc]; rfl
/-- lo: the range's begin; q: the numbers -/
def tNextG (K : PySem.W.Frag) (P : Addr) (il ic : Nat) (te : TE) : TE := fun σ H Q => te σ H fun v H1 => ∃ (r a : Addr) (lo hi col p : Nat) (vs : List V) (q : Nat → Int), v = .ref r ∧ H1 r = some (.rng (lo : Int) (hi : Int)) ∧ σ[il]? = some (some (.ref a)) ∧ σ[ic]? = some (some (.int (col : Int))) ∧ SqL K H1 a vs ∧ hi < 1000 ∧ col < 1000 ∧
  (∀ i, lo ≤ i → i < hi → ∃ (rr t : Addr) (row tp : List V), vs[i]? = some (.ref rr) ∧ SqL K H1 rr row ∧ row[col]? = some (.ref t) ∧ SqT K H1 t tp ∧ tp[0]? = some (.int (q i)) ∧ tp.length ≤ 1000) ∧ GxR.TabG H1 P ∧ lo ≤ p ∧ p < hi ∧ q p ≠ 0 ∧ (∀ i, lo ≤ i → i < p → q i = 0) ∧ ∀ H2, GxR.Tabbed P H1 H2 → Q (.int (p : Int)) H2
theorem passing_first {pz : Nat → Bool} {n j : Nat} (hj : j < n) (h1 : pz j = true) (h0 : ∀ i, i < j → pz i = false) : 0 < (passing pz n 0).length ∧ (passing pz n 0)[0]? = some j := by
  unfold passing
  rw [List.drop_zero]
  have e : List.range n = List.range j ++ j :: List.range' (j + 1) (n - j - 1) := by
    rw [List.range_eq_range', List.range_eq_range', show n = j + (n - j) by omega, ← List.range'_append_1, show n - j = (n - j - 1) + 1 by omega, List.range'_succ]
    simp
  have e0 : (List.range j).filter pz = [] := by
    rw [List.filter_eq_nil_iff]
    intro i hi
    rw [h0 i (List.mem_range.mp hi)]
    decide
  rw [e, List.filter_append, e0, List.nil_append, List.filter_cons, if_pos h1]
  exact ⟨by simp, rfl⟩
theorem rng_size {lo hi : Nat} (h : lo ≤ hi) : Builtin.Range.rangeSize (lo : Int) (hi : Int) 1 = ((hi - lo : Nat) : Int) := by
  rw [rangeSize_one]
  split <;> omega
theorem pe_nextG {X : Cx} {c P : Addr} {k il ic : Nat} {xl xa xc : Str} {iter : Expr} {te : TE} {j1 j2 jn : Nat} {scope : Scope} {p pa px gpos pn pos p1 p2 p3 p4 p5 p6 p7 p8 p9 : Pos}
    (hr : Room k X.A) (hcalm : X.calm = true) (hg : Gl X "next") (hm : X.mg "next" = none) (TB : GxR.TabB X.base X.mg c P) (hcode : X.env.code = .ref c) (S : GenF X.N X.env.scope scope xl xa xc) (hi : PE X iter te)
    (hNl : X.N[il]? = some xl) (hNc : X.N[ic]? = some xc) (dl : (xl == ("__debug__" : Str)) = false) (da : (xa == ("__debug__" : Str)) = false) (dc : (xc == ("__debug__" : Str)) = false) (el : (xl == ("__classdict__" : Str)) = false) (ec : (xc == ("__classdict__" : Str)) = false)
    (hs : ∀ v, genFold iter X.env v = pure v) (he : starEach [.GeneratorExp (.Name xa pa) [⟨.Name xa px, iter, [.Compare (.Subscript (.Subscript (.Subscript (.Name xl p1) (.Name xa p2) p3) (.Name xc p4) p5) (.Constant (.int 0) j1 p6) p7) [.NotEq] [.Constant (.int 0) j2 p8] p9], 0⟩] scope gpos, .Constant .none jn pn] X.env
      = (false, eval (.GeneratorExp (.Name xa pa) [⟨.Name xa px, iter, [.Compare (.Subscript (.Subscript (.Subscript (.Name xl p1) (.Name xa p2) p3) (.Name xc p4) p5) (.Constant (.int 0) j1 p6) p7) [.NotEq] [.Constant (.int 0) j2 p8] p9], 0⟩] scope gpos) X.env) :: starEach [.Constant .none jn pn] X.env) :
    PE X (.Call (.Name "next" p) [.GeneratorExp (.Name xa pa) [⟨.Name xa px, iter, [.Compare (.Subscript (.Subscript (.Subscript (.Name xl p1) (.Name xa p2) p3) (.Name xc p4) p5) (.Constant (.int 0) j1 p6) p7) [.NotEq] [.Constant (.int 0) j2 p8] p9], 0⟩] scope gpos, .Constant .none jn pn] [] pos) (tNextG X.K P il ic te) := by
  refine ⟨fun pins s σ H Q I h => ?_⟩
  refine wpAny_Call_Name_kw (ld_blt (u := .builtin "next") I hg hm (by decide +kernel) ?_ (by decide) (by decide))
  refine PyProof.Rows.callWith_builtin1 ?_ he rfl
  rw [he]
  show wpAny _ _ (spliced ((false, _) :: backTo pos (starEach [.Constant .none jn pn] X.env))) _ _ s
  refine Calls.spliced_cons ?_
  have hfree : ∀ y ∈ scope.names, y.2 = .free → ∃ c, X.env.cells.lookup y.1 = some c := fun y hy e => by
    rcases S.fr y hy e with z | z
    · rw [z]; exact I.ok.has _ (.inl S.ol)
    · rw [z]; exact I.ok.has _ (.inl S.oc)
  refine wpAny_GeneratorExp_walksQ hr.hd S.co (closure_ok hfree) S.cell S.dot S.a S.kind (by have := hr.dp; omega) ?_ hs
  refine thn (hi.run pins s σ H _ I h) fun xv s1 ⟨v, H1, I1, r1, q1⟩ => ?_
  obtain ⟨r, a, lo, hi', col, pp, vs, q, rfl, hrng, sl, sc, hsq, b1, b2, hrows, ⟨ps, hP, ht⟩, g1, g2, g3, g4, q1⟩ := q1
  cases r1
  obtain ⟨t1, t2, t3, ho⟩ := (show ObjOk X.prog X.w H1 s1.heap r (.rng (lo : Int) (hi' : Int)) from I1.hok _ _ hrng)
  refine wpAny_pyIter_range ho (small_one (by omega) (by omega) (by omega) (by omega)) ?_
  have hlohi : lo ≤ hi' := by omega
  rw [rng_size hlohi]
  have hPs : s1.heap.get? P = some { cls := .none, data := .fields ps } := I1.hok P _ hP
  have hPlt : P < s1.heap.objs.size := Heap.lt_size hPs
  generalize ho2 : ({ cls := .type "range_iterator", data := .fields #[rawInt (lo : Int), rawInt ((hi' - lo : Nat) : Int), rawInt 1] } : Obj) = o
  have hit : IsRangeIter (s1.heap.push o) s1.heap.objs.size ((lo : Int) + ((0 : Nat) : Int) * 1) (((hi' - lo : Nat) : Int) - ((0 : Nat) : Int)) 1 := by
    have e1 : (lo : Int) + ((0 : Nat) : Int) * 1 = (lo : Int) := by omega
    have e2 : ((hi' - lo : Nat) : Int) - ((0 : Nat) : Int) = ((hi' - lo : Nat) : Int) := by omega
    rw [e1, e2, ← ho2]
    exact Heap.get?_push_size _ rfl
  have hP2 : (s1.heap.push o).get? P = some { cls := .none, data := .fields ps } := Heap.get?_push_of_some _ hPs
  have cd : PySem.W.CodeHd (s1.heap.push o) c P := TB.code.keeps fun b u e => Heap.get?_push_of_some _ (I1.bk b u e)
  have lim2 : (s1.heap.push o).NoLimit := I1.nolimit.push o
  -- the cells of the two names
  obtain ⟨m1, hns1, hloc1⟩ := I1.loc
  have cellOf : ∀ (i : Nat) (x : Str) (v : V), X.N[i]? = some x → σ[i]? = some (some v) → X.env.scope.names.lookup x = some .cell → ∃ u cx, RelV v u ∧ X.env.cells.lookup x = some cx ∧ s1.heap.IsCell cx (some u) := fun i x v e1 e2 e3 => by
    obtain ⟨u, ru, l⟩ := hloc1 i x v e1 e2 (.inr (.inl e3))
    rcases l with ⟨hk, _⟩ | ⟨hk, cx, hcx, hcell⟩
    · exact absurd (hk.symm.trans e3) (by intro z; cases z)
    · exact ⟨u, cx, ru, hcx, hcell⟩
  obtain ⟨uL, cL, ruL, hcL, vL⟩ := cellOf il xl _ hNl sl S.ol
  obtain ⟨uC, cC, ruC, hcC, vC⟩ := cellOf ic xc _ hNc sc S.oc
  obtain rfl : uL = Value.ref a := ruL
  obtain ⟨tc, rfl⟩ := ruC
  obtain ⟨its, rvL, pL, _⟩ := I1.list hsq
  have cl1 : (cloFrom X.env.cells scope.names []).lookup xl = some cL := clo_look S.l hcL
  have cl2 : (cloFrom X.env.cells scope.names []).lookup xc = some cC := clo_look S.c hcC
  -- the rows, as the heap has them
  have rowsAt : ∀ i, lo ≤ i → i < hi' → ∃ (rr t : Addr) (row its3 : Array Value) (tq : Tok), its.toArray[i]? = some (.ref rr) ∧ s1.heap.IsList rr row ∧ row[col]? = some (.ref t) ∧ IsTup s1.heap t its3 ∧ its3[0]? = some (.int (q i) tq) ∧ its3.size ≤ 1000 := by
    intro i h1 h2
    obtain ⟨rr, t, row, tp, e1, e2, e3, e4, e5, e6⟩ := hrows i h1 h2
    obtain ⟨u1, hu1, ru1⟩ := rvL.get e1
    obtain rfl : u1 = Value.ref rr := ru1
    obtain ⟨rits, rr1, pr, _⟩ := I1.list e2
    obtain ⟨u2, hu2, ru2⟩ := rr1.get e3
    obtain rfl : u2 = Value.ref t := ru2
    obtain ⟨tits, rt1, pt, _⟩ := I1.tuple e4
    obtain ⟨u3, hu3, ru3⟩ := rt1.get e5
    obtain ⟨tq, rfl⟩ := ru3
    refine ⟨rr, t, rits.toArray, tits.toArray, tq, by simpa using hu1, pr.isList, by simpa using hu2, pt, by simpa using hu3, ?_⟩
    rw [List.size_toArray, ← rt1.length]
    exact e6
  have W : ∀ A' : Around, A'.handled = none → Walks X.prog X.w A' s1.heap.objs.size [s1.heap.objs.size] [s1.heap.objs.size] (hi' - lo) (fun i v => i < hi' - lo ∧ ∃ t, v = .int ((lo + i : Nat) : Int) t) (fun i h => IsRangeIter h s1.heap.objs.size ((lo : Int) + (i : Nat) * 1) (((hi' - lo : Nat) : Int) - (i : Nat)) 1) :=
    fun A' hA => (Walks.range hA s1.heap.objs.size (lo : Int) 1 (hi' - lo)).mono_item fun i v hi ⟨t, e⟩ => ⟨hi, t, by rw [e]; congr 1; omega⟩
  have pf := passing_first (pz := fun i => decide (q (lo + i) ≠ 0)) (n := hi' - lo) (j := pp - lo) (by omega) (by rw [show lo + (pp - lo) = pp by omega]; exact decide_eq_true g3) (fun i hi => by rw [g4 (lo + i) (by omega) (by omega)]; rfl)
  -- what is left to do once the generator stands
  let Q' : Value → Shared → Prop := fun v s' => wpAny (model X.prog X.w) X.A (spliced (backTo pos (starEach [.Constant .none jn pn] X.env))) (fun vs s'' => wpAny (model X.prog X.w) X.A (call (.builtin "next") (v :: vs)) (EP X pins σ Q) X.xe s'') X.xe s'
  have cont : ∀ (code : Value) (h3 : Heap) (tk : Nat) (ps' : Array Value), Heap.ExtBut P (s1.heap.push o) h3 → (s1.heap.push o).objs.size ≤ h3.objs.size → h3.get? P = some { cls := .none, data := .fields ps' } → (∃ more, ps' = ps ++ more) → TriplesOk ps'.toList →
      wpAny (model X.prog X.w) X.A (builtinsFor X.env.globals X.env.builtins) (fun bi s₄ =>
        ∃ Ia fp wr n₀ Pf St₀ pz F, Value.ref s1.heap.objs.size = .ref Ia ∧ (∀ A' : Around, A'.handled = none → Walks X.prog X.w A' Ia fp wr n₀ Pf St₀) ∧ St₀ 0 s₄.heap ∧ (∀ b ∈ fp, b < s₄.heap.objs.size) ∧ s₄.heap.NoLimit ∧ cStatics ∉ wr ∧
          (∀ href : Heap, (∀ b o, s₄.heap.get? b = some o → href.get? b = some o) →
            QuietGen X.prog X.w (genEnv scope (cloFrom X.env.cells scope.names []) s₄.heap.objs.size code bi X.env) xa [.Compare (.Subscript (.Subscript (.Subscript (.Name xl p1) (.Name xa p2) p3) (.Name xc p4) p5) (.Constant (.int 0) j1 p6) p7) [.NotEq] [.Constant (.int 0) j2 p8] p9] (.Name xa pa) (List.range s₄.heap.objs.size) wr Pf pz F href) ∧
          (∀ a h₅ tk gs, gs.bare = true → s₄.heap.objs.size < a → h₅.objs.size = a + 1 → (∀ b o, s₄.heap.get? b = some o → h₅.get? b = some o) →
            WalksS X.prog X.w X.A.in4 a (a :: s₄.heap.objs.size :: List.range s₄.heap.objs.size) (s₄.heap.objs.size :: wr) (GenOnlyQ s₄.gens.size) (passing pz n₀ 0).length
              (fun j y => ∃ i, (passing pz n₀ 0)[j]? = some i ∧ F i y) (GenAt X.prog X.w X.A.in4 a s₄.gens.size s₄.heap.objs.size (List.range s₄.heap.objs.size) wr pz n₀ F) →
            GenAt X.prog X.w X.A.in4 a s₄.gens.size s₄.heap.objs.size (List.range s₄.heap.objs.size) wr pz n₀ F 0 { s₄ with gens := s₄.gens.push gs, toks := tk, heap := h₅ } →
            Q' (.ref a) { s₄ with gens := s₄.gens.push gs, toks := tk, heap := h₅ })) X.xe { s1 with heap := h3, toks := tk } := by
    intro code h3 tk ps' hx hsz hP3 hmore ht3
    obtain ⟨bm, ob, f1, f2, f3, f4, f5, f6, f7, f8⟩ := TB.bm
    have hcP : cStatics ≠ P := fun e => by
      obtain ⟨_, hns, _⟩ := I1.nolimit
      obtain ⟨o', es, ep, ho, hd, _⟩ := hns
      rw [e, hPs] at ho
      cases ho
      cases hd
    have hcl : cStatics < s1.heap.objs.size := let ⟨_, hns, _⟩ := I1.nolimit; hns.lt
    have sz2 : (s1.heap.push o).objs.size = s1.heap.objs.size + 1 := Heap.size_push ..
    have keep3 : ∀ b u, b ≠ P → s1.heap.get? b = some u → h3.get? b = some u := fun b u hb e => hx b u hb (Heap.get?_push_of_some _ e)
    refine wpAny_builtinsFor (m := X.mg) (by rw [I1.ok.glob]; exact ((I1.mod.glob.keeps I1.bk).push o).extBut hx TB.gP) f1 f2 (keep3 _ _ f4 (I1.bk _ _ f5)) f6 f7 f8 ?_
    refine ⟨s1.heap.objs.size, [s1.heap.objs.size], [s1.heap.objs.size], hi' - lo, _, _, (fun i => decide (q (lo + i) ≠ 0)), (fun i y => ∃ t, y = .int ((lo + i : Nat) : Int) t), rfl, W, ?_, ?_, lim2.extBut hx hcP, ?_, ?_, ?_⟩
    · exact hx _ _ (fun z => Nat.ne_of_lt hPlt z.symm) hit
    · intro b hb
      rw [List.mem_singleton.mp hb]
      show s1.heap.objs.size < h3.objs.size
      omega
    · intro z
      exact Nat.ne_of_lt hcl (List.mem_singleton.mp z)
    · intro href hhref
      -- what the generator's frame sees of s1's heap
      have see : ∀ (s₂ : Shared), (∀ b ∈ List.range h3.objs.size, b ∉ [s1.heap.objs.size] → ∀ o, href.get? b = some o → s₂.heap.get? b = some o) → ∀ b u, b ≠ P → s1.heap.get? b = some u → s₂.heap.get? b = some u := fun s₂ hk b u hb e => by
        have hlt := Heap.lt_size e
        refine hk b (List.mem_range.mpr ?_) (fun z => Nat.ne_of_lt hlt (List.mem_singleton.mp z)) u (hhref b u (keep3 b u hb e))
        exact Nat.lt_of_lt_of_le hlt (by omega)
      have nP : ∀ b u, s1.heap.get? b = some u → u.data ≠ .fields ps → b ≠ P := fun b u e n z => by
        rw [z, hPs] at e
        cases e
        exact n rfl
      refine ⟨fun A' E' i v s₂ m₂ hA hPv hn hm hk => ?_, fun A' E' i v s₂ m₂ hA hPv hp hn hm hk => ?_⟩
      · obtain ⟨hin, t, rfl⟩ := hPv
        obtain ⟨rr, tt, row, its3, tq, r1, r2, r3, r4, r5, r6⟩ := rowsAt (lo + i) (by omega) (by omega)
        have kc : ∀ {b : Addr} {u : Option Value}, s1.heap.IsCell b u → s₂.heap.IsCell b u := fun {b u} ⟨ob, e, ed⟩ => ⟨ob, see s₂ hk b ob (nP b ob e (by rw [ed]; intro z; cases z)) e, ed⟩
        have kl : ∀ {b : Addr} {xs : Array Value}, s1.heap.IsList b xs → s₂.heap.IsList b xs := fun {b xs} ⟨ob, e, ecl, nn, ed⟩ => ⟨ob, see s₂ hk b ob (nP b ob e (by rw [ed]; intro z; cases z)) e, ecl, nn, ed⟩
        have kt : ∀ {b : Addr} {xs : Array Value}, IsTup s1.heap b xs → IsTup s₂.heap b xs := fun {b xs} ⟨ob, e, ecl, nn, ed⟩ => ⟨ob, see s₂ hk b ob (nP b ob e (by rw [ed]; intro z; cases z)) e, ecl, nn, ed⟩
        refine wpAny_tests_one (ev_test S.kind S.l S.a S.c dl da dc el ec cl1 cl2 (kc vL) (kc vC) hn hm (kl pL.isList) r1 (kl r2) r3 (kt r4) r5 (by omega) b2 r6)
      · obtain ⟨hin, t, rfl⟩ := hPv
        exact wpAny_Name (wpAny_loadName_local S.kind S.a hn hm ⟨⟨t, rfl⟩, GxR.keeps_refl _⟩) da
    · intro g h5 tk5 gs hgb hag hsz5 hk5 W5 hat
      show wpAny _ _ (spliced (backTo pos (starEach [.Constant .none jn pn] X.env))) _ _ _
      refine PyProof.Rows.args_cons (PyProof.Rows.Constant_none (PyProof.Rows.args_nil ?_)) rfl
      refine Calls.call_function_entry (by decide +kernel) (by decide +kernel) PySem.W.kdk_entry_next (PySem.W.kdk_args_next2 _ _) ?_
      unfold Builtin.«next»
      refine wpAny_bind (m := someArgs "next" 1 2 _) (wpAny_of_eq (a := [Value.ref g, .none]) (by first | rfl | kernel_rfl!) ?_)
      dsimp only
      refine wpAny_bind (wpAny_specialOf (name := Str.ofString "__next__") hat.1.typeIs slot_gen_next.lookup ?_)
      refine wpAny_ite_split (fun hab => absurd hab (by decide)) (fun _ => ?_)
      have W6 := W5.in4_1
      refine wpAny_bind (W6.item 0 _ _ _ pf.1 hat fun v' s' hv' _ hmv => ?_)
      obtain ⟨i, ei, t, rfl⟩ := hv'
      rw [pf.2] at ei
      cases ei
      refine wpAny_pure ⟨_, rfl, ?_⟩
      obtain ⟨more, em⟩ := hmore
      have nwr : ∀ b u, s1.heap.get? b = some u → b ∉ h3.objs.size :: [s1.heap.objs.size] := fun b u e hb => by
        have hl := Heap.lt_size e
        rcases List.mem_cons.mp hb with z | z
        · rw [z] at hl
          have h9 : (h3.objs.size : Nat) < s1.heap.objs.size := hl
          omega
        · rw [List.mem_singleton.mp z] at hl
          exact Nat.lt_irrefl _ hl
      have J := GxR.inv_tab (more := more) (h' := s'.heap) (g' := s'.gens) (d' := s'.drawn) (t' := s'.toks) I1 hP (fun b u hb e => hmv.heap b u (nwr b u e) (hk5 b u (keep3 b u hb e)))
        (by rw [← em]; exact hmv.heap P _ (nwr P _ hPs) (hk5 P _ hP3)) (AllBare.movedS (I1.bare.push hgb) hmv)
      rw [GxR.sh_eta s1 s' hmv.os] at J
      exact ⟨.int (pp : Int), _, J, ⟨t, by show Value.int _ _ = Value.int _ _; congr 1; omega⟩, q1 _ ⟨⟨ps ++ more, upd_same, by rw [← em]; exact ht3⟩, fun b hb => upd_ne hb⟩⟩
  refine ⟨lim2, ?_⟩
  cases hf : codeAmong gpos ps.toList with
  | none =>
    refine wpAny_genexprCodeX hcode (cd.code hP2 ht) (cd.tab hP2) hf fun c' h' tk hx hge hlt hco' _ htab' _ => ?_
    obtain ⟨o1, vs, f1, tf, fl, tg, inF, tx, tt, op, _, _, _, _, _, _, _, _, _, htr, _⟩ := hco'
    exact cont _ h' tk _ hx (Nat.le_trans hge (Nat.le_of_lt hlt)) htab'.2 ⟨_, rfl⟩ htr
  | some cv =>
    refine wpAny_genexprCode_hit hcode (cd.code hP2 ht) hf ?_
    exact cont cv (s1.heap.push o) s1.toks ps (Heap.ExtBut.refl _ _) (Nat.le_refl _) hP2 ⟨#[], by simp⟩ ht
end JL

set_option Elab.async false
set_option linter.all false
set_option maxRecDepth 100000
set_option maxHeartbeats 4000000
set_option autoImplicit false
/-! next(..) in the layer; names of any kind. -/
namespace JL
open PySem PySem.Spec PyProof.Rows L2
theorem ext_tab {F H H2 : Hp} {P : Addr} (fz : Fz F H) (hP : GxR.TabG H P) (t : GxR.Tabbed P H H2) : Ext F H F H2 := by
  obtain ⟨ps, e, _⟩ := hP
  have ne : ∀ b o, H b = some o → (∀ ps, o ≠ .tbl ps) → b ≠ P := fun b o q n z => by
    rw [z, e] at q
    cases q
    exact n _ rfl
  refine ⟨⟨fun b o q n => by rw [t.2 b (ne b o q n)]; exact q, fun b ⟨ps', q, tt⟩ => ?_, fun b q => ?_⟩, Same.refl _, fun _ _ z => z, fun b o q => ?_⟩
  · by_cases hb : b = P
    · rw [hb]; exact t.1
    · exact ⟨ps', by rw [t.2 b hb]; exact q, tt⟩
  · by_cases hb : b = P
    · obtain ⟨qs, e2, _⟩ := t.1
      rw [hb, e2]; intro z; cases z
    · rw [t.2 b hb]; exact q
  · obtain ⟨q1, q2⟩ := fz b o q
    exact ⟨by rw [t.2 b (ne b o q1 q2)]; exact q1, q2⟩
section
variable {tb : List Addr} {X : Cx} {G : List Slt} {N : List Str} {sc : Scope} {k : Nat} {pos : Pos}
def rng2T (lo hi : Nat) : Ty := ⟨fun _ H v => ∃ a, v = .ref a ∧ H a = some (.rng (lo : Int) (hi : Int)), fun s ⟨a, e, h⟩ => ⟨a, e, s _ _ h⟩⟩
theorem e_range2 (h : CxD X N sc k) {p : Pos} {e1 e2 : Expr} {lo hi : Nat} (h1 : E tb X G e1 (intT (lo : Int))) (h2 : E tb X G e2 (intT (hi : Int))) (hm : X.mg "range" = none) (hg : sc.names.lookup ("range" : Str) = some .globalImplicit := by rfl) (n1 : NoStar e1 := by intro _ _; rfl) (n2 : NoStar e2 := by intro _ _; rfl)
    (hpl : (backTo pos (starEach [e2] X.env)).any (·.1) = false := by rfl) : E tb X G (.Call (.Name "range" p) [e1, e2] [] pos) (rng2T lo hi) :=
  e_callTy h cr_range2 (Ts := [intT (lo : Int), intT (hi : Int)]) (fun F H vs Q fz al q => by
    obtain ⟨v, w, rfl, t, u⟩ := al2 al
    cases (show v = V.int (lo : Int) from t)
    cases (show w = V.int (hi : Int) from u)
    refine ⟨lo, hi, rfl, fun l hl => ?_⟩
    have x4 := Ext.new fz hl (o := .rng (lo : Int) (hi : Int)) fun _ z => nomatch z
    exact q _ _ _ x4 ⟨l, rfl, upd_same⟩) (ea_cons h1 (ea_cons h2 ea_nil n2) n1) hm (by decide +kernel) hg (he := n1) (hpl := hpl)
/-- next(xa for xa in iter if rows[xa][xc][0] != 0, None): the first such place p -/
theorem e_nextG (h : CxD X N sc k) {c P : Addr} (hPt : P ∈ tb) (TB : GxR.TabB X.base X.mg c P) (hcode : X.env.code = .ref c) (il ic : Nat) {xl xa xc : Str} {iter : Expr} {j1 j2 jn : Nat} {scope : Scope} {p pa px gpos pn p1 p2 p3 p4 p5 p6 p7 p8 p9 : Pos}
    {lo hi col pp : Nat} {Ts : List Ty} {f : Nat → Rat} (hi' : E tb X G iter (rng2T lo hi)) (hrow : ∀ i, lo ≤ i → i < hi → ∃ Us, Ts[i]? = some (lstT Us) ∧ Us[col]? = some (fracT (f i))) (b1 : hi < 1000) (b2 : col < 1000)
    (h1 : lo ≤ pp) (h2 : pp < hi) (h3 : f pp ≠ 0) (h4 : ∀ i, lo ≤ i → i < pp → f i = 0) (hm : X.mg "next" = none) (S : GenF N sc scope xl xa xc)
    (hGl : G[il]? = some (.own Ts) := by rfl) (hGc : G[ic]? = some (.v (intT (col : Int))) := by rfl) (hNl : N[il]? = some xl := by rfl) (hNc : N[ic]? = some xc := by rfl) (hg : sc.names.lookup ("next" : Str) = some .globalImplicit := by rfl)
    (dl : (xl == ("__debug__" : Str)) = false := by decide) (da : (xa == ("__debug__" : Str)) = false := by decide) (dc : (xc == ("__debug__" : Str)) = false := by decide) (el : (xl == ("__classdict__" : Str)) = false := by decide) (ec : (xc == ("__classdict__" : Str)) = false := by decide)
    (hs : ∀ v, genFold iter X.env v = pure v := by intro _; rfl) (he : starEach [.GeneratorExp (.Name xa pa) [⟨.Name xa px, iter, [.Compare (.Subscript (.Subscript (.Subscript (.Name xl p1) (.Name xa p2) p3) (.Name xc p4) p5) (.Constant (.int 0) j1 p6) p7) [.NotEq] [.Constant (.int 0) j2 p8] p9], 0⟩] scope gpos, .Constant .none jn pn] X.env
      = (false, eval (.GeneratorExp (.Name xa pa) [⟨.Name xa px, iter, [.Compare (.Subscript (.Subscript (.Subscript (.Name xl p1) (.Name xa p2) p3) (.Name xc p4) p5) (.Constant (.int 0) j1 p6) p7) [.NotEq] [.Constant (.int 0) j2 p8] p9], 0⟩] scope gpos) X.env) :: starEach [.Constant .none jn pn] X.env := by rfl) :
    E tb X G (.Call (.Name "next" p) [.GeneratorExp (.Name xa pa) [⟨.Name xa px, iter, [.Compare (.Subscript (.Subscript (.Subscript (.Name xl p1) (.Name xa p2) p3) (.Name xc p4) p5) (.Constant (.int 0) j1 p6) p7) [.NotEq] [.Constant (.int 0) j2 p8] p9], 0⟩] scope gpos, .Constant .none jn pn] [] pos) (intT (pp : Int)) := fun B σ F H Q hh q => by
  refine ewp_of (pe_nextG (il := il) (ic := ic) h.room h.calm (h.gl hg) hm TB hcode (by rw [h.hN, h.hsc]; exact S) (pe_wp iter) (by rw [h.hN]; exact hNl) (by rw [h.hN]; exact hNc) dl da dc el ec hs he) ?_
  refine hi' B σ F H _ hh fun v F1 H1 x1 t => ?_
  have hh1 := hh.up x1
  obtain ⟨r, rfl, hr⟩ := t
  obtain ⟨a, vs, q1, q2, q3, q4, q5⟩ := hh1.own il Ts hGl
  obtain ⟨w, e1, e2⟩ := hh1.val ic _ hGc
  cases (show w = V.int (col : Int) from e2)
  refine ⟨r, a, lo, hi, col, pp, vs, fun i => (f i).num, rfl, (x1.fz _ _ hr).1, q1, e1, SqL.of q4, b1, b2, fun i i1 i2 => ?_, hh1.tab P hPt, h1, h2, fun z => h3 (Rat.num_eq_zero.mp z), fun i i1 i2 => (by show (f i).num = 0; rw [h4 i i1 i2]; rfl), fun H2 tt => ?_⟩
  · obtain ⟨Us, u1, u2⟩ := hrow i i1 i2
    obtain ⟨v, ev, tv⟩ := q5.get u1
    obtain ⟨rr, row, rfl, sr, alr⟩ := tv
    obtain ⟨v2, ev2, tv2⟩ := alr.get u2
    obtain ⟨tt, tp, rfl, st, alt⟩ := tv2
    obtain ⟨x, y, rfl, tx, ty⟩ := al2 alt
    cases (show x = V.int _ from tx)
    exact ⟨rr, tt, row, _, ev, al_seq x1.fz sr, ev2, al_sqt x1.fz st, rfl, by simp⟩
  · exact q _ F1 H2 (x1.trans (ext_tab x1.fz (hh1.tab P hPt) tt)) rfl
end
end JL

set_option Elab.async false
set_option linter.all false
set_option maxRecDepth 100000
set_option maxHeartbeats 4000000
set_option autoImplicit false
/-! isinstance. -/
namespace JL
open PySem PySem.Spec PyProof.Rows L2
def tyT (S : String) : Ty := ⟨fun _ _ v => v = .ty S, fun _ h => h⟩
def refT (C : Addr) : Ty := ⟨fun _ _ v => v = .ref C, fun _ h => h⟩
section
variable {tb : List Addr} {X : Cx} {G : List Slt} {N : List Str} {sc : Scope} {k : Nat} {pos : Pos}
theorem e_bltn (h : CxD X N sc k) {x : Str} {S : String} (hm : X.mg x = none) (hv : bootBuiltins x = some (.type S) := by decide +kernel) (hg : sc.names.lookup x = some .globalImplicit := by rfl) (hn : x ≠ "__name__" := by decide) (hd : (x == ("__debug__" : Str)) = false := by decide) : E tb X G (.Name x pos) (tyT S) :=
  fun B σ F H Q hs q => ewp_of (pe_bltn (v := .ty S) (h.gl hg) hm hv rfl hn hd) (q _ F H (Ext.refl hs.fz) rfl)
/-- T's values are of the type t -/
def Typed (T : Ty) (t : Value) : Prop := ∀ (K : PySem.W.Frag) (F H : Hp) (v : V), Fz F H → T.p K F v → TyX K H v t
theorem typed_int {i : Int} : Typed (intT i) (.type "int") := fun K F H v fz t => by
  cases (show v = V.int i from t)
  exact .base (.int i)
theorem typed_tup {Ts : List Ty} : Typed (tupT Ts) (.type "tuple") := fun K F H v fz t => by
  obtain ⟨a, vs, rfl, s, al⟩ := t
  rcases al_sqt fz s with (s | ⟨o, s⟩) | s
  · exact .base (.tup s)
  · exact .fTuple s
  · obtain ⟨o, its, n, e, c, _⟩ := s
    exact .kTuple e c
theorem e_isi (h : CxD X N sc k) {p : Pos} {a b : Expr} {T : Ty} {t : Value} {S : String} {r : Bool} (ha : E tb X G a T) (hT : Typed T t) (hb : E tb X G b (tyT S)) (hk : PySem.W.kitOne X.K t (.type S) = some r) (hm : X.mg "isinstance" = none)
    (hg : sc.names.lookup ("isinstance" : Str) = some .globalImplicit := by rfl) (n1 : NoStar a := by intro _ _; rfl) (n2 : NoStar b := by intro _ _; rfl) (hpl : (backTo pos (starEach [b] X.env)).any (·.1) = false := by rfl) : E tb X G (.Call (.Name "isinstance" p) [a, b] [] pos) (boolT r) :=
  e_callB h call_isi (Ts := [T, tyT S]) (fun F H vs Q fz al q => by
    obtain ⟨v, w, rfl, t1, u⟩ := al2 al
    cases (show w = V.ty S from u)
    exact ⟨v, .ty S, t, .type S, r, rfl, .ty S, hT _ _ _ _ fz t1, hk, q _ F H (Ext.refl fz) rfl⟩) (ea_cons ha (ea_cons hb ea_nil n2) n1) hm (by decide +kernel) hg (he := n1) (hpl := hpl)
/-- isinstance(o, C), o an instance of C -/
theorem e_isiO (h : CxD X N sc k) {p : Pos} {a b : Expr} {C : Addr} {Ts : List Ty} (ha : E tb X G a (objT C Ts)) (hb : E tb X G b (refT C)) (cl : SlX.SCls X.K C) (ci : SlX.SIsi X.K C) (hm : X.mg "isinstance" = none)
    (hg : sc.names.lookup ("isinstance" : Str) = some .globalImplicit := by rfl) (n1 : NoStar a := by intro _ _; rfl) (n2 : NoStar b := by intro _ _; rfl) (hpl : (backTo pos (starEach [b] X.env)).any (·.1) = false := by rfl) : E tb X G (.Call (.Name "isinstance" p) [a, b] [] pos) (boolT true) :=
  e_callB h (SlX.call_isiSl (.ref C)) (Ts := [objT C Ts, refT C]) (fun F H vs Q fz al q => by
    obtain ⟨v, w, rfl, t1, u⟩ := al2 al
    cases (show w = V.ref C from u)
    obtain ⟨a, dx, ws, rfl, sl, _⟩ := slt_of fz t1
    exact ⟨a, C, dx, _, .ref C, true, rfl, rfl, fun w e => e, sl, cl, ci, if_pos (beq_self_eq_true _), q _ F H (Ext.refl fz) rfl⟩) (ea_cons ha (ea_cons hb ea_nil n2) n1) hm (by decide +kernel) hg (he := n1) (hpl := hpl)
end
end JL

set_option Elab.async false
set_option linter.all false
set_option maxRecDepth 100000
set_option maxHeartbeats 4000000
set_option autoImplicit false
/-! __init__ of classes with slots. -/
namespace JL
open PySem PySem.Spec PyProof.Rows L2
/-- the instance at x that is being built: vs its slots so far -/
structure Bld (B : Bs) (F H : Hp) (σ : L2.St) (C x dx : Addr) (vs : List (Option V)) : Prop where
  sx : σ[0]? = some (some (.ref x))
  hs : SlX.Slt H x C dx vs
  fx : F x = none
  fd : F dx = none
  bx : B.H x = none
  bd : B.H dx = none
  ne : dx ≠ x
  od : ∃ o, H dx = some o ∧ ∀ ps, o ≠ .tbl ps
theorem Bld.up {B : Bs} {F H F' H' : Hp} {σ : L2.St} {C x dx : Addr} {vs : List (Option V)} (b : Bld B F H σ C x dx vs) (e : Ext F H F' H') : Bld B F' H' σ C x dx vs := by
  have hx : H x ≠ none := by
    rcases b.hs with ⟨h, _⟩ | ⟨h, _⟩ <;> (rw [h]; intro z; cases z)
  obtain ⟨o, ho, hn⟩ := b.od
  refine ⟨b.sx, ?_, e.av x hx b.fx, e.av dx (by rw [ho]; intro z; cases z) b.fd, b.bx, b.bd, b.ne, o, e.hh.keep dx o ho hn, hn⟩
  rcases b.hs with ⟨h, hv⟩ | ⟨h, h2⟩
  · exact .inl ⟨e.hh.keep x _ h (fun _ z => nomatch z), hv⟩
  · exact .inr ⟨e.hh.keep x _ h (fun _ z => nomatch z), e.hh.keep dx _ h2 (fun _ z => nomatch z)⟩
/-- a slot of an instance that is being built: not yet, or a value of the type -/
def relO (K : PySem.W.Frag) (H : Hp) : Option Ty → Option V → Prop
  | some T, some v => T.p K H v
  | none, none => True
  | _, _ => False
abbrev AlO (K : PySem.W.Frag) (H : Hp) : List (Option Ty) → List (Option V) → Prop := Paired fun T v => relO K H T v
theorem relO_up {K : PySem.W.Frag} {H H' : Hp} (s : Same H H') : ∀ {T : Option Ty} {v : Option V}, relO K H T v → relO K H' T v
  | some T, some _, h => T.mono s h
  | none, none, _ => trivial
  | some _, none, h => h.elim
  | none, some _, h => h.elim
theorem AlO.up {K : PySem.W.Frag} {H H' : Hp} (s : Same H H') : ∀ {Ts : List (Option Ty)} {vs : List (Option V)}, AlO K H Ts vs → AlO K H' Ts vs
  | _, _, .nil => .nil
  | _, _, .cons h t => .cons (relO_up s h) (AlO.up s t)
theorem AlO.get {K : PySem.W.Frag} {H : Hp} : ∀ {Ts : List (Option Ty)} {vs : List (Option V)} {i : Nat} {T : Ty}, AlO K H Ts vs → Ts[i]? = some (some T) → ∃ v, vs[i]? = some (some v) ∧ T.p K H v
  | _, _, i, _, .nil, e => by rw [List.getElem?_nil] at e; cases e
  | some _ :: _, some v :: _, 0, _, .cons h _, e => by cases e; exact ⟨v, rfl, h⟩
  | none :: _, _ :: _, 0, _, .cons _ _, e => by cases e
  | some _ :: _, none :: _, 0, _, .cons h _, _ => h.elim
  | _ :: _, _ :: _, i + 1, _, .cons _ t, e => AlO.get (i := i) t e
theorem AlO.set {K : PySem.W.Frag} {H : Hp} {T : Ty} {v : V} (r : T.p K H v) : ∀ {Ts : List (Option Ty)} {vs : List (Option V)} (i : Nat), AlO K H Ts vs → AlO K H (Ts.set i (some T)) (vs.set i (some v))
  | _, _, _, .nil => .nil
  | _, _, 0, .cons _ t => .cons r t
  | _, _, i + 1, .cons h t => .cons h (AlO.set r i t)
theorem AlO.append {K : PySem.W.Frag} {H : Hp} : ∀ {Ts Us : List (Option Ty)} {vs ws : List (Option V)}, AlO K H Ts vs → AlO K H Us ws → AlO K H (Ts ++ Us) (vs ++ ws)
  | _, _, _, _, .nil, b => b
  | _, _, _, _, .cons h t, b => .cons h (AlO.append t b)
theorem AlO.nones {K : PySem.W.Frag} {H : Hp} : ∀ n : Nat, AlO K H (List.replicate n none) (List.replicate n none)
  | 0 => .nil
  | n + 1 => .cons trivial (AlO.nones n)
theorem AlO.all {K : PySem.W.Frag} {H : Hp} : ∀ {R : List Ty} {ws : List (Option V)}, AlO K H (R.map some) ws → ∃ vs, ws = vs.map some ∧ Al K H R vs
  | [], _, .nil => ⟨[], rfl, .nil⟩
  | _ :: _, some v :: _, .cons h t => let ⟨vs, e, al⟩ := AlO.all t; ⟨v :: vs, by rw [e]; rfl, .cons h al⟩
  | _ :: _, none :: _, .cons h _ => h.elim
/-- the slot i gets a value -/
def putT (i : Nat) (T : Ty) (Us : List (Option Ty)) : List (Option Ty) := (Us ++ List.replicate (i + 1 - Us.length) none).set i (some T)
theorem AlO.put {K : PySem.W.Frag} {H : Hp} {T : Ty} {v : V} {Us : List (Option Ty)} {ws : List (Option V)} (i : Nat) (al : AlO K H Us ws) (r : T.p K H v) : AlO K H (putT i T Us) (SlX.putS i v ws) := by
  unfold putT SlX.putS
  have hl : Us.length = ws.length := Paired.length al
  rw [hl]
  exact AlO.set r i (AlO.append al (AlO.nones _))
section
variable {tb : List Addr} {X : Cx} {G : List Slt} {N : List Str} {sc : Scope} {k : Nat} {pos : Pos} {C : Addr}
/-- an expression while the instance is being built, Us its slots' types -/
def EI (tb : List Addr) (X : Cx) (G : List Slt) (C : Addr) (Us : List (Option Ty)) (e : Expr) (T : Ty) : Prop := ∀ (B : Bs) (σ : L2.St) (F H : Hp) (Q : VK) (x dx : Addr) (ws : List (Option V)), Has tb X.K G B F H σ → Bld B F H σ C x dx ws → AlO X.K F Us ws →
  (∀ v F' H', Ext F H F' H' → T.p X.K F' v → Q v H') → ewp X e σ H Q
theorem ei {Us : List (Option Ty)} {e : Expr} {T : Ty} (h : E tb X G e T) : EI tb X G C Us e T := fun B σ F H Q x dx ws hh _ _ q => h B σ F H Q hh q
/-- self.f, read -/
theorem ei_fld (h : CxD X N sc k) {Us : List (Option Ty)} {x0 f : Str} {fs : List Str} {p0 : Pos} {T : Ty} (i : Nat) (c : ClsOk X.K C fs) (hN : N[0]? = some x0 := by rfl) (hv : visB sc x0 = true := by rfl) (hf : fs[i]? = some f := by rfl) (hT : Us[i]? = some (some T) := by rfl) (hd : (x0 == ("__debug__" : Str)) = false := by decide)
    (hcd : (x0 == ("__classdict__" : Str)) = false := by decide) (hb : attributeBase (.Name x0 p0) f X.env (eval (.Name x0 p0) X.env) = eval (.Name x0 p0) X.env := by rfl) : EI tb X G C Us (.Attribute (.Name x0 p0) f pos) T := fun B σ F H Q x dx ws hh b al q => by
  have hv2 : Vis X.env.scope x0 := by rw [h.hsc]; exact visB.of hv
  refine ewp_of (SlX.pe_sl (pe_var (i := 0) (by rw [h.hN]; exact hN) hv2 hd hcd) hb) ⟨.ref x, b.sx, ?_⟩
  obtain ⟨p, s1⟩ := c.sl i f hf
  obtain ⟨w, ew, tw⟩ := al.get hT
  exact ⟨x, C, dx, p, _, i, w, rfl, b.hs, c.cl, s1, ew, q w F H (Ext.refl hh.fz) tw⟩
/-- statements of an __init__: at the end the slots have the types R -/
def SI (tb : List Addr) (X : Cx) (G : List Slt) (C : Addr) (Us : List (Option Ty)) (sts : List Stmt) (R : List Ty) : Prop := ∀ (B : Bs) (σ : L2.St) (F H : Hp) (D : Ends) (x dx : Addr) (ws : List (Option V)), Has tb X.K G B F H σ → Bld B F H σ C x dx ws → AlO X.K F Us ws →
  (∀ F' H', Ext B.F B.H F' H' → (objT C R).p X.K F' (.ref x) → D.nx σ H') → sswp X sts D σ H
theorem si_end {Us : List (Option Ty)} {R : List Ty} (hu : R ≠ []) (hU : Us = R.map some := by rfl) : SI tb X G C Us [] R := fun B σ F H D x dx ws hh b al q => by
  subst hU
  obtain ⟨vs, rfl, alv⟩ := AlO.all al
  clear al
  refine sswp_of pss_nil ?_
  have hs : H x = some (SlX.SlO x C dx (vs.map some)) ∧ H dx = some (.xd []) := by
    rcases b.hs with ⟨h, hv⟩ | h
    · exfalso
      cases alv with
      | nil => exact hu rfl
      | cons a t => cases hv
    · exact h
  obtain ⟨h1, h2⟩ := hs
  let F1 := upd F dx (.xd [])
  let F2 := upd F1 x (SlX.SlO x C dx (vs.map some))
  have s1 : Same F F1 := same_upd' b.fd
  have f1x : F1 x = none := by show upd F dx (.xd []) x = none; rw [upd_ne b.ne.symm]; exact b.fx
  have s2 : Same F1 F2 := same_upd' f1x
  refine q F2 H ?_ ⟨x, dx, vs, rfl, upd_same, ?_, alv.up (Same.trans s1 s2)⟩
  · refine ⟨hh.ext.hh, hh.ext.ff.trans (Same.trans s1 s2), fun a h3 h4 => ?_, fun c o hq => ?_⟩
    · have hax : a ≠ x := fun z => h3 (z ▸ b.bx)
      have had : a ≠ dx := fun z => h3 (z ▸ b.bd)
      show upd (upd F dx (.xd [])) x _ a = none
      rw [upd_ne hax, upd_ne had]
      exact hh.ext.av a h3 h4
    · by_cases hcx : c = x
      · subst hcx
        have : F2 c = _ := upd_same
        rw [this] at hq
        cases hq
        exact ⟨h1, fun _ z => nomatch z⟩
      · have e1 : F2 c = F1 c := upd_ne hcx
        rw [e1] at hq
        by_cases hcd : c = dx
        · subst hcd
          have : F1 c = _ := upd_same
          rw [this] at hq
          cases hq
          exact ⟨h2, fun _ z => nomatch z⟩
        · have e2 : F1 c = F c := upd_ne hcd
          rw [e2] at hq
          exact hh.fz c o hq
  · show upd (upd F dx (.xd [])) x _ dx = _
    rw [upd_ne b.ne]
    exact upd_same
/-- self.f = e -/
theorem si_set (h : CxD X N sc k) (i : Nat) {Us : List (Option Ty)} {R : List Ty} {x0 f : Str} {fs : List Str} {p0 p1 : Pos} {e : Expr} {T : Ty} {sts : List Stmt} (c : ClsOk X.K C fs) (he : EI tb X G C Us e T) (hno : noOwn G = true) (hl : SI tb X G C (putT i T Us) sts R) (hf : fs[i]? = some f := by rfl) (hN : N[0]? = some x0 := by rfl) (hv : visB sc x0 = true := by rfl)
    (hd : (x0 == ("__debug__" : Str)) = false := by decide) (hcd : (x0 == ("__classdict__" : Str)) = false := by decide) (hs : swapsWith e (some (.Attribute (.Name x0 p0) f p1)) pos.line X.env = pure false := by rfl) :
    SI tb X G C Us (.Assign [.Attribute (.Name x0 p0) f p1] e pos :: sts) R := fun B σ F H D x dx ws hh b al q => by
  have hv2 : Vis X.env.scope x0 := by rw [h.hsc]; exact visB.of hv
  refine sswp_of (pss_cons (SlX.ps_sl (pe_var (i := 0) (by rw [h.hN]; exact hN) hv2 hd hcd) (pe_wp e) hs) (pss_wp sts)) ?_
  refine he B σ F H _ x dx ws hh b al fun v F1 H1 x1 t => ⟨.ref x, b.sx, ?_⟩
  have b1 := b.up x1
  have hh1 := hh.up x1
  obtain ⟨p, s1⟩ := c.sl _ f hf
  refine ⟨x, C, dx, p, _, _, rfl, b1.hs, c.cl, s1, ?_⟩
  -- the heap behind the store
  have ad : ∀ i, ¬ OwnS G i := fun i => noOwn_not hno
  have tbx : ∀ P ∈ tb, P ≠ x ∧ P ≠ dx := fun P hP => by
    obtain ⟨ps, e, _⟩ := hh.tab P hP
    constructor
    · intro z
      subst z
      rcases b.hs with ⟨h, _⟩ | ⟨h, _⟩ <;> (rw [e] at h; cases h)
    · intro z
      subst z
      obtain ⟨o, ho, hn⟩ := b.od
      rw [e] at ho
      cases ho
      exact hn ps rfl
  have hA := hh1.updAt (D := dx) (o := .xd []) b1.fd b1.bd (fun i a ho => absurd ho (ad i)) (fun P hP => (tbx P hP).2)
  have hB := hA.updAt (D := x) (o := SlX.SlO x C dx (SlX.putS i v ws)) b1.fx b1.bx (fun i a ho => absurd ho (ad i)) (fun P hP => (tbx P hP).1)
  refine hl B σ F1 _ D x dx (SlX.putS i v ws) hB ⟨b.sx, SlX.slH_slt b.ne, b1.fx, b1.fd, b.bx, b.bd, b.ne, .xd [], by show upd (upd H1 dx (.xd [])) x _ dx = _; rw [upd_ne b.ne, upd_same], fun _ z => nomatch z⟩ ((al.up x1.ff).put i t) q
theorem si_ifNo {Us : List (Option Ty)} {R : List Ty} {c : Expr} {b : Bool} {t sts : List Stmt} (hc : EB tb X G c b) (hl : SI tb X G C Us sts R) (hb : b = false := by first | rfl | simp) : SI tb X G C Us (.If c t [] pos :: sts) R := fun B σ F H D x dx ws hh bd al q => by
  subst hb
  refine sswp_of (pss_cons (ps_if (pt_wp c) (pss_wp t) (pss_wp [])) (pss_wp sts)) ?_
  refine hc B σ F H _ hh fun F1 H1 x1 => iteF ?_
  refine sswp_of pss_nil ?_
  exact hl B σ F1 H1 D x dx ws (hh.up x1) (bd.up x1) (al.up x1.ff) q
end
/-- THE RULE for such an __init__ -/
theorem fn_init {P : Program} {w : World} {K : PySem.W.Frag} {mg : Str → Option Value} {base : Heap} {tb : List Addr} {x qual : Str} {st : Stmt} {f C : Addr} {fd : FuncData} {N ps : List Str} {sc : Scope} {k : Nat} {α : Type} {A : α → List Ty} {pre : α → Prop} {R : α → List Ty}
    (F : Fun K x qual st f fd) (S : FnScope N ps sc) (hsc : defScope st = sc) (hA : ∀ a, pre a → (A a).length + 1 = ps.length)
    (hb : ∀ X : Cx, evX X = ⟨P, w, K, mg, base⟩ → CxD X N sc k → (∀ x, X.fn x = true) → ∀ a, pre a → SI tb X ((anyT :: A a).map .v ++ List.replicate (N.length - ((A a).length + 1)) .no) C [] (defBody st) (R a)) :
    FnOk P w K mg base CX0 (k + 1) f fd ps (spI tb C A pre R K) := by
  subst hsc
  refine F.ok S (fun vs H Q E ⟨a, F, H0, x, dx, ws, e, hp, _, _, _, _, _, _, al, _⟩ => by rw [e, List.length_cons, ← al.length]; exact hA a hp) fun cdv A0 outer s H vs Q E hr hsp => ?_
  obtain ⟨a, F0, H0, xa, dx, ws, rfl, hp, fz, hx, hdx, ne, rfl, ht, al, q⟩ := hsp
  refine ⟨sswp _ _, pss_wp _, ?_⟩
  have hpl : ps.length ≤ N.length := by have := congrArg List.length S.pre; rw [List.length_take] at this; omega
  have al' : Al K F0 (anyT :: A a) (.ref xa :: ws) := .cons trivial al
  have h0 := has_start (tb := tb) fz ht al' (n := N.length) (by rw [List.length_cons, hA a hp]; exact hpl) (N := N) rfl
  have x1 : Ext F0 H0 F0 (upd H0 dx (.own xa)) := Ext.own fz hdx
  have hx' : (upd H0 dx (.own xa)) xa = none := by rw [upd_ne ne.symm]; exact hx
  have x2 : Ext F0 (upd H0 dx (.own xa)) F0 (upd (upd H0 dx (.own xa)) xa (.ins C dx [])) := Ext.own x1.fz hx'
  have hh := (h0.up x1).up x2
  have hs0 : (L2.start N (.ref xa :: ws))[0]? = some (some (.ref xa)) := by unfold L2.start; simp
  refine hb _ rfl ⟨rfl, S.nd, rfl, S.kind, rfl, hr, fun _ _ z => z⟩ (fun _ => rfl) a hp ⟨F0, H0⟩ (L2.start N (.ref xa :: ws)) F0 _ _ xa dx [] hh ⟨hs0, .inl ⟨upd_same, rfl⟩, fz.none hx, fz.none hdx, hx, hdx, ne, .own xa, by rw [upd_ne ne, upd_same], fun _ z => nomatch z⟩ .nil fun F' H' xx t => q F' H' xx t
end JL

set_option Elab.async false
set_option linter.all false
set_option maxRecDepth 100000
set_option maxHeartbeats 4000000
set_option autoImplicit false
/-! Fractions over a common bottom: how large they are. -/
namespace JL
theorem divInt_mul (a : Int) {b : Int} (hb : b ≠ 0) : Rat.divInt a b * (b : Rat) = (a : Rat) := by
  rw [Rat.divInt_eq_div]
  have : (b : Rat) ≠ 0 := fun z => hb (by exact_mod_cast z)
  grind
theorem rat_num (q : Rat) : q * (q.den : Rat) = (q.num : Rat) := by
  have := divInt_mul q.num (b := (q.den : Int)) (by have := q.den_nz; omega)
  rwa [Rat.num_divInt_den, Rat.intCast_natCast] at this
/-- q is z / D with |z| at most M -/
def Dn (D M : Nat) (q : Rat) : Prop := 0 < D ∧ ∃ z : Int, q * (D : Rat) = (z : Rat) ∧ z.natAbs ≤ M
theorem Dn.cross {D M : Nat} {q : Rat} (h : Dn D M q) : ∃ z : Int, q.num * (D : Int) = z * (q.den : Int) ∧ z.natAbs ≤ M := by
  obtain ⟨h0, z, e, hz⟩ := h
  refine ⟨z, ?_, hz⟩
  have e1 := rat_num q
  have : ((q.num * (D : Int) : Int) : Rat) = ((z * (q.den : Int) : Int) : Rat) := by
    rw [Rat.intCast_mul, Rat.intCast_mul, Rat.intCast_natCast, Rat.intCast_natCast, ← e1, ← e]
    grind
  exact Rat.intCast_inj.mp this
theorem Dn.bounds {D M : Nat} {q : Rat} (h : Dn D M q) : q.den ≤ D ∧ q.num.natAbs ≤ M := by
  have h0 := h.1
  obtain ⟨z, e, hz⟩ := h.cross
  have hd : q.den ∣ D := by
    have h1 : (q.den : Nat) ∣ q.num.natAbs * D := by
      have := congrArg Int.natAbs e
      rw [Int.natAbs_mul, Int.natAbs_mul, Int.natAbs_natCast, Int.natAbs_natCast] at this
      rw [this]
      exact Nat.dvd_mul_left _ _
    exact (Nat.Coprime.dvd_of_dvd_mul_left (Nat.Coprime.symm q.reduced) h1)
  have hle : q.den ≤ D := Nat.le_of_dvd h0 hd
  refine ⟨hle, ?_⟩
  have e2 := congrArg Int.natAbs e
  rw [Int.natAbs_mul, Int.natAbs_mul, Int.natAbs_natCast, Int.natAbs_natCast] at e2
  have : q.num.natAbs * D ≤ M * D := by
    rw [e2]
    exact Nat.mul_le_mul hz hle
  exact Nat.le_of_mul_le_mul_right this h0
theorem Dn.bd {D M b : Nat} {q : Rat} (h : Dn D M q) (hD : D < 2 ^ b) (hM : M < 2 ^ b) : Bd b q := ⟨Nat.lt_of_le_of_lt h.bounds.2 hM, Nat.lt_of_le_of_lt h.bounds.1 hD⟩
theorem Dn.mono {D M M' : Nat} {q : Rat} (h : Dn D M q) (hM : M ≤ M') : Dn D M' q := ⟨h.1, let ⟨z, e, hz⟩ := h.2; ⟨z, e, Nat.le_trans hz hM⟩⟩
theorem Dn.add {D M M' : Nat} {q r : Rat} (h : Dn D M q) (h2 : Dn D M' r) : Dn D (M + M') (q + r) := by
  obtain ⟨h0, z, e, hz⟩ := h
  obtain ⟨_, z', e', hz'⟩ := h2
  refine ⟨h0, z + z', ?_, by omega⟩
  rw [Rat.intCast_add, ← e, ← e']
  grind
theorem Dn.neg {D M : Nat} {q : Rat} (h : Dn D M q) : Dn D M (-q) := by
  obtain ⟨h0, z, e, hz⟩ := h
  refine ⟨h0, -z, ?_, by omega⟩
  rw [Rat.intCast_neg, ← e]
  grind
theorem Dn.sub {D M M' : Nat} {q r : Rat} (h : Dn D M q) (h2 : Dn D M' r) : Dn D (M + M') (q - r) := by
  rw [Rat.sub_eq_add_neg]
  exact h.add h2.neg
theorem Dn.mul {D M D' M' : Nat} {q r : Rat} (h : Dn D M q) (h2 : Dn D' M' r) : Dn (D * D') (M * M') (q * r) := by
  obtain ⟨h0, z, e, hz⟩ := h
  obtain ⟨h0', z', e', hz'⟩ := h2
  refine ⟨Nat.mul_pos h0 h0', z * z', ?_, by rw [Int.natAbs_mul]; exact Nat.mul_le_mul hz hz'⟩
  rw [Rat.intCast_mul, Rat.natCast_mul, ← e, ← e']
  grind
theorem Dn.scale {D M : Nat} {q : Rat} (h : Dn D M q) (k : Nat) (hk : 0 < k) : Dn (D * k) (M * k) q := by
  obtain ⟨h0, z, e, hz⟩ := h
  refine ⟨Nat.mul_pos h0 hk, z * (k : Int), ?_, by rw [Int.natAbs_mul, Int.natAbs_natCast]; exact Nat.mul_le_mul hz (Nat.le_refl _)⟩
  rw [Rat.intCast_mul, Rat.natCast_mul, Rat.intCast_natCast, ← e]
  grind
theorem dn_int (i : Int) : Dn 1 i.natAbs (i : Rat) := ⟨Nat.one_pos, i, by simp, Nat.le_refl _⟩
theorem dn_zero {D : Nat} (h : 0 < D) : Dn D 0 0 := ⟨h, 0, by simp, Nat.le_refl _⟩
theorem dn_one {D : Nat} (h : 0 < D) : Dn D D 1 := ⟨h, D, by rw [Rat.intCast_natCast]; grind, by simp⟩
theorem dn_div {a : Int} {b : Nat} (hb : 0 < b) : Dn b a.natAbs (Rat.divInt a (b : Int)) := by
  refine ⟨hb, a, ?_, Nat.le_refl _⟩
  have := divInt_mul a (b := (b : Int)) (by omega)
  rwa [Rat.intCast_natCast] at this
/-- lists of such are added up -/
theorem Dn.fit {D M D' M' a b : Nat} {q r : Rat} (h : Dn D M q) (h2 : Dn D' M' r) (hD : D < 2 ^ a) (hM : M < 2 ^ a) (hD' : D' < 2 ^ b) (hM' : M' < 2 ^ b) (hab : a + b ≤ 8990) : Fit q r := Fit.mk (h.bd hD hM) (h2.bd hD' hM') hab
end JL

set_option Elab.async false
set_option linter.all false
set_option maxRecDepth 100000
set_option maxHeartbeats 4000000
set_option autoImplicit false
/-! What the program speaks of, plainly. -/
namespace JL
open PySem PySem.Spec PyProof.Rows L2
/-- a counter and its neighbour -/
structure Cf where
  room : Nat
  t0 : Nat
  t1 : Nat
  cost : Nat
  kinds : List (Nat × Nat)
  nr : Nat
  ns : Nat
structure Cf.Ok (c : Cf) : Prop where
  r1 : 1 ≤ c.room
  r2 : c.room ≤ 2
  n1 : 1 ≤ c.nr
  n3 : c.nr ≤ 3
  sz : (c.room + 1) * (c.nr + 1) ≤ 9
  a1 : 1 ≤ c.t0
  a9 : c.t0 ≤ 9
  b1 : 1 ≤ c.t1
  b10 : c.t1 ≤ 10
  c1 : 1 ≤ c.cost
  c4 : c.cost ≤ 4
  k1 : 1 ≤ c.kinds.length
  k3 : c.kinds.length ≤ 3
  kp : ∀ k ∈ c.kinds, 1 ≤ k.1 ∧ k.1 ≤ 6 ∧ k.2 ≤ 39
  s1 : 1 ≤ c.ns
  s10 : c.ns ≤ 10
abbrev kindT (k : Nat × Nat) : Ty := tupT [intT (k.1 : Int), intT (k.2 : Int)]
abbrev Cf.parts_ (c : Cf) : List Ty := [intT (c.room : Int), tupT [intT (c.t0 : Int), intT (c.t1 : Int)], intT (c.cost : Int), tupT (c.kinds.map kindT)]
abbrev Cf.slots_ (c : Cf) : List Ty := [intT (c.room : Int), intT (c.cost : Int), tupT [intT (c.t0 : Int), intT (c.t1 : Int)], tupT (c.kinds.map kindT)]
abbrev cT (C : Addr) (c : Cf) : Ty := objT C c.slots_
abbrev plainT (c : Cf) : Ty := tupT c.parts_
abbrev nbT (c : Cf) : Ty := tupT [intT (c.nr : Int), intT (c.ns : Int)]
def Cf.served (c : Cf) : Rat := Rat.divInt (c.t1 : Int) 10
def Cf.servedN (c : Cf) : Rat := Rat.divInt (c.ns : Int) 10
def Cf.partsI (c : Cf) : Int := (c.kinds.map fun k => (k.1 : Int)).sum
def Cf.chance (c : Cf) (k : Nat × Nat) : Rat := Rat.divInt ((c.t0 : Int) * (k.1 : Int)) (10 * c.partsI)
def Cf.chances (c : Cf) : List Rat := c.kinds.map c.chance
def Cf.nobody (c : Cf) : Rat := 1 - Rat.divInt (c.t0 : Int) 10
def Cf.nk (c : Cf) : Nat := c.kinds.length
/-- a spot: how many stand here, how many there -/
abbrev Spot := Nat × Nat
def Cf.spots (c : Cf) : List Spot := (List.range (c.room + 1)).flatMap fun h => (List.range (c.nr + 1)).map fun t => (h, t)
def line (s : Rat) (len : Nat) : List (Nat × Rat) := if len = 0 then [(0, 1)] else [(len - 1, s), (len, 1 - s)]
def Cf.seen (c : Cf) (p : Spot) : List (Spot × Rat) := (line c.served p.1).flatMap fun a => (line c.servedN p.2).map fun b => ((a.1, b.1), a.2 * b.2)
def Cf.paid (c : Cf) (p : Spot) : Rat := (((c.cost * (p.1 + p.2) : Nat) : Int) : Rat)
def Cf.able (c : Cf) (p : Spot) : List Nat := [0] ++ (if p.1 < c.room then [1] else []) ++ (if p.2 < c.nr then [2] else [])
def joined (p : Spot) (ch : Nat) : Spot := (p.1 + (if ch = 1 then 1 else 0), p.2 + (if ch = 2 then 1 else 0))
def Cf.gain (c : Cf) (k : Nat) : Nat := (c.kinds.getD k (0, 0)).2
/-- what one of the kind k gains in a line of that length -/
def Cf.ownG (c : Cf) (k len t : Nat) : Rat := ((c.gain k : Int) : Rat) - Rat.divInt (10 * (c.cost : Int) * ((len : Int) + 1)) (t : Int)
theorem fracT_int (i : Int) : fracT (i : Rat) = tupT [intT i, intT 1] := by unfold fracT; rfl
theorem Cf.parts_pos {c : Cf} (h : c.Ok) : 1 ≤ c.partsI ∧ c.partsI ≤ 18 := by
  have h1 := h.k1
  have h3 := h.k3
  have hp := h.kp
  unfold Cf.partsI
  match e : c.kinds with
  | [] => rw [e] at h1; simp at h1
  | [a] =>
    rw [e] at hp
    have := hp a (by simp)
    simp; omega
  | [a, b] =>
    rw [e] at hp
    have := hp a (by simp)
    have := hp b (by simp)
    simp; omega
  | [a, b, d] =>
    rw [e] at hp
    have := hp a (by simp)
    have := hp b (by simp)
    have := hp d (by simp)
    simp; omega
  | a :: b :: d :: f :: l => rw [e] at h3; simp at h3
theorem Cf.gain_le {c : Cf} (h : c.Ok) (k : Nat) : c.gain k ≤ 39 := by
  unfold Cf.gain
  by_cases hk : k < c.kinds.length
  · rw [List.getD_eq_getElem?_getD, List.getElem?_eq_getElem hk]
    exact (h.kp _ (List.getElem_mem hk)).2.2
  · rw [List.getD_eq_getElem?_getD, List.getElem?_eq_none (by omega)]
    exact Nat.zero_le _
/-! ### how large they are -/
theorem dn_div' {a b : Int} {B M : Nat} (h1 : b = (B : Int)) (h0 : 0 < B) (hM : a.natAbs ≤ M) : Dn B M (Rat.divInt a b) := by
  subst h1
  exact (dn_div h0).mono hM
theorem Cf.dn_served {c : Cf} (h : c.Ok) : Dn 10 10 c.served := dn_div' rfl (by decide) (by have := h.b10; omega)
theorem Cf.dn_servedN {c : Cf} (h : c.Ok) : Dn 10 10 c.servedN := dn_div' rfl (by decide) (by have := h.s10; omega)
theorem Cf.served_pos {c : Cf} (h : c.Ok) : c.served ≠ 0 := by
  intro z
  have := divInt_mul (c.t1 : Int) (b := 10) (by decide)
  unfold Cf.served at z
  rw [z, Rat.zero_mul] at this
  have h1 := h.b1
  have : (0 : Int) = (c.t1 : Int) := by exact_mod_cast this
  omega
theorem Cf.servedN_pos {c : Cf} (h : c.Ok) : c.servedN ≠ 0 := by
  intro z
  have := divInt_mul (c.ns : Int) (b := 10) (by decide)
  unfold Cf.servedN at z
  rw [z, Rat.zero_mul] at this
  have h1 := h.s1
  have : (0 : Int) = (c.ns : Int) := by exact_mod_cast this
  omega
theorem Cf.dn_nobody {c : Cf} (h : c.Ok) : Dn 10 19 c.nobody := (dn_one (by decide)).sub (dn_div' (M := 9) rfl (by decide) (by have := h.a9; omega))
theorem Cf.dn_paid {c : Cf} (h : c.Ok) {p : Spot} (h1 : p.1 ≤ 3) (h2 : p.2 ≤ 4) : Dn 1 28 (c.paid p) := by
  refine (dn_int _).mono ?_
  have := h.c4
  rw [Int.natAbs_natCast]
  calc c.cost * (p.1 + p.2) ≤ 4 * 7 := Nat.mul_le_mul this (by omega)
    _ = 28 := rfl
/-- prices of times: two ways to tell them -/
theorem wait_eq (c : Cf) (len t : Nat) (ht : t ≠ 0) : ((c.cost : Int) : Rat) * (((len : Int) + 1 : Int) : Rat) / Rat.divInt (t : Int) 10 = Rat.divInt (10 * (c.cost : Int) * ((len : Int) + 1)) (t : Int) := by
  have e1 := divInt_mul (t : Int) (b := 10) (by decide)
  have e2 := divInt_mul (10 * (c.cost : Int) * ((len : Int) + 1)) (b := (t : Int)) (by omega)
  have ht' : ((t : Int) : Rat) ≠ 0 := by intro z; have : (t : Int) = 0 := by exact_mod_cast z
                                         omega
  have e3 : ((10 * (c.cost : Int) * ((len : Int) + 1) : Int) : Rat) = 10 * ((c.cost : Int) : Rat) * (((len : Int) + 1 : Int) : Rat) := by rw [Rat.intCast_mul, Rat.intCast_mul]; rfl
  rw [e3] at e2
  have e4 : ((10 : Int) : Rat) = 10 := rfl
  rw [e4] at e1
  generalize Rat.divInt (t : Int) 10 = a at *
  generalize Rat.divInt (10 * (c.cost : Int) * ((len : Int) + 1)) (t : Int) = b at *
  generalize ((t : Int) : Rat) = x at *
  generalize ((c.cost : Int) : Rat) = y at *
  generalize (((len : Int) + 1 : Int) : Rat) = z at *
  have ha : a ≠ 0 := fun q => ht' (by rw [← e1, q]; grind)
  grind
end JL

set_option Elab.async false
set_option linter.all false
set_option maxRecDepth 100000
set_option maxHeartbeats 4000000
set_option autoImplicit false
/-! Potentials, moves, the best choices: plainly, and how large they are. -/
namespace JL
/-- a large number -/
def BB : Nat := 2 ^ 4360
theorem BB_pos : 0 < BB := Nat.two_pow_pos _
theorem BB_lt {n : Nat} (j : Nat) (h : n < 2 ^ j) {m : Nat} (hm : m ≤ n * BB) : m < 2 ^ (4360 + j) := by
  refine Nat.lt_of_le_of_lt hm ?_
  have e : 2 ^ (4360 + j) = 2 ^ j * BB := by unfold BB; rw [Nat.pow_add, Nat.mul_comm]
  rw [e]
  exact Nat.mul_lt_mul_of_pos_right h BB_pos
theorem Dn.bdB {D M n m : Nat} {q : Rat} (h : Dn D M q) (j : Nat) (hD : D ≤ n * BB) (hM : M ≤ m * BB) (hn : n < 2 ^ j) (hm : m < 2 ^ j) : Bd (4360 + j) q := h.bd (BB_lt j hn hD) (BB_lt j hm hM)
def Cf.has (c : Cf) (p : Spot) : Prop := p.1 ≤ c.room ∧ p.2 ≤ c.nr
/-- potentials that may be reckoned with -/
structure PB (c : Cf) (h : Spot → Rat) (d : Nat) : Prop where
  dB : d ≤ BB
  h : ∀ p, c.has p → Dn d (4 * BB) (h p)
def Cf.moveG (c : Cf) (h : Spot → Rat) (p : Spot) (k ch : Nat) : Rat := (if ch ≠ 0 then ((c.gain k : Int) : Rat) else 0) + (h (joined p ch) - c.paid (joined p ch))
def Cf.bestC (c : Cf) (h : Spot → Rat) (p : Spot) (k : Nat) : Nat := (c.able p).foldl (fun b ch => if c.moveG h p k b < c.moveG h p k ch then ch else b) 0
def Cf.afterG (c : Cf) (h : Spot → Rat) (p : Spot) : Rat := c.chances.zipIdx.foldl (fun acc a => acc + a.1 * c.moveG h p a.2 (c.bestC h p a.2)) (c.nobody * (h p - c.paid p))
theorem able_has {c : Cf} {p : Spot} (hp : c.has p) {ch : Nat} (h : ch ∈ c.able p) : c.has (joined p ch) := by
  obtain ⟨a, b⟩ := p
  unfold Cf.has at *
  unfold Cf.able at h
  unfold joined
  simp only [List.mem_append, List.mem_singleton] at h
  have e : ch = 0 ∨ (ch = 1 ∧ a < c.room) ∨ (ch = 2 ∧ b < c.nr) := by
    rcases h with (h | h) | h
    · exact .inl h
    · split at h
      · exact .inr (.inl ⟨by simpa using h, by assumption⟩)
      · cases h
    · split at h
      · exact .inr (.inr ⟨by simpa using h, by assumption⟩)
      · cases h
  rcases e with rfl | ⟨rfl, h1⟩ | ⟨rfl, h1⟩
  · simpa using hp
  · simp at *; omega
  · simp at *; omega
theorem joined0 (p : Spot) : joined p 0 = p := by unfold joined; simp
theorem able_zero (c : Cf) (p : Spot) : 0 ∈ c.able p := by unfold Cf.able; simp
theorem bestC_able {c : Cf} (h : Spot → Rat) (p : Spot) (k : Nat) : c.bestC h p k ∈ c.able p := by
  unfold Cf.bestC
  have key : ∀ (l : List Nat) (b : Nat), b ∈ c.able p → (∀ x ∈ l, x ∈ c.able p) → l.foldl (fun b ch => if c.moveG h p k b < c.moveG h p k ch then ch else b) b ∈ c.able p := by
    intro l
    induction l with
    | nil => intro b hb _; exact hb
    | cons a l ih =>
      intro b hb hl
      rw [List.foldl_cons]
      refine ih _ ?_ fun x hx => hl x (by simp [hx])
      split
      · exact hl a (by simp)
      · exact hb
  exact key _ _ (able_zero c p) fun _ hx => hx
theorem has_small {c : Cf} (hc : c.Ok) {p : Spot} (hp : c.has p) : p.1 ≤ 3 ∧ p.2 ≤ 4 := by
  have := hc.r2; have := hc.n3; have := hp.1; have := hp.2
  omega
theorem dn_away {c : Cf} (hc : c.Ok) {h : Spot → Rat} {d : Nat} (b : PB c h d) {p : Spot} (hp : c.has p) : Dn d (32 * BB) (h p - c.paid p) := by
  obtain ⟨h1, h2⟩ := has_small hc hp
  have a1 := b.h p hp
  have a2 := (Cf.dn_paid hc h1 h2).scale d a1.1
  rw [Nat.one_mul] at a2
  have hd := b.dB
  exact (a1.sub a2).mono (by omega)
theorem dn_moveG {c : Cf} (hc : c.Ok) {h : Spot → Rat} {d : Nat} (b : PB c h d) {p : Spot} {k ch : Nat} (hp : c.has (joined p ch)) : Dn d (71 * BB) (c.moveG h p k ch) := by
  have a1 := dn_away hc b hp
  have hd := b.dB
  have a2 : Dn d (39 * d) (if ch ≠ 0 then ((c.gain k : Int) : Rat) else 0) := by
    split
    · have := ((dn_int (c.gain k : Int)).mono (M' := 39) (by rw [Int.natAbs_natCast]; exact Cf.gain_le hc k)).scale d a1.1
      rwa [Nat.one_mul] at this
    · exact (dn_zero a1.1).mono (Nat.zero_le _)
  exact (a2.add a1).mono (by omega)
def Cf.partsN (c : Cf) : Nat := c.partsI.toNat
theorem Cf.partsN_eq {c : Cf} (hc : c.Ok) : (c.partsN : Int) = c.partsI ∧ 1 ≤ c.partsN ∧ c.partsN ≤ 18 := by
  have := Cf.parts_pos hc
  unfold Cf.partsN
  omega
theorem Cf.dn_chance {c : Cf} (hc : c.Ok) {q : Nat × Nat} (hq : q ∈ c.kinds) : Dn (10 * c.partsN) 54 (c.chance q) := by
  obtain ⟨h1, h2, h3⟩ := Cf.partsN_eq hc
  refine dn_div' (by rw [Int.natCast_mul, h1]; rfl) (by omega) ?_
  rw [Int.natAbs_mul, Int.natAbs_natCast, Int.natAbs_natCast]
  exact Nat.mul_le_mul hc.a9 (hc.kp q hq).2.1
theorem Cf.dn_chances {c : Cf} (hc : c.Ok) {a : Rat} (ha : a ∈ c.chances) : Dn (10 * c.partsN) 54 a := by
  obtain ⟨q, hq, rfl⟩ := List.mem_map.mp ha
  exact Cf.dn_chance hc hq
theorem Cf.chances_len {c : Cf} : c.chances.length = c.nk := by unfold Cf.chances Cf.nk; rw [List.length_map]
/-- the partial sums of afterG -/
theorem dn_after {c : Cf} (hc : c.Ok) {h : Spot → Rat} {d : Nat} (b : PB c h d) {p : Spot} (hp : c.has p) (l : List (Rat × Nat)) (hl : ∀ a ∈ l, a.1 ∈ c.chances) (hn : l.length ≤ 3) :
    Dn (10 * c.partsN * d) (22446 * BB) (l.foldl (fun acc a => acc + a.1 * c.moveG h p a.2 (c.bestC h p a.2)) (c.nobody * (h p - c.paid p))) := by
  obtain ⟨p1, p2, p3⟩ := Cf.partsN_eq hc
  have key : ∀ (l : List (Rat × Nat)) (m : Nat) (acc : Rat), (∀ a ∈ l, a.1 ∈ c.chances) → Dn (10 * c.partsN * d) (m * BB) acc → Dn (10 * c.partsN * d) ((m + 3834 * l.length) * BB) (l.foldl (fun acc a => acc + a.1 * c.moveG h p a.2 (c.bestC h p a.2)) acc) := by
    intro l
    induction l with
    | nil => intro m acc _ ha; simpa using ha
    | cons a l ih =>
      intro m acc hl ha
      rw [List.foldl_cons]
      have t : Dn (10 * c.partsN * d) (54 * (71 * BB)) (a.1 * c.moveG h p a.2 (c.bestC h p a.2)) := (Cf.dn_chances hc (hl a (by simp))).mul (dn_moveG hc b (able_has hp (bestC_able h p a.2)))
      have := ih (m + 3834) _ (fun x hx => hl x (by simp [hx])) ((ha.add t).mono (M' := (m + 3834) * BB) (by rw [Nat.add_mul]; omega))
      rw [List.length_cons]
      exact this.mono (Nat.mul_le_mul (by omega) (Nat.le_refl _))
  have d1 := dn_away hc b hp
  have start : Dn (10 * c.partsN * d) (10944 * BB) (c.nobody * (h p - c.paid p)) := by
    have := ((Cf.dn_nobody hc).scale c.partsN (by omega)).mul d1
    refine this.mono ?_
    calc 19 * c.partsN * (32 * BB) ≤ (19 * 18) * (32 * BB) := Nat.mul_le_mul (by omega) (Nat.le_refl _)
      _ = 10944 * BB := by omega
  exact (key l 10944 _ hl start).mono (Nat.mul_le_mul (by omega) (Nat.le_refl _))
theorem afterD {c : Cf} (hc : c.Ok) {h : Spot → Rat} {d : Nat} (b : PB c h d) : 10 * c.partsN * d ≤ 180 * BB := by
  obtain ⟨p1, p2, p3⟩ := Cf.partsN_eq hc
  exact Nat.mul_le_mul (by omega) b.dB
end JL

set_option Elab.async false
set_option linter.all false
set_option maxRecDepth 100000
set_option maxHeartbeats 4000000
set_option autoImplicit false
/-! The small functions of the program. -/
namespace JL
open PySem PySem.Spec PyProof.Rows L2
def inClass (st : Stmt) (i : Nat) : Stmt := match st with
  | .ClassDef _ _ _ b .. => b.getD i (.Pass ⟨0, 0, 0, 0⟩)
  | _ => .Pass ⟨0, 0, 0, 0⟩
/-- what the top leaves, the class of counters -/
structure Px (ev : Ev) (C : Addr) : Prop where
  T : Tx ev
  gC : GT ev.K ev.mg "Counter" (refT C)
  cl : ClsOk ev.K C ["most", "price", "rates", "rows"]
  ci : SlX.SIsi ev.K C
  ib : PySem.W.kitOne ev.K (.type "int") (.type "bool") = some false
section
variable {tb : List Addr} {X : Cx} {G : List Slt} {N : List Str} {sc : Scope} {k : Nat} {pos : Pos}
section
variable {x : Str} {j : Nat} {α : Type} {A : α → List Ty} {pre : α → Prop} {R : α → Ty}
theorem e_c1 (h : CxD X N sc k) (D : DefOk (evX X) tb x j A pre R) (a : α) {p : Pos} {e1 : Expr} {T1 : Ty} (h1 : E tb X G e1 T1) (hp : pre a) (hT : [T1] = A a := by rfl) (hj : j ≤ k := by omega) (hg : sc.names.lookup x = some .globalImplicit := by rfl) (hdb : (x == ("__debug__" : Str)) = false := by decide)
    (n1 : NoStar e1 := by intro _ _; rfl) (hpl : (backTo pos (starEach ([] : List Expr) X.env)).any (·.1) = false := by rfl) : E tb X G (.Call (.Name x p) [e1] [] pos) (R a) := e_call h D a (ea_cons h1 ea_nil n1) hp hT hj hg hdb n1 hpl
theorem e_c2 (h : CxD X N sc k) (D : DefOk (evX X) tb x j A pre R) (a : α) {p : Pos} {e1 e2 : Expr} {T1 T2 : Ty} (h1 : E tb X G e1 T1) (h2 : E tb X G e2 T2) (hp : pre a) (hT : [T1, T2] = A a := by rfl) (hj : j ≤ k := by omega) (hg : sc.names.lookup x = some .globalImplicit := by rfl) (hdb : (x == ("__debug__" : Str)) = false := by decide)
    (n1 : NoStar e1 := by intro _ _; rfl) (n2 : NoStar e2 := by intro _ _; rfl) (hpl : (backTo pos (starEach [e2] X.env)).any (·.1) = false := by rfl) : E tb X G (.Call (.Name x p) [e1, e2] [] pos) (R a) := e_call h D a (ea_cons h1 (ea_cons h2 ea_nil n2) n1) hp hT hj hg hdb n1 hpl
theorem e_c3 (h : CxD X N sc k) (D : DefOk (evX X) tb x j A pre R) (a : α) {p : Pos} {e1 e2 e3 : Expr} {T1 T2 T3 : Ty} (h1 : E tb X G e1 T1) (h2 : E tb X G e2 T2) (h3 : E tb X G e3 T3) (hp : pre a) (hT : [T1, T2, T3] = A a := by rfl) (hj : j ≤ k := by omega) (hg : sc.names.lookup x = some .globalImplicit := by rfl) (hdb : (x == ("__debug__" : Str)) = false := by decide)
    (n1 : NoStar e1 := by intro _ _; rfl) (n2 : NoStar e2 := by intro _ _; rfl) (n3 : NoStar e3 := by intro _ _; rfl) (hpl : (backTo pos (starEach [e2, e3] X.env)).any (·.1) = false := by rfl) : E tb X G (.Call (.Name x p) [e1, e2, e3] [] pos) (R a) := e_call h D a (ea_cons h1 (ea_cons h2 (ea_cons h3 ea_nil n3) n2) n1) hp hT hj hg hdb n1 hpl
theorem e_c4 (h : CxD X N sc k) (D : DefOk (evX X) tb x j A pre R) (a : α) {p : Pos} {e1 e2 e3 e4 : Expr} {T1 T2 T3 T4 : Ty} (h1 : E tb X G e1 T1) (h2 : E tb X G e2 T2) (h3 : E tb X G e3 T3) (h4 : E tb X G e4 T4) (hp : pre a) (hT : [T1, T2, T3, T4] = A a := by rfl) (hj : j ≤ k := by omega) (hg : sc.names.lookup x = some .globalImplicit := by rfl) (hdb : (x == ("__debug__" : Str)) = false := by decide)
    (n1 : NoStar e1 := by intro _ _; rfl) (n2 : NoStar e2 := by intro _ _; rfl) (n3 : NoStar e3 := by intro _ _; rfl) (n4 : NoStar e4 := by intro _ _; rfl) (hpl : (backTo pos (starEach [e2, e3, e4] X.env)).any (·.1) = false := by rfl) : E tb X G (.Call (.Name x p) [e1, e2, e3, e4] [] pos) (R a) := e_call h D a (ea_cons h1 (ea_cons h2 (ea_cons h3 (ea_cons h4 ea_nil n4) n3) n2) n1) hp hT hj hg hdb n1 hpl
end
section
variable {kn : Kn} {sts : List Stmt}
theorem ss_ifNo {c : Expr} {b : Bool} {t : List Stmt} (hc : EB tb X G c b) (h : SS tb X G sts kn) (hb : b = false := by first | rfl | simp) : SS tb X G (.If c t [] pos :: sts) kn := ss_cons (s_ifNo (hb ▸ hc) h)
theorem ss_if {c : Expr} {b : Bool} {t : List Stmt} (hc : EB tb X G c b) (ht : b = true → SS tb X G t { kn with nx := fun G' => SS tb X G' sts kn }) (he : b = false → SS tb X G sts kn) : SS tb X G (.If c t [] pos :: sts) kn := ss_cons (s_if hc ht fun e => ss_nil (he e))
end
/-! ### is_integer, is_kind -/
abbrev sc26 : Scope := defScope (topS 26)
abbrev nm26 : List Str := ["value", "low", "high"]
theorem fs26 : FnScope nm26 ["value", "low", "high"] sc26 := ⟨rfl, rfl, rfl, by decide +kernel, rfl, by decide +kernel, by decide +kernel⟩
def inR (v l u : Int) : Bool := decide (l ≤ v) && decide (v ≤ u)
abbrev Ok_is_integer (ev : Ev) (tb : List Addr) : Prop := DefOk ev tb "is_integer" 1 (fun p : Int × Int × Int => [intT p.1, intT p.2.1, intT p.2.2]) (fun _ => True) (fun p => boolT (inR p.1 p.2.1 p.2.2))
variable {C : Addr}
theorem b26 (h : CxD X nm26 sc26 k) (P : Px (evX X) C) (v l u : Int) : SS tb X [.v (intT v), .v (intT l), .v (intT u)] (defBody (topS 26)) (Gv (boolT (inR v l u))) := by
  refine (ss_one (s_ret (e_and (c := true) (e_isi h (e_var h 0) typed_int (e_bltn (S := "int") h P.T.int) (if_pos (by decide)) P.T.isinstance) (fun hc => (e_and (c := true) (e_notB (c := false) (e_isi h (e_var h 0) typed_int (e_bltn (S := "bool") h P.T.bool) P.ib P.T.isinstance)) (fun hc => (e_one (e_chain op_le op_le (e_var h 1) (e_var h 0) (e_var h 2) rfl)))))) ?_))
  exact Sub.of_eq rfl
theorem e_isInt (h : CxD X N sc k) (D : Ok_is_integer (evX X) tb) {p : Pos} {e1 e2 e3 : Expr} {v l u : Int} (h1 : E tb X G e1 (intT v)) (h2 : E tb X G e2 (intT l)) (h3 : E tb X G e3 (intT u)) (hj : 1 ≤ k := by omega) (hg : sc.names.lookup ("is_integer" : Str) = some .globalImplicit := by rfl)
    (n1 : NoStar e1 := by intro _ _; rfl) (n2 : NoStar e2 := by intro _ _; rfl) (n3 : NoStar e3 := by intro _ _; rfl) (hpl : (backTo pos (starEach [e2, e3] X.env)).any (·.1) = false := by rfl) : E tb X G (.Call (.Name "is_integer" p) [e1, e2, e3] [] pos) (boolT (inR v l u)) :=
  e_c3 h D (v, l, u) h1 h2 h3 trivial rfl hj hg (by decide) n1 n2 n3 hpl
abbrev sc27 : Scope := defScope (topS 27)
abbrev nm27 : List Str := ["value"]
theorem fs27 : FnScope nm27 ["value"] sc27 := ⟨rfl, rfl, rfl, by decide +kernel, rfl, by decide +kernel, by decide +kernel⟩
abbrev Ok_is_kind (ev : Ev) (tb : List Addr) : Prop := DefOk ev tb "is_kind" 2 (fun p : Nat × Nat => [kindT p]) (fun p => 1 ≤ p.1 ∧ p.1 ≤ 6 ∧ p.2 ≤ 39) (fun p => boolT true)
theorem b27 (h : CxD X nm27 sc27 k) (hk : 1 ≤ k) (P : Px (evX X) C) (D : Ok_is_integer (evX X) tb) (p : Nat × Nat) (hp : 1 ≤ p.1 ∧ p.1 ≤ 6 ∧ p.2 ≤ 39) : SS tb X [.v (kindT p)] (defBody (topS 27)) (Gv (boolT true)) := by
  refine (ss_ifNo (EW.eb (ew_or (eb_not (eb_val (e_isi h (e_var h 0) typed_tup (e_bltn (S := "tuple") h P.T.tuple) (if_pos (by decide)) P.T.isinstance))) (fun hc => (ew_or1 (eb_neI (e_len h (e_var h 0) (.tup _) P.T.len) e_int)))))
   (ss_one (s_ret (e_and (e_isInt h D (e_ixT (e_var h 0) e_int rfl) e_int (e_glob h P.T.gMAX_PART)) (fun hc => (e_one (e_isInt h D (e_ixT (e_var h 0) e_int rfl) e_int (e_glob h P.T.gMAX_GAIN))))) ?_)))
  refine Sub.of_eq (congrArg boolT ?_)
  unfold inR
  simp
  omega
end
end JL

set_option Elab.async false
set_option linter.all false
set_option maxRecDepth 100000
set_option maxHeartbeats 4000000
set_option autoImplicit false
/-! Counters' methods; times, gains, spots. -/
namespace JL
open PySem PySem.Spec PyProof.Rows L2
theorem low_small {a b : Int} (hb : b ≠ 0) (ha : a.natAbs < 2 ^ 64) (hb2 : b.natAbs < 2 ^ 64) : preLow (a, b) := ⟨hb, nat_lt_pow hb2 (by decide), nat_lt_pow ha (by decide)⟩
theorem mul_small {a b : Int} (ha : a.natAbs < 2 ^ 64) (hb : b.natAbs < 2 ^ 64) : CMulW a b := mulW_of ha hb (by decide)
section
variable {tb : List Addr} {X : Cx} {G : List Slt} {N : List Str} {sc : Scope} {k : Nat} {pos : Pos} {C : Addr}
abbrev sc28_6 : Scope := defScope (inClass (topS 28) 6)
abbrev nm28_6 : List Str := ["self"]
theorem fs28_6 : FnScope nm28_6 ["self"] sc28_6 := ⟨rfl, rfl, rfl, by decide +kernel, rfl, by decide +kernel, by decide +kernel⟩
abbrev sc28_9 : Scope := defScope (inClass (topS 28) 9)
theorem fs28_9 : FnScope nm28_6 ["self"] sc28_9 := ⟨rfl, rfl, rfl, by decide +kernel, rfl, by decide +kernel, by decide +kernel⟩
abbrev sc28_10 : Scope := defScope (inClass (topS 28) 10)
abbrev nm28_10 : List Str := ["self", "parts", "part", "gain"]
theorem fs28_10 : FnScope nm28_10 ["self"] sc28_10 := ⟨rfl, rfl, rfl, by decide +kernel, rfl, by decide +kernel, by decide +kernel⟩
abbrev sc28_11 : Scope := defScope (inClass (topS 28) 11)
theorem fs28_11 : FnScope nm28_6 ["self"] sc28_11 := ⟨rfl, rfl, rfl, by decide +kernel, rfl, by decide +kernel, by decide +kernel⟩
abbrev Ok_clen (ev : Ev) (tb : List Addr) (C : Addr) : Prop := MethOk ev tb C "__len__" 1 (fun c : Cf => [cT C c]) Cf.Ok (fun c => intT (c.nk : Nat))
abbrev Ok_served (ev : Ev) (tb : List Addr) (C : Addr) : Prop := MethOk ev tb C "served" 2 (fun c : Cf => [cT C c]) Cf.Ok (fun c => fracT c.served)
abbrev Ok_chances (ev : Ev) (tb : List Addr) (C : Addr) : Prop := MethOk ev tb C "chances" 2 (fun c : Cf => [cT C c]) Cf.Ok (fun c => lstT (c.chances.map fracT))
abbrev Ok_nobody (ev : Ev) (tb : List Addr) (C : Addr) : Prop := MethOk ev tb C "nobody" 3 (fun c : Cf => [cT C c]) Cf.Ok (fun c => fracT c.nobody)
theorem b28_6 (h : CxD X nm28_6 sc28_6 k) (P : Px (evX X) C) (c : Cf) : SS tb X [.v (cT C c)] (defBody (inClass (topS 28) 6)) (Gv (intT (c.nk : Nat))) :=
  (ss_one (s_ret (e_len h (e_fld h 3 (e_var h 0) P.cl) (.tup _) P.T.len) (Sub.of_eq (by rw [List.length_map]; rfl))))
theorem b28_9 (h : CxD X nm28_6 sc28_9 k) (hk : 1 ≤ k) (P : Px (evX X) C) (D_lowest : Ok_lowest (evX X) tb) (c : Cf) (hc : c.Ok) : SS tb X [.v (cT C c)] (defBody (inClass (topS 28) 9)) (Gv (fracT c.served)) :=
  (ss_one (s_ret (e_lowest (j := 1) h D_lowest (e_ixT (e_fld h 2 (e_var h 0) P.cl) e_int rfl) (e_glob h P.T.gTENTHS) (low_small (by decide) (by have := hc.b10; omega) (by decide)) hk) Sub.rfl))
theorem b28_11 (h : CxD X nm28_6 sc28_11 k) (hk : 2 ≤ k) (P : Px (evX X) C) (D_lowest : Ok_lowest (evX X) tb) (D_minus : Ok_minus (evX X) tb) (c : Cf) (hc : c.Ok) : SS tb X [.v (cT C c)] (defBody (inClass (topS 28) 11)) (Gv (fracT c.nobody)) :=
  (ss_one (s_ret (e_two h D_minus (e_glob h P.T.gONE) (e_lowest (j := 1) h D_lowest (e_ixT (e_fld h 2 (e_var h 0) P.cl) e_int rfl) (e_glob h P.T.gTENTHS) (low_small (by decide) (by have := hc.a9; omega) (by decide)) (by omega))
    ((dn_one (D := 1) (by decide)).fit (dn_div' (B := 10) (M := 9) rfl (by decide) (by have := hc.a9; omega)) (a := 4) (b := 4) (by decide) (by decide) (by decide) (by decide) (by decide))) Sub.rfl))
theorem b28_10 (h : CxD X nm28_10 sc28_10 k) (hf : ∀ x, X.fn x = true) (hk : 1 ≤ k) (P : Px (evX X) C) (D_lowest : Ok_lowest (evX X) tb) (c : Cf) (hc : c.Ok) : SS tb X [.v (cT C c), .no, .no, .no] (defBody (inClass (topS 28) 10)) (Gv (lstT (c.chances.map fracT))) := by
  have hl : c.kinds.length ≤ 1000 := by have := hc.k3; omega
  have hpp := Cf.parts_pos hc
  refine (ss_cons (s_setC h hf 1 (es_v (e_sum h (ns := c.kinds.map fun k => (k.1 : Int)) (e_eq (e_of_el (LCR.el h (lc_of h [("part", 2), ("gain", 3)] (it_tup (e_fld h 3 (e_var h 0) P.cl)) (fun s H C cl fp h' x hx => (tg_tup h' (tgs_cons (tg_name h' 2) (tgs_cons (tg_name h' 3) tgs_nil)))) (fun s H C cl fp h' x hx => (e_var h' 2)) hl))) (by rw [List.map_map]; rfl)) P.T.sum))
   (ss_one (s_ret (e_of_el (LCR.el h (lc_of h (R := fun k => fracT (c.chance k)) [("part", 2), ("gain", 3)] (it_tup (e_fld h 3 (e_var h 0) P.cl)) (fun s H C cl fp h' x hx => (tg_tup h' (tgs_cons (tg_name h' 2) (tgs_cons (tg_name h' 3) tgs_nil)))) (fun s H C' cl fp h' x hx => (e_lowest (j := 1) h' D_lowest (e_mul (e_ixT (e_fld h' 2 (e_var h' 0) P.cl) e_int rfl) (e_var h' 2) ?_) (e_mul (e_glob h' P.T.gTENTHS) (e_var h' 1) ?_) ?_ hk)) hl))) ?_))))
  · have := hc.kp x hx
    exact mul_small (by have := hc.a9; omega) (by omega)
  · exact mul_small (by decide) (by show c.partsI.natAbs < _; omega)
  · have h1 := hc.kp x hx
    have h2 := hc.a9
    refine low_small (by show 10 * c.partsI ≠ 0; omega) ?_ (by show (10 * c.partsI).natAbs < _; omega)
    have : ((c.t0 : Int) * (x.1 : Int)).natAbs ≤ 9 * 6 := by
      rw [Int.natAbs_mul, Int.natAbs_natCast, Int.natAbs_natCast]
      exact Nat.mul_le_mul h2 h1.2.1
    omega
  · refine Sub.of_eq ?_
    unfold Cf.chances
    rw [List.map_map]
    rfl
end
end JL

set_option Elab.async false
set_option linter.all false
set_option maxRecDepth 100000
set_option maxHeartbeats 4000000
set_option autoImplicit false
/-! Checks, times, gains, spots, moves. -/
namespace JL
open PySem PySem.Spec PyProof.Rows L2
section
variable {tb : List Addr} {X : Cx} {G : List Slt} {N : List Str} {sc : Scope} {k : Nat} {pos : Pos} {C : Addr}
section
variable {kn kn' : Kn} {sts : List Stmt}
theorem SS.mono (h : SS tb X G sts kn) (nx : ∀ G, kn.nx G → kn'.nx G) (rt : ∀ T, kn.rt T → kn'.rt T) (bk : ∀ G, kn.bk G → kn'.bk G) (ct : ∀ G, kn.ct G → kn'.ct G) : SS tb X G sts kn' := fun B σ F H D hh ks =>
  h B σ F H D hh ⟨fun G F H σ q => ks.nx G F H σ (nx G q), fun G F H σ q => ks.bk G F H σ (bk G q), fun G F H σ q => ks.ct G F H σ (ct G q), fun T v F H q => ks.rt T v F H (rt T q)⟩
/-- both ways come to G' -/
theorem ss_ifJ (G' : List Slt) {c : Expr} {b : Bool} {t : List Stmt} (hc : EB tb X G c b) (ht : b = true → SS tb X G t { kn with nx := fun G2 => G2 = G' }) (he : b = false → G = G') (h : SS tb X G' sts kn) : SS tb X G (.If c t [] pos :: sts) kn :=
  ss_if hc (fun e => (ht e).mono (fun _ q => q ▸ h) (fun _ q => q) (fun _ q => q) fun _ q => q) fun e => he e ▸ h
end
/-- a body that gives nothing -/
abbrev GvN : Kn := ⟨fun _ => True, fun T => Sub T noneT, fun _ => False, fun _ => False⟩
abbrev sc29 : Scope := defScope (topS 29)
abbrev nm29 : List Str := ["counter"]
theorem fs29 : FnScope nm29 ["counter"] sc29 := ⟨rfl, rfl, rfl, by decide +kernel, rfl, by decide +kernel, by decide +kernel⟩
abbrev Ok_check_counter (ev : Ev) (tb : List Addr) (C : Addr) : Prop := DefOk ev tb "check_counter" 1 (fun c : Cf => [cT C c]) (fun _ => True) (fun _ => noneT)
theorem b29 (h : CxD X nm29 sc29 k) (P : Px (evX X) C) (c : Cf) : SS tb X [.v (cT C c)] (defBody (topS 29)) GvN :=
  (ss_ifNo (eb_not (eb_val (e_isiO h (e_var h 0) (e_glob h P.gC) P.cl.cl P.ci P.T.isinstance))) (ss_nil trivial))
abbrev sc37 : Scope := defScope (topS 37)
abbrev nm37 : List Str := ["counter", "neighbour"]
theorem fs37 : FnScope nm37 ["counter", "neighbour"] sc37 := ⟨rfl, rfl, rfl, by decide +kernel, rfl, by decide +kernel, by decide +kernel⟩
abbrev Ok_check_neighbour (ev : Ev) (tb : List Addr) (C : Addr) : Prop := DefOk ev tb "check_neighbour" 2 (fun c : Cf => [cT C c, nbT c]) Cf.Ok (fun _ => noneT)
theorem b37 (h : CxD X nm37 sc37 k) (hk : 1 ≤ k) (P : Px (evX X) C) (D1 : Ok_check_counter (evX X) tb C) (D2 : Ok_is_integer (evX X) tb) (c : Cf) (hc : c.Ok) : SS tb X [.v (cT C c), .v (nbT c)] (defBody (topS 37)) GvN := by
  refine (ss_cons (s_expr (e_c1 h D1 c (e_var h 0) trivial)
   (ss_ifNo (EW.eb (ew_or (eb_not (eb_val (e_isi h (e_var h 1) typed_tup (e_bltn (S := "tuple") h P.T.tuple) (if_pos (by decide)) P.T.isinstance))) (fun hc => (ew_or1 (eb_neI (e_len h (e_var h 1) (.tup _) P.T.len) e_int)))))
    (ss_ifNo (EW.eb (ew_or (eb_not (eb_val (e_isInt h D2 (e_ixT (e_var h 1) e_int rfl) e_int (e_glob h P.T.gMAX_ROOM)))) (fun hc => (ew_or1 (eb_not (eb_val (e_isInt h D2 (e_ixT (e_var h 1) e_int rfl) e_int (e_glob h P.T.gMAX_SERVE))))))))
      (ss_nil trivial) ?_))))
  have := hc.n1; have := hc.n3; have := hc.s1; have := hc.s10
  unfold inR
  simp
  omega
abbrev sc38 : Scope := defScope (topS 38)
theorem fs38 : FnScope nm37 ["counter", "neighbour"] sc38 := ⟨rfl, rfl, rfl, by decide +kernel, rfl, by decide +kernel, by decide +kernel⟩
abbrev Ok_check_few (ev : Ev) (tb : List Addr) (C : Addr) : Prop := DefOk ev tb "check_few" 1 (fun c : Cf => [cT C c, nbT c]) Cf.Ok (fun _ => noneT)
theorem b38 (h : CxD X nm37 sc38 k) (P : Px (evX X) C) (c : Cf) (hc : c.Ok) : SS tb X [.v (cT C c), .v (nbT c)] (defBody (topS 38)) GvN := by
  refine (ss_ifNo (eb_gt (e_mul (e_add (e_fld h 0 (e_var h 0) P.cl) e_int) (e_add (e_ixT (e_var h 1) e_int rfl) e_int) (mul_small (by have := hc.r2; omega) (by have := hc.n3; omega))) (e_glob h P.T.gMAX_PAIRS)) (ss_nil trivial) ?_)
  have := hc.sz
  have e : ((c.room : Int) + 1) * ((c.nr : Int) + 1) = (((c.room + 1) * (c.nr + 1) : Nat) : Int) := by rw [Int.natCast_mul]; rfl
  rw [e]
  exact decide_eq_false (by omega)
abbrev sc39 : Scope := defScope (topS 39)
abbrev nm39 : List Str := ["counter", "neighbour", "here", "there"]
theorem fs39 : FnScope nm39 ["counter", "neighbour"] sc39 := ⟨rfl, rfl, rfl, by decide +kernel, rfl, by decide +kernel, by decide +kernel⟩
abbrev Ok_pairs_of (ev : Ev) (tb : List Addr) (C : Addr) : Prop := DefOk ev tb "pairs_of" 1 (fun c : Cf => [cT C c, nbT c]) Cf.Ok (fun c => lstT (c.spots.map spT))
theorem spots_length (c : Cf) : c.spots.length = (c.room + 1) * (c.nr + 1) := by
  unfold Cf.spots
  rw [List.length_flatMap]
  simp [List.map_const']
theorem b39 (h : CxD X nm39 sc39 k) (P : Px (evX X) C) (c : Cf) (hc : c.Ok) : SS tb X [.v (cT C c), .v (nbT c), .no, .no] (defBody (topS 39)) (Gv (lstT (c.spots.map spT))) := by
  have hr := hc.r2
  have hn := hc.n3
  have hsp : (List.range (c.room + 1)).flatMap (fun x => (List.range (c.nr + 1)).map fun y => spT (x, y)) = c.spots.map spT := by
    unfold Cf.spots
    rw [List.map_flatMap]
    simp [Function.comp_def]
  refine (ss_one (s_ret (e_of_el (el_lc2 h (xs := List.range (c.room + 1)) (ys := fun _ => List.range (c.nr + 1)) (U := fun _ i => intT (i : Nat)) (R := fun x y => spT (x, y)) [("here", 2), ("there", 3)] [3]
    (it_range1 h (e_eq (e_add (e_fld h 0 (e_var h 0) P.cl) e_int) (congrArg intT (by omega))) P.T.range (by omega)) (fun s H C cl fp h' x hx => tg_name h' 2)
    (fun s H C cl fp h' x hx => it_range1 h' (e_eq (e_add (e_ixT (e_var h' 1) e_int rfl) e_int) (congrArg intT (by omega))) P.T.range (by omega)) (fun s H C cl fp h' x hx y hy => tg_name h' 3)
    (fun s H C cl fp h' x hx y hy => e_key (ks := [(x : Int), (y : Int)]) (ea_cons (e_var h' 2) (ea_cons (e_var h' 3) ea_nil))) ?_)) (Sub.of_eq (congrArg lstT hsp))))
  rw [hsp, List.length_map, spots_length]
  have := hc.sz
  omega
abbrev sc40 : Scope := defScope (topS 40)
abbrev nm40 : List Str := ["spot", "choice"]
theorem fs40 : FnScope nm40 ["spot", "choice"] sc40 := ⟨rfl, rfl, rfl, by decide +kernel, rfl, by decide +kernel, by decide +kernel⟩
abbrev Ok_joined_by (ev : Ev) (tb : List Addr) : Prop := DefOk ev tb "joined_by" 1 (fun a : Spot × Nat => [spT a.1, intT (a.2 : Int)]) (fun _ => True) (fun a => spT (joined a.1 a.2))
theorem b40 (h : CxD X nm40 sc40 k) (P : Px (evX X) C) (p : Spot) (ch : Nat) : SS tb X [.v (spT p), .v (intT (ch : Int))] (defBody (topS 40)) (Gv (spT (joined p ch))) := by
  refine (ss_one (s_ret (e_key (ks := [_, _]) (ea_cons (e_add (e_ixT (e_sub (e_var h 0) key_tup) e_int rfl) (e_intB h (e_eqI (e_var h 1) (e_glob h P.T.gHERE)) P.T.int)) (ea_cons (e_add (e_ixT (e_sub (e_var h 0) key_tup) e_int rfl) (e_intB h (e_eqI (e_var h 1) (e_glob h P.T.gTHERE)) P.T.int)) ea_nil))) (Sub.of_eq (congrArg keyT ?_))))
  unfold joined
  have e1 : decide ((ch : Int) = 1) = decide (ch = 1) := by rw [decide_eq_decide]; omega
  have e2 : decide ((ch : Int) = 2) = decide (ch = 2) := by rw [decide_eq_decide]; omega
  rw [e1, e2]
  by_cases h1 : ch = 1
  · by_cases h2 : ch = 2
    · omega
    · simp [h1]
  · by_cases h2 : ch = 2
    · simp [h2]
    · simp [h1, h2]
end
end JL

set_option Elab.async false
set_option linter.all false
set_option maxRecDepth 100000
set_option maxHeartbeats 4000000
set_option autoImplicit false
/-! Choices, lines, waits, gains. -/
namespace JL
open PySem PySem.Spec PyProof.Rows L2
theorem fint_eq (i : Int) : tupT [intT i, intT 1] = fracT (i : Rat) := (fracT_int i).symm
section
variable {tb : List Addr} {X : Cx} {G : List Slt} {N : List Str} {sc : Scope} {k : Nat} {pos : Pos} {C : Addr}
abbrev sc41 : Scope := defScope (topS 41)
abbrev nm41 : List Str := ["counter", "neighbour", "spot", "found"]
theorem fs41 : FnScope nm41 ["counter", "neighbour", "spot"] sc41 := ⟨rfl, rfl, rfl, by decide +kernel, rfl, by decide +kernel, by decide +kernel⟩
def nT (i : Nat) : Ty := intT (i : Int)
abbrev Ok_choices_at (ev : Ev) (tb : List Addr) (C : Addr) : Prop := DefOk ev tb "choices_at" 1 (fun a : Cf × Spot => [cT C a.1, nbT a.1, spT a.2]) (fun _ => True) (fun a => lstT ((a.1.able a.2).map nT))
theorem b41 (h : CxD X nm41 sc41 k) (P : Px (evX X) C) (c : Cf) (p : Spot) : SS tb X [.v (cT C c), .v (nbT c), .v (spT p), .no] (defBody (topS 41)) (Gv (lstT ((c.able p).map nT))) := by
  have e1 : decide ((p.1 : Int) < (c.room : Int)) = decide (p.1 < c.room) := by rw [decide_eq_decide]; omega
  have e2 : decide ((p.2 : Int) < (c.nr : Int)) = decide (p.2 < c.nr) := by rw [decide_eq_decide]; omega
  refine (ss_cons (s_set h 3 (es_own (el_lst (ea_cons (e_glob h P.T.gAWAY) ea_nil)))
   (ss_ifJ [.v (cT C c), .v (nbT c), .v (spT p), .own (([0] ++ (if p.1 < c.room then [1] else [])).map nT)] (eb_lt (e_ixT (e_sub (e_var h 2) key_tup) e_int rfl) (e_fld h 0 (e_var h 0) P.cl)) (fun hb => (ss_one (s_append h 3 (e_glob h P.T.gHERE) ?_ ?_))) (fun hb => ?_)
    (ss_ifJ [.v (cT C c), .v (nbT c), .v (spT p), .own ((c.able p).map nT)] (eb_lt (e_ixT (e_sub (e_var h 2) key_tup) e_int rfl) (e_ixT (e_var h 1) e_int rfl)) (fun hb => (ss_one (s_append h 3 (e_glob h P.T.gTHERE) ?_ ?_))) (fun hb => ?_)
     (ss_one (s_freeze 3 (s_ret (e_var h 3) Sub.rfl)))))))
  · rw [e1] at hb
    rw [if_pos (of_decide_eq_true hb)]
    rfl
  · exact small1000 (by decide)
  · rw [e1] at hb
    rw [if_neg (of_decide_eq_false hb)]
    rfl
  · rw [e2] at hb
    unfold Cf.able
    rw [if_pos (of_decide_eq_true hb), List.map_append (l₁ := [0] ++ _)]
    rfl
  · refine small1000 ?_
    rw [List.length_map, List.length_append]
    split <;> simp
  · rw [e2] at hb
    unfold Cf.able
    rw [if_neg (of_decide_eq_false hb), List.append_nil]
abbrev sc44 : Scope := defScope (topS 44)
abbrev nm44 : List Str := ["neighbour"]
theorem fs44 : FnScope nm44 ["neighbour"] sc44 := ⟨rfl, rfl, rfl, by decide +kernel, rfl, by decide +kernel, by decide +kernel⟩
abbrev Ok_served_there (ev : Ev) (tb : List Addr) : Prop := DefOk ev tb "served_there" 2 (fun c : Cf => [nbT c]) Cf.Ok (fun c => fracT c.servedN)
theorem b44 (h : CxD X nm44 sc44 k) (hk : 1 ≤ k) (P : Px (evX X) C) (D_lowest : Ok_lowest (evX X) tb) (c : Cf) (hc : c.Ok) : SS tb X [.v (nbT c)] (defBody (topS 44)) (Gv (fracT c.servedN)) :=
  (ss_one (s_ret (e_lowest (j := 1) h D_lowest (e_ixT (e_var h 0) e_int rfl) (e_glob h P.T.gTENTHS) (low_small (by decide) (by have := hc.s10; omega) (by decide)) hk) Sub.rfl))
abbrev sc45 : Scope := defScope (topS 45)
abbrev nm45 : List Str := ["length", "served"]
theorem fs45 : FnScope nm45 ["length", "served"] sc45 := ⟨rfl, rfl, rfl, by decide +kernel, rfl, by decide +kernel, by decide +kernel⟩
def lineT (a : Nat × Rat) : Ty := tupT [intT (a.1 : Int), fracT a.2]
abbrev Ok_line_after (ev : Ev) (tb : List Addr) : Prop := DefOk ev tb "line_after" 3 (fun a : Nat × Rat => [intT (a.1 : Int), fracT a.2]) (fun a => Dn 10 10 a.2) (fun a => lstT ((line a.2 a.1).map lineT))
theorem b45 (h : CxD X nm45 sc45 k) (hk : 2 ≤ k) (P : Px (evX X) C) (D_minus : Ok_minus (evX X) tb) (len : Nat) (s : Rat) (hs : Dn 10 10 s) : SS tb X [.v (intT (len : Int)), .v (fracT s)] (defBody (topS 45)) (Gv (lstT ((line s len).map lineT))) := by
  have hfit : Fit 1 s := (dn_one (D := 1) (by decide)).fit hs (a := 4) (b := 4) (by decide) (by decide) (by decide) (by decide) (by decide)
  refine (ss_one (s_ret (e_ifExp (T := lstT ((line s len).map lineT)) (eb_eqI (e_var h 0) e_int) (fun hc => (e_eq (e_lst (ea_cons (e_tup (ea_cons e_int (ea_cons (e_glob h P.T.gONE) ea_nil))) ea_nil)) ?_)) (fun hc => (e_eq (e_lst (ea_cons (e_tup (ea_cons (e_subI (e_var h 0) e_int) (ea_cons (e_var h 1) ea_nil))) (ea_cons (e_tup (ea_cons (e_var h 0) (ea_cons (e_two h D_minus (e_glob h P.T.gONE) (e_var h 1) hfit) ea_nil))) ea_nil))) ?_))) Sub.rfl))
  · have : len = 0 := by have := of_decide_eq_true hc; omega
    unfold line
    rw [if_pos this]
    rfl
  · have : len ≠ 0 := by have := of_decide_eq_false hc; omega
    unfold line
    rw [if_neg this]
    have e : ((len : Int) - 1) = ((len - 1 : Nat) : Int) := by omega
    rw [e]
    rfl
abbrev sc46 : Scope := defScope (topS 46)
abbrev nm46 : List Str := ["counter", "neighbour", "spot", "here", "there", "one", "chance", "other", "part"]
theorem fs46 : FnScope nm46 ["counter", "neighbour", "spot"] sc46 := ⟨rfl, rfl, rfl, by decide +kernel, rfl, by decide +kernel, by decide +kernel⟩
def seenT (a : Spot × Rat) : Ty := tupT [spT a.1, fracT a.2]
theorem line_dn {s : Rat} (hs : Dn 10 10 s) {len : Nat} : ∀ a ∈ line s len, Dn 10 20 a.2 := by
  unfold line
  intro a ha
  split at ha
  · rw [List.mem_singleton] at ha
    subst ha
    exact (dn_one (by decide)).mono (by decide)
  · rcases List.mem_cons.mp ha with rfl | ha
    · exact hs.mono (by decide)
    · rw [List.mem_singleton] at ha
      subst ha
      exact ((dn_one (by decide)).sub hs)
theorem line_len (s : Rat) (len : Nat) : (line s len).length ≤ 2 := by
  unfold line
  split <;> simp
abbrev Ok_seen_after (ev : Ev) (tb : List Addr) (C : Addr) : Prop := DefOk ev tb "seen_after" 4 (fun a : Cf × Spot => [cT C a.1, nbT a.1, spT a.2]) (fun a => a.1.Ok) (fun a => lstT ((a.1.seen a.2).map seenT))
theorem b46 (h : CxD X nm46 sc46 k) (hf : ∀ x, X.fn x = true) (hk : 3 ≤ k) (P : Px (evX X) C) (D1 : Ok_line_after (evX X) tb) (D2 : Ok_served (evX X) tb C) (D3 : Ok_served_there (evX X) tb) (D_times : Ok_times (evX X) tb) (c : Cf) (hc : c.Ok) (p : Spot) :
    SS tb X [.v (cT C c), .v (nbT c), .v (spT p), .no, .no, .no, .no, .no, .no] (defBody (topS 46)) (Gv (lstT ((c.seen p).map seenT))) := by
  have hsp : (line c.served p.1).flatMap (fun a => (line c.servedN p.2).map fun b => seenT ((a.1, b.1), a.2 * b.2)) = (c.seen p).map seenT := by
    unfold Cf.seen
    rw [List.map_flatMap]
    simp [Function.comp_def]
  refine (ss_cons (s_set h 3 (es_v (e_c2 h D1 (p.1, c.served) (e_ixT (e_sub (e_var h 2) key_tup) e_int rfl) (e_meth0 h P.cl D2 c (e_var h 0) hc rfl) (Cf.dn_served hc)))
   (ss_cons (s_setC h hf 4 (es_v (e_c2 h D1 (p.2, c.servedN) (e_ixT (e_sub (e_var h 2) key_tup) e_int rfl) (e_c1 h D3 c (e_var h 1) hc) (Cf.dn_servedN hc)))
    (ss_one (s_ret (e_of_el (el_lc2 h (xs := line c.served p.1) (ys := fun _ => line c.servedN p.2) (T := lineT) (U := fun _ => lineT) (R := fun a b => seenT ((a.1, b.1), a.2 * b.2)) [("one", 5), ("chance", 6), ("other", 7), ("part", 8)] [7, 8]
      (it_list (e_var h 3)) (fun s H C cl fp h' x hx => tg_tup h' (tgs_cons (tg_name h' 5) (tgs_cons (tg_name h' 6) tgs_nil)))
      (fun s H C cl fp h' x hx => it_list (e_var h' 4)) (fun s H C cl fp h' x hx y hy => tg_tup h' (tgs_cons (tg_name h' 7) (tgs_cons (tg_name h' 8) tgs_nil)))
      (fun s H C cl fp h' x hx y hy => e_tup (ea_cons (e_key (ks := [_, _]) (ea_cons (e_var h' 5) (ea_cons (e_var h' 7) ea_nil))) (ea_cons (e_two h' D_times (e_var h' 6) (e_var h' 8) ?_) ea_nil))) ?_)) (Sub.of_eq (congrArg lstT hsp))))))))
  · exact (line_dn (Cf.dn_served hc) x hx).fit (line_dn (Cf.dn_servedN hc) y hy) (a := 5) (b := 5) (by decide) (by decide) (by decide) (by decide) (by decide)
  · rw [hsp, List.length_map]
    unfold Cf.seen
    rw [List.length_flatMap]
    have e : (line c.served p.1).map (fun a => ((line c.servedN p.2).map fun b => ((a.1, b.1), a.2 * b.2)).length) = (line c.served p.1).map (fun _ => (line c.servedN p.2).length) := by simp
    rw [e, List.map_const', List.sum_replicate_nat]
    have h1 := line_len c.served p.1
    have h2 := line_len c.servedN p.2
    calc _ ≤ 2 * 2 := Nat.mul_le_mul h1 h2
      _ ≤ 1000 := by decide
end
end JL

set_option Elab.async false
set_option linter.all false
set_option maxRecDepth 100000
set_option maxHeartbeats 4000000
set_option autoImplicit false
/-! Waits, own gains, the own choice, the own route. -/
namespace JL
open PySem PySem.Spec PyProof.Rows L2
/-- the best of two own gains -/
def Cf.ownC (c : Cf) (k : Nat) (p : Spot) : Nat :=
  let a : Rat := if p.1 < c.room then c.ownG k p.1 c.t1 else -1
  let b : Rat := if p.2 < c.nr then c.ownG k p.2 c.ns else -1
  if 0 ≤ (if a < b then b else a) then (if a < b then 2 else 1) else 0
theorem Cf.dn_wait {c : Cf} (h : c.Ok) {len t : Nat} (hl : len ≤ 3) (ht : 0 < t) : Dn t 160 (Rat.divInt (10 * (c.cost : Int) * ((len : Int) + 1)) (t : Int)) := by
  refine dn_div' rfl ht ?_
  have h4 := h.c4
  have e : (10 * (c.cost : Int) * ((len : Int) + 1)) = ((10 * c.cost * (len + 1) : Nat) : Int) := by rw [Int.natCast_mul, Int.natCast_mul]; rfl
  rw [e, Int.natAbs_natCast]
  calc 10 * c.cost * (len + 1) ≤ (10 * 4) * 4 := Nat.mul_le_mul (by omega) (by omega)
    _ = 160 := rfl
theorem Cf.dn_ownG {c : Cf} (h : c.Ok) {k len t : Nat} (hl : len ≤ 3) (ht : 0 < t) (ht2 : t ≤ 10) : Dn t 1000 (c.ownG k len t) := by
  unfold Cf.ownG
  have h1 := (dn_int (c.gain k : Int)).scale t ht
  rw [Nat.one_mul] at h1
  have hg := Cf.gain_le h k
  refine (h1.sub (Cf.dn_wait h hl ht)).mono ?_
  rw [Int.natAbs_natCast]
  have : c.gain k * t ≤ 39 * 10 := Nat.mul_le_mul hg ht2
  omega
section
variable {tb : List Addr} {X : Cx} {G : List Slt} {N : List Str} {sc : Scope} {k : Nat} {pos : Pos} {C : Addr}
abbrev sc47 : Scope := defScope (topS 47)
abbrev nm47 : List Str := ["counter", "spot"]
theorem fs47 : FnScope nm47 ["counter", "spot"] sc47 := ⟨rfl, rfl, rfl, by decide +kernel, rfl, by decide +kernel, by decide +kernel⟩
abbrev Ok_waiting (ev : Ev) (tb : List Addr) (C : Addr) : Prop := DefOk ev tb "waiting" 1 (fun a : Cf × Spot => [cT C a.1, spT a.2]) (fun a => a.1.Ok ∧ a.2.1 ≤ 3 ∧ a.2.2 ≤ 4) (fun a => fracT (a.1.paid a.2))
theorem b47 (h : CxD X nm47 sc47 k) (P : Px (evX X) C) (c : Cf) (hc : c.Ok) (p : Spot) (h1 : p.1 ≤ 3) (h2 : p.2 ≤ 4) : SS tb X [.v (cT C c), .v (spT p)] (defBody (topS 47)) (Gv (fracT (c.paid p))) := by
  refine (ss_one (s_ret (e_tup (ea_cons (e_mul (e_fld h 1 (e_var h 0) P.cl) (e_add (e_ixT (e_sub (e_var h 1) key_tup) e_int rfl) (e_ixT (e_sub (e_var h 1) key_tup) e_int rfl)) (mul_small (by have := hc.c4; omega) (by omega))) (ea_cons e_int ea_nil))) (Sub.of_eq ?_)))
  unfold Cf.paid
  rw [fracT_int, Int.natCast_mul, Int.natCast_add]
abbrev sc30 : Scope := defScope (topS 30)
abbrev nm30 : List Str := ["counter", "length"]
theorem fs30 : FnScope nm30 ["counter", "length"] sc30 := ⟨rfl, rfl, rfl, by decide +kernel, rfl, by decide +kernel, by decide +kernel⟩
abbrev Ok_wait_of (ev : Ev) (tb : List Addr) (C : Addr) : Prop := DefOk ev tb "wait_of" 3 (fun a : Cf × Nat => [cT C a.1, intT (a.2 : Int)]) (fun a => a.1.Ok ∧ a.2 ≤ 3) (fun a => fracT (Rat.divInt (10 * (a.1.cost : Int) * ((a.2 : Int) + 1)) (a.1.t1 : Int)))
theorem b30 (h : CxD X nm30 sc30 k) (hk : 2 ≤ k) (P : Px (evX X) C) (D_times : Ok_times (evX X) tb) (D_over : Ok_over (evX X) tb) (D2 : Ok_served (evX X) tb C) (c : Cf) (hc : c.Ok) (len : Nat) (hl : len ≤ 3) :
    SS tb X [.v (cT C c), .v (intT (len : Int))] (defBody (topS 30)) (Gv (fracT (Rat.divInt (10 * (c.cost : Int) * ((len : Int) + 1)) (c.t1 : Int)))) := by
  have d1 : Dn 1 4 (((c.cost : Int)) : Rat) := (dn_int _).mono (by have := hc.c4; omega)
  have d2 : Dn 1 4 (((len : Int) + 1 : Int) : Rat) := (dn_int _).mono (by omega)
  refine (ss_one (s_ret (e_two h D_over (e_two h D_times (e_eq (e_tup (ea_cons (e_fld h 1 (e_var h 0) P.cl) (ea_cons e_int ea_nil))) (fint_eq _)) (e_eq (e_tup (ea_cons (e_add (e_var h 1) e_int) (ea_cons e_int ea_nil))) (fint_eq _)) ?_) (e_meth0 h P.cl D2 c (e_var h 0) hc rfl) ⟨?_, Cf.served_pos hc⟩) (Sub.of_eq (fracT_eq ?_))))
  · exact d1.fit d2 (a := 4) (b := 4) (by decide) (by decide) (by decide) (by decide) (by decide)
  · exact (d1.mul d2).fit (Cf.dn_served hc) (a := 5) (b := 4) (by decide) (by decide) (by decide) (by decide) (by decide)
  · exact wait_eq c len c.t1 (by have := hc.b1; omega)
abbrev sc31 : Scope := defScope (topS 31)
abbrev nm31 : List Str := ["counter", "kind", "length"]
theorem fs31 : FnScope nm31 ["counter", "kind", "length"] sc31 := ⟨rfl, rfl, rfl, by decide +kernel, rfl, by decide +kernel, by decide +kernel⟩
abbrev Ok_own_gain (ev : Ev) (tb : List Addr) (C : Addr) : Prop := DefOk ev tb "own_gain" 4 (fun a : Cf × Nat × Nat => [cT C a.1, intT (a.2.1 : Int), intT (a.2.2 : Int)]) (fun a => a.1.Ok ∧ a.2.1 < a.1.nk ∧ a.2.2 ≤ 3) (fun a => fracT (a.1.ownG a.2.1 a.2.2 a.1.t1))
/-- the kind k of the counter's -/
theorem Cf.kindAt {c : Cf} {i : Nat} (hi : i < c.nk) : ∃ q, atI (c.kinds.map kindT) (i : Int) = some (kindT q) ∧ q.2 = c.gain i := by
  have hi' : i < c.kinds.length := hi
  refine ⟨c.kinds[i], atI_ofNat (by rw [List.getElem?_map, List.getElem?_eq_getElem hi']; rfl), ?_⟩
  unfold Cf.gain
  rw [List.getD_eq_getElem?_getD, List.getElem?_eq_getElem hi']
  rfl
/-- counter.rows[k][1] -/
theorem e_gainAt (h : CxD X N sc k) (P : Px (evX X) C) {c : Cf} {i : Nat} {e o : Expr} {p1 p2 p3 p4 : Pos} {j : Nat} (ho : E tb X G o (cT C c)) (he : E tb X G e (intT (i : Int))) (hi : i < c.nk) (hs : PlainIx e := by intro _ _; rfl) (hb : attributeBase o "rows" X.env (eval o X.env) = eval o X.env := by rfl) :
    E tb X G (.Subscript (.Subscript (.Attribute o "rows" p1) e p2) (.Constant (.int 1) j p3) p4) (intT (c.gain i : Int)) := by
  obtain ⟨q, h1, h2⟩ := Cf.kindAt hi
  rw [← h2]
  exact e_ixT (e_ixT (e_fld h 3 ho P.cl (hb := hb)) he h1 hs) e_int rfl
theorem b31 (h : CxD X nm31 sc31 k) (hk : 3 ≤ k) (P : Px (evX X) C) (D_minus : Ok_minus (evX X) tb) (D1 : Ok_wait_of (evX X) tb C) (c : Cf) (hc : c.Ok) (i len : Nat) (hi : i < c.nk) (hl : len ≤ 3) :
    SS tb X [.v (cT C c), .v (intT (i : Int)), .v (intT (len : Int))] (defBody (topS 31)) (Gv (fracT (c.ownG i len c.t1))) := by
  refine (ss_one (s_ret (e_two h D_minus (e_eq (e_tup (ea_cons (e_gainAt h P (e_var h 0) (e_var h 1) hi) (ea_cons e_int ea_nil))) (fint_eq _)) (e_c2 h D1 (c, len) (e_var h 0) (e_var h 2) ⟨hc, hl⟩) ?_) Sub.rfl))
  have h1 := hc.b1
  have h2 := hc.b10
  have hg := Cf.gain_le hc i
  exact (dn_int _).fit (Cf.dn_wait (t := c.t1) hc hl (by omega)) (a := 6) (b := 8) (by decide) (by rw [Int.natAbs_natCast]; omega) (by omega) (by decide) (by decide)
abbrev sc48 : Scope := defScope (topS 48)
abbrev nm48 : List Str := ["counter", "neighbour", "kind", "length", "wait"]
theorem fs48 : FnScope nm48 ["counter", "neighbour", "kind", "length"] sc48 := ⟨rfl, rfl, rfl, by decide +kernel, rfl, by decide +kernel, by decide +kernel⟩
abbrev Ok_own_there (ev : Ev) (tb : List Addr) (C : Addr) : Prop := DefOk ev tb "own_there" 4 (fun a : Cf × Nat × Nat => [cT C a.1, nbT a.1, intT (a.2.1 : Int), intT (a.2.2 : Int)]) (fun a => a.1.Ok ∧ a.2.1 < a.1.nk ∧ a.2.2 ≤ 3) (fun a => fracT (a.1.ownG a.2.1 a.2.2 a.1.ns))
theorem b48 (h : CxD X nm48 sc48 k) (hk : 3 ≤ k) (P : Px (evX X) C) (D_minus : Ok_minus (evX X) tb) (D_over : Ok_over (evX X) tb) (D3 : Ok_served_there (evX X) tb) (c : Cf) (hc : c.Ok) (i len : Nat) (hi : i < c.nk) (hl : len ≤ 3) :
    SS tb X [.v (cT C c), .v (nbT c), .v (intT (i : Int)), .v (intT (len : Int)), .no] (defBody (topS 48)) (Gv (fracT (c.ownG i len c.ns))) := by
  have h1 := hc.s1
  have h2 := hc.s10
  have hg := Cf.gain_le hc i
  have hw := wait_eq c len c.ns (by omega)
  have e1 : ((c.cost : Int) : Rat) * (((len : Int) + 1 : Int) : Rat) = (((c.cost : Int) * ((len : Int) + 1) : Int) : Rat) := (Rat.intCast_mul _ _).symm
  have hw2 : (((c.cost : Int) * ((len : Int) + 1) : Int) : Rat) / c.servedN = Rat.divInt (10 * (c.cost : Int) * ((len : Int) + 1)) (c.ns : Int) := by rw [← e1]; exact hw
  have d1 : Dn 1 16 (((c.cost : Int) * ((len : Int) + 1) : Int) : Rat) := (dn_int _).mono (by
    rw [Int.natAbs_mul]
    calc _ ≤ 4 * 4 := Nat.mul_le_mul (by have := hc.c4; omega) (by omega)
      _ = 16 := rfl)
  refine (ss_cons (s_set h 4 (es_v (e_eq (e_two h D_over (e_eq (e_tup (ea_cons (e_mul (e_fld h 1 (e_var h 0) P.cl) (e_add (e_var h 3) e_int) ?_) (ea_cons e_int ea_nil))) (fint_eq _)) (e_c1 h D3 c (e_var h 1) hc) ⟨?_, Cf.servedN_pos hc⟩) (fracT_eq hw2)))
   (ss_one (s_ret (e_two h D_minus (e_eq (e_tup (ea_cons (e_gainAt h P (e_var h 0) (e_var h 2) hi) (ea_cons e_int ea_nil))) (fint_eq _)) (e_var h 4) ?_) Sub.rfl))))
  · exact mul_small (by have := hc.c4; omega) (by omega)
  · exact d1.fit (Cf.dn_servedN hc) (a := 5) (b := 4) (by decide) (by decide) (by decide) (by decide) (by decide)
  · exact (dn_int _).fit (Cf.dn_wait (t := c.ns) hc hl (by omega)) (a := 6) (b := 8) (by decide) (by rw [Int.natAbs_natCast]; omega) (by omega) (by decide) (by decide)
end
end JL

set_option Elab.async false
set_option linter.all false
set_option maxRecDepth 100000
set_option maxHeartbeats 4000000
set_option autoImplicit false
/-! The own choice, the own route. -/
namespace JL
open PySem PySem.Spec PyProof.Rows L2
def fracD (q : Rat) : PyData := .tuple [.int q.num, .int (q.den : Int)]
theorem dat_frac (q : Rat) : Dat (fracT q) (fracD q) := dat_tup (.cons (dat_int _) (.cons (dat_int _) .nil))
theorem fracD_shaped (q : Rat) : SeqAt.shaped (fracD q) = true := by
  show ((fracD q).canLay0 && decide ((fracD q).depth ≤ 64)) = true
  rw [Bool.and_eq_true]
  exact ⟨by simp [fracD, PyData.canLay0, PyData.canLayAll0], by simp [fracD, PyData.depth, PyData.depthAll]⟩
theorem fracD_eqv (q r : Rat) : PyData.eqv (fracD q) (fracD r) = decide (q = r) := by
  have e : PyData.eqv (fracD q) (fracD r) = ((q.num == r.num) && (((q.den : Int) == (r.den : Int)) && true)) := by simp only [fracD, PyData.eqv, PyData.eqvAll]
  rw [e, Bool.eq_iff_iff]
  simp
  constructor
  · rintro ⟨h1, h2⟩
    exact Rat.ext h1 (by omega)
  · rintro rfl
    exact ⟨rfl, rfl⟩
def Cf.ownRows (c : Cf) (k : Nat) (p : Spot) : List (Nat × Rat) := (if p.1 < c.room then [(1, c.ownG k p.1 c.t1)] else []) ++ (if p.2 < c.nr then [(2, c.ownG k p.2 c.ns)] else [])
def ownStep (b a : Nat × Rat) : Nat × Rat := if b.2 < a.2 ∨ (b.1 = 0 ∧ a.2 = 0) then a else b
theorem ownC_eq (c : Cf) (k : Nat) (p : Spot) : ((c.ownRows k p).foldl ownStep (0, 0)).1 = c.ownC k p := by
  unfold Cf.ownRows Cf.ownC
  generalize c.ownG k p.1 c.t1 = a
  generalize c.ownG k p.2 c.ns = b
  by_cases h1 : p.1 < c.room
  · by_cases h2 : p.2 < c.nr
    · simp only [if_pos h1, if_pos h2, List.cons_append, List.nil_append, List.foldl_cons, List.foldl_nil, ownStep, true_and]
      by_cases ha : (0 : Rat) ≤ a
      · have e1 : (0 : Rat) < a ∨ a = 0 := by grind
        rw [if_pos e1]
        by_cases hab : a < b
        · have e2 : (a < b ∨ ((1 : Nat) = 0 ∧ b = 0)) := .inl hab
          rw [if_pos e2, if_pos hab, if_pos hab, if_pos (by grind)]
        · have e2 : ¬ (a < b ∨ ((1 : Nat) = 0 ∧ b = 0)) := by rintro (z | ⟨z, _⟩); exact hab z; cases z
          rw [if_neg e2, if_neg hab, if_neg hab, if_pos ha]
      · have e1 : ¬ ((0 : Rat) < a ∨ a = 0) := by grind
        rw [if_neg e1]
        by_cases hb : (0 : Rat) ≤ b
        · have hab : a < b := by grind
          rw [if_pos (by grind), if_pos hab, if_pos hab, if_pos hb]
        · rw [if_neg (by grind), if_neg (by split <;> grind)]
    · simp only [if_pos h1, if_neg h2, List.append_nil, List.foldl_cons, List.foldl_nil, ownStep]
      by_cases ha : (0 : Rat) ≤ a
      · have hab : ¬ a < -1 := by grind
        rw [if_pos (by grind), if_neg hab, if_neg hab, if_pos ha]
      · rw [if_neg (by grind), if_neg (by split <;> grind)]
  · by_cases h2 : p.2 < c.nr
    · simp only [if_neg h1, if_pos h2, List.nil_append, List.foldl_cons, List.foldl_nil, ownStep]
      by_cases hb : (0 : Rat) ≤ b
      · have hab : (-1 : Rat) < b := by grind
        rw [if_pos (by grind), if_pos hab, if_pos hab, if_pos hb]
      · rw [if_neg (by grind), if_neg (by split <;> grind)]
    · simp only [if_neg h1, if_neg h2, List.append_nil, List.foldl_nil]
      rw [if_neg (by split <;> grind)]
theorem own_t {b x : Nat × Rat} (hb : (decide (b.2 < x.2) || decide ((b.1 : Int) = 0) && PyData.eqv (fracD x.2) (fracD 0)) = true) : ownStep b x = x := by
  unfold ownStep
  rw [if_pos]
  rw [fracD_eqv] at hb
  simp only [Bool.or_eq_true, Bool.and_eq_true, decide_eq_true_eq] at hb
  rcases hb with z | ⟨z, z2⟩
  · exact .inl z
  · exact .inr ⟨by omega, z2⟩
theorem own_f {b x : Nat × Rat} (hb : (decide (b.2 < x.2) || decide ((b.1 : Int) = 0) && PyData.eqv (fracD x.2) (fracD 0)) = false) : ownStep b x = b := by
  unfold ownStep
  rw [if_neg]
  rw [fracD_eqv] at hb
  simp only [Bool.or_eq_false_iff, Bool.and_eq_false_iff, decide_eq_false_iff_not] at hb
  rintro (z | ⟨z, z2⟩)
  · exact hb.1 z
  · rcases hb.2 with w | w
    · exact w (by omega)
    · exact w z2
def Cf.routeT (c : Cf) (r : Spot → Nat → Nat) : Ty := tupT (c.spots.map fun p => tupT ((List.range c.nk).map fun k => nT (r p k)))
theorem spots_has {c : Cf} {p : Spot} : p ∈ c.spots ↔ c.has p := by
  obtain ⟨a, b⟩ := p
  unfold Cf.spots Cf.has
  simp [List.mem_flatMap]
  omega
section
variable {tb : List Addr} {X : Cx} {G : List Slt} {N : List Str} {sc : Scope} {k : Nat} {pos : Pos} {C : Addr}
abbrev sc49 : Scope := defScope (topS 49)
abbrev nm49 : List Str := ["counter", "neighbour", "kind", "spot", "rows", "best", "choice", "gain"]
theorem fs49 : FnScope nm49 ["counter", "neighbour", "kind", "spot"] sc49 := ⟨rfl, rfl, rfl, by decide +kernel, rfl, by decide +kernel, by decide +kernel⟩
abbrev Ok_own_choice (ev : Ev) (tb : List Addr) (C : Addr) : Prop := DefOk ev tb "own_choice" 5 (fun a : Cf × Nat × Spot => [cT C a.1, nbT a.1, intT (a.2.1 : Int), spT a.2.2]) (fun a => a.1.Ok ∧ a.2.1 < a.1.nk ∧ a.1.has a.2.2) (fun a => nT (a.1.ownC a.2.1 a.2.2))
theorem ownRows_dn {c : Cf} (hc : c.Ok) {k : Nat} {p : Spot} (hp : c.has p) : ∀ a ∈ c.ownRows k p, Bd 10 a.2 := by
  intro a ha
  have h1 := hc.b1; have h2 := hc.b10; have h3 := hc.s1; have h4 := hc.s10; have h5 := hc.r2; have h6 := hc.n3
  unfold Cf.ownRows at ha
  rcases List.mem_append.mp ha with ha | ha
  · split at ha
    · rw [List.mem_singleton] at ha
      subst ha
      exact (Cf.dn_ownG hc (by have := hp.1; omega) (by omega) h2).bd (by omega) (by decide)
    · cases ha
  · split at ha
    · rw [List.mem_singleton] at ha
      subst ha
      exact (Cf.dn_ownG hc (by have := hp.2; omega) (by omega) h4).bd (by omega) (by decide)
    · cases ha
theorem ownFold_bd {l : List (Nat × Rat)} (h : ∀ a ∈ l, Bd 10 a.2) {b : Nat × Rat} (hb : Bd 10 b.2) : Bd 10 (l.foldl ownStep b).2 := by
  induction l generalizing b with
  | nil => exact hb
  | cons a l ih =>
    rw [List.foldl_cons]
    refine ih (fun x hx => h x (by simp [hx])) ?_
    unfold ownStep
    split
    · exact h a (by simp)
    · exact hb
theorem b49 (h : CxD X nm49 sc49 k) (hk : 4 ≤ k) (P : Px (evX X) C) (D_less : Ok_is_less (evX X) tb) (D1 : Ok_own_gain (evX X) tb C) (D2 : Ok_own_there (evX X) tb C) (c : Cf) (hc : c.Ok) (i : Nat) (p : Spot) (hi : i < c.nk) (hp : c.has p) :
    SS tb X [.v (cT C c), .v (nbT c), .v (intT (i : Int)), .v (spT p), .no, .no, .no, .no] (defBody (topS 49)) (Gv (nT (c.ownC i p))) := by
  have e1 : decide ((p.1 : Int) < (c.room : Int)) = decide (p.1 < c.room) := by rw [decide_eq_decide]; omega
  have e2 : decide ((p.2 : Int) < (c.nr : Int)) = decide (p.2 < c.nr) := by rw [decide_eq_decide]; omega
  have h5 := hc.r2; have h6 := hc.n3; have hp1 := hp.1; have hp2 := hp.2
  have bz : Bd 10 (0 : Rat) := ⟨by decide, by decide⟩
  refine (ss_cons (s_set h 4 (es_own (el_lst ea_nil))
   (ss_ifJ [.v (cT C c), .v (nbT c), .v (intT (i : Int)), .v (spT p), .own ((if p.1 < c.room then [(1, c.ownG i p.1 c.t1)] else []).map lineT), .no, .no, .no] (eb_lt (e_ixT (e_sub (e_var h 3) key_tup) e_int rfl) (e_fld h 0 (e_var h 0) P.cl))
     (fun hb => (ss_one (s_append h 4 (e_tup (ea_cons (e_glob h P.T.gHERE) (ea_cons (e_c3 h D1 (c, i, p.1) (e_var h 0) (e_var h 2) (e_ixT (e_sub (e_var h 3) key_tup) e_int rfl) ⟨hc, hi, by show p.1 ≤ 3; omega⟩) ea_nil))) ?_ ?_))) (fun hb => ?_)
    (ss_ifJ [.v (cT C c), .v (nbT c), .v (intT (i : Int)), .v (spT p), .own ((c.ownRows i p).map lineT), .no, .no, .no] (eb_lt (e_ixT (e_sub (e_var h 3) key_tup) e_int rfl) (e_ixT (e_var h 1) e_int rfl))
     (fun hb => (ss_one (s_append h 4 (e_tup (ea_cons (e_glob h P.T.gTHERE) (ea_cons (e_c4 h D2 (c, i, p.2) (e_var h 0) (e_var h 1) (e_var h 2) (e_ixT (e_sub (e_var h 3) key_tup) e_int rfl) ⟨hc, hi, by show p.2 ≤ 3; omega⟩) ea_nil))) ?_ ?_))) (fun hb => ?_)
     (ss_freeze 4 (ss_cons (s_set h 5 (es_v (e_tup (ea_cons (e_glob h P.T.gAWAY) (ea_cons (e_glob h P.T.gNONE) ea_nil))))
      (ss_cons (s_fold h (it_list (e_var h 4)) (fun b G1 => ∃ s t, G1 = [.v (cT C c), .v (nbT c), .v (intT (i : Int)), .v (spT p), .v (lstT ((c.ownRows i p).map lineT)), .v (lineT b), s, t]) ownStep (0, 0) ⟨_, _, rfl⟩ (fun pre x post G1 e iv => ?_) (fun G1 iv => ?_))))))))))
  · rw [e1] at hb
    rw [if_pos (of_decide_eq_true hb)]
    rfl
  · exact small1000 (Nat.zero_le _)
  · rw [e1] at hb
    rw [if_neg (of_decide_eq_false hb)]
    rfl
  · rw [e2] at hb
    unfold Cf.ownRows
    rw [if_pos (of_decide_eq_true hb), List.map_append]
    rfl
  · refine small1000 ?_
    rw [List.length_map]
    split <;> simp
  · rw [e2] at hb
    unfold Cf.ownRows
    rw [if_neg (of_decide_eq_false hb), List.append_nil]
  · obtain ⟨s, t, rfl⟩ := iv
    have hx : Bd 10 x.2 := ownRows_dn hc hp x (by rw [e]; simp)
    have hb0 : Bd 10 (pre.foldl ownStep (0, 0)).2 := ownFold_bd (fun a ha => ownRows_dn hc hp a (by rw [e]; simp [ha])) bz
    generalize pre.foldl ownStep (0, 0) = b at *
    refine ⟨_, _, (tg_tup h (tgs_cons (tg_name h 6) (tgs_cons (tg_name h 7) tgs_nil))), ?_⟩
    refine (ss_one (s_if (EW.eb (ew_or (eb_val (e_two (j := 1) h D_less (e_ixT (e_var h 5) e_int rfl) (e_var h 7) (FitW.mk hb0 hx (by decide)))) (fun hc => (ew_or1 (EW.eb (ew_and (eb_eqI (e_ixT (e_var h 5) e_int rfl) (e_glob h P.T.gAWAY)) (fun hc => (ew_and1 (eb_eqD h (e_var h 7) (e_glob h P.T.gNONE) (dat_frac _) (dat_frac _) (fracD_shaped _) (fracD_shaped _))))))))))
      (fun hb => (ss_one (s_set h 5 (es_v (e_tup (ea_cons (e_var h 6) (ea_cons (e_var h 7) ea_nil)))) ⟨_, _, by rw [own_t hb]; rfl⟩))) (fun hb => (ss_nil ⟨_, _, by rw [own_f hb]; rfl⟩))))
  · obtain ⟨s, t, rfl⟩ := iv
    refine (ss_one (s_ret (e_ixT (e_var h 5) e_int rfl) (Sub.of_eq ?_)))
    rw [ownC_eq]
    rfl
end
end JL

set_option Elab.async false
set_option linter.all false
set_option maxRecDepth 100000
set_option maxHeartbeats 4000000
set_option autoImplicit false
/-! Objects are made; the own route. -/
namespace JL
open PySem PySem.Spec PyProof.Rows L2
section
variable {tb : List Addr} {X : Cx} {G : List Slt} {N : List Str} {sc : Scope} {k : Nat} {pos : Pos} {C : Addr}
theorem eb_chain {op op' : CmpOp} {a b c : Expr} {i j l : Int} {p p' : Int → Int → Bool} (ho : OpR X (compareOp op) (rI0 fun i j => .bl (p i j))) (ho' : OpR X (compareOp op') (rI0 fun i j => .bl (p' i j)))
    (ha : E tb X G a (intT i)) (hb : E tb X G b (intT j)) (hc : E tb X G c (intT l)) (hm : lastMarks [op, op'] [b, c] = false) : EB tb X G (.Compare a [op, op'] [b, c] pos) (p i j && p' j l) :=
  fun B σ F H Q hs q => bwp_of (pt_chain ho ho' (pe_wp a) (pe_wp b) (pe_wp c) hm) (e2 ha hb hs fun x y F1 H1 x1 t u => ⟨i, j, t, u, p i j, rfl, by
    cases e : p i j with
    | true => exact iteT (hc B σ F1 H1 _ (hs.up x1) fun z F2 H2 x2 w => ⟨j, l, u, w, p' j l, rfl, by rw [e] at q; exact q F2 H2 (x1.trans x2)⟩)
    | false => exact iteF ⟨false, rfl, by rw [e] at q; exact q F1 H1 x1⟩⟩)
abbrev sc28_1 : Scope := defScope (inClass (topS 28) 1)
abbrev nm28_1 : List Str := ["self", "room", "tenths", "cost", "kinds", "kind"]
theorem fs28_1 : FnScope nm28_1 ["self", "room", "tenths", "cost", "kinds"] sc28_1 := ⟨rfl, rfl, rfl, by decide +kernel, rfl, by decide +kernel, by decide +kernel⟩
abbrev Mk_Counter (ev : Ev) (tb : List Addr) (C : Addr) : Prop := MakeOk ev tb "Counter" C 3 (fun c : Cf => c.parts_) Cf.Ok (fun c => c.slots_)
theorem b28_1 (h : CxD X nm28_1 sc28_1 k) (hk : 2 ≤ k) (P : Px (evX X) C) (D1 : Ok_is_integer (evX X) tb) (D2 : Ok_is_kind (evX X) tb) (c : Cf) (hc : c.Ok) :
    SI tb X [.v anyT, .v (intT (c.room : Int)), .v (tupT [intT (c.t0 : Int), intT (c.t1 : Int)]), .v (intT (c.cost : Int)), .v (tupT (c.kinds.map kindT)), .no] C [] (defBody (inClass (topS 28) 1)) c.slots_ := by
  have a1 := hc.r1; have a2 := hc.r2; have a3 := hc.a1; have a4 := hc.a9; have a5 := hc.b1; have a6 := hc.b10; have a7 := hc.c1; have a8 := hc.c4; have a9 := hc.k1; have a10 := hc.k3
  refine (si_ifNo (eb_not (eb_val (e_isInt h D1 (e_var h 1) e_int (e_glob h P.T.gMAX_ROOM))))
   (si_ifNo (EW.eb (ew_or (eb_not (eb_val (e_isi h (e_var h 2) typed_tup (e_bltn (S := "tuple") h P.T.tuple) (if_pos (by decide)) P.T.isinstance))) (fun hc => (ew_or1 (eb_neI (e_len h (e_var h 2) (.tup _) P.T.len) e_int)))))
    (si_ifNo (EW.eb (ew_or (eb_not (eb_val (e_isInt h D1 (e_ixT (e_var h 2) e_int rfl) e_int (e_glob h P.T.gMAX_COME)))) (fun hc => (ew_or1 (eb_not (eb_val (e_isInt h D1 (e_ixT (e_var h 2) e_int rfl) e_int (e_glob h P.T.gMAX_SERVE))))))))
     (si_ifNo (eb_not (eb_val (e_isInt h D1 (e_var h 3) e_int (e_glob h P.T.gMAX_COST))))
      (si_ifNo (EW.eb (ew_or (eb_not (eb_val (e_isi h (e_var h 4) typed_tup (e_bltn (S := "tuple") h P.T.tuple) (if_pos (by decide)) P.T.isinstance))) (fun hc => (ew_or1 (eb_not (eb_chain op_le op_le e_int (e_len h (e_var h 4) (.tup _) P.T.len) (e_glob h P.T.gMAX_KINDS) rfl))))))
       (si_ifNo (eb_not (eb_val (e_all h (bs := c.kinds.map fun _ => true) (e_eq (e_of_el (LCR.el h (lc_of h (R := fun _ => boolT true) [("kind", 5)] (it_tup (e_var h 4)) (fun s H C cl fp h' x hx => (tg_name h' 5)) (fun s H C' cl fp h' x hx => (e_c1 h' D2 x (e_var h' 5) (hc.kp x hx))) (by omega)))) (by rw [List.map_map]; rfl)) P.T.all)))
        (si_set h 0 P.cl (ei (e_var h 1)) rfl (si_set h 2 P.cl (ei (e_var h 2)) rfl (si_set h 1 P.cl (ei (e_var h 3)) rfl (si_set h 3 P.cl (ei (e_var h 4)) rfl (si_end (by simp))))))
        ?_) ?_) ?_) ?_) rfl) ?_)
  · simp
  · rw [List.length_map]
    simp
    omega
  · unfold inR; simp; omega
  · unfold inR; simp; omega
  · unfold inR; simp; omega
abbrev sc55_1 : Scope := defScope (inClass (topS 55) 1)
abbrev nm55_1 : List Str := ["self", "route", "potentials"]
theorem fs55_1 : FnScope nm55_1 ["self", "route", "potentials"] sc55_1 := ⟨rfl, rfl, rfl, by decide +kernel, rfl, by decide +kernel, by decide +kernel⟩
/-- a route and potentials, of any kind -/
abbrev Mk_Best (ev : Ev) (tb : List Addr) (CB : Addr) : Prop := MakeOk ev tb "BestRoute" CB 1 (fun a : Ty × Ty => [a.1, a.2]) (fun _ => True) (fun a => [a.2, a.1])
theorem b55_1 (h : CxD X nm55_1 sc55_1 k) (cl : ClsOk X.K C ["potentials", "route"]) (T U : Ty) : SI tb X [.v anyT, .v T, .v U] C [] (defBody (inClass (topS 55) 1)) [U, T] :=
  (si_set h 1 cl (ei (e_var h 1)) rfl (si_set h 0 cl (ei (e_var h 2)) rfl (si_end (by simp))))
end
end JL

set_option Elab.async false
set_option linter.all false
set_option maxRecDepth 100000
set_option maxHeartbeats 4000000
set_option autoImplicit false
/-! What follows upon a spot, plainly. -/
namespace JL
/-- for each kind at each spot a choice -/
abbrev Rt := Spot → Nat → Nat
def Cf.vr (c : Cf) (r : Rt) : Prop := ∀ p, c.has p → ∀ k, k < c.nk → r p k ∈ c.able p
def Cf.rowsAt (c : Cf) (r : Rt) (s : Spot) : List (Nat × Rat × Nat) := (0, c.nobody, 0) :: c.chances.zipIdx.map fun a => (r s a.2, a.1, if r s a.2 ≠ 0 then c.gain a.2 else 0)
def Cf.mv (c : Cf) (r : Rt) (p : Spot) : List (Spot × Rat × Nat) := (c.seen p).flatMap fun s => (c.rowsAt r s.1).map fun a => (joined s.1 a.1, s.2 * a.2.1, a.2.2)
def spK (p : Spot) : List Int := [(p.1 : Int), (p.2 : Int)]
theorem spK_inj {p q : Spot} (h : spK p = spK q) : p = q := by
  unfold spK at h
  simp at h
  exact Prod.ext (by omega) (by omega)
def getQ (kvs : List (List Int × Rat)) (ks : List Int) : Rat := (dvAt kvs ks).getD 0
abbrev FSt := List (List Int × Rat) × Rat
def Cf.fstep (c : Cf) (f : FSt) (a : Spot × Rat × Nat) : FSt := (dvPut f.1 (spK a.1) (getQ f.1 (spK a.1) + a.2.1), f.2 + a.2.1 * (((a.2.2 : Int) : Rat) - c.paid a.1))
def Cf.fol (c : Cf) (r : Rt) (p : Spot) : FSt := (c.mv r p).foldl c.fstep ([], 0)
theorem dvAt_put {α : Type} (kvs : List (List Int × α)) (ks ks' : List Int) (x : α) : dvAt (dvPut kvs ks x) ks' = if ks = ks' then some x else dvAt kvs ks' := by
  unfold dvPut
  by_cases hany : (kvs.any fun p => decide (p.1 = ks)) = true
  · rw [if_pos hany]
    induction kvs with
    | nil => cases hany
    | cons a kvs ih =>
      by_cases ha : a.1 = ks
      · by_cases hk : ks = ks'
        · rw [if_pos hk]; unfold dvAt; simp [ha, hk]
        · rw [if_neg hk]
          have e1 : dvAt (a :: kvs) ks' = dvAt kvs ks' := by unfold dvAt; simp [ha, hk]
          rw [e1, List.map_cons, if_pos ha]
          have e2 : ∀ l : List (List Int × α), dvAt ((a.1, x) :: l) ks' = dvAt l ks' := fun l => by unfold dvAt; simp [ha, hk]
          rw [e2]
          clear ih hany
          induction kvs with
          | nil => rfl
          | cons b kvs ih2 =>
            rw [List.map_cons]
            by_cases hb : b.1 = ks
            · rw [if_pos hb]
              have e3 : ∀ (l : List (List Int × α)) (y : α), dvAt ((b.1, y) :: l) ks' = dvAt l ks' := fun l y => by unfold dvAt; simp [hb, hk]
              rw [e3]
              have e4 : dvAt (b :: kvs) ks' = dvAt kvs ks' := e3 kvs b.2
              rw [e4]
              exact ih2 (by have := e1; unfold dvAt at this ⊢; simp [ha, hk])
            · rw [if_neg hb]
              by_cases hc : b.1 = ks'
              · unfold dvAt; simp [hc]
              · have e3 : ∀ (l : List (List Int × α)), dvAt (b :: l) ks' = dvAt l ks' := fun l => by unfold dvAt; simp [hc]
                rw [e3, e3]
                exact ih2 (by unfold dvAt; simp [ha, hk])
      · rw [List.map_cons, if_neg ha]
        have hany' : (kvs.any fun p => decide (p.1 = ks)) = true := by simpa [ha] using hany
        by_cases hk : a.1 = ks'
        · have hne : ¬ ks = ks' := fun z => ha (hk.trans z.symm)
          rw [if_neg hne]
          unfold dvAt; simp [hk]
        · have e3 : ∀ (l : List (List Int × α)), dvAt (a :: l) ks' = dvAt l ks' := fun l => by unfold dvAt; simp [hk]
          rw [e3, e3]
          exact ih hany'
  · rw [if_neg hany]
    unfold dvAt
    rw [List.find?_append]
    by_cases hk : ks = ks'
    · rw [if_pos hk]
      have : (kvs.find? fun p => decide (p.1 = ks')) = none := by
        rw [List.find?_eq_none]
        intro a ha hq
        exact hany (List.any_eq_true.mpr ⟨a, ha, by rw [hk]; exact hq⟩)
      rw [this]
      simp [hk]
    · rw [if_neg hk]
      simp [hk]
theorem getQ_put (kvs : List (List Int × Rat)) (ks ks' : List Int) (x : Rat) : getQ (dvPut kvs ks x) ks' = if ks = ks' then x else getQ kvs ks' := by
  unfold getQ
  rw [dvAt_put]
  split <;> rfl
theorem dvAt_mapT {α β : Type} (f : α → β) (kvs : List (List Int × α)) (ks : List Int) : dvAt (kvs.map fun p => (p.1, f p.2)) ks = (dvAt kvs ks).map f := by
  induction kvs with
  | nil => rfl
  | cons a kvs ih =>
    by_cases h : a.1 = ks
    · unfold dvAt; simp [h]
    · have e1 : dvAt ((a :: kvs).map fun p => (p.1, f p.2)) ks = dvAt (kvs.map fun p => (p.1, f p.2)) ks := by unfold dvAt; simp [h]
      have e2 : dvAt (a :: kvs) ks = dvAt kvs ks := by unfold dvAt; simp [h]
      rw [e1, e2, ih]
theorem dvPut_mapT {α β : Type} (f : α → β) (kvs : List (List Int × α)) (ks : List Int) (x : α) : dvPut (kvs.map fun p => (p.1, f p.2)) ks (f x) = (dvPut kvs ks x).map fun p => (p.1, f p.2) := by
  unfold dvPut
  have e : ((kvs.map fun p => (p.1, f p.2)).any fun p => decide (p.1 = ks)) = (kvs.any fun p => decide (p.1 = ks)) := by rw [List.any_map]; rfl
  rw [e]
  split
  · rw [List.map_map, List.map_map]
    apply List.map_congr_left
    intro a _
    simp only [Function.comp]
    split <;> rfl
  · rw [List.map_append]
    rfl
theorem dvPut_len {α : Type} (kvs : List (List Int × α)) (ks : List Int) (x : α) : (dvPut kvs ks x).length ≤ kvs.length + 1 := by
  unfold dvPut
  split
  · rw [List.length_map]; omega
  · rw [List.length_append]; simp
end JL

set_option Elab.async false
set_option linter.all false
set_option maxRecDepth 100000
set_option maxHeartbeats 4000000
set_option autoImplicit false
/-! The own route; gains of moves, the best choice, what comes after. -/
namespace JL
open PySem PySem.Spec PyProof.Rows L2
theorem dvAt_spots {α : Type} (f : Spot → α) : ∀ {xs : List Spot} {p : Spot}, p ∈ xs → dvAt (xs.map fun p => (spK p, f p)) (spK p) = some (f p)
  | x :: xs, p, h => by
    unfold dvAt
    rw [List.map_cons, List.find?_cons]
    by_cases e : spK x = spK p
    · rw [decide_eq_true e]
      rw [spK_inj e]
      rfl
    · rw [decide_eq_false e]
      have : p ∈ xs := by
        rcases List.mem_cons.mp h with z | z
        · exact absurd (by rw [z]) e
        · exact z
      exact dvAt_spots f this
def Cf.potT (c : Cf) (h : Spot → Rat) : Ty := dctT (c.spots.map fun p => (spK p, fracT (h p)))
section
variable {tb : List Addr} {X : Cx} {G : List Slt} {N : List Str} {sc : Scope} {k : Nat} {pos : Pos} {C : Addr}
abbrev sc50 : Scope := defScope (topS 50)
abbrev nm50 : List Str := ["counter", "neighbour", "kinds", "rows", "spot", "kind"]
theorem fs50 : FnScope nm50 ["counter", "neighbour"] sc50 := ⟨rfl, rfl, rfl, by decide +kernel, rfl, by decide +kernel, by decide +kernel⟩
abbrev Ok_own_route (ev : Ev) (tb : List Addr) (C : Addr) : Prop := DefOk ev tb "own_route" 6 (fun c : Cf => [cT C c, nbT c]) Cf.Ok (fun c => c.routeT (fun p i => c.ownC i p))
theorem spots_le {c : Cf} (hc : c.Ok) : c.spots.length ≤ 9 := by rw [spots_length]; exact hc.sz
theorem b50 (h : CxD X nm50 sc50 k) (hf : ∀ x, X.fn x = true) (hk : 5 ≤ k) (P : Px (evX X) C) (D1 : Ok_check_neighbour (evX X) tb C) (D2 : Ok_clen (evX X) tb C) (D3 : Ok_pairs_of (evX X) tb C) (D4 : Ok_own_choice (evX X) tb C) (c : Cf) (hc : c.Ok) :
    SS tb X [.v (cT C c), .v (nbT c), .no, .no, .no, .no] (defBody (topS 50)) (Gv (c.routeT (fun p i => c.ownC i p))) := by
  have hn : c.nk ≤ 3 := hc.k3
  have hsp := spots_le hc
  refine (ss_cons (s_expr (e_c2 h D1 c (e_var h 0) (e_var h 1) hc)
   (ss_cons (s_par h 2 3 (es_v (e_listRange h (e_range1 h (e_lenO h P.cl D2 c (e_var h 0) hc rfl (by omega) P.T.len) P.T.range) (by omega) P.T.list)) (es_own (el_lst ea_nil))
    (ss_cons (s_forL h (it_list (e_c2 h D3 c (e_var h 0) (e_var h 1) hc)) (fun pre G1 => ∃ s, G1 = [.v (cT C c), .v (nbT c), .v (lstT ((List.range c.nk).map fun i => intT (i : Nat))), .own (pre.map fun p => tupT ((List.range c.nk).map fun k => nT (c.ownC k p))), s, .no]) ⟨_, rfl⟩ (fun pre x post G1 e iv => ?_) (fun G1 iv => ?_)))))))
  · obtain ⟨s, rfl⟩ := iv
    have hx : c.has x := spots_has.mp (by rw [e]; simp)
    have hl : pre.length ≤ 9 := by
      have := congrArg List.length e
      rw [List.length_append] at this
      omega
    exact ⟨_, _, (tg_cell h hf 4), (ss_one (s_append h 3 (e_tupleOf h (e_of_el (LCR.el h (lc_of h (R := fun i => nT (c.ownC i x)) [("kind", 5)] (it_list (e_var h 2)) (fun s H C cl fp h' x hx => (tg_name h' 5)) (fun s H C' cl fp h' i hi => (e_c4 h' D4 (c, i, x) (e_var h' 0) (e_var h' 1) (e_var h' 5) (e_var h' 4) ⟨hc, List.mem_range.mp hi, hx⟩)) (by rw [List.length_range]; omega)))) P.T.tuple)
      ⟨_, by rw [List.map_append]; rfl⟩ (small1000 (by rw [List.length_map]; omega))))⟩
  · obtain ⟨s, rfl⟩ := iv
    exact (ss_one (s_freeze 3 (s_ret (e_tupleOf h (e_var h 3) P.T.tuple) Sub.rfl)))
abbrev sc52 : Scope := defScope (topS 52)
abbrev nm52 : List Str := ["counter", "potentials", "seen", "pair", "kind", "choice", "later", "gain"]
theorem fs52 : FnScope nm52 ["counter", "potentials", "seen", "pair"] sc52 := ⟨rfl, rfl, rfl, by decide +kernel, rfl, by decide +kernel, by decide +kernel⟩
structure GbA where
  c : Cf
  h : Spot → Rat
  p : Spot
  k : Nat
  ch : Nat
abbrev Ok_gain_by (ev : Ev) (tb : List Addr) (C : Addr) : Prop := DefOk ev tb "gain_by" 3 (fun a : GbA => [cT C a.c, a.c.potT a.h, spT a.p, tupT [intT (a.k : Int), nT a.ch]]) (fun a => a.c.Ok ∧ a.k < a.c.nk ∧ a.c.has (joined a.p a.ch) ∧ ∃ d, PB a.c a.h d) (fun a => fracT (a.c.moveG a.h a.p a.k a.ch))
theorem b52 (h : CxD X nm52 sc52 k) (hk : 2 ≤ k) (P : Px (evX X) C) (D1 : Ok_joined_by (evX X) tb) (D2 : Ok_waiting (evX X) tb C) (D_plus : Ok_plus (evX X) tb) (D_minus : Ok_minus (evX X) tb) (c : Cf) (hc : c.Ok) (f : Spot → Rat) (p : Spot) (i ch : Nat) (hi : i < c.nk) (hp : c.has (joined p ch)) {d : Nat} (b : PB c f d) :
    SS tb X [.v (cT C c), .v (c.potT f), .v (spT p), .v (tupT [intT (i : Int), nT ch]), .no, .no, .no, .no] (defBody (topS 52)) (Gv (fracT (c.moveG f p i ch))) := by
  have e1 : decide ((ch : Int) ≠ 0) = decide (ch ≠ 0) := by rw [decide_eq_decide]; omega
  obtain ⟨s1, s2⟩ := has_small hc hp
  refine (ss_cons (s_asg (e_var h 3) (tg_tup h (tgs_cons (tg_name h 4) (tgs_cons (tg_name h 5) tgs_nil)))
   (ss_cons (s_set h 6 (es_v (e_c2 h D1 (p, ch) (e_var h 2) (e_var h 5) trivial))
    (ss_cons (s_set h 7 (es_v (e_ifExp (T := fracT (if ch ≠ 0 then ((c.gain i : Int) : Rat) else 0)) (eb_neI (e_var h 5) (e_glob h P.T.gAWAY)) (fun hc' => (e_eq (e_tup (ea_cons (e_gainAt h P (e_var h 0) (e_var h 4) hi) (ea_cons e_int ea_nil))) ?_)) (fun hc' => (e_eq (e_glob h P.T.gNONE) ?_))))
     (ss_one (s_ret (e_two h D_plus (e_var h 7) (e_two h D_minus (e_dget h (ks := spK (joined p ch)) (e_var h 1) (e_var h 6) (dvAt_spots (fun p => fracT (f p)) (spots_has.mpr hp))) (e_c2 h D2 (c, joined p ch) (e_var h 0) (e_var h 6) ⟨hc, s1, s2⟩) ?_) ?_) Sub.rfl))))))))
  · rw [e1] at hc'
    rw [if_pos (of_decide_eq_true hc')]
    exact fint_eq _
  · rw [e1] at hc'
    rw [if_neg (of_decide_eq_false hc')]
  · exact Fit.mk ((b.h _ hp).bdB (n := 1) 3 (by have := b.dB; omega) (Nat.le_refl _) (by decide) (by decide)) ((Cf.dn_paid hc s1 s2).bd (b := 5) (by decide) (by decide)) (by decide)
  · refine Fit.mk (a := 6) (b := 4360 + 6) ?_ ((dn_away hc b hp).bdB (n := 1) 6 (by have := b.dB; omega) (Nat.le_refl _) (by decide) (by decide)) (by decide)
    show Bd 6 (if ch ≠ 0 then ((c.gain i : Int) : Rat) else 0)
    split
    · exact (dn_int _).bd (by decide) (by rw [Int.natAbs_natCast]; have := Cf.gain_le hc i; omega)
    · exact ⟨by decide, by decide⟩
abbrev sc53 : Scope := defScope (topS 53)
abbrev nm53 : List Str := ["counter", "neighbour", "potentials", "spot", "kind", "best", "choice", "more"]
theorem fs53 : FnScope nm53 ["counter", "neighbour", "potentials", "spot", "kind"] sc53 := ⟨rfl, rfl, rfl, by decide +kernel, rfl, by decide +kernel, by decide +kernel⟩
structure BcA where
  c : Cf
  h : Spot → Rat
  p : Spot
  k : Nat
abbrev Ok_best_choice (ev : Ev) (tb : List Addr) (C : Addr) : Prop := DefOk ev tb "best_choice" 4 (fun a : BcA => [cT C a.c, nbT a.c, a.c.potT a.h, spT a.p, intT (a.k : Int)]) (fun a => a.c.Ok ∧ a.k < a.c.nk ∧ a.c.has a.p ∧ ∃ d, PB a.c a.h d) (fun a => nT (a.c.bestC a.h a.p a.k))
theorem moveG_bd {c : Cf} (hc : c.Ok) {h : Spot → Rat} {d : Nat} (b : PB c h d) {p : Spot} {k ch : Nat} (hp : c.has (joined p ch)) : Bd (4360 + 7) (c.moveG h p k ch) :=
  (dn_moveG hc b hp).bdB (n := 1) 7 (by have := b.dB; omega) (Nat.le_refl _) (by decide) (by decide)
theorem b53 (h : CxD X nm53 sc53 k) (hk : 3 ≤ k) (P : Px (evX X) C) (D1 : Ok_choices_at (evX X) tb C) (D2 : Ok_gain_by (evX X) tb C) (D_less : Ok_is_less (evX X) tb) (c : Cf) (hc : c.Ok) (f : Spot → Rat) (p : Spot) (i : Nat) (hi : i < c.nk) (hp : c.has p) {d : Nat} (b : PB c f d) :
    SS tb X [.v (cT C c), .v (nbT c), .v (c.potT f), .v (spT p), .v (intT (i : Int)), .no, .no, .no] (defBody (topS 53)) (Gv (nT (c.bestC f p i))) := by
  refine (ss_cons (s_set h 5 (es_v (e_glob h P.T.gAWAY))
   (ss_cons (s_fold h (it_list (e_c3 h D1 (c, p) (e_var h 0) (e_var h 1) (e_var h 3) trivial)) (fun (b : Nat) G1 => b ∈ c.able p ∧ ∃ s t, G1 = [.v (cT C c), .v (nbT c), .v (c.potT f), .v (spT p), .v (intT (i : Int)), .v (nT b), s, t]) (fun b ch => if c.moveG f p i b < c.moveG f p i ch then ch else b) 0 ⟨able_zero c p, _, _, rfl⟩ (fun pre x post G1 e iv => ?_) (fun G1 iv => ?_)))))
  · obtain ⟨hb, s, t, rfl⟩ := iv
    have hx : x ∈ c.able p := by rw [e]; simp
    generalize pre.foldl (fun b ch => if c.moveG f p i b < c.moveG f p i ch then ch else b) 0 = bb at *
    have b1 := moveG_bd hc b (k := i) (able_has hp hb)
    have b2 := moveG_bd hc b (k := i) (able_has hp hx)
    exact ⟨_, _, (tg_name h 6), (ss_cons (s_set h 7 (es_v (e_c4 h D2 ⟨c, f, p, i, x⟩ (e_var h 0) (e_var h 2) (e_var h 3) (e_tup (ea_cons (e_var h 4) (ea_cons (e_var h 6) ea_nil))) ⟨hc, hi, able_has hp hx, d, b⟩))
      (ss_one (s_if (eb_val (e_two (j := 1) h D_less (e_c4 h D2 ⟨c, f, p, i, bb⟩ (e_var h 0) (e_var h 2) (e_var h 3) (e_tup (ea_cons (e_var h 4) (ea_cons (e_var h 5) ea_nil))) ⟨hc, hi, able_has hp hb, d, b⟩) (e_var h 7) (FitW.mk b1 b2 (by decide)))) (fun hq =>
        (ss_one (s_set h 5 (es_v (e_var h 6)) (by have hq' : c.moveG f p i bb < c.moveG f p i x := of_decide_eq_true hq; rw [if_pos hq']; exact ⟨hx, _, _, rfl⟩)))) (fun hq =>
        (ss_nil (by have hq' : ¬ c.moveG f p i bb < c.moveG f p i x := of_decide_eq_false hq; rw [if_neg hq']; exact ⟨hb, _, _, rfl⟩)))))))⟩
  · obtain ⟨_, s, t, rfl⟩ := iv
    exact (ss_one (s_ret (e_var h 5) Sub.rfl))
abbrev sc54 : Scope := defScope (topS 54)
abbrev nm54 : List Str := ["counter", "neighbour", "potentials", "spot", "found", "kind", "chance", "choice"]
theorem fs54 : FnScope nm54 ["counter", "neighbour", "potentials", "spot"] sc54 := ⟨rfl, rfl, rfl, by decide +kernel, rfl, by decide +kernel, by decide +kernel⟩
structure AsA where
  c : Cf
  h : Spot → Rat
  p : Spot
abbrev Ok_after_seen (ev : Ev) (tb : List Addr) (C : Addr) : Prop := DefOk ev tb "after_seen" 5 (fun a : AsA => [cT C a.c, nbT a.c, a.c.potT a.h, spT a.p]) (fun a => a.c.Ok ∧ a.c.has a.p ∧ ∃ d, PB a.c a.h d) (fun a => fracT (a.c.afterG a.h a.p))
theorem b54 (h : CxD X nm54 sc54 k) (hk : 4 ≤ k) (P : Px (evX X) C) (D1 : Ok_nobody (evX X) tb C) (D2 : Ok_waiting (evX X) tb C) (D3 : Ok_chances (evX X) tb C) (D4 : Ok_best_choice (evX X) tb C) (D5 : Ok_gain_by (evX X) tb C) (D_plus : Ok_plus (evX X) tb) (D_minus : Ok_minus (evX X) tb) (D_times : Ok_times (evX X) tb)
    (c : Cf) (hc : c.Ok) (f : Spot → Rat) (p : Spot) (hp : c.has p) {d : Nat} (b : PB c f d) :
    SS tb X [.v (cT C c), .v (nbT c), .v (c.potT f), .v (spT p), .no, .no, .no, .no] (defBody (topS 54)) (Gv (fracT (c.afterG f p))) := by
  obtain ⟨s1, s2⟩ := has_small hc hp
  obtain ⟨n1, n2, n3⟩ := Cf.partsN_eq hc
  have hlen : c.chances.length ≤ 3 := by rw [Cf.chances_len]; exact hc.k3
  have hd := b.dB
  refine (ss_cons (s_set h 4 (es_v (e_two h D_times (e_meth0 h P.cl D1 c (e_var h 0) hc rfl) (e_two h D_minus (e_dget h (ks := spK p) (e_var h 2) (e_var h 3) (dvAt_spots (fun p => fracT (f p)) (spots_has.mpr hp))) (e_c2 h D2 (c, p) (e_var h 0) (e_var h 3) ⟨hc, s1, s2⟩) ?_) ?_))
   (ss_cons (s_fold h (it_enum h (e_meth0 h P.cl D3 c (e_var h 0) hc rfl) P.T.enumerate) (fun (acc : Rat) G1 => ∃ s t u, G1 = [.v (cT C c), .v (nbT c), .v (c.potT f), .v (spT p), .v (fracT acc), s, t, u]) (fun acc a => acc + a.1 * c.moveG f p a.2 (c.bestC f p a.2)) (c.nobody * (f p - c.paid p)) ⟨_, _, _, rfl⟩ (fun pre x post G1 e iv => ?_) (fun G1 iv => ?_)))))
  · exact Fit.mk ((b.h _ hp).bdB (n := 1) 3 (by omega) (Nat.le_refl _) (by decide) (by decide)) ((Cf.dn_paid hc s1 s2).bd (b := 5) (by decide) (by decide)) (by decide)
  · exact Fit.mk ((Cf.dn_nobody hc).bd (b := 5) (by decide) (by decide)) ((dn_away hc b hp).bdB (n := 1) 6 (by omega) (Nat.le_refl _) (by decide) (by decide)) (by decide)
  · obtain ⟨s, t, u, rfl⟩ := iv
    have hmem : ∀ a ∈ pre ++ x :: post, a.1 ∈ c.chances ∧ a.2 < c.nk := fun a ha => by
      rw [← e] at ha
      obtain ⟨i1, i2, i3⟩ := List.mem_zipIdx ha
      rw [← Cf.chances_len]
      exact ⟨by rw [i3]; exact List.getElem_mem _, by omega⟩
    have hplen : pre.length ≤ 3 := by
      have := congrArg List.length e
      rw [List.length_zipIdx, List.length_append] at this
      omega
    have hx := hmem x (by simp)
    have b1 := dn_after hc b hp pre (fun a ha => (hmem a (by simp [ha])).1) hplen
    have hadm := bestC_able f p x.2 (c := c)
    have b2 := moveG_bd hc b (k := x.2) (able_has hp hadm)
    have bt : Bd (4360 + 15) (x.1 * c.moveG f p x.2 (c.bestC f p x.2)) := ((Cf.dn_chances hc hx.1).mul (dn_moveG hc b (able_has hp hadm))).bdB (n := 180) (m := 3834) 15 (afterD hc b) (by omega) (by decide) (by decide)
    generalize pre.foldl (fun acc a => acc + a.1 * c.moveG f p a.2 (c.bestC f p a.2)) (c.nobody * (f p - c.paid p)) = acc at *
    refine ⟨_, _, (tg_tup h (tgs_cons (tg_name h 5) (tgs_cons (tg_name h 6) tgs_nil))), ?_⟩
    refine (ss_cons (s_set h 7 (es_v (e_call h D4 ⟨c, f, p, x.2⟩ (ea_cons (e_var h 0) (ea_cons (e_var h 1) (ea_cons (e_var h 2) (ea_cons (e_var h 3) (ea_cons (e_var h 5) ea_nil))))) ⟨hc, hx.2, hp, d, b⟩ rfl (by omega)))
      (ss_one (s_set h 4 (es_v (e_two h D_plus (e_var h 4) (e_two h D_times (e_var h 6) (e_c4 h D5 ⟨c, f, p, x.2, c.bestC f p x.2⟩ (e_var h 0) (e_var h 2) (e_var h 3) (e_tup (ea_cons (e_var h 5) (ea_cons (e_var h 7) ea_nil))) ⟨hc, hx.2, able_has hp hadm, d, b⟩) ?_) ?_)) ⟨_, _, _, rfl⟩))))
    · exact Fit.mk ((Cf.dn_chances hc hx.1).bd (b := 8) (by omega) (by decide)) b2 (by decide)
    · exact Fit.mk (b1.bdB (n := 180) (m := 22446) 15 (afterD hc b) (Nat.le_refl _) (by decide) (by decide)) bt (by decide)
  · obtain ⟨s, t, u, rfl⟩ := iv
    exact (ss_one (s_ret (e_var h 4) Sub.rfl))
end
end JL

set_option Elab.async false
set_option linter.all false
set_option maxRecDepth 100000
set_option maxHeartbeats 4000000
set_option autoImplicit false
/-! How large what follows is. -/
namespace JL
theorem line_le {s : Rat} {len : Nat} : ∀ a ∈ line s len, a.1 ≤ len := by
  unfold line
  intro a ha
  split at ha
  · rw [List.mem_singleton] at ha
    subst ha
    omega
  · rcases List.mem_cons.mp ha with rfl | ha
    · simp
    · rw [List.mem_singleton] at ha
      subst ha
      simp
theorem seen_mem {c : Cf} (hc : c.Ok) {p : Spot} (hp : c.has p) {s : Spot × Rat} (hs : s ∈ c.seen p) : c.has s.1 ∧ Dn 100 400 s.2 := by
  unfold Cf.seen at hs
  rw [List.mem_flatMap] at hs
  obtain ⟨a, ha, hs⟩ := hs
  obtain ⟨b, hb, rfl⟩ := List.mem_map.mp hs
  exact ⟨⟨Nat.le_trans (line_le a ha) hp.1, Nat.le_trans (line_le b hb) hp.2⟩, (line_dn (Cf.dn_served hc) a ha).mul (line_dn (Cf.dn_servedN hc) b hb)⟩
theorem seen_len (c : Cf) (p : Spot) : (c.seen p).length ≤ 4 := by
  unfold Cf.seen
  rw [List.length_flatMap]
  have e : (line c.served p.1).map (fun a => ((line c.servedN p.2).map fun b => ((a.1, b.1), a.2 * b.2)).length) = (line c.served p.1).map (fun _ => (line c.servedN p.2).length) := by simp
  rw [e, List.map_const', List.sum_replicate_nat]
  exact Nat.mul_le_mul (line_len c.served p.1) (line_len c.servedN p.2)
theorem rowsAt_len (c : Cf) (r : Rt) (s : Spot) : (c.rowsAt r s).length = c.nk + 1 := by
  unfold Cf.rowsAt
  rw [List.length_cons, List.length_map, List.length_zipIdx, Cf.chances_len]
theorem rowsAt_mem {c : Cf} (hc : c.Ok) {r : Rt} (hr : c.vr r) {s : Spot} (hs : c.has s) {a : Nat × Rat × Nat} (ha : a ∈ c.rowsAt r s) : a.1 ∈ c.able s ∧ Dn (10 * c.partsN) 342 a.2.1 ∧ a.2.2 ≤ 39 := by
  obtain ⟨p1, p2, p3⟩ := Cf.partsN_eq hc
  unfold Cf.rowsAt at ha
  rcases List.mem_cons.mp ha with rfl | ha
  · refine ⟨able_zero c s, ?_, Nat.zero_le _⟩
    exact ((Cf.dn_nobody hc).scale c.partsN (by omega)).mono (by omega)
  · obtain ⟨b, hb, rfl⟩ := List.mem_map.mp ha
    obtain ⟨i1, i2, i3⟩ := List.mem_zipIdx hb
    have hk : b.2 < c.nk := by rw [← Cf.chances_len]; omega
    refine ⟨hr s hs b.2 hk, (Cf.dn_chances hc (by rw [i3]; exact List.getElem_mem _)).mono (by decide), ?_⟩
    show (if r s b.2 ≠ 0 then c.gain b.2 else 0) ≤ 39
    have := Cf.gain_le hc b.2
    split <;> omega
def Cf.DD (c : Cf) : Nat := 100 * (10 * c.partsN)
theorem DD_le {c : Cf} (hc : c.Ok) : 0 < c.DD ∧ c.DD ≤ 18000 := by
  obtain ⟨p1, p2, p3⟩ := Cf.partsN_eq hc
  unfold Cf.DD
  omega
theorem mv_mem {c : Cf} (hc : c.Ok) {r : Rt} (hr : c.vr r) {p : Spot} (hp : c.has p) {a : Spot × Rat × Nat} (ha : a ∈ c.mv r p) : c.has a.1 ∧ Dn c.DD 136800 a.2.1 ∧ a.2.2 ≤ 39 := by
  unfold Cf.mv at ha
  rw [List.mem_flatMap] at ha
  obtain ⟨s, hs, ha⟩ := ha
  obtain ⟨b, hb, rfl⟩ := List.mem_map.mp ha
  obtain ⟨h1, h2⟩ := seen_mem hc hp hs
  obtain ⟨h3, h4, h5⟩ := rowsAt_mem hc hr h1 hb
  exact ⟨able_has h1 h3, h2.mul h4, h5⟩
theorem mv_len {c : Cf} (hc : c.Ok) (r : Rt) (p : Spot) : (c.mv r p).length ≤ 16 := by
  unfold Cf.mv
  rw [List.length_flatMap]
  have e : (c.seen p).map (fun s => ((c.rowsAt r s.1).map fun a => (joined s.1 a.1, s.2 * a.2.1, a.2.2)).length) = (c.seen p).map (fun _ => c.nk + 1) := by
    apply List.map_congr_left
    intro s _
    rw [List.length_map, rowsAt_len]
  rw [e, List.map_const', List.sum_replicate_nat]
  have h3 : c.nk ≤ 3 := hc.k3
  calc _ ≤ 4 * 4 := Nat.mul_le_mul (seen_len c p) (by omega)
    _ = 16 := rfl
theorem Dn.gap {D M : Nat} {q : Rat} (h : Dn D M q) {c : Cf} (hc : c.Ok) {p : Spot} (hp : c.has p) {m : Nat} (hm : m ≤ 39) : Dn D (M * 67) (q * (((m : Int) : Rat) - c.paid p)) := by
  obtain ⟨h1, h2⟩ := has_small hc hp
  have := h.mul ((dn_int (m : Int)).sub (Cf.dn_paid hc h1 h2))
  rw [Nat.mul_one] at this
  refine this.mono (Nat.mul_le_mul (Nat.le_refl _) ?_)
  rw [Int.natAbs_natCast]
  omega
/-- a fold's part -/
theorem fold_dn {c : Cf} (hc : c.Ok) (l : List (Spot × Rat × Nat)) (hl : ∀ a ∈ l, c.has a.1 ∧ Dn c.DD 136800 a.2.1 ∧ a.2.2 ≤ 39) :
    (∀ ks, Dn c.DD (136800 * l.length) (getQ (l.foldl c.fstep ([], 0)).1 ks)) ∧ Dn c.DD (136800 * 67 * l.length) (l.foldl c.fstep ([], 0)).2 ∧ (l.foldl c.fstep ([], 0)).1.length ≤ l.length := by
  have key : ∀ (l : List (Spot × Rat × Nat)) (m : Nat) (f : FSt), (∀ a ∈ l, c.has a.1 ∧ Dn c.DD 136800 a.2.1 ∧ a.2.2 ≤ 39) → (∀ ks, Dn c.DD (136800 * m) (getQ f.1 ks)) → Dn c.DD (136800 * 67 * m) f.2 → f.1.length ≤ m →
      (∀ ks, Dn c.DD (136800 * (m + l.length)) (getQ (l.foldl c.fstep f).1 ks)) ∧ Dn c.DD (136800 * 67 * (m + l.length)) (l.foldl c.fstep f).2 ∧ (l.foldl c.fstep f).1.length ≤ m + l.length := by
    intro l
    induction l with
    | nil => intro m f _ h1 h2 h3; exact ⟨h1, h2, h3⟩
    | cons a l ih =>
      intro m f hl h1 h2 h3
      obtain ⟨q1, q2, q3⟩ := hl a (by simp)
      rw [List.foldl_cons, List.length_cons, show m + (l.length + 1) = (m + 1) + l.length by omega]
      refine ih (m + 1) _ (fun x hx => hl x (by simp [hx])) (fun ks => ?_) ?_ ?_
      · show Dn c.DD (136800 * (m + 1)) (getQ (dvPut f.1 (spK a.1) (getQ f.1 (spK a.1) + a.2.1)) ks)
        rw [getQ_put]
        split
        · exact ((h1 _).add q2).mono (by omega)
        · exact (h1 ks).mono (by omega)
      · exact (h2.add (q2.gap hc q1 q3)).mono (by omega)
      · exact Nat.le_trans (dvPut_len _ _ _) (by omega)
  have := key l 0 ([], 0) hl (fun ks => (dn_zero (DD_le hc).1).mono (Nat.zero_le _)) ((dn_zero (DD_le hc).1).mono (Nat.zero_le _)) (Nat.le_refl _)
  rwa [Nat.zero_add] at this
theorem fold_bd {c : Cf} (hc : c.Ok) {r : Rt} (hr : c.vr r) {p : Spot} (hp : c.has p) {pre post : List (Spot × Rat × Nat)} (e : c.mv r p = pre ++ post) :
    (∀ ks, Bd 28 (getQ (pre.foldl c.fstep ([], 0)).1 ks)) ∧ Bd 28 (pre.foldl c.fstep ([], 0)).2 ∧ (pre.foldl c.fstep ([], 0)).1.length ≤ 16 := by
  have hlen : pre.length ≤ 16 := by
    have := mv_len hc r p
    rw [e, List.length_append] at this
    omega
  obtain ⟨h1, h2, h3⟩ := fold_dn hc pre fun a ha => mv_mem hc hr hp (by rw [e]; simp [ha])
  have hD := DD_le hc
  exact ⟨fun ks => (h1 ks).bd (by omega) (by omega), h2.bd (by omega) (by omega), by omega⟩
theorem share_bd {c : Cf} (hc : c.Ok) {r : Rt} (hr : c.vr r) {p : Spot} (hp : c.has p) {a : Spot × Rat × Nat} (ha : a ∈ c.mv r p) : c.has a.1 ∧ Bd 28 a.2.1 ∧ a.2.2 ≤ 39 ∧ Bd 28 (a.2.1 * (((a.2.2 : Int) : Rat) - c.paid a.1)) ∧ Bd 8 (((a.2.2 : Int) : Rat) - c.paid a.1) := by
  obtain ⟨q1, q2, q3⟩ := mv_mem hc hr hp ha
  have hD := DD_le hc
  obtain ⟨h1, h2⟩ := has_small hc q1
  refine ⟨q1, q2.bd (by omega) (by decide), q3, (q2.gap hc q1 q3).bd (by omega) (by decide), ((dn_int (a.2.2 : Int)).sub (Cf.dn_paid hc h1 h2)).bd (by decide) ?_⟩
  rw [Int.natAbs_natCast]
  omega
end JL

set_option Elab.async false
set_option linter.all false
set_option maxRecDepth 100000
set_option maxHeartbeats 4000000
set_option autoImplicit false
/-! Routings are made; what follows upon a spot. -/
namespace JL
open PySem PySem.Spec PyProof.Rows L2
theorem spots_nodup {c : Cf} (hc : c.Ok) : (c.spots.map spK).Nodup := by
  have a1 := hc.r1; have a2 := hc.r2; have a3 := hc.n1; have a4 := hc.n3
  have h1 : c.room = 1 ∨ c.room = 2 := by omega
  have h2 : c.nr = 1 ∨ c.nr = 2 ∨ c.nr = 3 := by omega
  unfold Cf.spots
  rcases h1 with h1 | h1 <;> rcases h2 with h2 | h2 | h2 <;> rw [h1, h2] <;> decide
theorem zip_map_self {α β γ : Type} (f : α → β) (g : α → γ) : ∀ xs : List α, (xs.map f).zip (xs.map g) = xs.map fun x => (f x, g x)
  | [] => rfl
  | x :: xs => by rw [List.map_cons, List.map_cons, List.map_cons, List.zip_cons_cons, zip_map_self f g xs]
def Cf.rowT (c : Cf) (r : Rt) (p : Spot) : Ty := tupT ((List.range c.nk).map fun k => nT (r p k))
/-- a routing of the class at R -/
abbrev RT (R C : Addr) (c : Cf) (Ts : List Ty) : Ty := objT R [dctT ((c.spots.map spK).zip Ts), cT C c, nbT c, lstT (c.spots.map spT)]
/-- what the top leaves of the class of routings -/
structure Qx (ev : Ev) (R : Addr) : Prop where
  cl : ClsOk ev.K R ["choices", "counter", "neighbour", "spots"]
section
variable {tb : List Addr} {X : Cx} {G : List Slt} {N : List Str} {sc : Scope} {k : Nat} {pos : Pos} {C R : Addr}
/-- dict(zip(xs, ys)) while an instance is built -/
theorem ei_dictZip (h : CxD X N sc k) {Us : List (Option Ty)} {a b : Expr} {ks : List (List Int)} {T : Ty} {Ts : List Ty} {p p2 q pos : Pos} (ha : EI tb X G C Us a (lstT (ks.map keyT))) (hb : E tb X G b T) (hq : IsSeq T Ts) (hl : ks.length = Ts.length) (hn : ks.Nodup) (hz : ks.length ≤ 1000) (hm : X.mg "dict" = none) (hm2 : X.mg "zip" = none)
    (hg : sc.names.lookup ("dict" : Str) = some .globalImplicit := by rfl) (hg2 : sc.names.lookup ("zip" : Str) = some .globalImplicit := by rfl) (hsa : NoStar a := by intro _ _; rfl) (hsb : NoStar b := by intro _ _; rfl) (hpl : (backTo q (starEach [b] X.env)).any (·.1) = false := by rfl) :
    EI tb X G C Us (.Call (.Name "dict" p) [.Call (.Name "zip" p2) [a, b] [] q] [] pos) (dctT (ks.zip Ts)) := fun B σ F H Q x dx wsU hs bd alU qq => by
  refine ewp_of (pe_dictZip h.hu (h.gl hg) hm (h.gl hg2) hm2 (pa_cons (pe_wp a) (pa_cons (pe_wp b) pa_nil (hsb [] X.env)) (hsa [b] X.env)) h.calm (hsa [b] X.env) hpl) ?_
  refine ha B σ F H _ x dx wsU hs bd alU fun v F1 H1 x1 t => hb B σ F1 H1 _ (hs.up x1) fun w F2 H2 x2 t2 => ?_
  obtain ⟨p1, vs, rfl, s, al⟩ := (lstT (ks.map keyT)).mono x2.ff t
  obtain ⟨p2, ws, rfl, s2, al2⟩ := hq.get t2
  obtain ⟨as, la, rfl, hk⟩ := al_keys al
  have e1 : ((ks.map keyOf).zip as).map (·.1) = ks.map keyOf := List.map_fst_zip (by rw [List.length_map]; omega)
  refine ⟨p1, p2, (ks.map keyOf).zip as, ws, rfl, ?_, ?_, ?_, ?_, ?_, ?_, fun l hp => ?_⟩
  · have e : ((ks.map keyOf).zip as).map (fun p => V.ref p.2) = as.map V.ref := by
      have : ((ks.map keyOf).zip as).map (·.2) = as := List.map_snd_zip (by rw [List.length_map]; omega)
      calc _ = (((ks.map keyOf).zip as).map (·.2)).map V.ref := by rw [List.map_map]; rfl
        _ = _ := by rw [this]
    rw [e]
    exact al_seq x2.fz s
  · rcases s2 with s2 | s2
    · exact .inl (al_seq x2.fz s2)
    · exact .inr (al_sqt x2.fz s2)
  · rw [List.length_zip, List.length_map, la, Nat.min_self, hl, al2.length]
  · rw [e1]; exact keyOf_nodup hn
  · rw [List.length_zip, List.length_map, la, Nat.min_self]; exact hz
  · exact fun p hp => (x2.fz _ _ (hk p hp)).1
  · rw [e1]
    have x3 := Ext.new x2.fz hp (o := .dT ((ks.map keyOf).zip ws)) (fun _ z => nomatch z)
    exact qq _ _ _ ((x1.trans x2).trans x3) ⟨l, _, rfl, upd_same, (alD_zip al2).up x3.ff⟩
abbrev sc51_1 : Scope := defScope (inClass (topS 51) 1)
abbrev nm51_1 : List Str := ["self", "counter", "neighbour", "route"]
theorem fs51_1 : FnScope nm51_1 ["self", "counter", "neighbour", "route"] sc51_1 := ⟨rfl, rfl, rfl, by decide +kernel, rfl, by decide +kernel, by decide +kernel⟩
abbrev Mk_Routing (ev : Ev) (tb : List Addr) (R C : Addr) : Prop := MakeOk ev tb "Routing" R 2 (fun a : Cf × List Ty => [cT C a.1, nbT a.1, tupT a.2]) (fun a => a.1.Ok ∧ a.2.length = a.1.spots.length) (fun a => [dctT ((a.1.spots.map spK).zip a.2), cT C a.1, nbT a.1, lstT (a.1.spots.map spT)])
theorem b51_1 (h : CxD X nm51_1 sc51_1 k) (hk : 1 ≤ k) (P : Px (evX X) C) (Q : Qx (evX X) R) (D : Ok_pairs_of (evX X) tb C) (c : Cf) (hc : c.Ok) (Ts : List Ty) (hT : Ts.length = c.spots.length) :
    SI tb X [.v anyT, .v (cT C c), .v (nbT c), .v (tupT Ts)] R [] (defBody (inClass (topS 51) 1)) [dctT ((c.spots.map spK).zip Ts), cT C c, nbT c, lstT (c.spots.map spT)] := by
  have hsp := spots_le hc
  refine (si_set h 1 Q.cl (ei (e_var h 1)) rfl (si_set h 2 Q.cl (ei (e_var h 2)) rfl (si_set h 3 Q.cl (ei (e_c2 h D c (e_var h 1) (e_var h 2) hc)) rfl
    (si_set h 0 Q.cl (ei_dictZip h (ks := c.spots.map spK) (T := tupT Ts) (ei_fld h 3 Q.cl (hT := by rw [List.map_map]; rfl)) (e_var h 3) (.tup _) (by rw [List.length_map, hT]) (spots_nodup hc) (by rw [List.length_map]; omega) P.T.dict P.T.zip) rfl (si_end (by simp))))))
end
end JL

set_option Elab.async false
set_option linter.all false
set_option maxRecDepth 100000
set_option maxHeartbeats 4000000
set_option autoImplicit false
/-! What follows upon a spot: the walk. -/
namespace JL
open PySem PySem.Spec PyProof.Rows L2
abbrev mapF (kvs : List (List Int × Rat)) : List (List Int × Ty) := kvs.map fun p => (p.1, fracT p.2)
theorem getT_some {kvs : List (List Int × Rat)} {ks : List Int} {U : Ty} (h : dvAt (mapF kvs) ks = some U) : Sub U (fracT (getQ kvs ks)) := by
  rw [dvAt_mapT] at h
  unfold getQ
  cases e : dvAt kvs ks with
  | none => rw [e] at h; cases h
  | some q => rw [e] at h; cases h; exact Sub.rfl
theorem getT_none {kvs : List (List Int × Rat)} {ks : List Int} (h : dvAt (mapF kvs) ks = none) : Sub (fracT 0) (fracT (getQ kvs ks)) := by
  rw [dvAt_mapT] at h
  unfold getQ
  cases e : dvAt kvs ks with
  | none => exact Sub.rfl
  | some q => rw [e] at h; cases h
theorem fstep_map (c : Cf) (f : FSt) (a : Spot × Rat × Nat) : mapF (c.fstep f a).1 = dvPut (mapF f.1) (spK a.1) (fracT (getQ f.1 (spK a.1) + a.2.1)) := (dvPut_mapT fracT f.1 (spK a.1) _).symm
def row3T (a : Nat × Rat × Nat) : Ty := tupT [nT a.1, fracT a.2.1, nT a.2.2]
/-- a routing of a route told by choices -/
abbrev RTr (R C : Addr) (c : Cf) (r : Rt) : Ty := RT R C c (c.spots.map (c.rowT r))
theorem dv_rows {c : Cf} {r : Rt} {p : Spot} (hp : c.has p) : dvAt ((c.spots.map spK).zip (c.spots.map (c.rowT r))) (spK p) = some (c.rowT r p) := by
  rw [zip_map_self]
  exact dvAt_spots (c.rowT r) (spots_has.mpr hp)
theorem rowT_at {c : Cf} {r : Rt} {p : Spot} {i : Nat} (hi : i < c.nk) : atI ((List.range c.nk).map fun k => nT (r p k)) (i : Int) = some (nT (r p i)) :=
  atI_ofNat (by rw [List.getElem?_map, List.getElem?_range hi]; rfl)
def Cf.rowsP (c : Cf) (r : Rt) (s : Spot) (l : List (Rat × Nat)) : List (Nat × Rat × Nat) := (0, c.nobody, 0) :: l.map fun a => (r s a.2, a.1, if r s a.2 ≠ 0 then c.gain a.2 else 0)
theorem rowsP_snoc (c : Cf) (r : Rt) (s : Spot) (l : List (Rat × Nat)) (y : Rat × Nat) : (c.rowsP r s (l ++ [y])).map row3T = (c.rowsP r s l).map row3T ++ [row3T (r s y.2, y.1, if r s y.2 ≠ 0 then c.gain y.2 else 0)] := by
  unfold Cf.rowsP
  rw [List.map_append, ← List.cons_append, List.map_append]
  rfl
theorem rowsP_len (c : Cf) (r : Rt) (s : Spot) (l : List (Rat × Nat)) : (c.rowsP r s l).length = l.length + 1 := by unfold Cf.rowsP; simp
structure FoA where
  c : Cf
  r : Rt
  p : Spot
section
variable {tb : List Addr} {X : Cx} {G : List Slt} {N : List Str} {sc : Scope} {k : Nat} {pos : Pos} {C R : Addr}
abbrev sc51_2 : Scope := defScope (inClass (topS 51) 2)
abbrev nm51_2 : List Str := ["self", "spot", "found", "gain", "seen", "chance", "rows", "kind", "part", "choice", "more", "later", "share"]
theorem fs51_2 : FnScope nm51_2 ["self", "spot"] sc51_2 := ⟨rfl, rfl, rfl, by decide +kernel, rfl, by decide +kernel, by decide +kernel⟩
abbrev folT (c : Cf) (r : Rt) (p : Spot) : Ty := tupT [dctT (mapF (c.fol r p).1), fracT (c.fol r p).2]
abbrev Ok_follow (ev : Ev) (tb : List Addr) (R C : Addr) : Prop := MethOk ev tb R "follow" 5 (fun a : FoA => [RTr R C a.c a.r, spT a.p]) (fun a => a.c.Ok ∧ a.c.vr a.r ∧ a.c.has a.p) (fun a => folT a.c a.r a.p)
theorem b51_2 (h : CxD X nm51_2 sc51_2 k) (hk : 4 ≤ k) (P : Px (evX X) C) (Q : Qx (evX X) R) (D1 : Ok_seen_after (evX X) tb C) (D2 : Ok_nobody (evX X) tb C) (D3 : Ok_chances (evX X) tb C) (D4 : Ok_joined_by (evX X) tb) (D5 : Ok_waiting (evX X) tb C) (D_plus : Ok_plus (evX X) tb) (D_minus : Ok_minus (evX X) tb) (D_times : Ok_times (evX X) tb)
    (c : Cf) (hc : c.Ok) (r : Rt) (hr : c.vr r) (p : Spot) (hp : c.has p) :
    SS tb X [.v (RTr R C c r), .v (spT p), .no, .no, .no, .no, .no, .no, .no, .no, .no, .no, .no] (defBody (inClass (topS 51) 2)) (Gv (folT c r p)) := by
  have h3 : c.nk ≤ 3 := hc.k3
  let g : Spot × Rat → List (Spot × Rat × Nat) := fun s => (c.rowsAt r s.1).map fun a => (joined s.1 a.1, s.2 * a.2.1, a.2.2)
  have hmv : c.mv r p = (c.seen p).flatMap g := rfl
  refine (ss_cons (s_par h 2 3 es_dnew (es_v (e_glob h P.T.gNONE))
   (ss_cons (s_forL h (it_list (e_c3 h D1 (c, p) (e_fld h 1 (e_var h 0) Q.cl) (e_fld h 2 (e_var h 0) Q.cl) (e_var h 1) hc))
     (fun pre G1 => ∃ s4 s5 s6 s7 s8 s9 s10 s11 s12, G1 = [.v (RTr R C c r), .v (spT p), .ownD (mapF ((pre.flatMap g).foldl c.fstep ([], 0)).1), .v (fracT ((pre.flatMap g).foldl c.fstep ([], 0)).2), s4, s5, s6, s7, s8, s9, s10, s11, s12]) ⟨_, _, _, _, _, _, _, _, _, rfl⟩ (fun pre x post G1 e iv => ?_) (fun G1 iv => ?_)))))
  · obtain ⟨s4, s5, s6, s7, s8, s9, s10, s11, s12, rfl⟩ := iv
    obtain ⟨hx, hxd⟩ := seen_mem hc hp (s := x) (by show x ∈ c.seen p; rw [show c.seen p = pre ++ x :: post from e]; simp)
    have hsplit : c.mv r p = pre.flatMap g ++ (g x ++ post.flatMap g) := by
      rw [hmv, show c.seen p = pre ++ x :: post from e, List.flatMap_append, List.flatMap_cons]
    refine ⟨_, _, (tg_tup h (tgs_cons (tg_name h 4) (tgs_cons (tg_name h 5) tgs_nil))), ?_⟩
    refine (ss_cons (s_set h 6 (es_own (el_lst (ea_cons (e_tup (ea_cons (e_glob h P.T.gAWAY) (ea_cons (e_meth0 h P.cl D2 c (e_fld h 1 (e_var h 0) Q.cl) hc rfl) (ea_cons e_int ea_nil)))) ea_nil)))
      (ss_cons (s_forL h (it_enum h (e_meth0 h P.cl D3 c (e_fld h 1 (e_var h 0) Q.cl) hc rfl) P.T.enumerate)
        (fun pre2 G1 => ∃ s7 s8 s9, G1 = [.v (RTr R C c r), .v (spT p), .ownD (mapF ((pre.flatMap g).foldl c.fstep ([], 0)).1), .v (fracT ((pre.flatMap g).foldl c.fstep ([], 0)).2), .v (spT x.1), .v (fracT x.2), .own ((c.rowsP r x.1 pre2).map row3T), s7, s8, s9, s10, s11, s12]) ⟨_, _, _, rfl⟩ (fun pre2 y post2 G2 e2 iv2 => ?_) (fun G2 iv2 => ?_)))))
    · obtain ⟨s7, s8, s9, rfl⟩ := iv2
      have hy : y ∈ c.chances.zipIdx := by rw [e2]; simp
      obtain ⟨i1, i2, i3⟩ := List.mem_zipIdx hy
      have hk2 : y.2 < c.nk := by rw [← Cf.chances_len]; omega
      have hl2 : pre2.length ≤ 3 := by
        have := congrArg List.length e2
        rw [List.length_zipIdx, List.length_append, Cf.chances_len] at this
        omega
      have ed : decide ((r x.1 y.2 : Int) ≠ 0) = decide (r x.1 y.2 ≠ 0) := by rw [decide_eq_decide]; omega
      exact ⟨_, _, (tg_tup h (tgs_cons (tg_name h 7) (tgs_cons (tg_name h 8) tgs_nil))),
        (ss_cons (s_set h 9 (es_v (e_ixT (e_dget h (ks := spK x.1) (e_fld h 0 (e_var h 0) Q.cl) (e_var h 4) (dv_rows hx)) (e_var h 7) (rowT_at hk2)))
         (ss_one (s_append h 6 (e_tup (ea_cons (e_var h 9) (ea_cons (e_var h 8) (ea_cons (e_ifExp (T := nT (if r x.1 y.2 ≠ 0 then c.gain y.2 else 0)) (eb_neI (e_var h 9) (e_glob h P.T.gAWAY)) (fun hq => (e_eq (e_gainAt h P (e_fld h 1 (e_var h 0) Q.cl) (e_var h 7) hk2) (by rw [ed] at hq; rw [if_pos (of_decide_eq_true hq)]; rfl))) (fun hq => (e_eq e_int (by rw [ed] at hq; rw [if_neg (of_decide_eq_false hq)]; rfl)))) ea_nil))))
           ⟨_, _, _, by rw [rowsP_snoc]; rfl⟩ (small1000 (by rw [List.length_map, rowsP_len]; omega))))))⟩
    · obtain ⟨s7, s8, s9, rfl⟩ := iv2
      refine (ss_freeze 6 (ss_one (s_forL h (it_list (xs := c.rowsAt r x.1) (T := row3T) (e_var h 6))
        (fun pre3 G1 => ∃ s7 s8 s9 s10 s11 s12, G1 = [.v (RTr R C c r), .v (spT p), .ownD (mapF ((pre.flatMap g ++ pre3.map fun a => (joined x.1 a.1, x.2 * a.2.1, a.2.2)).foldl c.fstep ([], 0)).1), .v (fracT ((pre.flatMap g ++ pre3.map fun a => (joined x.1 a.1, x.2 * a.2.1, a.2.2)).foldl c.fstep ([], 0)).2), .v (spT x.1), .v (fracT x.2), .v (lstT ((c.rowsAt r x.1).map row3T)), s7, s8, s9, s10, s11, s12]) ⟨_, _, _, _, _, _, by rw [List.map_nil, List.append_nil]; rfl⟩ (fun pre3 z post3 G3 e3 iv3 => ?_) (fun G3 iv3 => ?_))))
      · obtain ⟨s7, s8, s9, s10, s11, s12, rfl⟩ := iv3
        have hz : z ∈ c.rowsAt r x.1 := by rw [e3]; simp
        obtain ⟨z1, z2, z3⟩ := rowsAt_mem hc hr hx hz
        have hgx : g x = (pre3.map fun a => (joined x.1 a.1, x.2 * a.2.1, a.2.2)) ++ (joined x.1 z.1, x.2 * z.2.1, z.2.2) :: (post3.map fun a => (joined x.1 a.1, x.2 * a.2.1, a.2.2)) := by
          show (c.rowsAt r x.1).map _ = _
          rw [e3, List.map_append, List.map_cons]
        have hs2 : c.mv r p = (pre.flatMap g ++ pre3.map fun a => (joined x.1 a.1, x.2 * a.2.1, a.2.2)) ++ ((joined x.1 z.1, x.2 * z.2.1, z.2.2) :: ((post3.map fun a => (joined x.1 a.1, x.2 * a.2.1, a.2.2)) ++ post.flatMap g)) := by
          rw [hsplit, hgx]
          simp
        obtain ⟨f1, f2, f3⟩ := fold_bd hc hr hp hs2
        obtain ⟨w1, w2, w3, w4, w5⟩ := share_bd hc hr hp (a := (joined x.1 z.1, x.2 * z.2.1, z.2.2)) (by rw [hs2]; simp)
        obtain ⟨u1, u2⟩ := has_small hc w1
        have hD := Cf.partsN_eq hc
        have hstep : ∀ l : List (Spot × Rat × Nat), (l ++ pre3.map fun a => (joined x.1 a.1, x.2 * a.2.1, a.2.2)) ++ [(joined x.1 z.1, x.2 * z.2.1, z.2.2)] = l ++ (pre3 ++ [z]).map fun a => (joined x.1 a.1, x.2 * a.2.1, a.2.2) := fun l => by simp
        rw [← hstep]
        rw [List.foldl_append (l := pre.flatMap g ++ _)]
        generalize ((pre.flatMap g ++ pre3.map fun a => (joined x.1 a.1, x.2 * a.2.1, a.2.2)).foldl c.fstep ([], 0)) = f at *
        refine ⟨_, _, (tg_tup h (tgs_cons (tg_name h 9) (tgs_cons (tg_name h 8) (tgs_cons (tg_name h 10) tgs_nil)))), ?_⟩
        refine (ss_cons (s_par h 11 12 (es_v (e_c2 h D4 (x.1, z.1) (e_var h 4) (e_var h 9) trivial)) (es_v (e_two h D_times (e_var h 5) (e_var h 8) ?_))
          (ss_cons (s_dput h 2 (ks := spK (joined x.1 z.1)) (e_two h D_plus (e_dgetDOwn h 2 (T := fracT (getQ f.1 (spK (joined x.1 z.1)))) (ks := spK (joined x.1 z.1)) (e_var h 11) (e_glob h P.T.gNONE) (fun U => getT_some) getT_none) (e_var h 12) ?_) (e_var h 11) ?_
           (ss_one (s_set h 3 (es_v (e_two h D_plus (e_var h 3) (e_two h D_times (e_var h 12) (e_two h D_minus (e_eq (e_tup (ea_cons (e_var h 10) (ea_cons e_int ea_nil))) (fint_eq _)) (e_c2 h D5 (c, joined x.1 z.1) (e_fld h 1 (e_var h 0) Q.cl) (e_var h 11) ⟨hc, u1, u2⟩) ?_) ?_) ?_)) ⟨_, _, _, _, _, _, by rw [List.foldl_cons, List.foldl_nil, fstep_map]; rfl⟩))))))
        · exact hxd.fit z2 (a := 9) (b := 9) (by decide) (by decide) (by omega) (by decide) (by decide)
        · exact Fit.mk (f1 _) w2 (by decide)
        · exact small1000 (by rw [List.length_map]; omega)
        · exact Fit.mk ((dn_int _).bd (b := 6) (by decide) (by rw [Int.natAbs_natCast]; omega)) ((Cf.dn_paid hc u1 u2).bd (b := 5) (by decide) (by decide)) (by decide)
        · exact Fit.mk w2 w5 (by decide)
        · exact Fit.mk f2 w4 (by decide)
      · obtain ⟨s7, s8, s9, s10, s11, s12, rfl⟩ := iv3
        exact ⟨_, _, _, _, _, _, _, _, _, by rw [List.flatMap_append, List.flatMap_cons, List.flatMap_nil, List.append_nil]⟩
  · obtain ⟨s4, s5, s6, s7, s8, s9, s10, s11, s12, rfl⟩ := iv
    exact (ss_freezeD 2 (ss_one (s_ret (e_tup (ea_cons (e_var h 2) (ea_cons (e_var h 3) ea_nil))) Sub.rfl)))
end
end JL

set_option Elab.async false
set_option linter.all false
set_option maxRecDepth 100000
set_option maxHeartbeats 4000000
set_option autoImplicit false
/-! Sums; elimination, plainly. -/
namespace JL
def sumN : Nat → (Nat → Rat) → Rat
  | 0, _ => 0
  | n + 1, f => sumN n f + f n
theorem sumN_congr {n : Nat} {f g : Nat → Rat} (h : ∀ i, i < n → f i = g i) : sumN n f = sumN n g := by
  induction n with
  | zero => rfl
  | succ n ih => unfold sumN; rw [ih fun i hi => h i (by omega), h n (by omega)]
theorem sumN_add {n : Nat} (f g : Nat → Rat) : sumN n (fun i => f i + g i) = sumN n f + sumN n g := by
  induction n with
  | zero => show (0 : Rat) = 0 + 0; grind
  | succ n ih => unfold sumN; rw [ih]; grind
theorem sumN_mul {n : Nat} (c : Rat) (f : Nat → Rat) : sumN n (fun i => c * f i) = c * sumN n f := by
  induction n with
  | zero => simp [sumN]
  | succ n ih => unfold sumN; rw [ih]; grind
theorem sumN_sub {n : Nat} (f g : Nat → Rat) : sumN n (fun i => f i - g i) = sumN n f - sumN n g := by
  induction n with
  | zero => show (0 : Rat) = 0 - 0; grind
  | succ n ih => unfold sumN; rw [ih]; grind
theorem sumN_zero {n : Nat} : sumN n (fun _ => 0) = 0 := by
  induction n with
  | zero => rfl
  | succ n ih => unfold sumN; rw [ih]; grind
theorem sumN_zero' {n : Nat} {f : Nat → Rat} (h : ∀ i, i < n → f i = 0) : sumN n f = 0 := (sumN_congr h).trans sumN_zero
theorem sumN_one {n j : Nat} (hj : j < n) (f : Nat → Rat) : sumN n (fun i => if i = j then f i else 0) = f j := by
  induction n with
  | zero => omega
  | succ n ih =>
    show sumN n (fun i => if i = j then f i else 0) + (if n = j then f n else 0) = f j
    by_cases h : j = n
    · subst h
      rw [sumN_zero' fun i hi => by rw [if_neg (by omega)], if_pos rfl]
      grind
    · rw [ih (by omega), if_neg (by omega)]
      grind
theorem sumN_comm {n m : Nat} (f : Nat → Nat → Rat) : sumN n (fun i => sumN m (fun j => f i j)) = sumN m (fun j => sumN n (fun i => f i j)) := by
  induction n with
  | zero =>
    show (0 : Rat) = sumN m (fun j => 0)
    rw [sumN_zero]
  | succ n ih =>
    show sumN n (fun i => sumN m (fun j => f i j)) + sumN m (fun j => f n j) = sumN m (fun j => sumN n (fun i => f i j) + f n j)
    rw [ih, ← sumN_add]
theorem sumN_le {n : Nat} {f g : Nat → Rat} (h : ∀ i, i < n → f i ≤ g i) : sumN n f ≤ sumN n g := by
  induction n with
  | zero => exact Rat.le_refl
  | succ n ih =>
    unfold sumN
    have h1 := ih fun i hi => h i (by omega)
    have h2 := h n (by omega)
    grind
theorem sumN_nonneg {n : Nat} {f : Nat → Rat} (h : ∀ i, i < n → 0 ≤ f i) : 0 ≤ sumN n f := by
  have := sumN_le (f := fun _ => 0) h
  rwa [sumN_zero] at this
/-! ### elimination -/
abbrev Mx := Nat → Nat → Rat
def swapM (M : Mx) (a b : Nat) : Mx := fun i j => M (if i = a then b else if i = b then a else i) j
def normM (M : Mx) (c : Nat) : Mx := fun i j => if i = c then M c j / M c c else M i j
def elimM (M : Mx) (c : Nat) : Mx := fun i j => if i = c then M i j else M i j - M i c * M c j
def pivot (n c : Nat) (M : Mx) : Nat := ((List.range' c (n - c)).find? fun i => decide (M i c ≠ 0)).getD c
def gjStep (n c : Nat) (M : Mx) : Mx := elimM (normM (swapM M c (pivot n c M)) c) c
def gj (n : Nat) : Nat → Mx → Mx
  | 0, M => M
  | c + 1, M => gjStep n c (gj n c M)
/-- there is a pivot -/
def HasP (n c : Nat) (M : Mx) : Prop := ∃ i, c ≤ i ∧ i < n ∧ M i c ≠ 0
theorem pivot_ok {n c : Nat} {M : Mx} (h : HasP n c M) : c ≤ pivot n c M ∧ pivot n c M < n ∧ M (pivot n c M) c ≠ 0 ∧ ∀ i, c ≤ i → i < pivot n c M → M i c = 0 := by
  obtain ⟨i, h1, h2, h3⟩ := h
  unfold pivot
  cases e : (List.range' c (n - c)).find? fun i => decide (M i c ≠ 0) with
  | none =>
    rw [List.find?_eq_none] at e
    exact absurd (decide_eq_true h3) (e i (by rw [List.mem_range'_1]; omega))
  | some p =>
    have hp := List.find?_some e
    have hm := List.mem_of_find?_eq_some e
    rw [List.mem_range'_1] at hm
    rw [List.find?_eq_some_iff_getElem] at e
    obtain ⟨_, t, ht, et, hlt⟩ := e
    refine ⟨by show c ≤ p; omega, by show p < n; omega, of_decide_eq_true hp, fun i hi1 hi2 => ?_⟩
    have hi2' : i < p := hi2
    rw [List.getElem_range'] at et
    have := hlt (i - c) (by omega)
    rw [List.getElem_range'] at this
    have e2 : c + 1 * (i - c) = i := by omega
    rw [e2] at this
    simpa using this
def Ker (n : Nat) (M : Mx) (y : Nat → Rat) : Prop := ∀ i, i < n → sumN (n + 1) (fun j => M i j * y j) = 0
theorem ker_swap {n a b : Nat} (ha : a < n) (hb : b < n) (M : Mx) (y : Nat → Rat) : Ker n (swapM M a b) y ↔ Ker n M y := by
  constructor
  · intro h i hi
    by_cases h1 : i = a
    · have := h b hb
      unfold swapM at this
      by_cases h2 : b = a
      · rw [if_pos h2] at this; rw [h1]; rw [h2] at this; exact this
      · rw [if_neg h2, if_pos rfl] at this; rw [h1]; exact this
    · by_cases h2 : i = b
      · have := h a ha
        unfold swapM at this
        rw [if_pos rfl] at this
        rw [h2]; exact this
      · have := h i hi
        unfold swapM at this
        rw [if_neg h1, if_neg h2] at this
        exact this
  · intro h i hi
    unfold swapM
    split
    · exact h b hb
    · split
      · exact h a ha
      · exact h i hi
theorem ker_norm {n c : Nat} (hc : c < n) (M : Mx) (hp : M c c ≠ 0) (y : Nat → Rat) : Ker n (normM M c) y ↔ Ker n M y := by
  have e : sumN (n + 1) (fun j => normM M c c j * y j) = (1 / M c c) * sumN (n + 1) (fun j => M c j * y j) := by
    rw [← sumN_mul]
    apply sumN_congr
    intro j _
    unfold normM
    rw [if_pos rfl]
    grind
  constructor
  · intro h i hi
    by_cases h1 : i = c
    · subst h1
      have := h i hi
      rw [e] at this
      grind
    · have := h i hi
      unfold normM at this
      rw [show (fun j => (if i = c then M c j / M c c else M i j) * y j) = fun j => M i j * y j by funext j; rw [if_neg h1]] at this
      exact this
  · intro h i hi
    by_cases h1 : i = c
    · subst h1
      rw [e, h i hi]
      grind
    · unfold normM
      rw [show (fun j => (if i = c then M c j / M c c else M i j) * y j) = fun j => M i j * y j by funext j; rw [if_neg h1]]
      exact h i hi
theorem ker_elim {n c : Nat} (hc : c < n) (M : Mx) (y : Nat → Rat) : Ker n (elimM M c) y ↔ Ker n M y := by
  have ec : sumN (n + 1) (fun j => elimM M c c j * y j) = sumN (n + 1) (fun j => M c j * y j) := by
    apply sumN_congr
    intro j _
    unfold elimM
    rw [if_pos rfl]
  have e : ∀ i, i ≠ c → sumN (n + 1) (fun j => elimM M c i j * y j) = sumN (n + 1) (fun j => M i j * y j) - M i c * sumN (n + 1) (fun j => M c j * y j) := by
    intro i hi
    rw [← sumN_mul, ← sumN_sub]
    apply sumN_congr
    intro j _
    unfold elimM
    rw [if_neg hi]
    grind
  constructor
  · intro h i hi
    have h0 := h c hc
    rw [ec] at h0
    by_cases h1 : i = c
    · rw [h1]; exact h0
    · have := h i hi
      rw [e i h1, h0] at this
      grind
  · intro h i hi
    by_cases h1 : i = c
    · rw [h1, ec]; exact h c hc
    · rw [e i h1, h i hi, h c hc]
      grind
theorem ker_step {n c : Nat} {M : Mx} (h : HasP n c M) (y : Nat → Rat) : Ker n (gjStep n c M) y ↔ Ker n M y := by
  obtain ⟨p1, p2, p3, _⟩ := pivot_ok h
  have hc : c < n := by omega
  unfold gjStep
  rw [ker_elim hc, ker_norm hc, ker_swap hc p2]
  unfold swapM
  rw [if_pos rfl]
  exact p3
def DoneM (n c : Nat) (M : Mx) : Prop := ∀ i, i < n → ∀ j, j < c → M i j = if i = j then 1 else 0
theorem done_step {n c : Nat} {M : Mx} (h : HasP n c M) (d : DoneM n c M) : DoneM n (c + 1) (gjStep n c M) := by
  obtain ⟨p1, p2, p3, _⟩ := pivot_ok h
  generalize hpe : pivot n c M = p at *
  have hc : c < n := by omega
  intro i hi j hj
  unfold gjStep
  rw [hpe]
  have hcc : (swapM M c p) c c = M p c := by unfold swapM; rw [if_pos rfl]
  by_cases hjc : j = c
  · subst hjc
    unfold elimM normM
    by_cases h1 : i = j
    · rw [if_pos h1, if_pos h1, if_pos h1, hcc]
      grind
    · rw [if_neg h1, if_neg h1, if_neg h1, if_pos rfl, hcc]
      grind
  · have hjc' : j < c := by omega
    have sw : ∀ i, i < n → (swapM M c p) i j = if i = j then 1 else 0 := by
      intro i hi
      unfold swapM
      by_cases h1 : i = c
      · rw [if_pos h1, d p p2 j hjc', if_neg (by omega), if_neg (by omega)]
      · rw [if_neg h1]
        by_cases h2 : i = p
        · rw [if_pos h2, d c hc j hjc', if_neg (by omega), if_neg (by omega)]
        · rw [if_neg h2]
          exact d i hi j hjc'
    have rc : (swapM M c p) c j = 0 := by rw [sw c hc, if_neg (by omega)]
    unfold elimM normM
    by_cases h1 : i = c
    · rw [if_pos h1, if_pos h1, rc, if_neg (by omega)]
      grind
    · rw [if_neg h1, if_neg h1, if_pos rfl, rc, sw i hi]
      grind
/-- no solution but nought -/
def NonSing (n : Nat) (M : Mx) : Prop := ∀ y : Nat → Rat, (∀ i, i < n → sumN n (fun j => M i j * y j) = 0) → ∀ j, j < n → y j = 0
theorem hasP_of {n c : Nat} {M M0 : Mx} (hc : c < n) (ns : NonSing n M0) (d : DoneM n c M) (k : ∀ y, Ker n M y ↔ Ker n M0 y) : HasP n c M := by
  by_cases h : HasP n c M
  · exact h
  · exfalso
    have hz : ∀ i, c ≤ i → i < n → M i c = 0 := fun i h1 h2 => by
      by_cases z : M i c = 0
      · exact z
      · exact absurd ⟨i, h1, h2, z⟩ h
    let y : Nat → Rat := fun j => if j < c then - M j c else if j = c then 1 else 0
    have hy : Ker n M y := by
      intro i hi
      have e : ∀ j, j < n + 1 → M i j * y j = (if j = i then (if i < c then - M i c else 0) else 0) + (if j = c then M i c else 0) := by
        intro j hj
        show M i j * (if j < c then - M j c else if j = c then 1 else 0) = _
        by_cases h1 : j < c
        · rw [if_pos h1, d i hi j h1, if_neg (show ¬ j = c by omega)]
          by_cases h2 : i = j
          · subst h2
            rw [if_pos rfl, if_pos rfl, if_pos h1]
            grind
          · rw [if_neg h2, if_neg (Ne.symm h2)]
            grind
        · rw [if_neg h1]
          by_cases h2 : j = c
          · subst h2
            rw [if_pos rfl, if_pos rfl]
            by_cases h3 : j = i
            · rw [if_pos h3, if_neg (by omega)]
              grind
            · rw [if_neg h3]
              grind
          · rw [if_neg h2, if_neg h2]
            by_cases h3 : j = i
            · rw [if_pos h3, if_neg (by omega)]
              grind
            · rw [if_neg h3]
              grind
      rw [sumN_congr e, sumN_add, sumN_one (f := fun _ => if i < c then - M i c else 0) (by omega), sumN_one (f := fun _ => M i c) (by omega)]
      by_cases h1 : i < c
      · rw [if_pos h1]
        grind
      · rw [if_neg h1, hz i (by omega) hi]
        grind
    have h0 := (k y).mp hy
    have := ns y (fun i hi => by
      have := h0 i hi
      unfold sumN at this
      have e : y n = 0 := by
        show (if n < c then _ else if n = c then (1 : Rat) else 0) = 0
        rw [if_neg (by omega), if_neg (by omega)]
      dsimp only at this
      rw [e] at this
      grind) c hc
    have e : y c = 1 := by
      show (if c < c then _ else if c = c then (1 : Rat) else 0) = 1
      rw [if_neg (by omega), if_pos rfl]
    rw [e] at this
    grind
theorem gj_ok {n : Nat} {M : Mx} (ns : NonSing n M) : ∀ c, c ≤ n → DoneM n c (gj n c M) ∧ (∀ y, Ker n (gj n c M) y ↔ Ker n M y) ∧ (c < n → HasP n c (gj n c M)) := by
  intro c
  induction c with
  | zero =>
    intro _
    have d : DoneM n 0 M := fun _ _ j hj => by omega
    exact ⟨d, fun _ => Iff.rfl, fun h => hasP_of h ns d fun _ => Iff.rfl⟩
  | succ c ih =>
    intro hc
    obtain ⟨d, k, p⟩ := ih (by omega)
    have hp := p (by omega)
    have d' := done_step hp d
    have k' : ∀ y, Ker n (gj n (c + 1) M) y ↔ Ker n M y := fun y => (ker_step hp y).trans (k y)
    exact ⟨d', k', fun h => hasP_of h ns d' k'⟩
/-- what comes out solves it -/
theorem gj_solves {n : Nat} {M : Mx} (ns : NonSing n M) : ∀ i, i < n → sumN n (fun j => M i j * gj n n M j n) = M i n := by
  obtain ⟨d, k, _⟩ := gj_ok ns n (Nat.le_refl _)
  let y : Nat → Rat := fun j => if j < n then gj n n M j n else -1
  have hy : Ker n (gj n n M) y := by
    intro i hi
    unfold sumN
    have e : sumN n (fun j => gj n n M i j * y j) = sumN n (fun j => if j = i then gj n n M j n else 0) := by
      apply sumN_congr
      intro j hj
      show gj n n M i j * (if j < n then _ else _) = _
      rw [if_pos hj, d i hi j hj]
      by_cases h : i = j
      · rw [if_pos h, if_pos h.symm]; grind
      · rw [if_neg h, if_neg (Ne.symm h)]; grind
    rw [e, sumN_one hi]
    show _ + gj n n M i n * (if n < n then _ else _) = 0
    rw [if_neg (by omega)]
    grind
  intro i hi
  have := (k y).mp hy i hi
  unfold sumN at this
  have e : sumN n (fun j => M i j * y j) = sumN n (fun j => M i j * gj n n M j n) := by
    apply sumN_congr
    intro j hj
    show M i j * (if j < n then _ else _) = _
    rw [if_pos hj]
  rw [e] at this
  have e2 : y n = -1 := by
    show (if n < n then _ else (-1 : Rat)) = -1
    rw [if_neg (by omega)]
  dsimp only at this
  rw [e2] at this
  grind
end JL

set_option Elab.async false
set_option linter.all false
set_option maxRecDepth 100000
set_option maxHeartbeats 4000000
set_option autoImplicit false
/-! How large elimination's numbers are. -/
namespace JL
/-- all entries over one bottom -/
def BdM (n b : Nat) (M : Mx) : Prop := ∃ D, D ≤ 2 ^ b ∧ 0 < D ∧ ∀ i, i < n → (∀ j, j < n → Dn D (2 ^ b) (M i j)) ∧ Dn D (2 ^ (b + 6)) (M i n)
theorem pow_le {a b : Nat} (h : a ≤ b) : 2 ^ a ≤ 2 ^ b := Nat.pow_le_pow_right (by decide) h
theorem BdM.mono {n b b' : Nat} {M : Mx} (h : BdM n b M) (hb : b ≤ b') : BdM n b' M := by
  obtain ⟨D, h1, h2, h3⟩ := h
  exact ⟨D, Nat.le_trans h1 (pow_le hb), h2, fun i hi => ⟨fun j hj => ((h3 i hi).1 j hj).mono (pow_le hb), (h3 i hi).2.mono (pow_le (by omega))⟩⟩
theorem BdM.swap {n b x y : Nat} {M : Mx} (h : BdM n b M) (hx : x < n) (hy : y < n) : BdM n b (swapM M x y) := by
  obtain ⟨D, h1, h2, h3⟩ := h
  refine ⟨D, h1, h2, fun i hi => ?_⟩
  unfold swapM
  split
  · exact h3 y hy
  · split
    · exact h3 x hx
    · exact h3 i hi
/-- a quotient of two over the same bottom -/
theorem quot_dn {D A B : Nat} {x q : Rat} (hx : Dn D B x) (hq : Dn D A q) (h0 : q ≠ 0) : ∃ z : Nat, 0 < z ∧ z ≤ A ∧ Dn z B (x / q) := by
  obtain ⟨hD, w, ew, hw⟩ := hx
  obtain ⟨_, z, ez, hz⟩ := hq
  have hDr : (D : Rat) ≠ 0 := by
    intro q0
    have : (D : Int) = 0 := by exact_mod_cast q0
    omega
  have hz0 : z ≠ 0 := by
    intro h
    rw [h] at ez
    have : q * (D : Rat) = 0 := by rw [ez]; rfl
    grind
  have hzr : (z : Rat) ≠ 0 := fun h => hz0 (by exact_mod_cast h)
  have e0 : x / q * (z : Rat) = (w : Rat) := by
    rw [← ez, ← ew]
    grind
  refine ⟨z.natAbs, by omega, hz, by omega, ?_⟩
  by_cases hs : 0 ≤ z
  · refine ⟨w, ?_, hw⟩
    have : ((z.natAbs : Nat) : Rat) = (z : Rat) := by
      have : ((z.natAbs : Int)) = z := by omega
      rw [← Rat.intCast_natCast, this]
    rw [this, e0]
  · refine ⟨-w, ?_, by omega⟩
    have : ((z.natAbs : Nat) : Rat) = -(z : Rat) := by
      have : ((z.natAbs : Int)) = -z := by omega
      rw [← Rat.intCast_natCast, this, Rat.intCast_neg]
    rw [this, Rat.intCast_neg, ← e0]
    grind
/-- the same with the divisor's own top as bottom, one for all x -/
theorem quot_all {D A : Nat} {q : Rat} (hq : Dn D A q) (h0 : q ≠ 0) : ∃ z : Nat, 0 < z ∧ z ≤ A ∧ ∀ B x, Dn D B x → Dn z B (x / q) := by
  obtain ⟨hD, z, ez, hz⟩ := hq
  have hz0 : z ≠ 0 := by
    intro h
    rw [h] at ez
    have : q * (D : Rat) = 0 := by rw [ez]; rfl
    have hDr : (D : Rat) ≠ 0 := by
      intro q0
      have : (D : Int) = 0 := by exact_mod_cast q0
      omega
    grind
  refine ⟨z.natAbs, by omega, hz, fun B x hx => ?_⟩
  obtain ⟨_, w, ew, hw⟩ := hx
  have hDr : (D : Rat) ≠ 0 := by
    intro q0
    have : (D : Int) = 0 := by exact_mod_cast q0
    omega
  have hzr : (z : Rat) ≠ 0 := fun h => hz0 (by exact_mod_cast h)
  have e0 : x / q * (z : Rat) = (w : Rat) := by
    rw [← ez, ← ew]
    grind
  refine ⟨by omega, ?_⟩
  by_cases hs : 0 ≤ z
  · refine ⟨w, ?_, hw⟩
    have : ((z.natAbs : Nat) : Rat) = (z : Rat) := by
      have : ((z.natAbs : Int)) = z := by omega
      rw [← Rat.intCast_natCast, this]
    rw [this, e0]
  · refine ⟨-w, ?_, by omega⟩
    have : ((z.natAbs : Nat) : Rat) = -(z : Rat) := by
      have : ((z.natAbs : Int)) = -z := by omega
      rw [← Rat.intCast_natCast, this, Rat.intCast_neg]
    rw [this, Rat.intCast_neg, ← e0]
    grind
theorem step_bd {n c b : Nat} {M : Mx} (h : BdM n b M) (hp : HasP n c M) : BdM n (2 * b + 1) (gjStep n c M) := by
  obtain ⟨p1, p2, p3, _⟩ := pivot_ok hp
  have hc : c < n := by omega
  unfold gjStep
  have hs := h.swap hc p2
  have hq0 : (swapM M c (pivot n c M)) c c ≠ 0 := by unfold swapM; rw [if_pos rfl]; exact p3
  generalize swapM M c (pivot n c M) = S at *
  obtain ⟨D, h1, h2, h3⟩ := hs
  obtain ⟨z, z0, z1, z2⟩ := quot_all ((h3 c hc).1 c hc) hq0
  have eb : 2 ^ (2 * b + 1) = 2 * (2 ^ b * 2 ^ b) := by rw [← Nat.pow_add, show 2 * b + 1 = (b + b) + 1 by omega, Nat.pow_succ]; omega
  have er : 2 ^ (2 * b + 1 + 6) = 2 * (2 ^ b * 2 ^ (b + 6)) := by rw [← Nat.pow_add, show 2 * b + 1 + 6 = (b + (b + 6)) + 1 by omega, Nat.pow_succ]; omega
  -- one entry
  have entry : ∀ (i j B : Nat), i < n → Dn D B (S i j) → Dn D B (S c j) → Dn (D * z) (2 * (2 ^ b * B)) (elimM (normM S c) c i j) := by
    intro i j B hi hij hcj
    have hq := z2 B (S c j) hcj
    unfold elimM normM
    by_cases h4 : i = c
    · rw [if_pos h4, if_pos h4]
      have := hq.scale D h2
      rw [Nat.mul_comm z D] at this
      refine this.mono ?_
      calc B * D ≤ B * 2 ^ b := Nat.mul_le_mul (Nat.le_refl _) h1
        _ = 2 ^ b * B := Nat.mul_comm _ _
        _ ≤ 2 * (2 ^ b * B) := by omega
    · rw [if_neg h4, if_neg h4, if_neg h4, if_pos rfl]
      have t1 := hij.scale z z0
      have t2 := ((h3 i hi).1 c hc).mul hq
      refine (t1.sub t2).mono ?_
      have : B * z ≤ 2 ^ b * B := by rw [Nat.mul_comm]; exact Nat.mul_le_mul z1 (Nat.le_refl _)
      omega
  refine ⟨D * z, ?_, Nat.mul_pos h2 z0, fun i hi => ⟨fun j hj => ?_, ?_⟩⟩
  · rw [eb]
    have := Nat.mul_le_mul h1 z1
    omega
  · rw [eb]
    exact entry i j _ hi ((h3 i hi).1 j hj) ((h3 c hc).1 j hj)
  · rw [er]
    exact entry i n _ hi (h3 i hi).2 (h3 c hc).2
theorem first_bd {n : Nat} {M : Mx} (hn : 0 < n) (h : BdM n 15 M) (h00 : M 0 0 = 1) (ho : (∀ i, i < n → M i 0 = 1) ∨ (∀ j, j ≤ n → M 0 j = 1)) : BdM n 16 (gjStep n 0 M) := by
  have hp : pivot n 0 M = 0 := by
    have := pivot_ok (n := n) (c := 0) (M := M) ⟨0, Nat.le_refl _, hn, by rw [h00]; decide⟩
    by_cases e : pivot n 0 M = 0
    · exact e
    · have := this.2.2.2 0 (Nat.le_refl _) (by omega)
      rw [h00] at this
      exact absurd this (by decide)
  unfold gjStep
  rw [hp]
  have hsw : swapM M 0 0 = M := by
    funext i j
    unfold swapM
    split
    · rename_i e; rw [e]
    · rfl
  rw [hsw]
  obtain ⟨D, h1, h2, h3⟩ := h
  have ent : ∀ i j, elimM (normM M 0) 0 i j = if i = 0 then M 0 j else M i j - M i 0 * M 0 j := by
    intro i j
    unfold elimM normM
    by_cases h4 : i = 0
    · rw [if_pos h4, if_pos h4, if_pos h4, h00]; grind
    · rw [if_neg h4, if_neg h4, if_neg h4, if_pos rfl, if_neg h4, h00]; grind
  refine ⟨D, Nat.le_trans h1 (by decide), h2, fun i hi => ⟨fun j hj => ?_, ?_⟩⟩
  · rw [ent]
    split
    · exact ((h3 0 hn).1 j hj).mono (by decide)
    · rcases ho with ho | ho
      · rw [ho i hi, Rat.one_mul]
        exact (((h3 i hi).1 j hj).sub ((h3 0 hn).1 j hj)).mono (by decide)
      · rw [ho j (by omega), Rat.mul_one]
        exact (((h3 i hi).1 j hj).sub ((h3 i hi).1 0 hn)).mono (by decide)
  · rw [ent]
    split
    · exact (h3 0 hn).2.mono (by decide)
    · rcases ho with ho | ho
      · rw [ho i hi, Rat.one_mul]
        exact ((h3 i hi).2.sub (h3 0 hn).2).mono (by decide)
      · rw [ho n (Nat.le_refl _), Rat.mul_one]
        exact ((h3 i hi).2.sub ((h3 i hi).1 0 hn)).mono (by decide)
def gb : Nat → Nat
  | 0 => 16
  | c + 1 => 2 * gb c + 1
theorem gj_bd {n : Nat} {M : Mx} (hn : 0 < n) (ns : NonSing n M) (h : BdM n 15 M) (h00 : M 0 0 = 1) (ho : (∀ i, i < n → M i 0 = 1) ∨ (∀ j, j ≤ n → M 0 j = 1)) : ∀ c, c < n → BdM n (gb c) (gj n (c + 1) M) := by
  intro c
  induction c with
  | zero => intro _; exact first_bd hn h h00 ho
  | succ c ih =>
    intro hc
    exact step_bd (ih (by omega)) ((gj_ok ns (c + 1) (by omega)).2.2 hc)
/-- what elimination asks of a matrix -/
structure SolP (n : Nat) (M : Mx) : Prop where
  n0 : 0 < n
  n9 : n ≤ 9
  ns : NonSing n M
  bd : BdM n 15 M
  h00 : M 0 0 = 1
  ho : (∀ i, i < n → M i 0 = 1) ∨ (∀ j, j ≤ n → M 0 j = 1)
theorem gb_mono : ∀ {a b : Nat}, a ≤ b → gb a ≤ gb b := by
  intro a b h
  induction h with
  | refl => exact Nat.le_refl _
  | step _ ih => exact Nat.le_trans ih (by show gb _ ≤ 2 * gb _ + 1; omega)
theorem SolP.mid {n : Nat} {M : Mx} (s : SolP n M) {c : Nat} (hc : c < n) : BdM n 2175 (gj n c M) ∧ HasP n c (gj n c M) := by
  have h9 := s.n9
  refine ⟨?_, (gj_ok s.ns c (by omega)).2.2 hc⟩
  cases c with
  | zero => exact s.bd.mono (by decide)
  | succ c => exact (gj_bd s.n0 s.ns s.bd s.h00 s.ho c (by omega)).mono (Nat.le_trans (gb_mono (show c ≤ 7 by omega)) (by decide))
theorem SolP.fin {n : Nat} {M : Mx} (s : SolP n M) : BdM n 4351 (gj n n M) := by
  have h0 := s.n0
  have h9 := s.n9
  have := gj_bd s.n0 s.ns s.bd s.h00 s.ho (n - 1) (by omega)
  rw [show n - 1 + 1 = n by omega] at this
  exact this.mono (Nat.le_trans (gb_mono (show n - 1 ≤ 8 by omega)) (by decide))
end JL

set_option Elab.async false
set_option linter.all false
set_option maxRecDepth 100000
set_option maxHeartbeats 4000000
set_option autoImplicit false
/-! solved: the walk. -/
namespace JL
open PySem PySem.Spec PyProof.Rows L2
theorem pow_lt {a b : Nat} (h : a < b) : 2 ^ a < 2 ^ b := Nat.pow_lt_pow_right (by decide) h
/-- all that a column's work asks -/
structure ColP (n c : Nat) (S : Mx) : Prop where
  q0 : S c c ≠ 0
  ov : ∀ j, j ≤ n → Fit (S c j) (S c c)
  tm : ∀ i j, i < n → i ≠ c → j ≤ n → Fit (normM S c i c) (normM S c c j)
  mi : ∀ i j, i < n → i ≠ c → j ≤ n → Fit (normM S c i j) (normM S c i c * normM S c c j)
theorem colP_of {n c b : Nat} {S : Mx} (hb : 3 * b + 20 ≤ 8990) (hc : c < n) (h : BdM n b S) (q0 : S c c ≠ 0) : ColP n c S := by
  obtain ⟨D, h1, h2, h3⟩ := h
  obtain ⟨z, z0, z1, z2⟩ := quot_all ((h3 c hc).1 c hc) q0
  have ent : ∀ i j, i < n → j ≤ n → Dn D (2 ^ (b + 6)) (S i j) := fun i j hi hj => by
    by_cases e : j = n
    · rw [e]; exact (h3 i hi).2
    · exact ((h3 i hi).1 j (by omega)).mono (pow_le (by omega))
  have nc : ∀ j, normM S c c j = S c j / S c c := fun j => by unfold normM; rw [if_pos rfl]
  have ni : ∀ i j, i ≠ c → normM S c i j = S i j := fun i j hi => by unfold normM; rw [if_neg hi]
  have lD : ∀ t, b < t → D < 2 ^ t := fun t ht => Nat.lt_of_le_of_lt h1 (pow_lt ht)
  have lz : ∀ t, b < t → z < 2 ^ t := fun t ht => Nat.lt_of_le_of_lt z1 (pow_lt ht)
  refine ⟨q0, fun j hj => ?_, fun i j hi hic hj => ?_, fun i j hi hic hj => ?_⟩
  · exact (ent c j hc hj).fit ((h3 c hc).1 c hc) (a := b + 7) (b := b + 1) (lD _ (by omega)) (pow_lt (by omega)) (lD _ (by omega)) (pow_lt (by omega)) (by omega)
  · rw [nc, ni i c hic]
    exact ((h3 i hi).1 c hc).fit (z2 _ _ (ent c j hc hj)) (a := b + 1) (b := b + 7) (lD _ (by omega)) (pow_lt (by omega)) (lz _ (by omega)) (pow_lt (by omega)) (by omega)
  · rw [nc, ni i c hic, ni i j hic]
    refine (ent i j hi hj).fit (((h3 i hi).1 c hc).mul (z2 _ _ (ent c j hc hj))) (a := b + 7) (b := b + b + 7) (lD _ (by omega)) (pow_lt (by omega)) ?_ ?_ (by omega)
    · refine Nat.lt_of_le_of_lt (Nat.mul_le_mul h1 z1) ?_
      rw [← Nat.pow_add]
      exact pow_lt (by omega)
    · rw [← Nat.pow_add]
      exact pow_lt (by omega)
theorem SolP.col {n : Nat} {M : Mx} (s : SolP n M) {c : Nat} (hc : c < n) : ColP n c (swapM (gj n c M) c (pivot n c (gj n c M))) := by
  obtain ⟨h1, h2⟩ := s.mid hc
  obtain ⟨p1, p2, p3, _⟩ := pivot_ok h2
  refine colP_of (b := 2175) (by decide) hc (h1.swap hc p2) ?_
  unfold swapM
  rw [if_pos rfl]
  exact p3
/-- a row, the rows -/
abbrev rwT (n : Nat) (r : Nat → Rat) : Ty := lstT ((List.range (n + 1)).map fun j => fracT (r j))
abbrev rowsT (n : Nat) (M : Mx) : List Ty := (List.range n).map fun i => rwT n (M i)
theorem rowsT_len (n : Nat) (M : Mx) : (rowsT n M).length = n := by simp [rowsT]
theorem rowsT_congr {n : Nat} {M M' : Mx} (h : ∀ i, i < n → ∀ j, M i j = M' i j) : rowsT n M = rowsT n M' := by
  unfold rowsT
  refine List.map_congr_left fun i hi => ?_
  rw [show M i = M' i from funext (h i (List.mem_range.mp hi))]
theorem rowsT_get {n i : Nat} {M : Mx} (hi : i < n) : (rowsT n M)[i]? = some (rwT n (M i)) := by
  unfold rowsT
  rw [List.getElem?_map, List.getElem?_range hi]; rfl
theorem rowsT_at {n i : Nat} {M : Mx} (hi : i < n) : atI (rowsT n M) (i : Int) = some (rwT n (M i)) := atI_ofNat (rowsT_get hi)
theorem rowsT_ix {n i : Nat} {M : Mx} (hi : i < n) : ixN (rowsT n M).length (i : Int) = some i := by rw [rowsT_len]; unfold ixN; rw [if_pos (by omega), if_pos (by omega)]; rfl
theorem rw_get {n j : Nat} {r : Nat → Rat} (hj : j ≤ n) : ((List.range (n + 1)).map fun j => fracT (r j))[j]? = some (fracT (r j)) := by rw [List.getElem?_map, List.getElem?_range (by omega)]; rfl
theorem rw_at {n j : Nat} {r : Nat → Rat} (hj : j ≤ n) : atI ((List.range (n + 1)).map fun j => fracT (r j)) (j : Int) = some (fracT (r j)) := atI_ofNat (rw_get hj)
theorem rowsT_set {n i : Nat} {M : Mx} (hi : i < n) (r : Nat → Rat) : (rowsT n M).set i (rwT n r) = rowsT n (fun k => if k = i then r else M k) := by
  apply List.ext_getElem?
  intro k
  by_cases hk : k < n
  · rw [rowsT_get hk]
    by_cases e : k = i
    · subst e
      rw [List.getElem?_set_self (by rw [rowsT_len]; exact hk), if_pos rfl]
    · rw [List.getElem?_set_ne (Ne.symm e), rowsT_get hk, if_neg e]
  · rw [List.getElem?_eq_none (by rw [List.length_set, rowsT_len]; omega), List.getElem?_eq_none (by rw [rowsT_len]; omega)]
theorem rowsT_swap {n a b : Nat} {M : Mx} (ha : a < n) (hb : b < n) : ((rowsT n M).set a (rwT n (M b))).set b (rwT n (M a)) = rowsT n (swapM M a b) := by
  rw [rowsT_set ha, rowsT_set hb]
  apply rowsT_congr
  intro i _ j
  show (if i = b then M a else if i = a then M b else M i) j = M (if i = a then b else if i = b then a else i) j
  by_cases h1 : i = a
  · by_cases h2 : i = b
    · rw [if_pos h2, if_pos h1, ← h1, h2]
    · rw [if_neg h2, if_pos h1, if_pos h1]
  · by_cases h2 : i = b
    · rw [if_pos h2, if_neg h1, if_pos h2]
    · rw [if_neg h2, if_neg h1, if_neg h1, if_neg h2]
theorem rowsT_norm {n c : Nat} {S : Mx} (hc : c < n) : (rowsT n S).set c (rwT n fun j => S c j / S c c) = rowsT n (normM S c) := by
  rw [rowsT_set hc]
  apply rowsT_congr
  intro i _ j
  unfold normM
  show (if i = c then (fun j => S c j / S c c) else S i) j = _
  split <;> rfl
/-- while rows are taken away: the first i are done -/
def halfM (N : Mx) (c i : Nat) : Mx := fun k => if k < i then elimM N c k else N k
theorem half_row {N : Mx} {c i : Nat} : halfM N c i c = N c := by
  funext j
  unfold halfM
  split
  · unfold elimM
    rw [if_pos rfl]
  · rfl
theorem half_at {N : Mx} {c i : Nat} : halfM N c i i = N i := by unfold halfM; rw [if_neg (Nat.lt_irrefl _)]
theorem rowsT_half {n c i : Nat} {N : Mx} (hi : i < n) (hic : i ≠ c) : (rowsT n (halfM N c i)).set i (rwT n fun j => N i j - N i c * N c j) = rowsT n (halfM N c (i + 1)) := by
  rw [rowsT_set hi]
  apply rowsT_congr
  intro k _ j
  unfold halfM
  by_cases e : k = i
  · rw [if_pos e, if_pos (show k < i + 1 by omega)]
    unfold elimM
    rw [if_neg (show ¬ k = c by omega), e]
  · rw [if_neg e]
    by_cases e2 : k < i
    · rw [if_pos e2, if_pos (show k < i + 1 by omega)]
    · rw [if_neg e2, if_neg (show ¬ k < i + 1 by omega)]
theorem half_skip {n c i : Nat} {N : Mx} (h : i = c ∨ N i c = 0) : rowsT n (halfM N c i) = rowsT n (halfM N c (i + 1)) := by
  apply rowsT_congr
  intro k _ j
  unfold halfM
  by_cases e2 : k < i
  · rw [if_pos e2, if_pos (by omega)]
  · rw [if_neg e2]
    by_cases e : k = i
    · rw [if_pos (by omega)]
      unfold elimM
      rcases h with h | h
      · rw [if_pos (by omega)]
      · by_cases e3 : k = c
        · rw [if_pos e3]
        · rw [if_neg e3, e, h]
          grind
    · rw [if_neg (by omega)]
theorem half_done {n c : Nat} {N : Mx} : rowsT n (halfM N c n) = rowsT n (elimM N c) := by
  apply rowsT_congr
  intro k hk j
  unfold halfM
  rw [if_pos hk]
theorem half_none {c : Nat} {N : Mx} : halfM N c 0 = N := by
  funext k
  unfold halfM
  rw [if_neg (Nat.not_lt_zero _)]
theorem rw_last (n : Nat) (r : Nat → Rat) : atI ((List.range (n + 1)).map fun j => fracT (r j)) (-(1 : Int)) = some (fracT (r n)) := by
  unfold atI ixN
  rw [if_neg (by decide), List.length_map, List.length_range, if_pos (by omega), show (-(1 : Int) + ((n + 1 : Nat) : Int)).toNat = n by omega]
  exact rw_get (Nat.le_refl _)
abbrev matT (n : Nat) (M : Mx) : Ty := lstT (rowsT n M)
theorem zip_diag {α : Type} : ∀ l : List α, l.zip l = l.map fun j => (j, j)
  | [] => rfl
  | x :: l => by rw [List.zip_cons_cons, List.map_cons, zip_diag l]
theorem zip_range {α : Type} (n : Nat) (f : Nat × Nat → α) : ((List.range n).zip (List.range n)).map f = (List.range n).map fun j => f (j, j) := by
  rw [zip_diag (List.range n), List.map_map]
  rfl
theorem zip_mem {n : Nat} {x : Nat × Nat} (h : x ∈ (List.range n).zip (List.range n)) : x.1 = x.2 := by
  rw [zip_diag (List.range n)] at h
  obtain ⟨j, _, rfl⟩ := List.mem_map.mp h
  rfl
section
variable {tb : List Addr} {X : Cx} {G : List Slt} {N : List Str} {sc : Scope} {k : Nat} {pos : Pos} {c P : Addr}
/-- the rule for a def that must know its code object -/
theorem Fun_okC {P : Program} {w : World} {K : PySem.W.Frag} {mg : Str → Option Value} {base : Heap} {x qual : Str} {st : Stmt} {f : Addr} {fd : FuncData} {N ps : List Str} {k : Nat} {sp : Sp} (F : Fun K x qual st f fd) (S : FnScope N ps (defScope st)) (len : ∀ vs H Q E, sp vs H Q E → vs.length = ps.length)
    (hbody : ∀ (A : Around) (outer : List Env) (s : Shared) (H : Hp) (vs : List V) (Q : VK) (E : XK), Room k (A.deeper (envOfC qual (defScope st) s.heap.objs.size f fd.code)) → sp vs H Q E →
      ∃ t, PSs (cxOf CX0 P w K mg base N qual (defScope st) f fd.code A outer s H E).nox (defBody st) t ∧ t { nx := fun _ H' => Q .non H', rt := Q } (start N vs) H) : FnOk P w K mg base CX0 (k + 1) f fd ps sp := by
  obtain ⟨oc, od, kV, doc, pm, an, cdv, ct, osl, rfl, lk, hcd⟩ := F.ex
  refine fn_of lk hcd S len fun A outer s H vs Q E hr hsp => ?_
  obtain ⟨t, h, q⟩ := hbody A outer s H vs Q E hr hsp
  exact ⟨t, h.nox, q⟩
theorem fn_pureC {P : Program} {w : World} {K : PySem.W.Frag} {mg : Str → Option Value} {base : Heap} {tb : List Addr} {x qual : Str} {st : Stmt} {f : Addr} {fd : FuncData} {N ps : List Str} {sc : Scope} {k : Nat} {α : Type} {A : α → List Ty} {pre : α → Prop} {R : α → Ty}
    (F : Fun K x qual st f fd) (S : FnScope N ps sc) (hsc : defScope st = sc) (hA : ∀ a, pre a → (A a).length = ps.length)
    (hb : ∀ X : Cx, evX X = ⟨P, w, K, mg, base⟩ → CxD X N sc k → (∀ x, X.fn x = true) → X.env.code = fd.code → ∀ a, pre a → SS tb X ((A a).map .v ++ List.replicate (N.length - (A a).length) .no) (defBody st) ⟨fun _ => Sub noneT (R a), fun T => Sub T (R a), fun _ => False, fun _ => False⟩) :
    FnOk P w K mg base CX0 (k + 1) f fd ps (spF tb A pre R K) := by
  subst hsc
  refine Fun_okC F S (fun vs H Q E ⟨a, F, hp, _, _, al, _⟩ => by rw [← al.length]; exact hA a hp) fun A0 outer s H vs Q E hr hsp => ?_
  obtain ⟨a, F0, hp, fz, ht, al, q⟩ := hsp
  refine ⟨sswp _ _, pss_wp _, ?_⟩
  have hpl : ps.length ≤ N.length := by have := congrArg List.length S.pre; rw [List.length_take] at this; omega
  refine hb _ rfl ⟨rfl, S.nd, rfl, S.kind, rfl, hr, fun _ _ z => z⟩ (fun _ => rfl) rfl a hp ⟨F0, H⟩ (L2.start N vs) F0 H _ (has_start fz ht al (by rw [hA a hp]; exact hpl) rfl) ⟨fun G F' H' σ h hs => q _ F' H' hs.ext (h rfl), fun _ _ _ _ h => h.elim, fun _ _ _ _ h => h.elim, fun T v F' H' h x t => q v F' H' x (h t)⟩
abbrev sc16 : Scope := defScope (topS 16)
abbrev nm16 : List Str := ["rows", "many", "first", "head", "at", "part", "column", "left", "row", "one", "other"]
theorem fs16 : FnScope nm16 ["rows"] sc16 := ⟨rfl, rfl, rfl, by decide +kernel, rfl, by decide +kernel, by decide +kernel⟩
abbrev Ok_solved (ev : Ev) (tb : List Addr) (x : Str := "solved") : Prop := DefOk ev tb x 4 (fun a : Nat × Mx => [matT a.1 a.2]) (fun a => SolP a.1 a.2) (fun a => lstT ((List.range a.1).map fun i => fracT (gj a.1 a.1 a.2 i a.1)))
theorem b16 (h : CxD X nm16 sc16 k) (hf : ∀ x, X.fn x = true) (hk : 3 ≤ k) (T : Tx (evX X)) (D_over : Ok_over (evX X) tb) (D_minus : Ok_minus (evX X) tb) (D_times : Ok_times (evX X) tb) (hPt : P ∈ tb) (TB : GxR.TabB X.base X.mg c P) (hcode : X.env.code = .ref c) (n : Nat) (M : Mx) (s : SolP n M) :
    SS tb X [.v (matT n M), .no, .no, .no, .no, .no, .no, .no, .no, .no, .no] (defBody (topS 16)) (Gv (lstT ((List.range n).map fun i => fracT (gj n n M i n)))) := by
  have n9 := s.n9
  refine (ss_cons (s_parG h hf 7 1 (es_own (LCR.el h (lc_of h (R := fun i => rwT n (M i)) [("row", 8)] (it_list (e_var h 0)) (fun s H C cl fp h' x hx => (tg_name h' 8)) (fun s H C cl fp h' x hx => (e_listOf h' (e_var h' 8) (.lst _) T.list)) (by rw [List.length_range]; omega)))) (es_v (e_eq (e_len h (e_var h 0) (.lst _) T.len) (by rw [rowsT_len])))
   (ss_cons (s_for h (it_range1 h (n := n) (e_var h 1) T.range (by omega))
     (fun i G1 => ∃ s2 s3 s4 s5 s6, G1 = [.v (matT n M), .v (intT (n : Int)), s2, s3, s4, s5, s6, .own (rowsT n (gj n i M)), .no, .no, .no]) ⟨_, _, _, _, _, rfl⟩ (fun i x G1 ei iv => ?_) (fun G1 iv => ?_)))))
  · obtain ⟨s2, s3, s4, s5, s6, rfl⟩ := iv
    have hin : i < n := by
      have := (List.getElem?_eq_some_iff.mp ei).1
      rwa [List.length_range] at this
    rw [List.getElem?_range hin] at ei
    cases ei
    have hcp := s.col hin
    obtain ⟨p1, p2, p3, p4⟩ := pivot_ok (s.mid hin).2
    have hst : gj n (i + 1) M = elimM (normM (swapM (gj n i M) i (pivot n i (gj n i M))) i) i := rfl
    generalize gj n i M = L at *
    generalize pivot n i L = p at *
    generalize hS : swapM L i p = S at *
    have htm := hcp.tm
    have hmi := hcp.mi
    generalize hN : normM S i = Q at *
    refine ⟨_, _, (tg_cell h hf 6), ?_⟩
    refine (ss_cons (s_set h 2 (es_v (e_nextG h hPt TB hcode 7 6 (pp := p) (f := fun a => L a i) (e_range2 h (lo := i) (hi := n) (e_var h 6) (e_var h 1) T.range) (fun a _ ha => ⟨_, rowsT_get ha, rw_get (by omega)⟩) (by omega) (by omega) p1 p2 p3 p4 T.next
      ⟨rfl, rfl, by decide +kernel, rfl, rfl, rfl, rfl, by decide +kernel, rfl, rfl⟩)) ?_))
    refine (ss_cons (s_swapOwn h 7 (n1 := i) (n2 := p) (e_tup (ea_cons (e_ixOwn h 7 (e_var h 2) (rowsT_at p2)) (ea_cons (e_ixOwn h 7 (e_var h 6) (rowsT_at hin)) ea_nil))) (e_var h 6) (e_var h 2) (rowsT_ix hin) (rowsT_ix p2) ?_))
    rw [rowsT_swap hin p2, hS]
    refine (ss_cons (s_setC h hf 3 (es_v (e_ixL (e_ixOwn h 7 (e_var h 6) (rowsT_at hin)) (e_var h 6) (rw_at (by omega)))) ?_))
    refine (ss_cons (s_setItem h 7 (n := i) (e_of_el (LCR.el h (lc_of h (xs := List.range (n + 1)) (R := fun j => fracT (S i j / S i i)) [("one", 9)] (it_list (T := fun j => fracT (S i j)) (e_ixOwn h 7 (e_var h 6) (rowsT_at hin))) (fun s H C cl fp h' x hx => (tg_name h' 9)) (fun s H C cl fp h' x hx => (e_two h' D_over (e_var h' 9) (e_var h' 3) ⟨hcp.ov x (by have := List.mem_range.mp hx; omega), hcp.q0⟩)) (by rw [List.length_range]; omega)))) (e_var h 6) (rowsT_ix hin) ?_))
    rw [rowsT_norm hin, hN]
    refine (ss_one (s_for h (it_range1 h (n := n) (e_var h 1) T.range (by omega))
     (fun a G1 => ∃ s2 s3 s4 s5, G1 = [.v (matT n M), .v (intT (n : Int)), s2, s3, s4, s5, .v (intT (i : Int)), .own (rowsT n (halfM Q i a)), .no, .no, .no]) ⟨_, _, _, _, by rw [half_none]; rfl⟩ (fun a x G1 ea iv => ?_) (fun G1 iv => ?_)))
    · obtain ⟨s2, s3, s4, s5, rfl⟩ := iv
      have han : a < n := by
        have := (List.getElem?_eq_some_iff.mp ea).1
        rwa [List.length_range] at this
      rw [List.getElem?_range han] at ea
      cases ea
      refine ⟨_, _, (tg_name h 4), ?_⟩
      refine (ss_cons (s_setC h hf 5 (es_v (e_eq (e_ixL (e_ixOwn h 7 (e_var h 4) (rowsT_at han)) (e_var h 6) (rw_at (by omega))) (by rw [half_at]))) ?_))
      have hx2 : ∀ x : Nat × Nat, x ∈ (List.range (n + 1)).zip (List.range (n + 1)) → x.2 ≤ n := fun x hx => by have := List.mem_range.mp (List.of_mem_zip hx).2; omega
      refine (ss_one (s_if (EW.eb (ew_and (eb_neI (e_var h 4) (e_var h 6)) (fun hc => (ew_and1 (eb_neI (e_ixT (e_var h 5) e_int rfl) e_int))))) (fun hc => ?_) (fun hc => ss_nil ?_)))
      · have hai : a ≠ i := by
          have := hc
          simp only [Bool.and_eq_true, decide_eq_true_eq] at this
          omega
        refine (ss_one (s_setItem h 7 (n := a) (T := rwT n fun j => Q a j - Q a i * Q i j) (e_eq (e_of_el (LCR.el h (lc_of h (xs := (List.range (n + 1)).zip (List.range (n + 1))) (R := fun z => fracT (Q a z.1 - Q a i * Q i z.2)) [("one", 9), ("other", 10)] (it_zip h (xs := List.range (n + 1)) (ys := List.range (n + 1)) (T := fun j => fracT (Q a j)) (U := fun j => fracT (Q i j)) (e_eq (e_ixOwn h 7 (e_var h 4) (rowsT_at han)) (by rw [half_at])) (e_eq (e_ixOwn h 7 (e_var h 6) (rowsT_at hin)) (by rw [half_row])) T.zip)
          (fun s H C cl fp h' x hx => (tg_tup h' (tgs_cons (tg_name h' 9) (tgs_cons (tg_name h' 10) tgs_nil)))) (fun s H C cl fp h' x hx => (e_two h' D_minus (e_var h' 9) (e_two h' D_times (e_var h' 5) (e_var h' 10) (htm a x.2 han hai (hx2 x hx))) (by rw [zip_mem hx]; exact hmi a x.2 han hai (hx2 x hx)))) (by simp; omega)))) (by rw [zip_range])) (e_var h 4) (rowsT_ix han) ⟨_, _, _, _, by rw [rowsT_half han hai]; rfl⟩))
      · have hz : a = i ∨ Q a i = 0 := by
          by_cases e : a = i
          · exact .inl e
          · refine .inr (Rat.num_eq_zero.mp ?_)
            have e1 : decide ((a : Int) ≠ (i : Int)) = true := decide_eq_true (by omega)
            rw [e1, Bool.true_and] at hc
            exact Decidable.not_not.mp (of_decide_eq_false hc)
        exact ⟨_, _, _, _, by rw [half_skip hz]; rfl⟩
    · obtain ⟨s2, s3, s4, s5, rfl⟩ := iv
      exact ⟨_, _, _, _, _, by rw [List.length_range, half_done, hst]⟩
  · obtain ⟨s2, s3, s4, s5, s6, rfl⟩ := iv
    rw [List.length_range]
    exact (ss_freeze 7 (ss_one (s_ret (e_of_el (LCR.el h (lc_of h (R := fun i => fracT (gj n n M i n)) [("row", 8)] (it_list (xs := List.range n) (T := fun i => rwT n (gj n n M i)) (e_var h 7)) (fun s H C cl fp h' x hx => (tg_name h' 8)) (fun s H C cl fp h' x hx => (e_ixL (e_var h' 8) (e_neg e_int) (rw_last _ _))) (by rw [List.length_range]; omega)))) Sub.rfl)))
end
end JL

set_option Elab.async false
set_option linter.all false
set_option maxRecDepth 100000
set_option maxHeartbeats 4000000
set_option autoImplicit false
/-! Chains that come down: greatest values, worths, shares. -/
namespace JL
structure Chn (n : Nat) (P : Mx) : Prop where
  n0 : 0 < n
  nn : ∀ i j, i < n → j < n → 0 ≤ P i j
  one : ∀ i, i < n → sumN n (P i) = 1
  down : ∀ i, i < n → i ≠ 0 → ∃ j, j < i ∧ 0 < P i j
def avg (n : Nat) (P : Mx) (y : Nat → Rat) (i : Nat) : Rat := sumN n fun j => P i j * y j
theorem sumN_zero_of {n : Nat} {f : Nat → Rat} (h0 : ∀ i, i < n → 0 ≤ f i) (hs : sumN n f ≤ 0) : ∀ i, i < n → f i = 0 := by
  induction n with
  | zero => intro i hi; omega
  | succ n ih =>
    have h1 := sumN_nonneg (n := n) (f := f) fun i hi => h0 i (by omega)
    have h2 := h0 n (by omega)
    have h3 : sumN n f + f n ≤ 0 := hs
    intro i hi
    by_cases e : i = n
    · rw [e]; grind
    · exact ih (fun i hi => h0 i (by omega)) (by grind) i (by omega)
theorem exists_max {n : Nat} (h0 : 0 < n) (y : Nat → Rat) : ∃ i, i < n ∧ ∀ j, j < n → y j ≤ y i := by
  induction n with
  | zero => omega
  | succ n ih =>
    by_cases hn : n = 0
    · subst hn
      exact ⟨0, by omega, fun j hj => by rw [show j = 0 by omega]; exact Rat.le_refl⟩
    · obtain ⟨i, hi, hm⟩ := ih (by omega)
      by_cases h : y n ≤ y i
      · refine ⟨i, by omega, fun j hj => ?_⟩
        by_cases e : j = n
        · rw [e]; exact h
        · exact hm j (by omega)
      · refine ⟨n, by omega, fun j hj => ?_⟩
        by_cases e : j = n
        · rw [e]; exact Rat.le_refl
        · have := hm j (by omega)
          grind
section
variable {n : Nat} {P : Mx}
theorem Chn.gap (C : Chn n P) (y : Nat → Rat) (b : Rat) {i : Nat} (hi : i < n) : sumN n (fun j => P i j * (b - y j)) = b - avg n P y i := by
  have e : ∀ j, j < n → P i j * (b - y j) = b * P i j - P i j * y j := fun j _ => by grind
  rw [sumN_congr e, sumN_sub, sumN_mul, show sumN n (fun j => P i j) = sumN n (P i) from rfl, C.one i hi]
  unfold avg
  grind
theorem Chn.le (C : Chn n P) {y : Nat → Rat} {b : Rat} (hb : ∀ j, j < n → y j ≤ b) {i : Nat} (hi : i < n) : avg n P y i ≤ b := by
  have h1 := C.gap y b hi
  have h2 := sumN_nonneg (n := n) (f := fun j => P i j * (b - y j)) fun j hj => Rat.mul_nonneg (C.nn i j hi hj) (by have := hb j hj; grind)
  grind
theorem Chn.eq (C : Chn n P) {y : Nat → Rat} {b : Rat} (hb : ∀ j, j < n → y j ≤ b) {i : Nat} (hi : i < n) (h : b ≤ avg n P y i) {j : Nat} (hj : j < n) (hp : 0 < P i j) : y j = b := by
  have h1 := C.gap y b hi
  have h2 := sumN_zero_of (n := n) (f := fun j => P i j * (b - y j)) (fun j hj => Rat.mul_nonneg (C.nn i j hi hj) (by have := hb j hj; grind)) (by grind) j hj
  have h3 : P i j * (b - y j) = 0 := h2
  rcases Rat.mul_eq_zero.mp h3 with z | z
  · grind
  · grind
/-- the greatest value stands at 0 -/
theorem Chn.max0 (C : Chn n P) {y : Nat → Rat} {b : Rat} (hb : ∀ j, j < n → y j ≤ b) (hs : ∀ i, i < n → y i = b → b ≤ avg n P y i) : ∀ i, i < n → y i = b → y 0 = b := by
  intro i
  induction i using Nat.strongRecOn with
  | ind i ih =>
    intro hi hy
    by_cases e : i = 0
    · rw [← e]; exact hy
    · obtain ⟨j, hj, hp⟩ := C.down i hi e
      exact ih j hj (by omega) (C.eq hb hi (hs i hi hy) (by omega) hp)
theorem avg_neg (y : Nat → Rat) (i : Nat) : avg n P (fun j => - y j) i = - avg n P y i := by
  have : ∀ j, j < n → P i j * (- y j) = (-1) * (P i j * y j) := fun j _ => by grind
  unfold avg
  rw [sumN_congr this, sumN_mul]
  grind
theorem avg_sub (y z : Nat → Rat) (i : Nat) : avg n P (fun j => y j - z j) i = avg n P y i - avg n P z i := by
  have : ∀ j, j < n → P i j * (y j - z j) = P i j * y j - P i j * z j := fun j _ => by grind
  unfold avg
  rw [sumN_congr this, sumN_sub]
/-- d + e = P d + δ with δ nowhere below 0 -/
theorem Chn.rise (C : Chn n P) {d δ : Nat → Rat} {e : Rat} (hδ : ∀ i, i < n → 0 ≤ δ i) (h : ∀ i, i < n → d i + e = avg n P d i + δ i) : 0 ≤ e ∧ (e = 0 → ∀ i, i < n → d 0 ≤ d i) := by
  obtain ⟨m, hm, hM⟩ := exists_max C.n0 fun j => - d j
  have h1 := C.le hM hm
  rw [avg_neg] at h1
  have h2 := h m hm
  have h3 := hδ m hm
  refine ⟨by grind, fun e0 i hi => ?_⟩
  have := C.max0 hM (fun i hi hy => by
    rw [avg_neg]
    have a1 := h i hi
    have a2 := hδ i hi
    have a3 := C.le hM hi
    rw [avg_neg] at a3
    grind) m hm rfl
  have a4 := hM i hi
  grind
theorem Chn.const (C : Chn n P) {y : Nat → Rat} {g : Rat} (h : ∀ i, i < n → y i + g = avg n P y i) (h0 : y 0 = 0) : g = 0 ∧ ∀ i, i < n → y i = 0 := by
  obtain ⟨a1, a2⟩ := C.rise (d := y) (δ := fun _ => 0) (e := g) (fun _ _ => Rat.le_refl) fun i hi => by rw [h i hi]; grind
  obtain ⟨b1, b2⟩ := C.rise (d := fun j => - y j) (δ := fun _ => 0) (e := -g) (fun _ _ => Rat.le_refl) fun i hi => by
    rw [avg_neg]
    have := h i hi
    grind
  have g0 : g = 0 := by grind
  refine ⟨g0, fun i hi => ?_⟩
  have := a2 g0 i hi
  have := b2 (by rw [g0]; rfl) i hi
  grind
/-- the program's matrix -/
def matA (n : Nat) (P : Mx) (gn : Nat → Rat) : Mx := fun i j => if j = n then gn i else if j = 0 then 1 else (if i = j then 1 else 0) - P i j
/-- a row of it times y -/
theorem matA_mul (P : Mx) (gn y : Nat → Rat) {i : Nat} (hi : i < n) : sumN n (fun j => matA n P gn i j * y j) = y 0 + (if i = 0 then 0 else y i) - avg n P (fun j => if j = 0 then 0 else y j) i := by
  have e : ∀ j, j < n → matA n P gn i j * y j = ((if j = 0 then y j else 0) + (if j = i then (if i = 0 then 0 else y i) else 0)) - P i j * (if j = 0 then 0 else y j) := fun j hj => by
    unfold matA
    rw [if_neg (by omega)]
    by_cases h0 : j = 0
    · rw [if_pos h0, if_pos h0, if_pos h0]
      by_cases h1 : j = i
      · rw [if_pos h1, if_pos (by omega)]; grind
      · rw [if_neg h1]; grind
    · rw [if_neg h0, if_neg h0, if_neg h0]
      by_cases h1 : j = i
      · rw [if_pos h1, if_pos h1.symm, if_neg (by omega), h1]; grind
      · rw [if_neg h1, if_neg (Ne.symm h1)]; grind
  rw [sumN_congr e, sumN_sub, sumN_add, sumN_one (by omega), sumN_one (f := fun _ => if i = 0 then 0 else y i) hi]
  unfold avg
  rfl
theorem Chn.nsA (C : Chn n P) (gn : Nat → Rat) : NonSing n (matA n P gn) := by
  intro y hy j hj
  obtain ⟨g0, h⟩ := C.const (y := fun j => if j = 0 then 0 else y j) (g := y 0) (fun i hi => by
    have := hy i hi
    rw [matA_mul P gn y hi] at this
    grind) (if_pos rfl)
  by_cases e : j = 0
  · rw [e]; exact g0
  · have := h j hj
    rw [if_neg e] at this
    exact this
/-- the worth, the potentials -/
def worthA (n : Nat) (P : Mx) (gn : Nat → Rat) : Rat := gj n n (matA n P gn) 0 n
def potA (n : Nat) (P : Mx) (gn : Nat → Rat) (i : Nat) : Rat := if i = 0 then 0 else gj n n (matA n P gn) i n
theorem Chn.sol (C : Chn n P) (gn : Nat → Rat) {i : Nat} (hi : i < n) : worthA n P gn + potA n P gn i = avg n P (potA n P gn) i + gn i := by
  have h1 := gj_solves (C.nsA gn) i hi
  rw [matA_mul P gn (fun j => gj n n (matA n P gn) j n) hi] at h1
  have h2 : matA n P gn i n = gn i := by unfold matA; rw [if_pos rfl]
  rw [h2] at h1
  have h3 : worthA n P gn + potA n P gn i - avg n P (potA n P gn) i = gn i := h1
  grind
/-- and there is but one -/
theorem Chn.uniq (C : Chn n P) {gn y : Nat → Rat} {g : Rat} (h0 : y 0 = 0) (h : ∀ i, i < n → g + y i = avg n P y i + gn i) : g = worthA n P gn ∧ ∀ i, i < n → y i = potA n P gn i := by
  obtain ⟨a, b⟩ := C.const (y := fun i => y i - potA n P gn i) (g := g - worthA n P gn) (fun i hi => by
    rw [avg_sub]
    have := h i hi
    have := C.sol gn hi
    grind) (by show y 0 - (if 0 = 0 then 0 else _) = 0; rw [h0, if_pos rfl]; grind)
  exact ⟨by grind, fun i hi => by have := b i hi; grind⟩
/-- the law's matrix -/
def matL (n : Nat) (P : Mx) : Mx := fun l b => if l = 0 then 1 else if b = n then 0 else P b l - (if b = l then 1 else 0)
theorem matL_A {P : Mx} {gn : Nat → Rat} {l b : Nat} (hl : l < n) (hb : b < n) : matL n P l b = if l = 0 then matA n P gn b l else - matA n P gn b l := by
  unfold matL matA
  rw [if_neg (show ¬ l = n by omega), if_neg (show ¬ b = n by omega)]
  split
  · rfl
  · grind
theorem Chn.nsL (C : Chn n P) : NonSing n (matL n P) := by
  intro y hy k hk
  -- a right inverse of A at k
  let gn : Nat → Rat := fun i => if i = k then 1 else 0
  let x : Nat → Rat := fun j => gj n n (matA n P gn) j n
  have hx : ∀ i, i < n → sumN n (fun j => matA n P gn i j * x j) = gn i := fun i hi => by
    rw [gj_solves (C.nsA gn) i hi]
    unfold matA
    rw [if_pos rfl]
  have hz : ∀ j, j < n → sumN n (fun i => matA n P gn i j * y i) = 0 := fun j hj => by
    have := hy j hj
    by_cases e : j = 0
    · rw [← this]
      apply sumN_congr
      intro i hi
      rw [matL_A (gn := gn) hj hi, if_pos e]
    · have e2 : ∀ i, i < n → matL n P j i * y i = (-1) * (matA n P gn i j * y i) := fun i hi => by
        rw [matL_A (gn := gn) hj hi, if_neg e]
        grind
      rw [sumN_congr e2, sumN_mul] at this
      grind
  have h1 : sumN n (fun i => y i * sumN n (fun j => matA n P gn i j * x j)) = y k := by
    have e : ∀ i, i < n → y i * sumN n (fun j => matA n P gn i j * x j) = if i = k then y i else 0 := fun i hi => by
      rw [hx i hi]
      show y i * (if i = k then 1 else 0) = _
      split
      · grind
      · grind
    rw [sumN_congr e, sumN_one hk]
  have h2 : sumN n (fun i => y i * sumN n (fun j => matA n P gn i j * x j)) = sumN n (fun j => x j * sumN n (fun i => matA n P gn i j * y i)) := by
    have e1 : ∀ i, i < n → y i * sumN n (fun j => matA n P gn i j * x j) = sumN n (fun j => y i * (matA n P gn i j * x j)) := fun i _ => (sumN_mul _ _).symm
    have e2 : ∀ j, j < n → x j * sumN n (fun i => matA n P gn i j * y i) = sumN n (fun i => y i * (matA n P gn i j * x j)) := fun j _ => by
      rw [← sumN_mul]
      apply sumN_congr
      intro i _
      grind
    rw [sumN_congr e1, sumN_comm, sumN_congr e2]
  rw [← h1, h2]
  apply sumN_zero'
  intro j hj
  rw [hz j hj]
  grind
def shareL (n : Nat) (P : Mx) (i : Nat) : Rat := gj n n (matL n P) i n
/-- the worth by shares -/
theorem Chn.worth (C : Chn n P) (gn : Nat → Rat) : sumN n (fun i => shareL n P i * gn i) = worthA n P gn := by
  have n0 := C.n0
  have hs : ∀ l, l < n → sumN n (fun b => matL n P l b * shareL n P b) = if l = 0 then 1 else 0 := fun l hl => by
    have h := gj_solves C.nsL l hl
    refine h.trans ?_
    unfold matL
    split
    · rfl
    · rw [if_pos rfl]
  let x : Nat → Rat := fun j => gj n n (matA n P gn) j n
  have hx : ∀ i, i < n → sumN n (fun j => matA n P gn i j * x j) = gn i := fun i hi => by
    rw [gj_solves (C.nsA gn) i hi]
    unfold matA
    rw [if_pos rfl]
  have hz : ∀ j, j < n → sumN n (fun i => matA n P gn i j * shareL n P i) = if j = 0 then 1 else 0 := fun j hj => by
    have h := hs j hj
    by_cases e : j = 0
    · rw [← h]
      apply sumN_congr
      intro i hi
      rw [matL_A (gn := gn) hj hi, if_pos e]
    · have e2 : ∀ i, i < n → matL n P j i * shareL n P i = (-1) * (matA n P gn i j * shareL n P i) := fun i hi => by
        rw [matL_A (gn := gn) hj hi, if_neg e]
        grind
      rw [sumN_congr e2, sumN_mul, if_neg e] at h
      rw [if_neg e]
      grind
  have e1 : ∀ i, i < n → shareL n P i * gn i = sumN n (fun j => shareL n P i * (matA n P gn i j * x j)) := fun i hi => by rw [sumN_mul, hx i hi]
  rw [sumN_congr e1, sumN_comm]
  have e2 : ∀ j, j < n → sumN n (fun i => shareL n P i * (matA n P gn i j * x j)) = if j = 0 then x j else 0 := fun j hj => by
    have e3 : ∀ i, i < n → shareL n P i * (matA n P gn i j * x j) = x j * (matA n P gn i j * shareL n P i) := fun i _ => by grind
    rw [sumN_congr e3, sumN_mul, hz j hj]
    split
    · grind
    · grind
  rw [sumN_congr e2, sumN_one n0]
  rfl
end
end JL

set_option Elab.async false
set_option linter.all false
set_option maxRecDepth 100000
set_option maxHeartbeats 4000000
set_option autoImplicit false
/-! The chain of a route. -/
namespace JL
/-! ### sums over lists -/
def ls {α : Type} : List α → (α → Rat) → Rat
  | [], _ => 0
  | a :: l, f => f a + ls l f
section
variable {α β : Type}
theorem ls_append (l l' : List α) (f : α → Rat) : ls (l ++ l') f = ls l f + ls l' f := by
  induction l with
  | nil => show ls l' f = 0 + ls l' f; grind
  | cons a l ih => show f a + ls (l ++ l') f = f a + ls l f + ls l' f; rw [ih]; grind
theorem ls_map (l : List α) (g : α → β) (f : β → Rat) : ls (l.map g) f = ls l fun a => f (g a) := by
  induction l with
  | nil => rfl
  | cons a l ih => show f (g a) + ls (l.map g) f = _; rw [ih]; rfl
theorem ls_flatMap (l : List α) (g : α → List β) (f : β → Rat) : ls (l.flatMap g) f = ls l fun a => ls (g a) f := by
  induction l with
  | nil => rfl
  | cons a l ih => rw [List.flatMap_cons, ls_append, ih]; rfl
theorem ls_congr {l : List α} {f g : α → Rat} (h : ∀ a ∈ l, f a = g a) : ls l f = ls l g := by
  induction l with
  | nil => rfl
  | cons a l ih =>
    show f a + ls l f = g a + ls l g
    rw [h a (by simp), ih fun x hx => h x (by simp [hx])]
theorem ls_add (l : List α) (f g : α → Rat) : ls l (fun a => f a + g a) = ls l f + ls l g := by
  induction l with
  | nil => show (0 : Rat) = 0 + 0; grind
  | cons a l ih => show f a + g a + ls l (fun a => f a + g a) = f a + ls l f + (g a + ls l g); rw [ih]; grind
theorem ls_mul (l : List α) (c : Rat) (f : α → Rat) : ls l (fun a => c * f a) = c * ls l f := by
  induction l with
  | nil => show (0 : Rat) = c * 0; grind
  | cons a l ih => show c * f a + ls l (fun a => c * f a) = c * (f a + ls l f); rw [ih]; grind
theorem ls_zero (l : List α) : ls l (fun _ => 0) = 0 := by
  induction l with
  | nil => rfl
  | cons a l ih => show (0 : Rat) + ls l (fun _ => 0) = 0; rw [ih]; grind
theorem ls_le {l : List α} {f g : α → Rat} (h : ∀ a ∈ l, f a ≤ g a) : ls l f ≤ ls l g := by
  induction l with
  | nil => exact Rat.le_refl
  | cons a l ih =>
    have h1 := h a (by simp)
    have h2 := ih fun x hx => h x (by simp [hx])
    show f a + ls l f ≤ g a + ls l g
    grind
theorem ls_nonneg {l : List α} {f : α → Rat} (h : ∀ a ∈ l, 0 ≤ f a) : 0 ≤ ls l f := by
  have := ls_le (f := fun _ => 0) h
  rwa [ls_zero] at this
theorem ls_mem {l : List α} {f : α → Rat} (h : ∀ a ∈ l, 0 ≤ f a) {a : α} (ha : a ∈ l) : f a ≤ ls l f := by
  induction l with
  | nil => cases ha
  | cons b l ih =>
    show f a ≤ f b + ls l f
    have h1 := h b (by simp)
    have h2 := ls_nonneg (l := l) (f := f) fun x hx => h x (by simp [hx])
    rcases List.mem_cons.mp ha with e | ha
    · rw [e]; grind
    · have := ih (fun x hx => h x (by simp [hx])) ha
      grind
theorem ls_comm (l : List α) (n : Nat) (f : Nat → α → Rat) : sumN n (fun j => ls l (f j)) = ls l fun a => sumN n fun j => f j a := by
  induction l with
  | nil => exact sumN_zero
  | cons a l ih =>
    show sumN n (fun j => f j a + ls l (f j)) = sumN n (fun j => f j a) + ls l fun a => sumN n fun j => f j a
    rw [sumN_add, ih]
theorem ls_foldl (l : List α) (f : α → Rat) (z : Rat) : l.foldl (fun acc a => acc + f a) z = z + ls l f := by
  induction l generalizing z with
  | nil => show z = z + 0; grind
  | cons a l ih => rw [List.foldl_cons, ih]; show z + f a + ls l f = z + (f a + ls l f); grind
end
/-! ### places of spots -/
def Cf.n (c : Cf) : Nat := (c.room + 1) * (c.nr + 1)
def Cf.at_ (c : Cf) (i : Nat) : Spot := (i / (c.nr + 1), i % (c.nr + 1))
def Cf.ix (c : Cf) (p : Spot) : Nat := p.1 * (c.nr + 1) + p.2
theorem Cf.at_ix {c : Cf} {p : Spot} (h : c.has p) : c.at_ (c.ix p) = p := by
  obtain ⟨a, b⟩ := p
  have h2 : b ≤ c.nr := h.2
  unfold Cf.at_ Cf.ix
  show ((a * (c.nr + 1) + b) / (c.nr + 1), (a * (c.nr + 1) + b) % (c.nr + 1)) = (a, b)
  rw [Nat.mul_comm, Nat.mul_add_div (by omega), Nat.div_eq_of_lt (by omega), Nat.mul_add_mod, Nat.mod_eq_of_lt (by omega)]
  rfl
theorem Cf.ix_at {c : Cf} (i : Nat) : c.ix (c.at_ i) = i := by
  unfold Cf.at_ Cf.ix
  show i / (c.nr + 1) * (c.nr + 1) + i % (c.nr + 1) = i
  exact Nat.div_add_mod' i (c.nr + 1)
theorem Cf.ix_lt {c : Cf} {p : Spot} (h : c.has p) : c.ix p < c.n := by
  obtain ⟨a, b⟩ := p
  have h1 : a ≤ c.room := h.1
  have h2 : b ≤ c.nr := h.2
  unfold Cf.ix Cf.n
  show a * (c.nr + 1) + b < (c.room + 1) * (c.nr + 1)
  have := Nat.mul_le_mul_right (c.nr + 1) (show a + 1 ≤ c.room + 1 by omega)
  rw [Nat.add_mul] at this
  omega
theorem Cf.at_has {c : Cf} {i : Nat} (h : i < c.n) : c.has (c.at_ i) := by
  unfold Cf.n at h
  refine ⟨?_, ?_⟩
  · show i / (c.nr + 1) ≤ c.room
    have := (Nat.div_lt_iff_lt_mul (show 0 < c.nr + 1 by omega)).mpr h
    omega
  · show i % (c.nr + 1) ≤ c.nr
    have := Nat.mod_lt i (show 0 < c.nr + 1 by omega)
    omega
theorem range_mul (m : Nat) : ∀ k, List.range (k * m) = (List.range k).flatMap fun h => (List.range m).map fun t => h * m + t
  | 0 => by simp
  | k + 1 => by
    rw [Nat.add_mul, Nat.one_mul, List.range_add, range_mul m k, List.range_succ, List.flatMap_append]
    simp
theorem spots_eq (c : Cf) : c.spots = (List.range c.n).map c.at_ := by
  unfold Cf.n
  rw [range_mul, List.map_flatMap]
  unfold Cf.spots
  congr 1
  funext h
  rw [List.map_map]
  apply List.map_congr_left
  intro t ht
  have ht' := List.mem_range.mp ht
  show (h, t) = c.at_ (h * (c.nr + 1) + t)
  unfold Cf.at_
  rw [Nat.mul_comm, Nat.mul_add_div (by omega), Nat.div_eq_of_lt ht', Nat.mul_add_mod, Nat.mod_eq_of_lt ht']
  rfl
theorem Cf.n9 {c : Cf} (hc : c.Ok) : c.n ≤ 9 := hc.sz
theorem Cf.n0 (c : Cf) : 0 < c.n := Nat.mul_pos (by omega) (by omega)
/-! ### what follows -/
theorem fol_getQ (c : Cf) (l : List (Spot × Rat × Nat)) (f : FSt) (q : Spot) : getQ (l.foldl c.fstep f).1 (spK q) = getQ f.1 (spK q) + ls l fun a => if a.1 = q then a.2.1 else 0 := by
  induction l generalizing f with
  | nil => show _ = _ + (0 : Rat); rw [List.foldl_nil]; grind
  | cons a l ih =>
    rw [List.foldl_cons, ih]
    show getQ (dvPut f.1 (spK a.1) (getQ f.1 (spK a.1) + a.2.1)) (spK q) + ls l _ = getQ f.1 (spK q) + ((if a.1 = q then a.2.1 else 0) + ls l _)
    rw [getQ_put]
    by_cases e : a.1 = q
    · rw [if_pos (by rw [e]), if_pos e, e]; grind
    · rw [if_neg (fun z => e (spK_inj z)), if_neg e]; grind
theorem fol_gain (c : Cf) (l : List (Spot × Rat × Nat)) (f : FSt) : (l.foldl c.fstep f).2 = f.2 + ls l fun a => a.2.1 * (((a.2.2 : Int) : Rat) - c.paid a.1) := by
  induction l generalizing f with
  | nil => show _ = _ + (0 : Rat); rw [List.foldl_nil]; grind
  | cons a l ih =>
    rw [List.foldl_cons, ih]
    show f.2 + a.2.1 * (((a.2.2 : Int) : Rat) - c.paid a.1) + ls l _ = f.2 + (a.2.1 * (((a.2.2 : Int) : Rat) - c.paid a.1) + ls l _)
    grind
/-- the chance to come from a spot to a spot; what comes in -/
def Cf.P (c : Cf) (r : Rt) : Mx := fun i j => if i < c.n then getQ (c.fol r (c.at_ i)).1 (spK (c.at_ j)) else 0
def Cf.G (c : Cf) (r : Rt) (i : Nat) : Rat := if i < c.n then (c.fol r (c.at_ i)).2 else 0
theorem P_eq {c : Cf} {r : Rt} {i : Nat} (hi : i < c.n) (j : Nat) : c.P r i j = ls (c.mv r (c.at_ i)) fun a => if a.1 = c.at_ j then a.2.1 else 0 := by
  unfold Cf.P
  rw [if_pos hi]
  unfold Cf.fol
  rw [fol_getQ]
  show (0 : Rat) + _ = _
  grind
theorem G_eq {c : Cf} {r : Rt} {i : Nat} (hi : i < c.n) : c.G r i = ls (c.mv r (c.at_ i)) fun a => a.2.1 * (((a.2.2 : Int) : Rat) - c.paid a.1) := by
  unfold Cf.G
  rw [if_pos hi]
  unfold Cf.fol
  rw [fol_gain]
  show (0 : Rat) + _ = _
  grind
theorem rat_divInt_nonneg {a b : Int} (ha : 0 ≤ a) (hb : 0 < b) : 0 ≤ Rat.divInt a b := by
  have h := divInt_mul a (b := b) (by omega)
  by_cases z : 0 ≤ Rat.divInt a b
  · exact z
  · exfalso
    have hb' : (0 : Rat) < (b : Rat) := by exact_mod_cast hb
    have ha' : (0 : Rat) ≤ (a : Rat) := by exact_mod_cast ha
    have h2 : Rat.divInt a b < 0 := by grind
    have := Rat.mul_pos (show (0 : Rat) < - Rat.divInt a b by grind) hb'
    grind
theorem rat_divInt_le {a b : Int} (hab : a ≤ b) (hb : 0 < b) : Rat.divInt a b ≤ 1 := by
  have h1 := rat_divInt_nonneg (a := b - a) (b := b) (by omega) hb
  have h2 := divInt_mul a (b := b) (by omega)
  have h3 := divInt_mul (b - a) (b := b) (by omega)
  have hb' : (0 : Rat) < (b : Rat) := by exact_mod_cast hb
  rw [Rat.intCast_sub] at h3
  have h4 : (Rat.divInt a b + Rat.divInt (b - a) b - 1) * (b : Rat) = 0 := by grind
  rcases Rat.mul_eq_zero.mp h4 with z | z
  · grind
  · grind
theorem Cf.served_01 {c : Cf} (hc : c.Ok) : 0 < c.served ∧ c.served ≤ 1 := by
  have h0 := Cf.served_pos hc
  have h1 : 0 ≤ c.served := rat_divInt_nonneg (by omega) (by decide)
  exact ⟨by grind, rat_divInt_le (by have := hc.b10; omega) (by decide)⟩
theorem Cf.servedN_01 {c : Cf} (hc : c.Ok) : 0 < c.servedN ∧ c.servedN ≤ 1 := by
  have h0 := Cf.servedN_pos hc
  have h1 : 0 ≤ c.servedN := rat_divInt_nonneg (by omega) (by decide)
  exact ⟨by grind, rat_divInt_le (by have := hc.s10; omega) (by decide)⟩
theorem Cf.nobody_01 {c : Cf} (hc : c.Ok) : 0 < c.nobody := by
  unfold Cf.nobody
  have h2 := divInt_mul (c.t0 : Int) (b := 10) (by decide)
  have h3 : ((c.t0 : Int) : Rat) ≤ ((9 : Int) : Rat) := by have := hc.a9; exact_mod_cast this
  have h4 : ((9 : Int) : Rat) = 9 := rfl
  have h5 : ((10 : Int) : Rat) = 10 := rfl
  rw [h4] at h3
  rw [h5] at h2
  grind
theorem Cf.chance_nn {c : Cf} (hc : c.Ok) (k : Nat × Nat) : 0 ≤ c.chance k := by
  have := Cf.parts_pos hc
  exact rat_divInt_nonneg (Int.mul_nonneg (by omega) (by omega)) (by omega)
theorem Cf.chances_sum {c : Cf} (hc : c.Ok) : c.nobody + ls c.chances (fun a => a) = 1 := by
  have hp := Cf.parts_pos hc
  have key : ∀ l : List (Nat × Nat), ls (l.map c.chance) (fun a => a) * ((10 * c.partsI : Int) : Rat) = ((c.t0 : Int) : Rat) * (((l.map fun k => (k.1 : Int)).sum : Int) : Rat) := by
    intro l
    induction l with
    | nil => show (0 : Rat) * _ = _ * ((0 : Int) : Rat); rw [show ((0 : Int) : Rat) = 0 from rfl]; grind
    | cons a l ih =>
      rw [List.map_cons, List.map_cons, List.sum_cons, Rat.intCast_add]
      show (c.chance a + ls (l.map c.chance) fun a => a) * _ = _
      have := divInt_mul ((c.t0 : Int) * (a.1 : Int)) (b := 10 * c.partsI) (by omega)
      have e : c.chance a * ((10 * c.partsI : Int) : Rat) = ((c.t0 : Int) : Rat) * ((a.1 : Int) : Rat) := by rw [← Rat.intCast_mul]; exact this
      grind
  have h1 := key c.kinds
  have h2 := divInt_mul (c.t0 : Int) (b := 10) (by decide)
  have h3 : ((c.partsI : Int) : Rat) ≠ 0 := by
    intro z
    have : c.partsI = 0 := by exact_mod_cast z
    omega
  rw [show (c.kinds.map fun k => (k.1 : Int)).sum = c.partsI from rfl, Rat.intCast_mul] at h1
  unfold Cf.nobody
  have h4 : ls (c.kinds.map c.chance) (fun a => a) * ((10 : Int) : Rat) = ((c.t0 : Int) : Rat) := by
    have : (ls (c.kinds.map c.chance) (fun a => a) * ((10 : Int) : Rat) - ((c.t0 : Int) : Rat)) * ((c.partsI : Int) : Rat) = 0 := by grind
    rcases Rat.mul_eq_zero.mp this with z | z
    · grind
    · exact absurd z h3
  have h5 : ((10 : Int) : Rat) = 10 := rfl
  unfold Cf.chances
  rw [h5] at h2 h4
  grind
end JL

set_option Elab.async false
set_option linter.all false
set_option maxRecDepth 100000
set_option maxHeartbeats 4000000
set_option autoImplicit false
/-! The chain of a route comes down; what it earns. -/
namespace JL
theorem line_sum (s : Rat) (len : Nat) : ls (line s len) (fun a => a.2) = 1 := by
  unfold line
  split
  · show (1 : Rat) + 0 = 1; grind
  · show s + (1 - s + 0) = 1; grind
theorem line_nn {s : Rat} (h : 0 < s ∧ s ≤ 1) (len : Nat) : ∀ a ∈ line s len, 0 ≤ a.2 := by
  unfold line
  intro a ha
  split at ha
  · rw [List.mem_singleton] at ha; subst ha; show (0 : Rat) ≤ 1; grind
  · rcases List.mem_cons.mp ha with rfl | ha
    · show 0 ≤ s; grind
    · rw [List.mem_singleton] at ha; subst ha; show 0 ≤ 1 - s; grind
theorem line_down {s : Rat} (h : 0 < s ∧ s ≤ 1) (len : Nat) : ∃ a ∈ line s len, a.1 = len - 1 ∧ 0 < a.2 := by
  unfold line
  by_cases e : len = 0
  · rw [if_pos e]
    exact ⟨(0, 1), by simp, by rw [e], by show (0 : Rat) < 1; grind⟩
  · rw [if_neg e]
    exact ⟨(len - 1, s), by simp, rfl, h.1⟩
section
variable {c : Cf}
theorem seen_ls (p : Spot) (F : Spot × Rat → Rat) : ls (c.seen p) F = ls (line c.served p.1) fun a => ls (line c.servedN p.2) fun b => F ((a.1, b.1), a.2 * b.2) := by
  unfold Cf.seen
  rw [ls_flatMap]
  apply ls_congr
  intro a _
  rw [ls_map]
theorem seen_sum (p : Spot) : ls (c.seen p) (fun s => s.2) = 1 := by
  rw [seen_ls]
  have e : ∀ a ∈ line c.served p.1, (ls (line c.servedN p.2) fun b => a.2 * b.2) = a.2 := fun a _ => by rw [ls_mul, line_sum]; grind
  rw [ls_congr e, line_sum]
theorem seen_nn (hc : c.Ok) (p : Spot) : ∀ s ∈ c.seen p, 0 ≤ s.2 := by
  intro s hs
  unfold Cf.seen at hs
  rw [List.mem_flatMap] at hs
  obtain ⟨a, ha, hs⟩ := hs
  obtain ⟨b, hb, rfl⟩ := List.mem_map.mp hs
  exact Rat.mul_nonneg (line_nn (Cf.served_01 hc) _ a ha) (line_nn (Cf.servedN_01 hc) _ b hb)
theorem rows_ls (r : Rt) (s : Spot) (F : Nat × Rat × Nat → Rat) : ls (c.rowsAt r s) F = F (0, c.nobody, 0) + ls c.chances.zipIdx fun a => F (r s a.2, a.1, if r s a.2 ≠ 0 then c.gain a.2 else 0) := by
  unfold Cf.rowsAt
  show F (0, c.nobody, 0) + ls (c.chances.zipIdx.map _) F = _
  rw [ls_map]
theorem mv_ls (r : Rt) (p : Spot) (F : Spot × Rat × Nat → Rat) : ls (c.mv r p) F = ls (c.seen p) fun s => ls (c.rowsAt r s.1) fun a => F (joined s.1 a.1, s.2 * a.2.1, a.2.2) := by
  unfold Cf.mv
  rw [ls_flatMap]
  apply ls_congr
  intro a _
  rw [ls_map]
theorem zipIdx_ls (l : List Rat) (k : Nat) : ls (l.zipIdx k) (fun a => a.1) = ls l fun a => a := by
  induction l generalizing k with
  | nil => rfl
  | cons a l ih => rw [List.zipIdx_cons]; show a + ls (l.zipIdx (k + 1)) _ = a + ls l _; rw [ih]
theorem rows_sum (hc : c.Ok) (r : Rt) (s : Spot) : ls (c.rowsAt r s) (fun a => a.2.1) = 1 := by
  rw [rows_ls]
  show c.nobody + ls c.chances.zipIdx (fun a => a.1) = 1
  rw [zipIdx_ls, Cf.chances_sum hc]
theorem chance_mem_nn (hc : c.Ok) {a : Rat} (ha : a ∈ c.chances) : 0 ≤ a := by
  obtain ⟨q, _, rfl⟩ := List.mem_map.mp ha
  exact Cf.chance_nn hc q
theorem zip_mem_ch {a : Rat × Nat} (ha : a ∈ c.chances.zipIdx) : a.1 ∈ c.chances ∧ a.2 < c.nk := by
  obtain ⟨i1, i2, i3⟩ := List.mem_zipIdx ha
  refine ⟨by rw [i3]; exact List.getElem_mem _, by rw [← Cf.chances_len]; omega⟩
theorem rows_nn (hc : c.Ok) (r : Rt) (s : Spot) : ∀ a ∈ c.rowsAt r s, 0 ≤ a.2.1 := by
  intro a ha
  unfold Cf.rowsAt at ha
  rcases List.mem_cons.mp ha with rfl | ha
  · have := Cf.nobody_01 hc
    show 0 ≤ c.nobody
    grind
  · obtain ⟨b, hb, rfl⟩ := List.mem_map.mp ha
    exact chance_mem_nn hc (zip_mem_ch hb).1
theorem mv_nn (hc : c.Ok) (r : Rt) (p : Spot) : ∀ a ∈ c.mv r p, 0 ≤ a.2.1 := by
  intro a ha
  unfold Cf.mv at ha
  rw [List.mem_flatMap] at ha
  obtain ⟨s, hs, ha⟩ := ha
  obtain ⟨b, hb, rfl⟩ := List.mem_map.mp ha
  exact Rat.mul_nonneg (seen_nn hc p s hs) (rows_nn hc r _ b hb)
theorem mv_sum (hc : c.Ok) (r : Rt) (p : Spot) : ls (c.mv r p) (fun a => a.2.1) = 1 := by
  rw [mv_ls]
  have e : ∀ s ∈ c.seen p, (ls (c.rowsAt r s.1) fun a => s.2 * a.2.1) = s.2 := fun s _ => by rw [ls_mul, rows_sum hc]; grind
  rw [ls_congr e, seen_sum]
theorem mv_has (hc : c.Ok) {r : Rt} (hr : c.vr r) {p : Spot} (hp : c.has p) {a : Spot × Rat × Nat} (ha : a ∈ c.mv r p) : c.has a.1 := (mv_mem hc hr hp ha).1
theorem ls_pick {α : Type} {n : Nat} (l : List α) (g : α → Nat) (hg : ∀ a ∈ l, g a < n) (w : α → Rat) (y : Nat → Rat) : sumN n (fun j => (ls l fun a => if g a = j then w a else 0) * y j) = ls l fun a => w a * y (g a) := by
  have e : ∀ j, j < n → (ls l fun a => if g a = j then w a else 0) * y j = ls l fun a => if g a = j then w a * y j else 0 := fun j _ => by
    rw [show (ls l fun a => if g a = j then w a else 0) * y j = y j * (ls l fun a => if g a = j then w a else 0) by grind, ← ls_mul]
    apply ls_congr
    intro a _
    split <;> grind
  rw [sumN_congr e, ls_comm]
  apply ls_congr
  intro a ha
  have e2 : ∀ j, j < n → (if g a = j then w a * y j else 0) = if j = g a then w a * y j else 0 := fun j _ => by
    by_cases h : g a = j
    · rw [if_pos h, if_pos h.symm]
    · rw [if_neg h, if_neg (Ne.symm h)]
  rw [sumN_congr e2, sumN_one (hg a ha)]
theorem P_eq' (hc : c.Ok) {r : Rt} (hr : c.vr r) {i : Nat} (hi : i < c.n) {j : Nat} (hj : j < c.n) : c.P r i j = ls (c.mv r (c.at_ i)) fun a => if c.ix a.1 = j then a.2.1 else 0 := by
  rw [P_eq hi]
  apply ls_congr
  intro a ha
  have h1 := mv_has hc hr (Cf.at_has hi) ha
  by_cases e : a.1 = c.at_ j
  · rw [if_pos e, if_pos (by rw [e, Cf.ix_at])]
  · rw [if_neg e, if_neg fun z => e (by rw [← z, Cf.at_ix h1])]
theorem avg_P (hc : c.Ok) {r : Rt} (hr : c.vr r) (y : Nat → Rat) {i : Nat} (hi : i < c.n) : avg c.n (c.P r) y i = ls (c.mv r (c.at_ i)) fun a => a.2.1 * y (c.ix a.1) := by
  unfold avg
  rw [← ls_pick (n := c.n) (c.mv r (c.at_ i)) (fun a => c.ix a.1) (fun a ha => Cf.ix_lt (mv_has hc hr (Cf.at_has hi) ha)) (fun a => a.2.1) y]
  apply sumN_congr
  intro j hj
  rw [P_eq' hc hr hi hj]
theorem chn_of (hc : c.Ok) {r : Rt} (hr : c.vr r) : Chn c.n (c.P r) := by
  refine ⟨Cf.n0 c, fun i j hi hj => ?_, fun i hi => ?_, fun i hi h0 => ?_⟩
  · rw [P_eq hi]
    apply ls_nonneg
    intro a ha
    have := mv_nn hc r _ a ha
    split
    · exact this
    · exact Rat.le_refl
  · have := avg_P hc hr (fun _ => 1) hi
    unfold avg at this
    have e : ∀ j, j < c.n → c.P r i j * 1 = c.P r i j := fun j _ => by grind
    rw [sumN_congr e] at this
    rw [show sumN c.n (c.P r i) = sumN c.n (fun j => c.P r i j) from rfl, this]
    have e2 : ∀ a ∈ c.mv r (c.at_ i), a.2.1 * 1 = a.2.1 := fun a _ => by grind
    rw [ls_congr e2, mv_sum hc]
  · obtain ⟨a, ha, a1, a2⟩ := line_down (Cf.served_01 hc) (c.at_ i).1
    obtain ⟨b, hb, b1, b2⟩ := line_down (Cf.servedN_01 hc) (c.at_ i).2
    have hm : ((a.1, b.1), a.2 * b.2 * c.nobody, 0) ∈ c.mv r (c.at_ i) := by
      unfold Cf.mv
      rw [List.mem_flatMap]
      refine ⟨((a.1, b.1), a.2 * b.2), ?_, ?_⟩
      · unfold Cf.seen
        rw [List.mem_flatMap]
        exact ⟨a, ha, List.mem_map.mpr ⟨b, hb, rfl⟩⟩
      · refine List.mem_map.mpr ⟨(0, c.nobody, 0), by unfold Cf.rowsAt; simp, ?_⟩
        show (joined (a.1, b.1) 0, _, _) = _
        rw [joined0]
    have hw : 0 < a.2 * b.2 * c.nobody := Rat.mul_pos (Rat.mul_pos a2 b2) (Cf.nobody_01 hc)
    have hh : c.has (a.1, b.1) := mv_has hc hr (Cf.at_has hi) hm
    have hlt : c.ix (a.1, b.1) < i := by
      have e0 := Cf.ix_at (c := c) i
      rw [a1, b1]
      unfold Cf.ix at e0 ⊢
      show ((c.at_ i).1 - 1) * (c.nr + 1) + ((c.at_ i).2 - 1) < i
      generalize (c.at_ i).1 = x at *
      generalize (c.at_ i).2 = z at *
      cases x with
      | zero => rw [Nat.zero_mul] at e0; rw [show 0 - 1 = 0 from rfl, Nat.zero_mul]; omega
      | succ x => rw [Nat.add_mul] at e0; rw [show x + 1 - 1 = x from rfl]; omega
    refine ⟨c.ix (a.1, b.1), hlt, ?_⟩
    rw [P_eq' hc hr hi (by omega)]
    have := ls_mem (l := c.mv r (c.at_ i)) (f := fun q => if c.ix q.1 = c.ix (a.1, b.1) then q.2.1 else 0) (fun q hq => by
      have := mv_nn hc r _ q hq
      split
      · exact this
      · exact Rat.le_refl) hm
    dsimp only at this
    rw [if_pos rfl] at this
    grind
/-! ### how large -/
theorem dn_box {D M m : Nat} {q : Rat} (h : Dn D M q) (h1 : -(m : Rat) ≤ q) (h2 : q ≤ (m : Rat)) : Dn D (m * D) q := by
  obtain ⟨h0, z, ez, hz⟩ := h
  refine ⟨h0, z, ez, ?_⟩
  have hD : (0 : Rat) ≤ (D : Rat) := by exact_mod_cast Nat.zero_le D
  have a1 := Rat.mul_le_mul_of_nonneg_right h1 hD
  have a2 := Rat.mul_le_mul_of_nonneg_right h2 hD
  rw [ez] at a1 a2
  have e1 : (m : Rat) * (D : Rat) = ((m * D : Nat) : Rat) := by rw [Rat.natCast_mul]
  rw [e1] at a2
  have e2 : -(m : Rat) * (D : Rat) = ((-((m * D : Nat) : Int) : Int) : Rat) := by rw [Rat.intCast_neg, Rat.intCast_natCast, Rat.natCast_mul]; grind
  rw [e2] at a1
  have b1 : z ≤ ((m * D : Nat) : Int) := by rw [← Rat.intCast_natCast] at a2; exact_mod_cast a2
  have b2 : -((m * D : Nat) : Int) ≤ z := by exact_mod_cast a1
  omega
theorem P_01 (hc : c.Ok) {r : Rt} (hr : c.vr r) {i j : Nat} (hi : i < c.n) (hj : j < c.n) : 0 ≤ c.P r i j ∧ c.P r i j ≤ 1 := by
  have C := chn_of hc hr
  refine ⟨C.nn i j hi hj, ?_⟩
  have h1 := C.one i hi
  have h2 := sumN_le (n := c.n) (f := fun k => if k = j then c.P r i k else 0) (g := c.P r i) fun k hk => by
    split
    · exact Rat.le_refl
    · exact C.nn i k hi hk
  rw [sumN_one hj, h1] at h2
  exact h2
theorem P_dn (hc : c.Ok) {r : Rt} (hr : c.vr r) {i j : Nat} (hi : i < c.n) (hj : j < c.n) : Dn c.DD c.DD (c.P r i j) := by
  obtain ⟨h1, h2⟩ := P_01 hc hr hi hj
  have h3 : Dn c.DD (136800 * (c.mv r (c.at_ i)).length) (c.P r i j) := by
    unfold Cf.P
    rw [if_pos hi]
    exact (fold_dn hc _ fun a ha => mv_mem hc hr (Cf.at_has hi) ha).1 _
  have := dn_box (m := 1) h3 (by have : ((1 : Nat) : Rat) = 1 := rfl
                                 grind) (by have : ((1 : Nat) : Rat) = 1 := rfl
                                            grind)
  rwa [Nat.one_mul] at this
theorem G_dn (hc : c.Ok) {r : Rt} (hr : c.vr r) {i : Nat} (hi : i < c.n) : Dn c.DD (67 * c.DD) (c.G r i) := by
  have h3 : Dn c.DD (136800 * 67 * (c.mv r (c.at_ i)).length) (c.G r i) := by
    unfold Cf.G
    rw [if_pos hi]
    exact (fold_dn hc _ fun a ha => mv_mem hc hr (Cf.at_has hi) ha).2.1
  have h67 : ((67 : Nat) : Rat) = 67 := rfl
  have bx : ∀ a ∈ c.mv r (c.at_ i), -67 ≤ ((a.2.2 : Int) : Rat) - c.paid a.1 ∧ ((a.2.2 : Int) : Rat) - c.paid a.1 ≤ 67 := fun a ha => by
    obtain ⟨q1, q2, q3⟩ := mv_mem hc hr (Cf.at_has hi) ha
    obtain ⟨s1, s2⟩ := has_small hc q1
    have hp : c.cost * (a.1.1 + a.1.2) ≤ 28 := by
      calc c.cost * (a.1.1 + a.1.2) ≤ 4 * 7 := Nat.mul_le_mul hc.c4 (by omega)
        _ = 28 := rfl
    unfold Cf.paid
    rw [← Rat.intCast_sub]
    constructor
    · have : (-67 : Int) ≤ (a.2.2 : Int) - ((c.cost * (a.1.1 + a.1.2) : Nat) : Int) := by omega
      have h : ((-67 : Int) : Rat) ≤ (((a.2.2 : Int) - ((c.cost * (a.1.1 + a.1.2) : Nat) : Int) : Int) : Rat) := by exact_mod_cast this
      exact h
    · have : (a.2.2 : Int) - ((c.cost * (a.1.1 + a.1.2) : Nat) : Int) ≤ 67 := by omega
      have h : (((a.2.2 : Int) - ((c.cost * (a.1.1 + a.1.2) : Nat) : Int) : Int) : Rat) ≤ ((67 : Int) : Rat) := by exact_mod_cast this
      exact h
  have hs := mv_sum hc r (c.at_ i)
  refine dn_box h3 ?_ ?_
  · rw [h67, G_eq hi]
    have := ls_le (l := c.mv r (c.at_ i)) (f := fun a => (-67) * a.2.1) (g := fun a => a.2.1 * (((a.2.2 : Int) : Rat) - c.paid a.1)) fun a ha => by
      have h1 := Rat.mul_le_mul_of_nonneg_right (bx a ha).1 (mv_nn hc r _ a ha)
      grind
    rw [ls_mul, hs] at this
    grind
  · rw [h67, G_eq hi]
    have := ls_le (l := c.mv r (c.at_ i)) (g := fun a => 67 * a.2.1) (f := fun a => a.2.1 * (((a.2.2 : Int) : Rat) - c.paid a.1)) fun a ha => by
      have h1 := Rat.mul_le_mul_of_nonneg_right (bx a ha).2 (mv_nn hc r _ a ha)
      grind
    rw [ls_mul, hs] at this
    grind
/-- what elimination asks holds -/
theorem solP_A (hc : c.Ok) {r : Rt} (hr : c.vr r) : SolP c.n (matA c.n (c.P r) (c.G r)) := by
  obtain ⟨d1, d2⟩ := DD_le hc
  have n0 := Cf.n0 c
  refine ⟨n0, Cf.n9 hc, (chn_of hc hr).nsA _, ⟨c.DD, by omega, d1, fun i hi => ⟨fun j hj => ?_, ?_⟩⟩, ?_, .inl fun i hi => ?_⟩
  · unfold matA
    rw [if_neg (by omega)]
    split
    · exact (dn_one d1).mono (by omega)
    · obtain ⟨p1, p2⟩ := P_01 hc hr hi hj
      have hd := P_dn hc hr hi hj
      split
      · have := dn_box (m := 1) ((dn_one d1).sub hd) (by rw [show ((1 : Nat) : Rat) = 1 from rfl]; grind) (by rw [show ((1 : Nat) : Rat) = 1 from rfl]; grind)
        exact this.mono (by omega)
      · have := ((dn_zero d1).sub hd)
        exact this.mono (by omega)
  · unfold matA
    rw [if_pos rfl]
    exact (G_dn hc hr hi).mono (by omega)
  · unfold matA
    rw [if_neg (by omega), if_pos rfl]
  · unfold matA
    rw [if_neg (by omega), if_pos rfl]
theorem solP_L (hc : c.Ok) {r : Rt} (hr : c.vr r) : SolP c.n (matL c.n (c.P r)) := by
  obtain ⟨d1, d2⟩ := DD_le hc
  have n0 := Cf.n0 c
  refine ⟨n0, Cf.n9 hc, (chn_of hc hr).nsL, ⟨c.DD, by omega, d1, fun i hi => ⟨fun j hj => ?_, ?_⟩⟩, ?_, .inr fun j hj => ?_⟩
  · unfold matL
    split
    · exact (dn_one d1).mono (by omega)
    · rw [if_neg (by omega)]
      obtain ⟨p1, p2⟩ := P_01 hc hr hj hi
      have hd := P_dn hc hr hj hi
      split
      · have := dn_box (m := 1) (hd.sub (dn_one d1)) (by rw [show ((1 : Nat) : Rat) = 1 from rfl]; grind) (by rw [show ((1 : Nat) : Rat) = 1 from rfl]; grind)
        exact this.mono (by omega)
      · exact (hd.sub (dn_zero d1)).mono (by omega)
  · unfold matL
    split
    · exact (dn_one d1).mono (by omega)
    · rw [if_pos rfl]
      exact (dn_zero d1).mono (Nat.zero_le _)
  · unfold matL
    rw [if_pos rfl]
  · unfold matL
    rw [if_pos rfl]
end
end JL

set_option Elab.async false
set_option linter.all false
set_option maxRecDepth 100000
set_option maxHeartbeats 4000000
set_option autoImplicit false
/-! Better routes, until none is better. -/
namespace JL
def Cf.wor (c : Cf) (r : Rt) : Rat := worthA c.n (c.P r) (c.G r)
def Cf.potN (c : Cf) (r : Rt) : Nat → Rat := potA c.n (c.P r) (c.G r)
def Cf.pot (c : Cf) (r : Rt) : Spot → Rat := fun p => c.potN r (c.ix p)
def Cf.aftR (c : Cf) (r : Rt) (h : Spot → Rat) (s : Spot) : Rat := c.nobody * (h s - c.paid s) + ls c.chances.zipIdx fun a => a.1 * c.moveG h s a.2 (r s a.2)
def Cf.impr (c : Cf) (r : Rt) (h : Spot → Rat) : Rt := fun p k => if c.moveG h p k (r p k) < c.moveG h p k (c.bestC h p k) then c.bestC h p k else r p k
def sameR (c : Cf) (r r' : Rt) : Prop := ∀ p, c.has p → ∀ k, k < c.nk → r p k = r' p k
section
variable {c : Cf}
theorem T_eq (hc : c.Ok) {r : Rt} (hr : c.vr r) (y : Nat → Rat) {i : Nat} (hi : i < c.n) : avg c.n (c.P r) y i + c.G r i = ls (c.seen (c.at_ i)) fun s => s.2 * c.aftR r (fun p => y (c.ix p)) s.1 := by
  rw [avg_P hc hr y hi, G_eq hi, ← ls_add, mv_ls]
  apply ls_congr
  intro s _
  have e : ∀ a ∈ c.rowsAt r s.1, s.2 * a.2.1 * y (c.ix (joined s.1 a.1)) + s.2 * a.2.1 * (((a.2.2 : Int) : Rat) - c.paid (joined s.1 a.1)) = s.2 * (a.2.1 * (y (c.ix (joined s.1 a.1)) + (((a.2.2 : Int) : Rat) - c.paid (joined s.1 a.1)))) := fun a _ => by grind
  refine (ls_congr e).trans ?_
  rw [ls_mul, rows_ls]
  unfold Cf.aftR
  congr 1
  have e1 : joined s.1 0 = s.1 := joined0 _
  have e2 : ((((0 : Nat) : Int)) : Rat) = 0 := rfl
  have e3 : c.nobody * (y (c.ix (joined s.1 0)) + ((((0 : Nat) : Int) : Rat) - c.paid (joined s.1 0))) = c.nobody * (y (c.ix s.1) - c.paid s.1) := by rw [e1, e2]; grind
  have e4 : ∀ a ∈ c.chances.zipIdx, a.1 * (y (c.ix (joined s.1 (r s.1 a.2))) + ((((if r s.1 a.2 ≠ 0 then c.gain a.2 else 0 : Nat) : Int) : Rat) - c.paid (joined s.1 (r s.1 a.2)))) = a.1 * c.moveG (fun p => y (c.ix p)) s.1 a.2 (r s.1 a.2) := fun a _ => by
    unfold Cf.moveG
    dsimp only
    by_cases h : r s.1 a.2 ≠ 0
    · rw [if_pos h, if_pos h]; grind
    · rw [if_neg h, if_neg h, e2]; grind
  exact (congrArg (· + _) e3).trans (congrArg (_ + ·) (ls_congr e4))
theorem afterG_eq (h : Spot → Rat) (s : Spot) : c.afterG h s = c.nobody * (h s - c.paid s) + ls c.chances.zipIdx fun a => a.1 * c.moveG h s a.2 (c.bestC h s a.2) := by
  unfold Cf.afterG
  rw [ls_foldl]
theorem bestC_max (h : Spot → Rat) (p : Spot) (k : Nat) : ∀ ch ∈ c.able p, c.moveG h p k ch ≤ c.moveG h p k (c.bestC h p k) := by
  have key : ∀ (l : List Nat) (b : Nat), c.moveG h p k b ≤ c.moveG h p k (l.foldl (fun b ch => if c.moveG h p k b < c.moveG h p k ch then ch else b) b) ∧ ∀ x ∈ l, c.moveG h p k x ≤ c.moveG h p k (l.foldl (fun b ch => if c.moveG h p k b < c.moveG h p k ch then ch else b) b) := by
    intro l
    induction l with
    | nil => intro b; exact ⟨Rat.le_refl, fun _ hx => by cases hx⟩
    | cons a l ih =>
      intro b
      rw [List.foldl_cons]
      obtain ⟨i1, i2⟩ := ih (if c.moveG h p k b < c.moveG h p k a then a else b)
      have m : c.moveG h p k b ≤ c.moveG h p k (if c.moveG h p k b < c.moveG h p k a then a else b) ∧ c.moveG h p k a ≤ c.moveG h p k (if c.moveG h p k b < c.moveG h p k a then a else b) := by
        split <;> constructor <;> grind
      refine ⟨by grind, fun x hx => ?_⟩
      rcases List.mem_cons.mp hx with e | hx
      · rw [e]; grind
      · exact i2 x hx
  exact fun ch hch => (key (c.able p) 0).2 ch hch
theorem impr_vr {r : Rt} (hr : c.vr r) (h : Spot → Rat) : c.vr (c.impr r h) := fun p hp k hk => by
  unfold Cf.impr
  split
  · exact bestC_able h p k
  · exact hr p hp k hk
theorem impr_best {r : Rt} (hr : c.vr r) (h : Spot → Rat) {p : Spot} (hp : c.has p) {k : Nat} (hk : k < c.nk) : c.moveG h p k (c.impr r h p k) = c.moveG h p k (c.bestC h p k) := by
  unfold Cf.impr
  have := bestC_max h p k _ (hr p hp k hk)
  split
  · rfl
  · grind
theorem aft_impr {r : Rt} (hr : c.vr r) (h : Spot → Rat) {s : Spot} (hs : c.has s) : c.aftR (c.impr r h) h s = c.afterG h s := by
  rw [afterG_eq]
  unfold Cf.aftR
  congr 1
  apply ls_congr
  intro a ha
  rw [impr_best hr h hs (zip_mem_ch ha).2]
theorem aft_le (hc : c.Ok) {r : Rt} (hr : c.vr r) (h : Spot → Rat) {s : Spot} (hs : c.has s) : c.aftR r h s ≤ c.afterG h s := by
  rw [afterG_eq]
  unfold Cf.aftR
  have := ls_le (l := c.chances.zipIdx) (f := fun a => a.1 * c.moveG h s a.2 (r s a.2)) (g := fun a => a.1 * c.moveG h s a.2 (c.bestC h s a.2)) fun a ha => by
    obtain ⟨z1, z2⟩ := zip_mem_ch ha
    have h1 := Rat.mul_le_mul_of_nonneg_left (bestC_max h s a.2 _ (hr s hs a.2 z2)) (chance_mem_nn hc z1)
    exact h1
  grind
/-! ### the same routes -/
theorem rows_same {r r' : Rt} (h : sameR c r r') {s : Spot} (hs : c.has s) : c.rowsAt r s = c.rowsAt r' s := by
  unfold Cf.rowsAt
  congr 1
  apply List.map_congr_left
  intro a ha
  rw [h s hs a.2 (zip_mem_ch ha).2]
theorem mv_same (hc : c.Ok) {r r' : Rt} (h : sameR c r r') {p : Spot} (hp : c.has p) : c.mv r p = c.mv r' p := by
  unfold Cf.mv
  rw [List.flatMap_def, List.flatMap_def]
  congr 1
  apply List.map_congr_left
  intro s hs
  rw [rows_same h (seen_mem hc hp hs).1]
theorem fol_same (hc : c.Ok) {r r' : Rt} (h : sameR c r r') {p : Spot} (hp : c.has p) : c.fol r p = c.fol r' p := by
  unfold Cf.fol
  rw [mv_same hc h hp]
theorem P_same (hc : c.Ok) {r r' : Rt} (h : sameR c r r') : c.P r = c.P r' := by
  funext i j
  unfold Cf.P
  by_cases hi : i < c.n
  · rw [if_pos hi, if_pos hi, fol_same hc h (Cf.at_has hi)]
  · rw [if_neg hi, if_neg hi]
theorem G_same (hc : c.Ok) {r r' : Rt} (h : sameR c r r') : c.G r = c.G r' := by
  funext i
  unfold Cf.G
  by_cases hi : i < c.n
  · rw [if_pos hi, if_pos hi, fol_same hc h (Cf.at_has hi)]
  · rw [if_neg hi, if_neg hi]
theorem wor_same (hc : c.Ok) {r r' : Rt} (h : sameR c r r') : c.wor r = c.wor r' := by unfold Cf.wor; rw [P_same hc h, G_same hc h]
theorem potN_same (hc : c.Ok) {r r' : Rt} (h : sameR c r r') : c.potN r = c.potN r' := by unfold Cf.potN; rw [P_same hc h, G_same hc h]
/-! ### a step -/
theorem moveG_congr {h h' : Spot → Rat} (e : ∀ p, c.has p → h p = h' p) {p : Spot} (hp : c.has p) {k ch : Nat} (hch : ch ∈ c.able p) : c.moveG h p k ch = c.moveG h' p k ch := by
  unfold Cf.moveG
  rw [e _ (able_has hp hch)]
def Fix (c : Cf) (r : Rt) : Prop := sameR c (c.impr r (c.pot r)) r
theorem sol_T (hc : c.Ok) {r : Rt} (hr : c.vr r) {i : Nat} (hi : i < c.n) : c.wor r + c.potN r i = ls (c.seen (c.at_ i)) fun s => s.2 * c.aftR r (c.pot r) s.1 := by
  exact ((chn_of hc hr).sol (c.G r) hi).trans (T_eq hc hr (c.potN r) hi)
/-- at a route that none betters the bounds hold -/
theorem fix_T (hc : c.Ok) {r : Rt} (hr : c.vr r) (hf : Fix c r) {i : Nat} (hi : i < c.n) : c.wor r + c.potN r i = ls (c.seen (c.at_ i)) fun s => s.2 * c.afterG (c.pot r) s.1 := by
  rw [sol_T hc hr hi]
  apply ls_congr
  intro s hs
  have h := (seen_mem hc (Cf.at_has hi) hs).1
  rw [← aft_impr hr (c.pot r) h]
  unfold Cf.aftR
  congr 2
  apply ls_congr
  intro a ha
  rw [hf s.1 h a.2 (zip_mem_ch ha).2]
theorem step_rise (hc : c.Ok) {r : Rt} (hr : c.vr r) :
    c.wor r < c.wor (c.impr r (c.pot r)) ∨ (c.wor (c.impr r (c.pot r)) = c.wor r ∧ ∀ i, i < c.n → c.potN r i ≤ c.potN (c.impr r (c.pot r)) i) := by
  have hr' := impr_vr hr (c.pot r)
  generalize hR : c.impr r (c.pot r) = r' at *
  have C := chn_of hc hr'
  obtain ⟨a1, a2⟩ := C.rise (d := fun i => c.potN r' i - c.potN r i) (e := c.wor r' - c.wor r) (δ := fun i => (avg c.n (c.P r') (c.potN r) i + c.G r' i) - (c.wor r + c.potN r i)) (fun i hi => by
    rw [T_eq hc hr' (c.potN r) hi, sol_T hc hr hi]
    have := ls_le (l := c.seen (c.at_ i)) (f := fun s => s.2 * c.aftR r (c.pot r) s.1) (g := fun s => s.2 * c.aftR r' (fun p => c.potN r (c.ix p)) s.1) fun s hs => by
      have h := (seen_mem hc (Cf.at_has hi) hs).1
      have e : c.aftR r' (fun p => c.potN r (c.ix p)) s.1 = c.afterG (c.pot r) s.1 := by
        rw [← hR]
        exact aft_impr hr (c.pot r) h
      rw [e]
      exact Rat.mul_le_mul_of_nonneg_left (aft_le hc hr _ h) (seen_nn hc _ s hs)
    grind) (fun i hi => by
    rw [avg_sub]
    have h1 : c.wor r' + c.potN r' i = avg c.n (c.P r') (c.potN r') i + c.G r' i := C.sol (c.G r') hi
    show c.potN r' i - c.potN r i + (c.wor r' - c.wor r) = _
    grind)
  by_cases e : c.wor r < c.wor r'
  · exact .inl e
  · refine .inr ⟨by grind, fun i hi => ?_⟩
    have h1 := a2 (by grind) i hi
    have z1 : c.potN r' 0 = 0 := by unfold Cf.potN potA; exact if_pos rfl
    have z2 : c.potN r 0 = 0 := by unfold Cf.potN potA; exact if_pos rfl
    have h2 : c.potN r' 0 - c.potN r 0 ≤ c.potN r' i - c.potN r i := h1
    rw [z1, z2] at h2
    grind
def Cf.V (c : Cf) (r : Rt) : Rat × Rat := (c.wor r, sumN c.n (c.potN r))
def ltV (a b : Rat × Rat) : Prop := a.1 < b.1 ∨ (a.1 = b.1 ∧ a.2 < b.2)
theorem ltV_irr (a : Rat × Rat) : ¬ ltV a a := fun h => by
  rcases h with h | h
  · grind
  · have := h.2
    grind
theorem ltV_trans {a b d : Rat × Rat} (h : ltV a b) (h2 : ltV b d) : ltV a d := by
  unfold ltV at *
  rcases h with h | ⟨h, h'⟩
  · rcases h2 with h2 | ⟨h2, h2'⟩
    · exact .inl (by grind)
    · exact .inl (by grind)
  · rcases h2 with h2 | ⟨h2, h2'⟩
    · exact .inl (by grind)
    · exact .inr ⟨by grind, by grind⟩
theorem step_V (hc : c.Ok) {r : Rt} (hr : c.vr r) : ltV (c.V r) (c.V (c.impr r (c.pot r))) ∨ (c.V (c.impr r (c.pot r)) = c.V r ∧ Fix c (c.impr r (c.pot r))) := by
  have hr' := impr_vr hr (c.pot r)
  have hb : ∀ p, c.has p → ∀ k, k < c.nk → c.moveG (c.pot r) p k (c.impr r (c.pot r) p k) = c.moveG (c.pot r) p k (c.bestC (c.pot r) p k) := fun p hp k hk => impr_best hr (c.pot r) hp hk
  rcases step_rise hc hr with h | ⟨h1, h2⟩
  · exact .inl (.inl h)
  · generalize c.impr r (c.pot r) = r' at *
    have hs := sumN_le h2
    by_cases e : sumN c.n (c.potN r) < sumN c.n (c.potN r')
    · exact .inl (.inr ⟨h1.symm, e⟩)
    · have hz := sumN_zero_of (n := c.n) (f := fun i => c.potN r' i - c.potN r i) (fun i hi => by have := h2 i hi; grind) (by rw [sumN_sub]; grind)
      have he : ∀ i, i < c.n → c.potN r' i = c.potN r i := fun i hi => by have := hz i hi; grind
      refine .inr ⟨?_, fun p hp k hk => ?_⟩
      · unfold Cf.V
        rw [h1, sumN_congr he]
      · have hp' : ∀ p, c.has p → c.pot r' p = c.pot r p := fun p hp => he _ (Cf.ix_lt hp)
        unfold Cf.impr
        rw [if_neg]
        rw [moveG_congr hp' hp (hr' p hp k hk), moveG_congr hp' hp (bestC_able _ p k), hb p hp k hk]
        have := bestC_max (c := c) (c.pot r) p k _ (bestC_able (c := c) (c.pot r') p k)
        grind
/-! ### there are but so many routes -/
def prods {α : Type} (xs : List α) : Nat → List (List α)
  | 0 => [[]]
  | n + 1 => xs.flatMap fun x => (prods xs n).map (x :: ·)
theorem mem_prods {α : Type} {xs : List α} : ∀ {n : Nat} {l : List α}, l.length = n → (∀ x ∈ l, x ∈ xs) → l ∈ prods xs n
  | 0, l, h, _ => by rw [List.length_eq_zero_iff.mp h]; simp [prods]
  | n + 1, [], h, _ => by cases h
  | n + 1, x :: l, h, hx => by
    unfold prods
    rw [List.mem_flatMap]
    exact ⟨x, hx x (by simp), List.mem_map.mpr ⟨l, mem_prods (by simpa using h) fun y hy => hx y (by simp [hy]), rfl⟩⟩
def Cf.dec (c : Cf) (L : List (List Nat)) : Rt := fun p k => (L.getD (c.ix p) []).getD k 0
def Cf.cod (c : Cf) (r : Rt) : List (List Nat) := (List.range c.n).map fun i => (List.range c.nk).map fun k => r (c.at_ i) k
theorem dec_cod (r : Rt) : sameR c (c.dec (c.cod r)) r := fun p hp k hk => by
  unfold Cf.dec Cf.cod
  rw [List.getD_eq_getElem?_getD, List.getD_eq_getElem?_getD, List.getElem?_map, List.getElem?_range (Cf.ix_lt hp)]
  show (((List.range c.nk).map fun k => r (c.at_ (c.ix p)) k)[k]?).getD 0 = _
  rw [List.getElem?_map, List.getElem?_range hk, Cf.at_ix hp]
  rfl
def Cf.all (c : Cf) : List (List (List Nat)) := prods (prods [0, 1, 2] c.nk) c.n
theorem able_le {p : Spot} {ch : Nat} (h : ch ∈ c.able p) : ch ∈ [0, 1, 2] := by
  unfold Cf.able at h
  simp only [List.mem_append, List.mem_singleton] at h
  rcases h with (h | h) | h
  · simp [h]
  · split at h
    · simp at h; simp [h]
    · cases h
  · split at h
    · simp at h; simp [h]
    · cases h
theorem cod_all {r : Rt} (hr : c.vr r) : c.cod r ∈ c.all := by
  unfold Cf.all Cf.cod
  apply mem_prods
  · simp
  · intro x hx
    obtain ⟨i, hi, rfl⟩ := List.mem_map.mp hx
    apply mem_prods
    · simp
    · intro y hy
      obtain ⟨k, hk, rfl⟩ := List.mem_map.mp hy
      exact able_le (hr _ (Cf.at_has (List.mem_range.mp hi)) k (List.mem_range.mp hk))
open Classical in
noncomputable def Cf.cnt (c : Cf) (v : Rat × Rat) : Nat := (c.all.filter fun L => decide (ltV v (c.V (c.dec L)))).length
theorem filter_lt {α : Type} {l : List α} {p q : α → Bool} (h : ∀ x ∈ l, p x = true → q x = true) (h2 : ∃ x ∈ l, q x = true ∧ p x = false) : (l.filter p).length < (l.filter q).length := by
  have le : ∀ l : List α, (∀ x ∈ l, p x = true → q x = true) → (l.filter p).length ≤ (l.filter q).length := by
    intro l
    induction l with
    | nil => intro _; exact Nat.le_refl _
    | cons a l ih =>
      intro h
      have := ih fun x hx => h x (by simp [hx])
      have ha := h a (by simp)
      rw [List.filter_cons, List.filter_cons]
      split
      · rename_i hp
        rw [if_pos (ha hp)]
        simp only [List.length_cons]
        omega
      · split
        · simp only [List.length_cons]; omega
        · exact this
  induction l with
  | nil => obtain ⟨x, hx, _⟩ := h2; cases hx
  | cons a l ih =>
    obtain ⟨x, hx, hq, hp⟩ := h2
    rw [List.filter_cons, List.filter_cons]
    rcases List.mem_cons.mp hx with e | hx
    · subst e
      rw [hp, hq]
      simp only [Bool.false_eq_true, if_false, if_true, List.length_cons]
      have := le l fun y hy => h y (by simp [hy])
      omega
    · have := ih (fun y hy => h y (by simp [hy])) ⟨x, hx, hq, hp⟩
      have ha := h a (by simp)
      split
      · rename_i hp
        rw [if_pos (ha hp)]
        simp only [List.length_cons]
        omega
      · split
        · simp only [List.length_cons]; omega
        · exact this
open Classical in
theorem cnt_lt (hc : c.Ok) {v : Rat × Rat} {r : Rt} (hr : c.vr r) (h : ltV v (c.V r)) : c.cnt (c.V r) < c.cnt v := by
  unfold Cf.cnt
  have hv : c.V (c.dec (c.cod r)) = c.V r := by
    unfold Cf.V
    rw [wor_same hc (dec_cod r), potN_same hc (dec_cod r)]
  refine filter_lt (fun L _ hL => decide_eq_true (ltV_trans h (of_decide_eq_true hL))) ⟨c.cod r, cod_all hr, ?_, ?_⟩
  · rw [hv]; exact decide_eq_true h
  · rw [hv]; exact decide_eq_false (ltV_irr _)
open Classical in
/-- how far a route is from the best -/
noncomputable def Cf.meas (c : Cf) (r : Rt) : Nat := 2 * c.cnt (c.V r) + (if Fix c r then 0 else 1)
open Classical in
theorem meas_lt (hc : c.Ok) {r : Rt} (hr : c.vr r) (hf : ¬ Fix c r) : c.meas (c.impr r (c.pot r)) < c.meas r := by
  have hr' := impr_vr hr (c.pot r)
  unfold Cf.meas
  rw [if_neg hf]
  rcases step_V hc hr with h | ⟨h1, h2⟩
  · have := cnt_lt hc hr' h
    split <;> omega
  · rw [h1, if_pos h2]
    omega
end
end JL

set_option Elab.async false
set_option linter.all false
set_option maxRecDepth 100000
set_option maxHeartbeats 4000000
set_option autoImplicit false
/-! A routing's solution; worths: the walks. -/
namespace JL
open PySem PySem.Spec PyProof.Rows L2
theorem cut1 (Ts : List Ty) (h : 1 ≤ Ts.length) : cutT Ts (some 1) none = Ts.drop 1 := by
  unfold cutT
  have e : HT.sIx Ts.length 0 (some 1) = 1 := by
    show (if (1 : Int) < 0 then ((1 : Int) + (Ts.length : Int)).toNat else min (1 : Int).toNat Ts.length) = 1
    rw [if_neg (by decide)]
    have : (1 : Int).toNat = 1 := rfl
    omega
  rw [e]
  show (Ts.drop 1).take (Ts.length - 1) = _
  rw [List.take_of_length_le (by rw [List.length_drop]; omega)]
theorem range_cons {n : Nat} (h : 0 < n) : List.range n = 0 :: List.range' 1 (n - 1) := by
  obtain ⟨m, rfl⟩ : ∃ m, n = m + 1 := ⟨n - 1, by omega⟩
  rw [List.range_eq_range', List.range'_succ]
  rfl
/-- a row as it is made -/
theorem row_make {n : Nat} (h : 0 < n) (g : Rat) (f A : Nat → Rat) (h0 : A 0 = 1) (hn : A n = g) (hf : ∀ j, 0 < j → j < n → A j = f j) :
    fracT 1 :: (cutT ((List.range n).map fun j => fracT (f j)) (some 1) none ++ [fracT g]) = (List.range (n + 1)).map fun j => fracT (A j) := by
  rw [cut1 _ (by rw [List.length_map, List.length_range]; exact h), List.range_succ, List.map_append, range_cons h]
  rw [List.map_cons, List.drop_one, List.tail_cons, List.map_cons, h0, List.cons_append, List.map_cons, List.map_nil, hn]
  congr 2
  apply List.map_congr_left
  intro j hj
  rw [List.mem_range'_1] at hj
  rw [hf j (by omega) (by omega)]
def Cf.A (c : Cf) (r : Rt) : Mx := matA c.n (c.P r) (c.G r)
theorem spots_len {c : Cf} : c.spots.length = c.n := spots_length c
section
variable {tb : List Addr} {X : Cx} {G : List Slt} {N : List Str} {sc : Scope} {k : Nat} {pos : Pos} {C R : Addr}
abbrev sc51_3 : Scope := defScope (inClass (topS 51) 3)
abbrev nm51_3 : List Str := ["self", "rows", "spot", "moves", "gain", "row", "worth", "rest", "one"]
theorem fs51_3 : FnScope nm51_3 ["self"] sc51_3 := ⟨rfl, rfl, rfl, by decide +kernel, rfl, by decide +kernel, by decide +kernel⟩
structure SoA where
  c : Cf
  r : Rt
abbrev solT (c : Cf) (r : Rt) : Ty := tupT [fracT (c.wor r), c.potT (c.pot r)]
abbrev Ok_solution (ev : Ev) (tb : List Addr) (R C : Addr) : Prop := MethOk ev tb R "solution" 6 (fun a : SoA => [RTr R C a.c a.r]) (fun a => a.c.Ok ∧ a.c.vr a.r) (fun a => solT a.c a.r)
theorem b51_3 (h : CxD X nm51_3 sc51_3 k) (hf : ∀ x, X.fn x = true) (hk : 5 ≤ k) (P : Px (evX X) C) (Q : Qx (evX X) R) (D1 : Ok_follow (evX X) tb R C) (D2 : Ok_solved (evX X) tb) (D_minus : Ok_minus (evX X) tb)
    (c : Cf) (hc : c.Ok) (r : Rt) (hr : c.vr r) :
    SS tb X [.v (RTr R C c r), .no, .no, .no, .no, .no, .no, .no, .no] (defBody (inClass (topS 51) 3)) (Gv (solT c r)) := by
  have n9 := Cf.n9 hc
  have n0 := Cf.n0 c
  refine (ss_cons (s_set h 1 (es_own (el_lst ea_nil))
   (ss_cons (s_forL h (it_list (e_fld h 3 (e_var h 0) Q.cl))
     (fun pre G1 => ∃ s2 s3 s4 s5, G1 = [.v (RTr R C c r), .own (pre.map fun p => rwT c.n (c.A r (c.ix p))), s2, s3, s4, s5, .no, .no, .no]) ⟨_, _, _, _, rfl⟩ (fun pre x post G1 e iv => ?_) (fun G1 iv => ?_)))))
  · obtain ⟨s2, s3, s4, s5, rfl⟩ := iv
    have hx : c.has x := spots_has.mp (by rw [e]; simp)
    have hi := Cf.ix_lt hx
    obtain ⟨f1, f2, f3⟩ := fold_bd hc hr hx (pre := c.mv r x) (post := []) (by simp)
    have hxi := Cf.at_ix hx
    have hA : fracT 1 :: (cutT (c.spots.map fun q => fracT ((if q = x then 1 else 0) - getQ (c.fol r x).1 (spK q))) (some 1) none ++ [fracT (c.fol r x).2]) = (List.range (c.n + 1)).map fun j => fracT (c.A r (c.ix x) j) := by
      rw [spots_eq, List.map_map]
      refine row_make n0 _ (fun j => (if c.at_ j = x then 1 else 0) - getQ (c.fol r x).1 (spK (c.at_ j))) (c.A r (c.ix x)) ?_ ?_ fun j j0 jn => ?_
      · unfold Cf.A matA
        rw [if_neg (by omega), if_pos rfl]
      · unfold Cf.A matA Cf.G
        rw [if_pos rfl, if_pos hi, hxi]
      · unfold Cf.A matA Cf.P
        rw [if_neg (by omega), if_neg (by omega), if_pos hi, hxi]
        by_cases ej : c.at_ j = x
        · rw [if_pos ej, if_pos (by rw [← ej, Cf.ix_at])]
        · rw [if_neg ej, if_neg fun z => ej (by rw [← z, hxi])]
    refine ⟨_, _, (tg_cell h hf 2), ?_⟩
    have hlen : (fracT 1 :: (cutT (c.spots.map fun q => fracT ((if q = x then 1 else 0) - getQ (c.fol r x).1 (spK q))) (some 1) none ++ [fracT (c.fol r x).2])).length ≤ sizeLine := by rw [hA, List.length_map, List.length_range, sizeLine_eq]; omega
    have hpre : (pre.map fun p => rwT c.n (c.A r (c.ix p))).length ≤ 1000 := by
      have := congrArg List.length e
      rw [spots_len, List.length_append] at this
      rw [List.length_map]
      omega
    have hfit : ∀ q : Spot, Fit (if q = x then 1 else 0) (getQ (c.fol r x).1 (spK q)) := fun q => by
      refine Fit.mk (a := 1) ?_ (f1 (spK q)) (by decide)
      split
      · exact (dn_one (D := 1) (by decide)).bd (by decide) (by decide)
      · exact (dn_zero (D := 1) (by decide)).bd (by decide) (by decide)
    refine (ss_cons (s_asg (e_meth h Q.cl D1 (FoA.mk c r x) (e_var h 0) (ea_cons (e_var h 2) ea_nil) ⟨hc, hr, hx⟩ rfl) (tg_tup h (tgs_cons (tg_cell h hf 3) (tgs_cons (tg_name h 4) tgs_nil)))
     (ss_cons (s_setLc h 5 ((lc_of h (R := fun q => fracT ((if q = x then 1 else 0) - getQ (c.fol r x).1 (spK q))) [("one", 8)] (it_list (e_fld h 3 (e_var h 0) Q.cl)) (fun s H C' cl fp h' q hq => (tg_name h' 8)) (fun s H C' cl fp h' q hq =>
        (e_two h' D_minus (e_ifExp (T := fracT (if q = x then 1 else 0)) (eb_eqD h' (e_var h' 8) (e_var h' 2) (dat_sp q) (dat_sp x) (pD_shaped _) (pD_shaped _)) (fun hq => e_eq (e_glob h' P.T.gONE) (by rw [pD_eqv] at hq; rw [if_pos (of_decide_eq_true hq)])) (fun hq => e_eq (e_glob h' P.T.gNONE) (by rw [pD_eqv] at hq; rw [if_neg (of_decide_eq_false hq)])))
          (e_dgetD h' (T := fracT (getQ (c.fol r x).1 (spK q))) (ks := spK q) (e_var h' 3) (e_var h' 8) (e_glob h' P.T.gNONE) (fun U => getT_some) getT_none) (hfit q))) (by rw [spots_len]; omega)))
      (ss_freeze 5 (Ts := c.spots.map fun q => fracT ((if q = x then 1 else 0) - getQ (c.fol r x).1 (spK q)))       (ss_one (s_append h 1 (e_eq (e_of_el (el_lst (ea_cons (e_glob h P.T.gONE) (ea_star (e_slL (e_var h 5) (eo_some e_int) eo_none) (.lst _) (ea_cons (e_var h 4) ea_nil))) hlen)) (congrArg lstT hA)) ⟨_, _, _, _, by rw [List.map_append]; rfl⟩ (small1000 hpre))))))))
  · obtain ⟨s2, s3, s4, s5, rfl⟩ := iv
    have hrows : (c.spots.map fun p => rwT c.n (c.A r (c.ix p))) = rowsT c.n (c.A r) := by
      rw [spots_eq, List.map_map]
      apply List.map_congr_left
      intro i _
      show rwT c.n (c.A r (c.ix (c.at_ i))) = _
      rw [Cf.ix_at]
    rw [hrows]
    have hx : ((List.range c.n).map fun i => fracT (gj c.n c.n (c.A r) i c.n)) = fracT (c.wor r) :: (List.range' 1 (c.n - 1)).map fun i => fracT (c.potN r i) := by
      rw [range_cons n0, List.map_cons]
      congr 1
      apply List.map_congr_left
      intro i hi
      rw [List.mem_range'_1] at hi
      unfold Cf.potN potA
      rw [if_neg (by omega)]
      rfl
    have hp : fracT 0 :: ((List.range' 1 (c.n - 1)).map fun i => fracT (c.potN r i)) = c.spots.map fun p => fracT (c.pot r p) := by
      rw [spots_eq, List.map_map]
      have e : (List.range c.n).map ((fun p => fracT (c.pot r p)) ∘ c.at_) = (List.range c.n).map fun i => fracT (c.potN r i) := by
        apply List.map_congr_left
        intro i _
        show fracT (c.potN r (c.ix (c.at_ i))) = _
        rw [Cf.ix_at]
      rw [e, range_cons n0, List.map_cons]
      congr 1
    have hp2 : dctT ((c.spots.map spK).zip (fracT 0 :: (((List.range' 1 (c.n - 1)).map fun i => fracT (c.potN r i)) ++ []))) = c.potT (c.pot r) := by
      rw [List.append_nil, hp, zip_map_self]
      rfl
    have hl2 : (fracT 0 :: (((List.range' 1 (c.n - 1)).map fun i => fracT (c.potN r i)) ++ [])).length = c.n := by
      rw [List.append_nil, hp, List.length_map, spots_len]
    have hsp : lstT (c.spots.map spT) = lstT ((c.spots.map spK).map keyT) := by rw [List.map_map]; rfl
    exact (ss_freeze 1 (ss_cons (s_star h hf 6 7 (e_eq (e_c1 h D2 (c.n, c.A r) (e_var h 1) (solP_A hc hr)) (congrArg lstT hx)) (by rw [List.length_map, List.length_range']; omega)
      (ss_freeze 7 (Ts := (List.range' 1 (c.n - 1)).map fun i => fracT (c.potN r i)) (ss_one (s_ret (e_tup (ea_cons (e_var h 6) (ea_cons (e_eq (e_dictZip h (ks := c.spots.map spK) (e_eq (e_fld h 3 (e_var h 0) Q.cl) hsp) (e_of_el (el_lst (ea_cons (e_glob h P.T.gNONE) (ea_star (e_var h 7) (.lst _) ea_nil)) (by rw [hl2, sizeLine_eq]; omega))) (.lst _) (by rw [hl2, List.length_map, spots_len]) (spots_nodup hc) (by rw [List.length_map, spots_len]; omega) P.T.dict P.T.zip) hp2) ea_nil))) Sub.rfl))))))
end
end JL

set_option Elab.async false
set_option linter.all false
set_option maxRecDepth 100000
set_option maxHeartbeats 4000000
set_option autoImplicit false
/-! Worths of routes, better routes: the walks. -/
namespace JL
open PySem PySem.Spec PyProof.Rows L2
theorem zip_self_mem {α : Type} {l : List α} {x : α × α} (h : x ∈ l.zip l) : x.1 = x.2 ∧ x.1 ∈ l := by
  rw [zip_diag] at h
  obtain ⟨j, hj, rfl⟩ := List.mem_map.mp h
  exact ⟨rfl, hj⟩
theorem impr_t {c : Cf} {r : Rt} {f : Spot → Rat} {p : Spot} {k : Nat} (h : c.moveG f p k (r p k) < c.moveG f p k (c.bestC f p k)) : nT (c.bestC f p k) = nT (c.impr r f p k) := by unfold Cf.impr; rw [if_pos h]
theorem impr_f {c : Cf} {r : Rt} {f : Spot → Rat} {p : Spot} {k : Nat} (h : ¬ c.moveG f p k (r p k) < c.moveG f p k (c.bestC f p k)) : nT (r p k) = nT (c.impr r f p k) := by unfold Cf.impr; rw [if_neg h]
section
variable {tb : List Addr} {X : Cx} {G : List Slt} {N : List Str} {sc : Scope} {k : Nat} {pos : Pos} {C R : Addr}
abbrev sc56 : Scope := defScope (topS 56)
abbrev nm56 : List Str := ["counter", "neighbour", "route"]
theorem fs56 : FnScope nm56 ["counter", "neighbour", "route"] sc56 := ⟨rfl, rfl, rfl, by decide +kernel, rfl, by decide +kernel, by decide +kernel⟩
abbrev Ok_worth_by (ev : Ev) (tb : List Addr) (C : Addr) : Prop := DefOk ev tb "worth_by" 7 (fun a : SoA => [cT C a.c, nbT a.c, tupT (a.c.spots.map (a.c.rowT a.r))]) (fun a => a.c.Ok ∧ a.c.vr a.r) (fun a => fracT (a.c.wor a.r))
theorem b56 (h : CxD X nm56 sc56 k) (hk : 6 ≤ k) (P : Px (evX X) C) (Q : Qx (evX X) R) (D1 : Mk_Routing (evX X) tb R C) (D2 : Ok_solution (evX X) tb R C) (c : Cf) (hc : c.Ok) (r : Rt) (hr : c.vr r) :
    SS tb X [.v (cT C c), .v (nbT c), .v (tupT (c.spots.map (c.rowT r)))] (defBody (topS 56)) (Gv (fracT (c.wor r))) :=
  (ss_one (s_ret (e_ixT (e_meth0 h Q.cl D2 (SoA.mk c r) (e_make h D1 (c, c.spots.map (c.rowT r)) (ea_cons (e_var h 0) (ea_cons (e_var h 1) (ea_cons (e_var h 2) ea_nil))) ⟨hc, by rw [List.length_map]⟩ rfl) ⟨hc, hr⟩ rfl) e_int rfl) Sub.rfl))
abbrev sc57 : Scope := defScope (topS 57)
abbrev nm57 : List Str := ["counter", "neighbour", "route", "potentials", "rows", "spot", "row", "found", "kind", "choice", "other", "more"]
theorem fs57 : FnScope nm57 ["counter", "neighbour", "route", "potentials"] sc57 := ⟨rfl, rfl, rfl, by decide +kernel, rfl, by decide +kernel, by decide +kernel⟩
structure ImA where
  c : Cf
  r : Rt
  h : Spot → Rat
abbrev Ok_improved (ev : Ev) (tb : List Addr) (C : Addr) : Prop := DefOk ev tb "improved" 5 (fun a : ImA => [cT C a.c, nbT a.c, tupT (a.c.spots.map (a.c.rowT a.r)), a.c.potT a.h]) (fun a => a.c.Ok ∧ a.c.vr a.r ∧ ∃ d, PB a.c a.h d) (fun a => tupT (a.c.spots.map (a.c.rowT (a.c.impr a.r a.h))))
theorem b57 (h : CxD X nm57 sc57 k) (hk : 4 ≤ k) (P : Px (evX X) C) (D1 : Ok_pairs_of (evX X) tb C) (D2 : Ok_best_choice (evX X) tb C) (D3 : Ok_gain_by (evX X) tb C) (D_less : Ok_is_less (evX X) tb) (c : Cf) (hc : c.Ok) (r : Rt) (hr : c.vr r) (f : Spot → Rat) {d : Nat} (b : PB c f d) :
    SS tb X [.v (cT C c), .v (nbT c), .v (tupT (c.spots.map (c.rowT r))), .v (c.potT f), .no, .no, .no, .no, .no, .no, .no, .no] (defBody (topS 57)) (Gv (tupT (c.spots.map (c.rowT (c.impr r f))))) := by
  have n9 := Cf.n9 hc
  have h3 : c.nk ≤ 3 := hc.k3
  refine (ss_cons (s_set h 4 (es_own (el_lst ea_nil))
   (ss_cons (s_forL h (it_zipLT h (xs := c.spots) (ys := c.spots) (T := spT) (U := c.rowT r) (e_c2 h D1 c (e_var h 0) (e_var h 1) hc) (e_var h 2) P.T.zip)
     (fun pre G1 => ∃ s5 s6 s7 s8 s9 s10 s11, G1 = [.v (cT C c), .v (nbT c), .v (tupT (c.spots.map (c.rowT r))), .v (c.potT f), .own (pre.map fun z => c.rowT (c.impr r f) z.1), s5, s6, s7, s8, s9, s10, s11]) ⟨_, _, _, _, _, _, _, rfl⟩ (fun pre x post G1 e iv => ?_) (fun G1 iv => ?_)))))
  · obtain ⟨s5, s6, s7, s8, s9, s10, s11, rfl⟩ := iv
    obtain ⟨hx1, hx2⟩ := zip_self_mem (l := c.spots) (x := x) (by rw [e]; simp)
    have hp : c.has x.1 := spots_has.mp hx2
    have hpl : pre.length ≤ 9 := by
      have := congrArg List.length e
      rw [List.length_zip, spots_len, List.length_append] at this
      omega
    obtain ⟨p, p2⟩ := x
    dsimp only at hx1 hx2 hp
    subst hx1
    refine ⟨_, _, (tg_tup h (tgs_cons (tg_name h 5) (tgs_cons (tg_name h 6) tgs_nil))), ?_⟩
    refine (ss_cons (s_set h 7 (es_own (el_lst ea_nil))
      (ss_cons (s_forL h (it_enumT h (xs := List.range c.nk) (T := fun k => nT (r p k)) (e_var h 6) P.T.enumerate)
       (fun pre2 G1 => ∃ s8 s9 s10 s11, G1 = [.v (cT C c), .v (nbT c), .v (tupT (c.spots.map (c.rowT r))), .v (c.potT f), .own (pre.map fun z => c.rowT (c.impr r f) z.1), .v (spT p), .v (c.rowT r p), .own (pre2.map fun z => nT (c.impr r f p z.2)), s8, s9, s10, s11]) ⟨_, _, _, _, rfl⟩ (fun pre2 y post2 G2 e2 iv2 => ?_) (fun G2 iv2 => ?_)))))
    · obtain ⟨s8, s9, s10, s11, rfl⟩ := iv2
      have hy : y ∈ (List.range c.nk).zipIdx := by rw [e2]; simp
      obtain ⟨i1, i2, i3⟩ := List.mem_zipIdx hy
      rw [List.length_range] at i2
      have hk2 : y.2 < c.nk := by omega
      have hy1 : y.1 = y.2 := by rw [i3]; simp
      have hl2 : pre2.length ≤ 3 := by
        have := congrArg List.length e2
        rw [List.length_zipIdx, List.length_range, List.length_append] at this
        omega
      obtain ⟨y1, y2⟩ := y
      dsimp only at hy1 hk2
      subst hy1
      have j1 := able_has hp (bestC_able f p y1)
      have j2 := able_has hp (hr p hp y1 hk2)
      refine ⟨_, _, (tg_tup h (tgs_cons (tg_name h 8) (tgs_cons (tg_name h 9) tgs_nil))), ?_⟩
      refine (ss_cons (s_set h 10 (es_v (e_call h D2 (BcA.mk c f p y1) (ea_cons (e_var h 0) (ea_cons (e_var h 1) (ea_cons (e_var h 3) (ea_cons (e_var h 5) (ea_cons (e_var h 8) ea_nil))))) ⟨hc, hk2, hp, d, b⟩ rfl hk))
       (ss_cons (s_set h 11 (es_v (e_c4 h D3 (GbA.mk c f p y1 (c.bestC f p y1)) (e_var h 0) (e_var h 3) (e_var h 5) (e_tup (ea_cons (e_var h 8) (ea_cons (e_var h 10) ea_nil))) ⟨hc, hk2, j1, d, b⟩))
        (ss_one (s_append h 7 (e_ifExp (T := nT (c.impr r f p y1)) (eb_val (e_two h D_less (e_c4 h D3 (GbA.mk c f p y1 (r p y1)) (e_var h 0) (e_var h 3) (e_var h 5) (e_tup (ea_cons (e_var h 8) (ea_cons (e_var h 9) ea_nil))) ⟨hc, hk2, j2, d, b⟩) (e_var h 11) (FitW.mk (moveG_bd hc b j2) (moveG_bd hc b j1) (by decide))))
          (fun hq => e_eq (e_var h 10) (impr_t (of_decide_eq_true hq))) (fun hq => e_eq (e_var h 9) (impr_f (of_decide_eq_false hq))))
          ⟨_, _, _, _, by rw [List.map_append]; rfl⟩ (small1000 (by rw [List.length_map]; omega))))))))
    · obtain ⟨s8, s9, s10, s11, rfl⟩ := iv2
      refine (ss_freeze 7 (ss_one (s_append h 4 (e_eq (e_tupleOf h (e_var h 7) P.T.tuple) ?_) ⟨_, _, _, _, _, _, _, by rw [List.map_append]; rfl⟩ (small1000 (by rw [List.length_map]; omega)))))
      show tupT (((List.range c.nk).zipIdx).map ((fun k => nT (c.impr r f p k)) ∘ Prod.snd)) = tupT _
      rw [← List.map_map, List.zipIdx_map_snd, List.length_range, ← List.range_eq_range']
  · obtain ⟨s5, s6, s7, s8, s9, s10, s11, rfl⟩ := iv
    have hz : tupT ((c.spots.zip c.spots).map fun z => c.rowT (c.impr r f) z.1) = tupT (c.spots.map (c.rowT (c.impr r f))) := by rw [zip_diag, List.map_map]; rfl
    exact (ss_freeze 4 (ss_one (s_ret (e_tupleOf h (e_var h 4) P.T.tuple) (Sub.of_eq hz))))
end
end JL

set_option Elab.async false
set_option linter.all false
set_option maxRecDepth 100000
set_option maxHeartbeats 4000000
set_option autoImplicit false
/-! The best route; what routes are as data; how large potentials are. -/
namespace JL
open PySem PySem.Spec PyProof.Rows L2
section
variable {c : Cf}
def Cf.own (c : Cf) : Rt := fun p k => c.ownC k p
theorem own_vr : c.vr c.own := fun p _ k _ => by
  show c.ownC k p ∈ c.able p
  unfold Cf.ownC Cf.able
  simp only [List.mem_append, List.mem_singleton]
  repeat' split
  all_goals simp_all
  all_goals grind
/-- the routes that are tried -/
noncomputable def Cf.it (c : Cf) : Nat → Rt
  | 0 => c.own
  | j + 1 => c.impr (c.it j) (c.pot (c.it j))
theorem it_vr : ∀ j, c.vr (c.it j)
  | 0 => own_vr
  | j + 1 => impr_vr (it_vr j) _
theorem it_fix (hc : c.Ok) : ∃ j, Fix c (c.it j) ∧ ∀ i, i < j → ¬ Fix c (c.it i) := by
  by_cases h : ∃ j, Fix c (c.it j)
  · obtain ⟨j, hj⟩ := h
    induction j using Nat.strongRecOn with
    | ind j ih =>
      by_cases h2 : ∃ i, i < j ∧ Fix c (c.it i)
      · obtain ⟨i, hi, hf⟩ := h2
        exact ih i hi hf
      · exact ⟨j, hj, fun i hi hf => h2 ⟨i, hi, hf⟩⟩
  · exfalso
    have hm : ∀ j, c.meas (c.it j) + j ≤ c.meas (c.it 0) := by
      intro j
      induction j with
      | zero => exact Nat.le_refl _
      | succ j ih =>
        have := meas_lt hc (it_vr j) fun hf => h ⟨j, hf⟩
        show c.meas (c.impr (c.it j) (c.pot (c.it j))) + (j + 1) ≤ _
        omega
    have := hm (c.meas (c.it 0) + 1)
    omega
open Classical in
noncomputable def Cf.best (c : Cf) : Rt := if h : ∃ j, Fix c (c.it j) ∧ ∀ i, i < j → ¬ Fix c (c.it i) then c.it (Classical.choose h) else c.own
theorem best_eq {j : Nat} (hj : Fix c (c.it j)) (hl : ∀ i, i < j → ¬ Fix c (c.it i)) : c.best = c.it j := by
  unfold Cf.best
  have h : ∃ j, Fix c (c.it j) ∧ ∀ i, i < j → ¬ Fix c (c.it i) := ⟨j, hj, hl⟩
  rw [dif_pos h]
  obtain ⟨a1, a2⟩ := Classical.choose_spec h
  have : Classical.choose h = j := by
    rcases Nat.lt_trichotomy (Classical.choose h) j with z | z | z
    · exact absurd a1 (hl _ z)
    · exact z
    · exact absurd hj (a2 _ z)
  rw [this]
theorem best_ok (hc : c.Ok) : c.vr c.best ∧ Fix c c.best := by
  obtain ⟨j, h1, h2⟩ := it_fix hc
  rw [best_eq h1 h2]
  exact ⟨it_vr j, h1⟩
/-! ### how large -/
theorem pot_dn (hc : c.Ok) {r : Rt} (hr : c.vr r) : ∃ d, d ≤ 2 ^ 4351 ∧ 0 < d ∧ Dn d (2 ^ 4357) (c.wor r) ∧ ∀ p, c.has p → Dn d (2 ^ 4357) (c.pot r p) := by
  obtain ⟨d, h1, h2, h3⟩ := (solP_A hc hr).fin
  refine ⟨d, h1, h2, (h3 0 (Cf.n0 c)).2, fun p hp => ?_⟩
  show Dn d _ (potA c.n (c.P r) (c.G r) (c.ix p))
  unfold potA
  split
  · exact (dn_zero h2).mono (Nat.zero_le _)
  · exact (h3 _ (Cf.ix_lt hp)).2
theorem pow_BB {a : Nat} (h : a ≤ 4360) : 2 ^ a ≤ BB := by unfold BB; exact pow_le h
theorem pot_PB (hc : c.Ok) {r : Rt} (hr : c.vr r) : ∃ d, PB c (c.pot r) d := by
  obtain ⟨d, h1, h2, h3, h4⟩ := pot_dn hc hr
  refine ⟨d, Nat.le_trans h1 (pow_BB (by decide)), fun p hp => (h4 p hp).mono (Nat.le_trans (pow_BB (a := 4357) (by decide)) (by omega))⟩
/-! ### routes as data -/
abbrev tblT (xss : List (List Nat)) : Ty := tupT (xss.map fun xs => tupT (xs.map nT))
def tblD (xss : List (List Nat)) : List PyData := xss.map fun xs => .tuple (xs.map fun x => PyData.int ((x : Nat) : Int))
theorem ints_lay : ∀ xs : List Nat, PyData.canLayAll0 (xs.map fun x => PyData.int ((x : Nat) : Int)) = true
  | [] => by simp [PyData.canLayAll0]
  | x :: xs => by simp [PyData.canLayAll0, PyData.canLay0, ints_lay xs]
theorem ints_depth : ∀ xs : List Nat, PyData.depthAll (xs.map fun x => PyData.int ((x : Nat) : Int)) ≤ 1
  | [] => by simp [PyData.depthAll]
  | x :: xs => by
    have := ints_depth xs
    simp only [List.map_cons, PyData.depthAll, PyData.depth]
    omega
theorem tbl_lay : ∀ xss : List (List Nat), PyData.canLayAll0 (tblD xss) = true
  | [] => by simp [tblD, PyData.canLayAll0]
  | xs :: xss => by
    have := tbl_lay xss
    unfold tblD at this ⊢
    simp only [List.map_cons, PyData.canLayAll0, PyData.canLay0, ints_lay xs, this, Bool.and_self]
theorem tbl_depth : ∀ xss : List (List Nat), PyData.depthAll (tblD xss) ≤ 3
  | [] => by simp [tblD, PyData.depthAll]
  | xs :: xss => by
    have h1 := tbl_depth xss
    have h2 := ints_depth xs
    unfold tblD at h1 ⊢
    simp only [List.map_cons, PyData.depthAll, PyData.depth]
    omega
theorem tbl_shapedT (xss : List (List Nat)) : SeqAt.shaped (.tuple (tblD xss)) = true := by
  have h1 := tbl_depth xss
  show (PyData.canLay0 (.tuple (tblD xss)) && decide (PyData.depth (.tuple (tblD xss)) ≤ 64)) = true
  rw [Bool.and_eq_true]
  exact ⟨by simp only [PyData.canLay0]; exact tbl_lay xss, decide_eq_true (by simp only [PyData.depth]; omega)⟩
theorem tbl_shapedL (xss : List (List Nat)) : SeqAt.shaped (.list (tblD xss)) = true := by
  have h1 := tbl_depth xss
  show (PyData.canLay0 (.list (tblD xss)) && decide (PyData.depth (.list (tblD xss)) ≤ 64)) = true
  rw [Bool.and_eq_true]
  exact ⟨by simp only [PyData.canLay0]; exact tbl_lay xss, decide_eq_true (by simp only [PyData.depth]; omega)⟩
theorem ints_eqv : ∀ xs ys : List Nat, PyData.eqvAll (xs.map fun x => PyData.int ((x : Nat) : Int)) (ys.map fun x => PyData.int ((x : Nat) : Int)) = decide (xs = ys)
  | [], [] => by simp [PyData.eqvAll]
  | [], _ :: _ => by simp [PyData.eqvAll]
  | _ :: _, [] => by simp [PyData.eqvAll]
  | x :: xs, y :: ys => by
    have := ints_eqv xs ys
    simp only [List.map_cons, PyData.eqvAll, PyData.eqv, this]
    rw [Bool.eq_iff_iff]
    simp
    omega
theorem tbl_eqv : ∀ xss yss : List (List Nat), PyData.eqvAll (tblD xss) (tblD yss) = decide (xss = yss)
  | [], [] => by simp [tblD, PyData.eqvAll]
  | [], _ :: _ => by simp [tblD, PyData.eqvAll]
  | _ :: _, [] => by simp [tblD, PyData.eqvAll]
  | xs :: xss, ys :: yss => by
    have h1 := tbl_eqv xss yss
    have h2 := ints_eqv xs ys
    unfold tblD at h1 ⊢
    simp only [List.map_cons, PyData.eqvAll, PyData.eqv, h1, h2]
    rw [Bool.eq_iff_iff]
    simp
theorem tbl_eqvT (xss yss : List (List Nat)) : PyData.eqv (.tuple (tblD xss)) (.tuple (tblD yss)) = decide (xss = yss) := by simp only [PyData.eqv, tbl_eqv]
theorem tbl_eqvL (xss yss : List (List Nat)) : PyData.eqv (.list (tblD xss)) (.list (tblD yss)) = decide (xss = yss) := by simp only [PyData.eqv, tbl_eqv]
theorem datL_tbl (xss : List (List Nat)) : DatL (xss.map fun xs => tupT (xs.map nT)) (tblD xss) := datL_map (fun xs => dat_tup (datL_map (fun x => dat_int _) xs)) xss
/-- a route's table -/
def Cf.tab (c : Cf) (r : Rt) : List (List Nat) := c.spots.map fun p => (List.range c.nk).map (r p)
theorem tab_T (r : Rt) : tupT (c.spots.map (c.rowT r)) = tblT (c.tab r) := by
  unfold tblT Cf.tab
  rw [List.map_map]
  congr 1
  apply List.map_congr_left
  intro p _
  show tupT _ = tupT (List.map nT ((List.range c.nk).map (r p)))
  rw [List.map_map]
  rfl
theorem tab_same {r r' : Rt} : c.tab r = c.tab r' ↔ sameR c r r' := by
  unfold Cf.tab sameR
  constructor
  · intro h p hp k hk
    have := List.map_inj_left.mp h p (spots_has.mpr hp)
    exact List.map_inj_left.mp this k (List.mem_range.mpr hk)
  · intro h
    apply List.map_congr_left
    intro p hp
    apply List.map_congr_left
    intro k hk
    exact h p (spots_has.mp hp) k (List.mem_range.mp hk)
end
end JL

set_option Elab.async false
set_option linter.all false
set_option maxRecDepth 100000
set_option maxHeartbeats 4000000
set_option autoImplicit false
/-! The best route: the walk. -/
namespace JL
open PySem PySem.Spec PyProof.Rows L2
section
variable {tb : List Addr} {X : Cx} {G : List Slt} {N : List Str} {sc : Scope} {k : Nat} {pos : Pos} {C R CB : Addr}
abbrev sc58 : Scope := defScope (topS 58)
abbrev nm58 : List Str := ["counter", "neighbour", "route", "better", "potentials"]
theorem fs58 : FnScope nm58 ["counter", "neighbour"] sc58 := ⟨rfl, rfl, rfl, by decide +kernel, rfl, by decide +kernel, by decide +kernel⟩
abbrev potsT (c : Cf) (h : Spot → Rat) : Ty := tupT (c.spots.map fun p => fracT (h p))
abbrev brT (CB : Addr) (c : Cf) (r : Rt) (h : Spot → Rat) : Ty := objT CB [potsT c h, tblT (c.tab r)]
abbrev Ok_best_route (ev : Ev) (tb : List Addr) (C CB : Addr) : Prop := DefOk ev tb "best_route" 8 (fun c : Cf => [cT C c, nbT c]) Cf.Ok (fun c => brT CB c c.best (c.pot c.best))
theorem b58 (h : CxD X nm58 sc58 k) (hk : 7 ≤ k) (P : Px (evX X) C) (Q : Qx (evX X) R) (D1 : Ok_check_neighbour (evX X) tb C) (D2 : Ok_check_few (evX X) tb C) (D3 : Ok_own_route (evX X) tb C) (D4 : Mk_Routing (evX X) tb R C) (D5 : Ok_solution (evX X) tb R C) (D6 : Ok_improved (evX X) tb C) (D7 : Mk_Best (evX X) tb CB)
    (c : Cf) (hc : c.Ok) :
    SS tb X [.v (cT C c), .v (nbT c), .no, .no, .no] (defBody (topS 58)) (Gv (brT CB c c.best (c.pot c.best))) := by
  refine (ss_cons (s_expr (e_c2 h D1 c (e_var h 0) (e_var h 1) hc)
   (ss_cons (s_expr (e_c2 h D2 c (e_var h 0) (e_var h 1) hc)
    (ss_cons (s_par h 2 3 (es_v e_non) (es_v (e_eq (e_c2 h D3 c (e_var h 0) (e_var h 1) hc) (show c.routeT c.own = tblT (c.tab (c.it 0)) from tab_T c.own)))
     (ss_cons (s_set h 4 es_dnew
      (ss_cons (s_while h (fun m G1 => (m = c.meas (c.it 0) + 1 ∧ G1 = [.v (cT C c), .v (nbT c), .v noneT, .v (tblT (c.tab (c.it 0))), .ownD []]) ∨
          ∃ j, (∀ i, i < j → ¬ Fix c (c.it i)) ∧ m = c.meas (c.it j) ∧ G1 = [.v (cT C c), .v (nbT c), .v (tblT (c.tab (c.it j))), .v (tblT (c.tab (c.it (j + 1)))), .v (c.potT (c.pot (c.it j)))]) ⟨_, .inl ⟨rfl, rfl⟩⟩ (fun m G1 iv => ?_)))))))))))
  rcases iv with ⟨em, rfl⟩ | ⟨j, hj, em, rfl⟩
  · refine ⟨true, eb_neD h (e_var h 3) (e_var h 2) (dat_tup (datL_tbl _)) dat_none (tbl_shapedT _) rfl, fun _ => ?_, fun hb => nomatch hb⟩
    obtain ⟨d, pb⟩ := pot_PB hc (it_vr (c := c) 0)
    refine (ss_cons (s_set h 2 (es_v (e_var h 3))
     (ss_cons (s_set h 4 (es_v (e_ixT (e_meth0 h Q.cl D5 (SoA.mk c (c.it 0)) (e_make h D4 (c, c.spots.map (c.rowT (c.it 0))) (ea_cons (e_var h 0) (ea_cons (e_var h 1) (ea_cons (e_eq (e_var h 2) (tab_T _).symm) ea_nil))) ⟨hc, by rw [List.length_map]⟩ rfl) ⟨hc, it_vr 0⟩ rfl) e_int rfl))
      (ss_one (s_set h 3 (es_v (e_eq (e_c4 h D6 (ImA.mk c (c.it 0) (c.pot (c.it 0))) (e_var h 0) (e_var h 1) (e_eq (e_var h 2) (tab_T _).symm) (e_var h 4) ⟨hc, it_vr 0, d, pb⟩) (tab_T _))) ⟨_, ?_, .inr ⟨0, fun i hi => absurd hi (Nat.not_lt_zero _), rfl, rfl⟩⟩))))))
    omega
  · refine ⟨!decide (c.tab (c.it (j + 1)) = c.tab (c.it j)), ?_, fun hb => ?_, fun hb => ?_⟩
    · rw [← tbl_eqvT (c.tab (c.it (j + 1))) (c.tab (c.it j))]
      exact eb_neD h (e_var h 3) (e_var h 2) (dat_tup (datL_tbl (c.tab (c.it (j + 1))))) (dat_tup (datL_tbl (c.tab (c.it j)))) (tbl_shapedT _) (tbl_shapedT _)
    · have hnf : ¬ Fix c (c.it j) := fun hf => by
        have e : c.tab (c.it (j + 1)) = c.tab (c.it j) := tab_same.mpr hf
        rw [decide_eq_true e] at hb
        cases hb
      obtain ⟨d, pb⟩ := pot_PB hc (it_vr (c := c) (j + 1))
      have hm := meas_lt hc (it_vr j) hnf
      refine (ss_cons (s_set h 2 (es_v (e_var h 3))
       (ss_cons (s_set h 4 (es_v (e_ixT (e_meth0 h Q.cl D5 (SoA.mk c (c.it (j + 1))) (e_make h D4 (c, c.spots.map (c.rowT (c.it (j + 1)))) (ea_cons (e_var h 0) (ea_cons (e_var h 1) (ea_cons (e_eq (e_var h 2) (tab_T _).symm) ea_nil))) ⟨hc, by rw [List.length_map]⟩ rfl) ⟨hc, it_vr (j + 1)⟩ rfl) e_int rfl))
        (ss_one (s_set h 3 (es_v (e_eq (e_c4 h D6 (ImA.mk c (c.it (j + 1)) (c.pot (c.it (j + 1)))) (e_var h 0) (e_var h 1) (e_eq (e_var h 2) (tab_T _).symm) (e_var h 4) ⟨hc, it_vr (j + 1), d, pb⟩) (tab_T _))) ⟨_, ?_, .inr ⟨j + 1, fun i hi => ?_, rfl, rfl⟩⟩))))))
      · rw [em]; exact hm
      · by_cases e : i = j
        · rw [e]; exact hnf
        · exact hj i (by omega)
    · have hf : Fix c (c.it j) := by
        have : decide (c.tab (c.it (j + 1)) = c.tab (c.it j)) = true := by
          cases e : decide (c.tab (c.it (j + 1)) = c.tab (c.it j)) with
          | true => rfl
          | false => rw [e] at hb; cases hb
        exact tab_same.mp (of_decide_eq_true this)
      rw [best_eq hf hj]
      exact (ss_one (s_ret (e_make h D7 (tblT (c.tab (c.it j)), potsT c (c.pot (c.it j))) (ea_cons (e_var h 2) (ea_cons (e_eq (e_vals h (e_var h 4) P.T.tuple) (by rw [List.map_map]; rfl)) ea_nil)) trivial rfl) Sub.rfl))
end
end JL

set_option Elab.async false
set_option linter.all false
set_option maxRecDepth 100000
set_option maxHeartbeats 4000000
set_option autoImplicit false
/-! What a route is: the walk. -/
namespace JL
open PySem PySem.Spec PyProof.Rows L2
/-- a table is a route -/
def Cf.isR (c : Cf) (xss : List (List Nat)) : Bool := decide (xss.length = c.n) && (c.spots.zip xss).all fun z => z.2.all fun x => (c.able z.1).contains x
/-- a table as they are made here -/
structure TabP (c : Cf) (xss : List (List Nat)) : Prop where
  len : xss.length ≤ 20
  row : ∀ xs ∈ xss, xs.length = c.nk ∧ ∀ x ∈ xs, x ≤ 2
theorem contains_int (l : List Nat) (x : Nat) : (l.map fun i => ((i : Nat) : Int)).contains (x : Int) = l.contains x := by
  rw [Bool.eq_iff_iff]
  simp
  constructor
  · rintro ⟨a, h, e⟩
    have : a = x := by omega
    rw [← this]; exact h
  · exact fun h => ⟨x, h, rfl⟩
theorem flat_len {α β : Type} {f : α → List β} {m : Nat} : ∀ {l : List α}, (∀ x ∈ l, (f x).length ≤ m) → (l.flatMap f).length ≤ m * l.length
  | [], _ => by simp
  | a :: l, h => by
    have h1 := h a (by simp)
    have h2 := flat_len (f := f) (m := m) (l := l) fun x hx => h x (by simp [hx])
    rw [List.flatMap_cons, List.length_append, List.length_cons, Nat.mul_add]
    omega
section
variable {tb : List Addr} {X : Cx} {G : List Slt} {N : List Str} {sc : Scope} {k : Nat} {pos : Pos} {C R CB : Addr}
abbrev sc42 : Scope := defScope (topS 42)
abbrev nm42 : List Str := ["counter", "neighbour", "value", "spots", "row", "spot", "able", "choice"]
theorem fs42 : FnScope nm42 ["counter", "neighbour", "value"] sc42 := ⟨rfl, rfl, rfl, by decide +kernel, rfl, by decide +kernel, by decide +kernel⟩
abbrev Ok_is_route (ev : Ev) (tb : List Addr) (C : Addr) : Prop := DefOk ev tb "is_route" 4 (fun a : Cf × List (List Nat) => [cT C a.1, nbT a.1, tblT a.2]) (fun a => a.1.Ok ∧ TabP a.1 a.2) (fun a => boolT (a.1.isR a.2))
theorem b42 (h : CxD X nm42 sc42 k) (hf : ∀ x, X.fn x = true) (hk : 3 ≤ k) (P : Px (evX X) C) (D1 : Ok_pairs_of (evX X) tb C) (D2 : Ok_clen (evX X) tb C) (D3 : Ok_is_integer (evX X) tb) (D4 : Ok_choices_at (evX X) tb C) (c : Cf) (hc : c.Ok) (xss : List (List Nat)) (hx : TabP c xss) :
    SS tb X [.v (cT C c), .v (nbT c), .v (tblT xss), .no, .no, .no, .no, .no] (defBody (topS 42)) (Gv (boolT (c.isR xss))) := by
  have n9 := Cf.n9 hc
  have h3 : c.nk ≤ 3 := hc.k3
  have hl := hx.len
  refine (ss_cons (s_set h 3 (es_v (e_c2 h D1 c (e_var h 0) (e_var h 1) hc))
   (ss_if (EW.eb (ew_or (eb_not (eb_val (e_isi h (e_var h 2) typed_tup (e_bltn (S := "tuple") h P.T.tuple) (if_pos (by decide)) P.T.isinstance))) (fun hc => (ew_or1 (eb_neI (e_len h (e_var h 2) (.tup _) P.T.len) (e_len h (e_var h 3) (.lst _) P.T.len)))))) (fun hq => ?_) (fun hq => ?_))))
  · refine (ss_one (s_ret e_bl (Sub.of_eq ?_)))
    have : xss.length ≠ c.n := by
      simp only [List.length_map, spots_len] at hq
      simp at hq
      omega
    unfold Cf.isR
    rw [decide_eq_false this]
    rfl
  have hxl : xss.length = c.n := by
    simp only [List.length_map, spots_len] at hq
    simp at hq
    omega
  refine (ss_ifNo (eb_not (eb_val (e_all h (bs := xss.map fun _ => true) (e_eq (e_of_el (LCR.el h (lc_of h (xs := xss) (T := fun xs => tupT (xs.map nT)) (R := fun _ => boolT true) [("row", 4)] (it_tup (e_var h 2)) (fun s H C' cl fp h' x hx' => (tg_name h' 4))
      (fun s H C' cl fp h' x hx' => (e_eq (e_and (e_isi h' (e_var h' 4) typed_tup (e_bltn (S := "tuple") h' P.T.tuple) (if_pos (by decide)) P.T.isinstance) (fun hq => (e_one (e_eqI (e_len h' (e_var h' 4) (.tup _) P.T.len) (e_lenO h' P.cl D2 c (e_var h' 0) hc rfl (by omega) P.T.len))))) (by rw [List.length_map, (hx.row x hx').1]; simp)))
      (by omega)))) (by rw [List.map_map]; rfl)) P.T.all)))
   (ss_ifNo (eb_not (eb_val (e_all h (bs := xss.flatMap fun xs => xs.map fun _ => true) (e_eq (e_of_el (el_lc2 h (xs := xss) (ys := fun xs => xs) (T := fun xs => tupT (xs.map nT)) (U := fun _ x => nT x) (R := fun _ _ => boolT true) [("row", 4), ("choice", 7)] [7] (it_tup (e_var h 2)) (fun s H C' cl fp h' x hx' => (tg_name h' 4)) (fun s H C' cl fp h' x hx' => (it_tup (e_var h' 4))) (fun s H C' cl fp h' x hx' y hy => (tg_name h' 7))
      (fun s H C' cl fp h' x hx' y hy => (e_eq (e_isInt h' D3 (e_var h' 7) (e_glob h' P.T.gAWAY) (e_glob h' P.T.gTHERE)) (by have := (hx.row x hx').2 y hy; rw [show inR (y : Int) 0 2 = true from by unfold inR; rw [decide_eq_true (by omega), decide_eq_true (by omega)]; rfl]))) ?_)) ?_) P.T.all)))
    (ss_cons (s_forL h (it_zipLT h (xs := c.spots) (ys := xss) (T := spT) (U := fun xs => tupT (xs.map nT)) (e_var h 3) (e_var h 2) P.T.zip)
      (fun pre G1 => (pre.all fun z => z.2.all fun x => (c.able z.1).contains x) = true ∧ ∃ s4 s5 s6, G1 = [.v (cT C c), .v (nbT c), .v (tblT xss), .v (lstT (c.spots.map spT)), s4, s5, s6, .no]) ⟨rfl, _, _, _, rfl⟩ (fun pre z post G1 e iv => ?_) (fun G1 iv => ?_)))
    ?_) ?_)
  · have := flat_len (f := fun xs : List Nat => xs.map fun _ => boolT true) (m := 3) (l := xss) fun xs hxs => by rw [List.length_map, (hx.row xs hxs).1]; exact h3
    omega
  · rw [List.map_flatMap]
    congr 1
    congr 1
    funext xs
    rw [List.map_map]
    rfl
  · obtain ⟨ha, s4, s5, s6, rfl⟩ := iv
    have hzm : z.2 ∈ xss := (List.of_mem_zip (show (z.1, z.2) ∈ c.spots.zip xss by rw [e]; simp)).2
    obtain ⟨r1, r2⟩ := hx.row z.2 hzm
    refine ⟨_, _, (tg_tup h (tgs_cons (tg_name h 5) (tgs_cons (tg_name h 4) tgs_nil))), ?_⟩
    refine (ss_cons (s_setC h hf 6 (es_v (e_c3 h D4 (c, z.1) (e_var h 0) (e_var h 1) (e_var h 5) trivial))
     (ss_one (s_if (eb_not (eb_val (e_all h (bs := z.2.map fun x => (c.able z.1).contains x) (e_eq (e_of_el (LCR.el h (lc_of h (xs := z.2) (T := nT) (R := fun x => boolT ((c.able z.1).contains x)) [("choice", 7)] (it_tup (e_var h 4)) (fun s H C' cl fp h' x hx' => (tg_name h' 7))
       (fun s H C' cl fp h' x hx' => (e_eq (e_inI h' (x := (x : Int)) (ns := (c.able z.1).map fun i => ((i : Nat) : Int)) (e_var h' 7) (e_eq (e_var h' 6) (by rw [List.map_map]; rfl))) (by rw [contains_int]))) (by omega)))) (by rw [List.map_map]; rfl)) P.T.all))) (fun hq => ?_) (fun hq => ss_nil ?_)))))
    · refine (ss_one (s_ret e_bl (Sub.of_eq ?_)))
      have hz : (z.2.all fun x => (c.able z.1).contains x) = false := by
        rw [List.all_map] at hq
        simpa using hq
      have : ((c.spots.zip xss).all fun z => z.2.all fun x => (c.able z.1).contains x) = false := by
        rw [e, List.all_append, List.all_cons, hz, Bool.false_and, Bool.and_false]
      unfold Cf.isR
      rw [this, Bool.and_false]
    · have hz : (z.2.all fun x => (c.able z.1).contains x) = true := by
        rw [List.all_map] at hq
        simpa using hq
      exact ⟨by rw [List.all_append, ha, List.all_cons, hz]; rfl, _, _, _, rfl⟩
  · obtain ⟨ha, s4, s5, s6, rfl⟩ := iv
    refine (ss_one (s_ret e_bl (Sub.of_eq ?_)))
    unfold Cf.isR
    rw [decide_eq_true hxl, ha]
    rfl
  · rw [List.all_eq_true.mpr fun b hb => ?_]
    · rfl
    · rw [List.mem_flatMap] at hb
      obtain ⟨xs, _, hb⟩ := hb
      obtain ⟨_, _, rfl⟩ := List.mem_map.mp hb
      rfl
  · rw [List.all_eq_true.mpr fun b hb => ?_]
    · rfl
    · obtain ⟨_, _, rfl⟩ := List.mem_map.mp hb
      rfl
end
end JL

set_option Elab.async false
set_option linter.all false
set_option maxRecDepth 100000
set_option maxHeartbeats 4000000
set_option autoImplicit false
/-! Worths that are asked for: the walks. -/
namespace JL
open PySem PySem.Spec PyProof.Rows L2
theorem tab_len {c : Cf} (r : Rt) : (c.tab r).length = c.n := by unfold Cf.tab; rw [List.length_map, spots_len]
theorem tab_P {c : Cf} (hc : c.Ok) {r : Rt} (hr : c.vr r) : TabP c (c.tab r) := by
  have n9 := Cf.n9 hc
  refine ⟨by rw [tab_len]; omega, fun xs hxs => ?_⟩
  obtain ⟨p, hp, rfl⟩ := List.mem_map.mp hxs
  refine ⟨by rw [List.length_map, List.length_range], fun x hx => ?_⟩
  obtain ⟨k, hk, rfl⟩ := List.mem_map.mp hx
  have := able_le (hr p (spots_has.mp hp) k (List.mem_range.mp hk))
  simp at this
  omega
theorem tab_isR {c : Cf} {r : Rt} (hr : c.vr r) : c.isR (c.tab r) = true := by
  unfold Cf.isR
  rw [decide_eq_true (tab_len r), Bool.true_and, List.all_eq_true]
  intro z hz
  unfold Cf.tab at hz
  have : c.spots.zip (c.spots.map fun p => (List.range c.nk).map (r p)) = c.spots.map fun p => (p, (List.range c.nk).map (r p)) := by
    have := zip_map_self (fun p : Spot => p) (fun p : Spot => (List.range c.nk).map (r p)) c.spots
    rwa [List.map_id'] at this
  rw [this] at hz
  obtain ⟨p, hp, rfl⟩ := List.mem_map.mp hz
  rw [List.all_eq_true]
  intro x hx
  obtain ⟨k, hk, rfl⟩ := List.mem_map.mp hx
  rw [List.contains_iff_mem]
  exact hr p (spots_has.mp hp) k (List.mem_range.mp hk)
section
variable {tb : List Addr} {X : Cx} {G : List Slt} {N : List Str} {sc : Scope} {k : Nat} {pos : Pos} {C R CB : Addr}
abbrev sc43 : Scope := defScope (topS 43)
abbrev nm43 : List Str := ["counter", "neighbour", "route"]
theorem fs43 : FnScope nm43 ["counter", "neighbour", "route"] sc43 := ⟨rfl, rfl, rfl, by decide +kernel, rfl, by decide +kernel, by decide +kernel⟩
abbrev Ok_check_route (ev : Ev) (tb : List Addr) (C : Addr) : Prop := DefOk ev tb "check_route" 5 (fun a : SoA => [cT C a.c, nbT a.c, tblT (a.c.tab a.r)]) (fun a => a.c.Ok ∧ a.c.vr a.r) (fun _ => noneT)
theorem b43 (h : CxD X nm43 sc43 k) (hk : 4 ≤ k) (D1 : Ok_check_neighbour (evX X) tb C) (D2 : Ok_is_route (evX X) tb C) (c : Cf) (hc : c.Ok) (r : Rt) (hr : c.vr r) :
    SS tb X [.v (cT C c), .v (nbT c), .v (tblT (c.tab r))] (defBody (topS 43)) GvN :=
  (ss_cons (s_expr (e_c2 h D1 c (e_var h 0) (e_var h 1) hc)
   (ss_ifNo (eb_not (eb_val (e_eq (e_c3 h D2 (c, c.tab r) (e_var h 0) (e_var h 1) (e_var h 2) ⟨hc, tab_P hc hr⟩) (congrArg boolT (tab_isR hr))))) (ss_nil trivial))))
abbrev sc59 : Scope := defScope (topS 59)
abbrev nm59 : List Str := ["counter", "neighbour", "route"]
theorem fs59 : FnScope nm59 ["counter", "neighbour", "route"] sc59 := ⟨rfl, rfl, rfl, by decide +kernel, rfl, by decide +kernel, by decide +kernel⟩
abbrev Ok_route_worth (ev : Ev) (tb : List Addr) (C : Addr) : Prop := DefOk ev tb "route_worth" 8 (fun a : SoA => [cT C a.c, nbT a.c, tblT (a.c.tab a.r)]) (fun a => a.c.Ok ∧ a.c.vr a.r) (fun a => fracT (a.c.wor a.r))
theorem b59 (h : CxD X nm59 sc59 k) (hk : 7 ≤ k) (D1 : Ok_check_route (evX X) tb C) (D2 : Ok_check_few (evX X) tb C) (D3 : Ok_worth_by (evX X) tb C) (c : Cf) (hc : c.Ok) (r : Rt) (hr : c.vr r) :
    SS tb X [.v (cT C c), .v (nbT c), .v (tblT (c.tab r))] (defBody (topS 59)) (Gv (fracT (c.wor r))) :=
  (ss_cons (s_expr (e_c3 h D1 (SoA.mk c r) (e_var h 0) (e_var h 1) (e_var h 2) ⟨hc, hr⟩)
   (ss_cons (s_expr (e_c2 h D2 c (e_var h 0) (e_var h 1) hc)
    (ss_one (s_ret (e_c3 h D3 (SoA.mk c r) (e_var h 0) (e_var h 1) (e_eq (e_var h 2) (tab_T r).symm) ⟨hc, hr⟩) Sub.rfl))))))
abbrev sc60 : Scope := defScope (topS 60)
abbrev nm60 : List Str := ["counter", "neighbour"]
theorem fs60 : FnScope nm60 ["counter", "neighbour"] sc60 := ⟨rfl, rfl, rfl, by decide +kernel, rfl, by decide +kernel, by decide +kernel⟩
abbrev Ok_best_route_worth (ev : Ev) (tb : List Addr) (C : Addr) : Prop := DefOk ev tb "best_route_worth" 9 (fun c : Cf => [cT C c, nbT c]) Cf.Ok (fun c => fracT (c.wor c.best))
theorem b60 (h : CxD X nm60 sc60 k) (hk : 8 ≤ k) (cl : ClsOk X.K CB ["potentials", "route"]) (D1 : Ok_best_route (evX X) tb C CB) (D2 : Ok_worth_by (evX X) tb C) (c : Cf) (hc : c.Ok) :
    SS tb X [.v (cT C c), .v (nbT c)] (defBody (topS 60)) (Gv (fracT (c.wor c.best))) :=
  (ss_one (s_ret (e_c3 h D2 (SoA.mk c c.best) (e_var h 0) (e_var h 1) (e_eq (e_fld h 1 (e_c2 h D1 c (e_var h 0) (e_var h 1) hc) cl) (tab_T c.best).symm) ⟨hc, (best_ok hc).1⟩) Sub.rfl))
end
end JL

set_option Elab.async false
set_option linter.all false
set_option maxRecDepth 100000
set_option maxHeartbeats 4000000
set_option autoImplicit false
/-! What potentials show, plainly. -/
namespace JL
def Cf.after (c : Cf) (h : Spot → Rat) (p : Spot) : Rat := qsum ((c.seen p).map fun s => s.2 * c.afterG h s.1)
def Cf.bnd (c : Cf) (g : Rat) (h : Spot → Rat) : Bool := c.spots.all fun p => !decide (g + h p < c.after h p)
def Cf.hOf (c : Cf) (hs : List Rat) : Spot → Rat := fun p => hs.getD (c.ix p) 0
def Cf.shw (c : Cf) (xss : List (List Nat)) (hs : List Rat) : Bool := c.isR xss && decide (hs.length = c.n) && c.bnd (c.wor (c.dec xss)) (c.hOf hs)
structure PotP (hs : List Rat) : Prop where
  len : hs.length ≤ 20
  d : ∃ d, 0 < d ∧ d ≤ BB ∧ ∀ q ∈ hs, Dn d (4 * BB) q
section
variable {c : Cf}
theorem potP_PB {hs : List Rat} (h : PotP hs) : ∃ d, PB c (c.hOf hs) d := by
  obtain ⟨d, h1, h2, h3⟩ := h.d
  refine ⟨d, h2, fun p _ => ?_⟩
  unfold Cf.hOf
  rw [List.getD_eq_getElem?_getD]
  by_cases hi : c.ix p < hs.length
  · rw [List.getElem?_eq_getElem hi]
    exact h3 _ (List.getElem_mem hi)
  · rw [List.getElem?_eq_none (by omega)]
    exact (dn_zero h1).mono (Nat.zero_le _)
theorem isR_len {xss : List (List Nat)} (h : c.isR xss = true) : xss.length = c.n := by
  unfold Cf.isR at h
  rw [Bool.and_eq_true] at h
  exact of_decide_eq_true h.1
theorem isR_vr {xss : List (List Nat)} (hx : TabP c xss) (h : c.isR xss = true) : c.vr (c.dec xss) := fun p hp k hk => by
  have hl := isR_len h
  unfold Cf.isR at h
  rw [Bool.and_eq_true, List.all_eq_true] at h
  have hi := Cf.ix_lt hp
  have hi2 : c.ix p < xss.length := by omega
  have hm : (p, xss[c.ix p]) ∈ c.spots.zip xss := by
    rw [List.mem_iff_getElem?]
    refine ⟨c.ix p, ?_⟩
    rw [List.getElem?_zip_eq_some]
    refine ⟨?_, List.getElem?_eq_getElem hi2⟩
    rw [spots_eq, List.getElem?_map, List.getElem?_range hi, Option.map_some, Cf.at_ix hp]
  have h2 := h.2 _ hm
  rw [List.all_eq_true] at h2
  have hr := (hx.row _ (List.getElem_mem hi2)).1
  unfold Cf.dec
  rw [List.getD_eq_getElem?_getD, List.getD_eq_getElem?_getD, List.getElem?_eq_getElem hi2, Option.getD_some, List.getElem?_eq_getElem (by omega), Option.getD_some]
  have := h2 _ (List.getElem_mem (show k < xss[c.ix p].length by omega))
  rw [List.contains_iff_mem] at this
  exact this
theorem tab_dec {xss : List (List Nat)} (hx : TabP c xss) (h : xss.length = c.n) : c.tab (c.dec xss) = xss := by
  unfold Cf.tab Cf.dec
  rw [spots_eq, List.map_map]
  apply List.ext_getElem?
  intro i
  by_cases hi : i < c.n
  · have hi2 : i < xss.length := by omega
    rw [List.getElem?_map, List.getElem?_range hi, List.getElem?_eq_getElem hi2, Option.map_some]
    congr 1
    apply List.ext_getElem?
    intro k
    have hr := (hx.row _ (List.getElem_mem hi2)).1
    show ((List.range c.nk).map fun k => (xss.getD (c.ix (c.at_ i)) []).getD k 0)[k]? = _
    rw [Cf.ix_at, List.getD_eq_getElem?_getD, List.getElem?_eq_getElem hi2, Option.getD_some]
    by_cases hk : k < c.nk
    · rw [List.getElem?_map, List.getElem?_range hk, List.getElem?_eq_getElem (by omega), Option.map_some, List.getD_eq_getElem?_getD, List.getElem?_eq_getElem (by omega), Option.getD_some]
    · rw [List.getElem?_eq_none (by simp; omega), List.getElem?_eq_none (by omega)]
  · rw [List.getElem?_eq_none (by simp; omega), List.getElem?_eq_none (by omega)]
theorem qsum_ls {α : Type} (l : List α) (f : α → Rat) : qsum (l.map f) = ls l f := by
  unfold qsum
  rw [List.foldl_map, ls_foldl]
  grind
/-! ### sizes -/
theorem after_dn (hc : c.Ok) {h : Spot → Rat} {d : Nat} (b : PB c h d) {p : Spot} (hp : c.has p) : ∀ l : List (Spot × Rat), (∀ s ∈ l, s ∈ c.seen p) → Dn (100 * (10 * c.partsN * d)) (400 * (22446 * BB) * l.length) (ls l fun s => s.2 * c.afterG h s.1)
  | [], _ => by
    obtain ⟨p1, p2, p3⟩ := Cf.partsN_eq hc
    have hd : 0 < d := (b.h p hp).1
    exact (dn_zero (Nat.mul_pos (by decide) (Nat.mul_pos (by omega) hd))).mono (Nat.zero_le _)
  | s :: l, hl => by
    obtain ⟨a1, a2⟩ := seen_mem hc hp (hl s (by simp))
    have t : Dn (10 * c.partsN * d) (22446 * BB) (c.afterG h s.1) := dn_after hc b a1 c.chances.zipIdx (fun a ha => (zip_mem_ch ha).1) (by rw [List.length_zipIdx, Cf.chances_len]; exact hc.k3)
    have := (a2.mul t).add (after_dn hc b hp l fun x hx => hl x (by simp [hx]))
    refine this.mono ?_
    rw [List.length_cons, Nat.mul_add]
    omega
theorem after_bd (hc : c.Ok) {h : Spot → Rat} {d : Nat} (b : PB c h d) {p : Spot} (hp : c.has p) {l : List (Spot × Rat)} (hl : ∀ s ∈ l, s ∈ c.seen p) (hn : l.length ≤ 4) : Bd (4360 + 26) (ls l fun s => s.2 * c.afterG h s.1) := by
  have := afterD hc b
  refine (after_dn hc b hp l hl).bdB (n := 18000) (m := 35913600) 26 (by omega) ?_ (by decide) (by decide)
  calc 400 * (22446 * BB) * l.length ≤ 400 * (22446 * BB) * 4 := Nat.mul_le_mul (Nat.le_refl _) hn
    _ = 35913600 * BB := by omega
theorem after_fit (hc : c.Ok) {h : Spot → Rat} {d : Nat} (b : PB c h d) {p : Spot} (hp : c.has p) : FitL ((c.seen p).map fun s => s.2 * c.afterG h s.1) := by
  intro pre x post e
  obtain ⟨l1, l2, e1, e2, e3⟩ := List.map_eq_append_iff.mp e
  cases l2 with
  | nil => cases e3
  | cons s l3 =>
    rw [List.map_cons] at e3
    obtain ⟨rfl, e5⟩ := List.cons.inj e3
    subst e2
    have hlen := seen_len c p
    rw [e1, List.length_append, List.length_cons] at hlen
    rw [qsum_ls]
    have h1 := after_bd hc b hp (l := l1) (fun x hx => by rw [e1]; simp [hx]) (by omega)
    have h2 := after_bd hc b hp (l := [s]) (fun x hx => by rw [e1]; simp at hx; simp [hx]) (by simp)
    have e6 : (ls [s] fun s => s.2 * c.afterG h s.1) = s.2 * c.afterG h s.1 := by show _ + (0 : Rat) = _; grind
    rw [e6] at h2
    exact Fit.mk h1 h2 (by decide)
end
end JL

set_option Elab.async false
set_option linter.all false
set_option maxRecDepth 100000
set_option maxHeartbeats 4000000
set_option autoImplicit false
/-! BestRoute.shows: the walk. -/
namespace JL
open PySem PySem.Spec PyProof.Rows L2
theorem worth_fit {c : Cf} (hc : c.Ok) {r : Rt} (hr : c.vr r) {h : Spot → Rat} {d : Nat} (b : PB c h d) {p : Spot} (hp : c.has p) : Fit (c.wor r) (h p) ∧ Bd 8800 (c.wor r + h p) := by
  obtain ⟨d1, a1, a2, a3, _⟩ := pot_dn hc hr
  have hB := b.h p hp
  have hd := b.dB
  have l1 : d1 < 2 ^ 4358 := Nat.lt_of_le_of_lt a1 (pow_lt (by decide))
  refine ⟨Fit.mk (a3.bd l1 (pow_lt (by decide))) (hB.bdB (n := 1) (m := 4) 4 (by omega) (Nat.le_refl _) (by decide) (by decide)) (by decide), ?_⟩
  have s1 := a3.scale d hB.1
  have s2 := hB.scale d1 a2
  rw [Nat.mul_comm d d1] at s2
  have hs := s1.add s2
  have t0 : BB = 2 ^ 4360 := rfl
  have k1 : d1 * d ≤ 2 ^ 4351 * BB := Nat.mul_le_mul a1 hd
  have k2 : 2 ^ 4357 * d ≤ 2 ^ 4357 * BB := Nat.mul_le_mul (Nat.le_refl _) hd
  have k3 : 4 * BB * d1 ≤ 2 ^ 4353 * BB := by
    calc 4 * BB * d1 ≤ 4 * BB * 2 ^ 4351 := Nat.mul_le_mul (Nat.le_refl _) a1
      _ = 2 ^ 4353 * BB := by rw [show 4353 = 4351 + 2 from rfl, Nat.pow_add]; generalize 2 ^ 4351 = z; rw [Nat.mul_comm (4 * BB) z, ← Nat.mul_assoc, show z * 4 = z * 2 ^ 2 from rfl]
  have k4 : 2 ^ 4351 * BB < 2 ^ 8800 := by rw [t0, ← Nat.pow_add]; exact pow_lt (by decide)
  have k5 : 2 ^ 4357 * BB + 2 ^ 4353 * BB < 2 ^ 8800 := by
    have e1 : 2 ^ 4353 * BB ≤ 2 ^ 4357 * BB := Nat.mul_le_mul (pow_le (by decide)) (Nat.le_refl _)
    have e2 : 2 ^ 4357 * BB + 2 ^ 4357 * BB = 2 ^ 8718 := by
      rw [t0, ← Nat.pow_add, show 8718 = (4357 + 4360) + 1 from rfl, Nat.pow_succ (n := 2) (m := 4357 + 4360)]
      generalize 2 ^ (4357 + 4360) = z
      omega
    have e3 : 2 ^ 8718 < 2 ^ 8800 := pow_lt (by decide)
    omega
  exact hs.bd (by omega) (by omega)
section
variable {tb : List Addr} {X : Cx} {G : List Slt} {N : List Str} {sc : Scope} {k : Nat} {pos : Pos} {C R CB : Addr}
abbrev sc55_4 : Scope := defScope (inClass (topS 55) 4)
abbrev nm55_4 : List Str := ["self", "counter", "neighbour", "spots", "worth", "potentials", "spot", "after", "rows", "seen", "chance"]
theorem fs55_4 : FnScope nm55_4 ["self", "counter", "neighbour"] sc55_4 := ⟨rfl, rfl, rfl, by decide +kernel, rfl, by decide +kernel, by decide +kernel⟩
structure ShA where
  c : Cf
  xss : List (List Nat)
  hs : List Rat
abbrev brsT (CB : Addr) (xss : List (List Nat)) (hs : List Rat) : Ty := objT CB [tupT (hs.map fracT), tblT xss]
abbrev Ok_shows (ev : Ev) (tb : List Addr) (C CB : Addr) : Prop := MethOk ev tb CB "shows" 8 (fun a : ShA => [brsT CB a.xss a.hs, cT C a.c, nbT a.c]) (fun a => a.c.Ok ∧ TabP a.c a.xss ∧ PotP a.hs) (fun a => boolT (a.c.shw a.xss a.hs))
theorem b55_4 (h : CxD X nm55_4 sc55_4 k) (hf : ∀ x, X.fn x = true) (hk : 7 ≤ k) (P : Px (evX X) C) (cl : ClsOk X.K CB ["potentials", "route"]) (D1 : Ok_check_neighbour (evX X) tb C) (D2 : Ok_pairs_of (evX X) tb C) (D3 : Ok_is_route (evX X) tb C) (D4 : Ok_worth_by (evX X) tb C) (D5 : Ok_after_seen (evX X) tb C) (D6 : Ok_seen_after (evX X) tb C)
    (D_less : Ok_is_less (evX X) tb) (D_plus : Ok_plus (evX X) tb) (D_total : Ok_total (evX X) tb) (D_times : Ok_times (evX X) tb) (c : Cf) (hc : c.Ok) (xss : List (List Nat)) (hx : TabP c xss) (hs : List Rat) (hp : PotP hs) :
    SS tb X [.v (brsT CB xss hs), .v (cT C c), .v (nbT c), .no, .no, .no, .no, .no, .no, .no, .no] (defBody (inClass (topS 55) 4)) (Gv (boolT (c.shw xss hs))) := by
  have n9 := Cf.n9 hc
  refine (ss_cons (s_expr (e_c2 h D1 c (e_var h 1) (e_var h 2) hc)
   (ss_cons (s_set h 3 (es_v (e_c2 h D2 c (e_var h 1) (e_var h 2) hc))
    (ss_if (EW.eb (ew_or (eb_not (eb_val (e_c3 h D3 (c, xss) (e_var h 1) (e_var h 2) (e_fld h 1 (e_var h 0) cl) ⟨hc, hx⟩))) (fun hc => (ew_or1 (eb_neI (e_len h (e_fld h 0 (e_var h 0) cl) (.tup _) P.T.len) (e_len h (e_var h 3) (.lst _) P.T.len)))))) (fun hq => ?_) (fun hq => ?_))))))
  · refine (ss_one (s_ret e_bl (Sub.of_eq ?_)))
    rw [List.length_map, List.length_map, spots_len] at hq
    have : (c.isR xss && decide (hs.length = c.n)) = false := by
      by_cases e : hs.length = c.n
      · rw [e, decide_eq_false (show ¬ ((c.n : Int) ≠ (c.n : Int)) from fun z => z rfl), Bool.or_false] at hq
        cases e2 : c.isR xss with
        | false => rfl
        | true => rw [show c.isR (c, xss).2 = true from e2] at hq; cases hq
      · rw [decide_eq_false e, Bool.and_false]
    unfold Cf.shw
    rw [this]
    rfl
  have hR : c.isR xss = true ∧ hs.length = c.n := by
    rw [List.length_map, List.length_map, spots_len, Bool.or_eq_false_iff] at hq
    refine ⟨?_, ?_⟩
    · cases e2 : c.isR xss with
      | true => rfl
      | false => have := hq.1; rw [show c.isR (c, xss).2 = false from e2] at this; cases this
    · have := of_decide_eq_false hq.2
      omega
  obtain ⟨hR, hl⟩ := hR
  have hv := isR_vr hx hR
  have ht := tab_dec hx (isR_len hR)
  obtain ⟨d, b⟩ := potP_PB (c := c) hp
  have e1 : tblT xss = tupT (c.spots.map (c.rowT (c.dec xss))) := by rw [tab_T, ht]
  have hsp : lstT (c.spots.map spT) = lstT ((c.spots.map spK).map keyT) := by rw [List.map_map]; rfl
  have e3 : hs.map fracT = c.spots.map fun p => fracT (c.hOf hs p) := by
    rw [spots_eq, List.map_map]
    apply List.ext_getElem?
    intro i
    by_cases hi : i < c.n
    · rw [List.getElem?_map, List.getElem?_map, List.getElem?_range hi, List.getElem?_eq_getElem (by omega), Option.map_some, Option.map_some]
      show _ = some (fracT (hs.getD (c.ix (c.at_ i)) 0))
      rw [Cf.ix_at, List.getD_eq_getElem?_getD, List.getElem?_eq_getElem (by omega), Option.getD_some]
    · rw [List.getElem?_eq_none (by simp; omega), List.getElem?_eq_none (by simp; omega)]
  have e4 : dctT ((c.spots.map spK).zip (hs.map fracT)) = c.potT (c.hOf hs) := by
    rw [e3, zip_map_self]
    rfl
  have hsh : c.shw xss hs = c.bnd (c.wor (c.dec xss)) (c.hOf hs) := by unfold Cf.shw; rw [hR, decide_eq_true hl]; rfl
  rw [hsh]
  generalize c.dec xss = r at *
  generalize c.hOf hs = f at *
  refine (ss_cons (s_parG h hf 4 5 (es_v (e_c3 h D4 (SoA.mk c r) (e_var h 1) (e_var h 2) (e_eq (e_fld h 1 (e_var h 0) cl) e1) ⟨hc, hv⟩)) (es_v (e_eq (e_dictZip h (ks := c.spots.map spK) (e_eq (e_var h 3) hsp) (e_fld h 0 (e_var h 0) cl) (.tup _) (by rw [List.length_map, List.length_map, spots_len, hl]) (spots_nodup hc) (by rw [List.length_map, spots_len]; omega) P.T.dict P.T.zip) e4))
   (ss_cons (s_setC h hf 7 (es_v (e_dcT h (xs := c.spots) (T := spT) (kf := spK) (U := fun p => fracT (c.afterG f p)) [("spot", 6)] (it_list (e_var h 3)) (fun s H C' cl' fp h' p hp' => (tg_name h' 6)) (fun s H C' cl' fp h' p hp' => (e_var h' 6)) (fun s H C' cl' fp h' p hp' => (e_c4 h' D5 (AsA.mk c f p) (e_var h' 1) (e_var h' 2) (e_var h' 5) (e_var h' 6) ⟨hc, spots_has.mp hp', d, b⟩)) (spots_nodup hc) (by rw [spots_len]; omega)))
    (ss_cons (s_forL h (it_list (xs := c.spots) (T := spT) (e_var h 3))
      (fun pre G1 => (pre.all fun p => !decide (c.wor r + f p < c.after f p)) = true ∧ ∃ s6 s8, G1 = [.v (brsT CB xss hs), .v (cT C c), .v (nbT c), .v (lstT (c.spots.map spT)), .v (fracT (c.wor r)), .v (c.potT f), s6, .v (dctT (c.spots.map fun p => (spK p, fracT (c.afterG f p)))), s8, .no, .no]) ⟨rfl, _, _, rfl⟩ (fun pre p post G1 e iv => ?_) (fun G1 iv => ?_)))))))
  · obtain ⟨ha, s6, s8, rfl⟩ := iv
    have hpp : p ∈ c.spots := by rw [e]; simp
    have hph := spots_has.mp hpp
    obtain ⟨w1, w2⟩ := worth_fit hc hv b hph
    have e5 : lstT ((c.seen p).map fun s => fracT (s.2 * c.afterG f s.1)) = lstT (((c.seen p).map fun s => s.2 * c.afterG f s.1).map fracT) := by rw [List.map_map]; rfl
    have hlw : FitW (c.wor r + f p) (qsum ((c.seen p).map fun s => s.2 * c.afterG f s.1)) := by
      rw [qsum_ls]
      exact FitW.mk w2 (after_bd hc b hph (l := c.seen p) (fun _ hx => hx) (seen_len c p)) (by decide)
    have htm : ∀ x ∈ c.seen p, Fit x.2 (c.afterG f x.1) := fun x hx => by
      obtain ⟨a1, a2⟩ := seen_mem hc hph hx
      have t : Dn (10 * c.partsN * d) (22446 * BB) (c.afterG f x.1) := dn_after hc b a1 c.chances.zipIdx (fun a ha => (zip_mem_ch ha).1) (by rw [List.length_zipIdx, Cf.chances_len]; exact hc.k3)
      exact Fit.mk (a2.bd (b := 9) (by decide) (by decide)) (t.bdB (n := 180) (m := 22446) 15 (afterD hc b) (Nat.le_refl _) (by decide) (by decide)) (by decide)
    refine ⟨_, _, (tg_name h 6), ?_⟩
    refine (ss_cons (s_set h 8 (es_v (e_c3 h D6 (c, p) (e_var h 1) (e_var h 2) (e_var h 6) hc))
     (ss_one (s_if (b := decide (c.wor r + f p < c.after f p)) (eb_val (e_two h D_less (e_two h D_plus (e_var h 4) (e_dget h (ks := spK p) (e_var h 5) (e_var h 6) (dvAt_spots (fun p => fracT (f p)) hpp)) w1)
       (e_c1 h D_total ((c.seen p).map fun s => s.2 * c.afterG f s.1) (e_eq (e_of_el (LCR.el h (lc_of h (xs := c.seen p) (T := seenT) (R := fun s => fracT (s.2 * c.afterG f s.1)) [("seen", 9), ("chance", 10)] (it_list (e_var h 8)) (fun s H C' cl' fp h' x hx' => (tg_tup h' (tgs_cons (tg_name h' 9) (tgs_cons (tg_name h' 10) tgs_nil))))
          (fun s H C' cl' fp h' x hx' => (e_two h' D_times (e_var h' 10) (e_dget h' (ks := spK x.1) (e_var h' 7) (e_var h' 9) (dvAt_spots (fun p => fracT (c.afterG f p)) (spots_has.mpr (seen_mem hc hph hx').1))) (htm x hx'))) (by have := seen_len c p; omega)))) e5) (after_fit hc b hph)) hlw)) (fun hq => ?_) (fun hq => ss_nil ?_)))))
    · refine (ss_one (s_ret e_bl (Sub.of_eq ?_)))
      have : c.bnd (c.wor r) f = false := by
        unfold Cf.bnd
        rw [e, List.all_append, List.all_cons, hq]
        simp
      rw [this]
    · exact ⟨by rw [List.all_append, ha, List.all_cons, hq]; rfl, _, _, rfl⟩
  · obtain ⟨ha, s6, s8, rfl⟩ := iv
    exact (ss_one (s_ret e_bl (Sub.of_eq (by unfold Cf.bnd; rw [ha]))))
end
end JL

set_option Elab.async false
set_option linter.all false
set_option maxRecDepth 100000
set_option maxHeartbeats 4000000
set_option autoImplicit false
/-! The law's own functions: small ones. -/
namespace JL
open PySem PySem.Spec PyProof.Rows L2
section
variable {tb : List Addr} {X : Cx} {G : List Slt} {N : List Str} {sc : Scope} {k : Nat} {pos : Pos} {C R CB : Addr}
abbrev sc80 : Scope := defScope (topS 80)
abbrev nm80 : List Str := ["_law_spot", "_law_choice"]
theorem fs80 : FnScope nm80 ["_law_spot", "_law_choice"] sc80 := ⟨rfl, rfl, rfl, by decide +kernel, rfl, by decide +kernel, by decide +kernel⟩
abbrev Ok_Lafter (ev : Ev) (tb : List Addr) : Prop := DefOk ev tb "_law_after" 1 (fun a : Spot × Nat => [spT a.1, nT a.2]) (fun _ => True) (fun a => spT (joined a.1 a.2))
theorem b80 (h : CxD X nm80 sc80 k) (p : Spot) (ch : Nat) : SS tb X [.v (spT p), .v (nT ch)] (defBody (topS 80)) (Gv (spT (joined p ch))) := by
  refine (ss_one (s_ret (e_key (ks := [(p.1 : Int) + (if ch = 1 then 1 else 0), (p.2 : Int) + (if ch = 2 then 1 else 0)]) (ea_cons (e_add (e_ixT (e_sub (e_var h 0) key_tup) e_int rfl) (e_ifExp (eb_eqI (e_var h 1) e_int) (fun hc => e_eq e_int ?_) (fun hc => e_eq e_int ?_))) (ea_cons (e_add (e_ixT (e_sub (e_var h 0) key_tup) e_int rfl) (e_ifExp (eb_eqI (e_var h 1) e_int) (fun hc => e_eq e_int ?_) (fun hc => e_eq e_int ?_))) ea_nil))) (Sub.of_eq ?_)))
  · rw [if_pos (by have := of_decide_eq_true hc; omega)]
  · rw [if_neg (by have := of_decide_eq_false hc; omega)]
  · rw [if_pos (by have := of_decide_eq_true hc; omega)]
  · rw [if_neg (by have := of_decide_eq_false hc; omega)]
  · unfold spT joined
    congr 2
    · show (p.1 : Int) + _ = ((p.1 + _ : Nat) : Int)
      split <;> omega
    · congr 1
      show (p.2 : Int) + _ = ((p.2 + _ : Nat) : Int)
      split <;> omega
abbrev sc82 : Scope := defScope (topS 82)
abbrev nm82 : List Str := ["_law_plain", "_law_spot"]
theorem fs82 : FnScope nm82 ["_law_plain", "_law_spot"] sc82 := ⟨rfl, rfl, rfl, by decide +kernel, rfl, by decide +kernel, by decide +kernel⟩
abbrev Ok_Lpaid (ev : Ev) (tb : List Addr) : Prop := DefOk ev tb "_law_paid" 1 (fun a : Cf × Spot => [plainT a.1, spT a.2]) (fun a => a.1.Ok ∧ a.1.has a.2) (fun a => fracT (a.1.paid a.2))
theorem b82 (h : CxD X nm82 sc82 k) (c : Cf) (hc : c.Ok) (p : Spot) (hp : c.has p) : SS tb X [.v (plainT c), .v (spT p)] (defBody (topS 82)) (Gv (fracT (c.paid p))) := by
  obtain ⟨h1, h2⟩ := has_small hc hp
  have h4 := hc.c4
  refine (ss_one (s_ret (e_tup (ea_cons (e_mul (e_ixT (e_var h 0) e_int rfl) (e_add (e_ixT (e_sub (e_var h 1) key_tup) e_int rfl) (e_ixT (e_sub (e_var h 1) key_tup) e_int rfl)) (mul_small (by omega) (by omega))) (ea_cons e_int ea_nil))) (Sub.of_eq ?_)))
  unfold Cf.paid
  rw [fracT_int]
  congr 2
abbrev sc73 : Scope := defScope (topS 73)
abbrev nm73 : List Str := ["_law_plain"]
theorem fs73 : FnScope nm73 ["_law_plain"] sc73 := ⟨rfl, rfl, rfl, by decide +kernel, rfl, by decide +kernel, by decide +kernel⟩
theorem nobody_eq (c : Cf) : Rat.divInt (10 - (c.t0 : Int)) 10 = c.nobody := by
  have h1 := divInt_mul (10 - (c.t0 : Int)) (b := 10) (by decide)
  have h2 := divInt_mul (c.t0 : Int) (b := 10) (by decide)
  unfold Cf.nobody
  rw [Rat.intCast_sub] at h1
  have h5 : ((10 : Int) : Rat) = 10 := rfl
  rw [h5] at h1 h2
  grind
abbrev Ok_Lnobody (ev : Ev) (tb : List Addr) : Prop := DefOk ev tb "_law_nobody" 2 (fun c : Cf => [plainT c]) Cf.Ok (fun c => fracT c.nobody)
theorem b73 (h : CxD X nm73 sc73 k) (hk : 1 ≤ k) (D : Ok_lowest (evX X) tb "_law_low") (c : Cf) (hc : c.Ok) : SS tb X [.v (plainT c)] (defBody (topS 73)) (Gv (fracT c.nobody)) :=
  (ss_one (s_ret (e_lowest (j := 1) h D (e_subI e_int (e_ixT (e_ixT (e_var h 0) e_int rfl) e_int rfl)) e_int (low_small (by decide) (by have := hc.a9; omega) (by decide)) hk) (Sub.of_eq (fracT_eq (nobody_eq c)))))
abbrev sc79 : Scope := defScope (topS 79)
abbrev nm79 : List Str := ["_law_plain", "_law_neighbour", "_law_spot"]
theorem fs79 : FnScope nm79 ["_law_plain", "_law_neighbour", "_law_spot"] sc79 := ⟨rfl, rfl, rfl, by decide +kernel, rfl, by decide +kernel, by decide +kernel⟩
abbrev Ok_Lable (ev : Ev) (tb : List Addr) : Prop := DefOk ev tb "_law_able" 1 (fun a : Cf × Spot => [plainT a.1, nbT a.1, spT a.2]) (fun _ => True) (fun a => lstT ((a.1.able a.2).map nT))
theorem b79 (h : CxD X nm79 sc79 k) (c : Cf) (p : Spot) : SS tb X [.v (plainT c), .v (nbT c), .v (spT p)] (defBody (topS 79)) (Gv (lstT ((c.able p).map nT))) := by
  have l0 : (nT 0 :: ([] : List Ty)).length = 1 := rfl
  have z1 : ((if p.1 < c.room then [1] else []).map nT).length ≤ 1 := by split <;> simp
  have z2 : ((if p.2 < c.nr then [2] else []).map nT).length ≤ 1 := by split <;> simp
  refine (ss_one (s_ret (e_of_el (el_cat (e_of_elH (el_cat (e_of_elH (el_lst (ea_cons e_int ea_nil)))
     (e_ifExp (T := lstH ((if p.1 < c.room then [1] else []).map nT)) (eb_lt (e_ixT (e_sub (e_var h 2) key_tup) e_int rfl) (e_ixT (e_var h 0) e_int rfl)) (fun hc => e_eq (e_of_elH (el_lst (ea_cons e_int ea_nil))) (by rw [if_pos (by have := of_decide_eq_true hc; omega)]; rfl)) (fun hc => e_eq (e_of_elH (el_lst ea_nil)) (by rw [if_neg (by have := of_decide_eq_false hc; omega)]; rfl))) ?_))
     (e_ifExp (T := lstH ((if p.2 < c.nr then [2] else []).map nT)) (eb_lt (e_ixT (e_sub (e_var h 2) key_tup) e_int rfl) (e_ixT (e_var h 1) e_int rfl)) (fun hc => e_eq (e_of_elH (el_lst (ea_cons e_int ea_nil))) (by rw [if_pos (by have := of_decide_eq_true hc; omega)]; rfl)) (fun hc => e_eq (e_of_elH (el_lst ea_nil)) (by rw [if_neg (by have := of_decide_eq_false hc; omega)]; rfl))) ?_)) (Sub.of_eq ?_)))
  · rw [sizeLine_eq]; simp only [List.length_cons, List.length_nil]; omega
  · rw [sizeLine_eq, List.length_append]; simp only [List.length_cons, List.length_nil]; omega
  · unfold Cf.able
    rw [List.map_append, List.map_append]
    rfl
abbrev sc72 : Scope := defScope (topS 72)
abbrev nm72 : List Str := ["_law_plain", "_law_parts", "_law_part", "_law_gain"]
theorem fs72 : FnScope nm72 ["_law_plain"] sc72 := ⟨rfl, rfl, rfl, by decide +kernel, rfl, by decide +kernel, by decide +kernel⟩
abbrev Ok_Lchances (ev : Ev) (tb : List Addr) : Prop := DefOk ev tb "_law_chances" 2 (fun c : Cf => [plainT c]) Cf.Ok (fun c => lstT (c.chances.map fracT))
theorem b72 (h : CxD X nm72 sc72 k) (hf : ∀ x, X.fn x = true) (hk : 1 ≤ k) (T : Tx (evX X)) (D : Ok_lowest (evX X) tb "_law_low") (c : Cf) (hc : c.Ok) : SS tb X [.v (plainT c), .no, .no, .no] (defBody (topS 72)) (Gv (lstT (c.chances.map fracT))) := by
  have hl : c.kinds.length ≤ 1000 := by have := hc.k3; omega
  have hpp := Cf.parts_pos hc
  refine (ss_cons (s_setC h hf 1 (es_v (e_sum h (ns := c.kinds.map fun k => (k.1 : Int)) (e_eq (e_of_el (LCR.el h (lc_of h [("_law_part", 2), ("_law_gain", 3)] (it_tup (e_ixT (e_var h 0) e_int rfl)) (fun s H C cl fp h' x hx => (tg_tup h' (tgs_cons (tg_name h' 2) (tgs_cons (tg_name h' 3) tgs_nil)))) (fun s H C cl fp h' x hx => (e_var h' 2)) hl))) (by rw [List.map_map]; rfl)) T.sum))
   (ss_one (s_ret (e_of_el (LCR.el h (lc_of h (R := fun k => fracT (c.chance k)) [("_law_part", 2), ("_law_gain", 3)] (it_tup (e_ixT (e_var h 0) e_int rfl)) (fun s H C cl fp h' x hx => (tg_tup h' (tgs_cons (tg_name h' 2) (tgs_cons (tg_name h' 3) tgs_nil)))) (fun s H C' cl fp h' x hx => (e_lowest (j := 1) h' D (e_mul (e_ixT (e_ixT (e_var h' 0) e_int rfl) e_int rfl) (e_var h' 2) ?_) (e_mul e_int (e_var h' 1) ?_) ?_ hk)) hl))) ?_))))
  · have := hc.kp x hx
    exact mul_small (by have := hc.a9; omega) (by omega)
  · exact mul_small (by decide) (by show c.partsI.natAbs < _; omega)
  · have h1 := hc.kp x hx
    have h2 := hc.a9
    refine low_small (by show 10 * c.partsI ≠ 0; omega) ?_ (by show (10 * c.partsI).natAbs < _; omega)
    have : ((c.t0 : Int) * (x.1 : Int)).natAbs ≤ 9 * 6 := by
      rw [Int.natAbs_mul, Int.natAbs_natCast, Int.natAbs_natCast]
      exact Nat.mul_le_mul h2 h1.2.1
    omega
  · refine Sub.of_eq ?_
    unfold Cf.chances
    rw [List.map_map]
    rfl
theorem tenth_neg (t : Int) : Rat.divInt (10 - t) 10 = 1 - Rat.divInt t 10 := by
  have h1 := divInt_mul (10 - t) (b := 10) (by decide)
  have h2 := divInt_mul t (b := 10) (by decide)
  rw [Rat.intCast_sub] at h1
  have h5 : ((10 : Int) : Rat) = 10 := rfl
  rw [h5] at h1 h2
  grind
def linLT (a : Nat × Rat) : Ty := tupT [fracT a.2, intT (a.1 : Int)]
abbrev sc76 : Scope := defScope (topS 76)
abbrev nm76 : List Str := ["_law_length", "_law_tenths"]
theorem fs76 : FnScope nm76 ["_law_length", "_law_tenths"] sc76 := ⟨rfl, rfl, rfl, by decide +kernel, rfl, by decide +kernel, by decide +kernel⟩
abbrev Ok_Lseen (ev : Ev) (tb : List Addr) : Prop := DefOk ev tb "_law_seen" 2 (fun a : Nat × Nat => [nT a.1, nT a.2]) (fun a => a.2 ≤ 10) (fun a => lstT ((line (Rat.divInt (a.2 : Int) 10) a.1).map linLT))
theorem b76 (h : CxD X nm76 sc76 k) (hk : 1 ≤ k) (D : Ok_lowest (evX X) tb "_law_low") (len t : Nat) (ht : t ≤ 10) : SS tb X [.v (nT len), .v (nT t)] (defBody (topS 76)) (Gv (lstT ((line (Rat.divInt (t : Int) 10) len).map linLT))) := by
  refine (ss_if (eb_eqI (e_var h 0) e_int) (fun hq => ?_) (fun hq => ?_))
  · have e : len = 0 := by have := of_decide_eq_true hq; omega
    refine (ss_one (s_ret (e_of_el (el_lst (ea_cons (e_tup (ea_cons (e_eq (e_tup (ea_cons e_int (ea_cons e_int ea_nil))) (fracT_int 1).symm) (ea_cons e_int ea_nil))) ea_nil))) (Sub.of_eq ?_)))
    unfold line
    rw [if_pos e]
    rfl
  · have e : len ≠ 0 := by have := of_decide_eq_false hq; omega
    refine (ss_one (s_ret (e_of_el (el_lst (ea_cons (e_tup (ea_cons (e_lowest (j := 1) h D (e_var h 1) e_int (low_small (by decide) (by omega) (by decide)) hk) (ea_cons (e_subI (e_var h 0) e_int) ea_nil))) (ea_cons (e_tup (ea_cons (e_lowest (j := 1) h D (e_subI e_int (e_var h 1)) e_int (low_small (by decide) (by omega) (by decide)) hk) (ea_cons (e_var h 0) ea_nil))) ea_nil)))) (Sub.of_eq ?_)))
    unfold line
    rw [if_neg e, tenth_neg]
    have e2 : ((len : Int) - 1) = ((len - 1 : Nat) : Int) := by omega
    rw [e2]
    rfl
end
end JL

set_option Elab.async false
set_option linter.all false
set_option maxRecDepth 100000
set_option maxHeartbeats 4000000
set_option autoImplicit false
/-! The law's own functions: spots, moves, own gains. -/
namespace JL
open PySem PySem.Spec PyProof.Rows L2
def bothT (s : Spot × Rat) : Ty := tupT [fracT s.2, spT s.1]
section
variable {tb : List Addr} {X : Cx} {G : List Slt} {N : List Str} {sc : Scope} {k : Nat} {pos : Pos} {C R CB : Addr}
abbrev sc81 : Scope := defScope (topS 81)
abbrev nm81 : List Str := ["_law_plain", "_law_neighbour", "_law_spot", "_law_found", "_law_one", "_law_here", "_law_other", "_law_there"]
theorem fs81 : FnScope nm81 ["_law_plain", "_law_neighbour", "_law_spot"] sc81 := ⟨rfl, rfl, rfl, by decide +kernel, rfl, by decide +kernel, by decide +kernel⟩
abbrev Ok_Lboth (ev : Ev) (tb : List Addr) : Prop := DefOk ev tb "_law_both" 3 (fun a : Cf × Spot => [plainT a.1, nbT a.1, spT a.2]) (fun a => a.1.Ok) (fun a => lstT ((a.1.seen a.2).map bothT))
theorem b81 (h : CxD X nm81 sc81 k) (hk : 2 ≤ k) (D1 : Ok_Lseen (evX X) tb) (D2 : Ok_times (evX X) tb "_law_times") (c : Cf) (hc : c.Ok) (p : Spot) :
    SS tb X [.v (plainT c), .v (nbT c), .v (spT p), .no, .no, .no, .no, .no] (defBody (topS 81)) (Gv (lstT ((c.seen p).map bothT))) := by
  have l2 := line_len c.servedN p.2
  have l1 := line_len c.served p.1
  let g : Nat × Rat → List (Spot × Rat) := fun a => (line c.servedN p.2).map fun b => ((a.1, b.1), a.2 * b.2)
  refine (ss_cons (s_set h 3 (es_own (el_lst ea_nil))
   (ss_cons (s_forL h (it_list (xs := line c.served p.1) (T := linLT) (e_c2 h D1 (p.1, c.t1) (e_ixT (e_sub (e_var h 2) key_tup) e_int rfl) (e_ixT (e_ixT (e_var h 0) e_int rfl) e_int rfl) hc.b10))
     (fun pre G1 => ∃ s4 s5 s6 s7, G1 = [.v (plainT c), .v (nbT c), .v (spT p), .own ((pre.flatMap g).map bothT), s4, s5, s6, s7]) ⟨_, _, _, _, rfl⟩ (fun pre x post G1 e iv => ?_) (fun G1 iv => ?_)))))
  · obtain ⟨s4, s5, s6, s7, rfl⟩ := iv
    have hx : x ∈ line c.served p.1 := by rw [e]; simp
    have hpl : (pre.flatMap g).length ≤ 2 * pre.length := flat_len fun a _ => by show ((line c.servedN p.2).map _).length ≤ 2; rw [List.length_map]; exact l2
    have hp2 : pre.length ≤ 2 := by
      have := congrArg List.length e
      rw [List.length_append] at this
      omega
    refine ⟨_, _, (tg_tup h (tgs_cons (tg_name h 4) (tgs_cons (tg_name h 5) tgs_nil))), ?_⟩
    refine (ss_one (s_forL h (it_list (xs := line c.servedN p.2) (T := linLT) (e_c2 h D1 (p.2, c.ns) (e_ixT (e_sub (e_var h 2) key_tup) e_int rfl) (e_ixT (e_var h 1) e_int rfl) hc.s10))
     (fun pre2 G1 => ∃ s6 s7, G1 = [.v (plainT c), .v (nbT c), .v (spT p), .own ((pre.flatMap g ++ pre2.map fun b => ((x.1, b.1), x.2 * b.2)).map bothT), .v (fracT x.2), .v (nT x.1), s6, s7]) ⟨_, _, by rw [List.map_nil, List.append_nil]; rfl⟩ (fun pre2 y post2 G2 e2 iv2 => ?_) (fun G2 iv2 => ?_)))
    · obtain ⟨s6, s7, rfl⟩ := iv2
      have hy : y ∈ line c.servedN p.2 := by rw [e2]; simp
      have hp3 : pre2.length ≤ 2 := by
        have := congrArg List.length e2
        rw [List.length_append] at this
        omega
      refine ⟨_, _, (tg_tup h (tgs_cons (tg_name h 6) (tgs_cons (tg_name h 7) tgs_nil))), ?_⟩
      refine (ss_one (s_append h 3 (e_tup (ea_cons (e_two h D2 (e_var h 4) (e_var h 6) ((line_dn (Cf.dn_served hc) x hx).fit (line_dn (Cf.dn_servedN hc) y hy) (a := 5) (b := 5) (by decide) (by decide) (by decide) (by decide) (by decide))) (ea_cons (e_key (ks := [_, _]) (ea_cons (e_var h 5) (ea_cons (e_var h 7) ea_nil))) ea_nil)))
        ⟨_, _, by rw [List.map_append (l₁ := pre2), ← List.append_assoc, List.map_append (l₁ := _ ++ _)]; rfl⟩ (small1000 (by rw [List.length_map, List.length_append, List.length_map]; omega))))
    · obtain ⟨s6, s7, rfl⟩ := iv2
      exact ⟨_, _, _, _, by rw [List.flatMap_append, List.flatMap_cons, List.flatMap_nil, List.append_nil]⟩
  · obtain ⟨s4, s5, s6, s7, rfl⟩ := iv
    exact (ss_freeze 3 (ss_one (s_ret (e_var h 3) Sub.rfl)))
abbrev sc77 : Scope := defScope (topS 77)
abbrev nm77 : List Str := ["_law_plain", "_law_kind", "_law_length", "_law_tenths"]
theorem fs77 : FnScope nm77 ["_law_plain", "_law_kind", "_law_length", "_law_tenths"] sc77 := ⟨rfl, rfl, rfl, by decide +kernel, rfl, by decide +kernel, by decide +kernel⟩
structure OwA where
  c : Cf
  k : Nat
  len : Nat
  t : Nat
abbrev Ok_Lown (ev : Ev) (tb : List Addr) : Prop := DefOk ev tb "_law_own" 4 (fun a : OwA => [plainT a.c, nT a.k, nT a.len, nT a.t]) (fun a => a.c.Ok ∧ a.k < a.c.nk ∧ a.len ≤ 3 ∧ 1 ≤ a.t ∧ a.t ≤ 10) (fun a => fracT (a.c.ownG a.k a.len a.t))
theorem kind_at {c : Cf} {k : Nat} (hk : k < c.nk) : atI (c.kinds.map kindT) (k : Int) = some (tupT [intT ((c.kinds.getD k (0, 0)).1 : Int), intT (c.gain k : Int)]) := by
  refine atI_ofNat ?_
  unfold Cf.gain
  rw [List.getElem?_map, List.getD_eq_getElem?_getD, List.getElem?_eq_getElem hk]
  rfl
theorem b77 (h : CxD X nm77 sc77 k) (hk : 3 ≤ k) (D : Ok_lowest (evX X) tb "_law_low") (D2 : Ok_minus (evX X) tb "_law_minus" 3) (c : Cf) (hc : c.Ok) (i len t : Nat) (hi : i < c.nk) (hl : len ≤ 3) (t1 : 1 ≤ t) (t10 : t ≤ 10) :
    SS tb X [.v (plainT c), .v (nT i), .v (nT len), .v (nT t)] (defBody (topS 77)) (Gv (fracT (c.ownG i len t))) := by
  have h4 := hc.c4
  have hg := Cf.gain_le hc i
  have hw := Cf.dn_wait hc hl (show 0 < t by omega)
  refine (ss_one (s_ret (e_two h D2 (e_eq (e_tup (ea_cons (e_ixT (e_ixT (e_ixT (e_var h 0) e_int rfl) (e_var h 1) (kind_at hi)) e_int rfl) (ea_cons e_int ea_nil))) (fracT_int _).symm)
    (e_lowest (j := 1) h D (e_mul (e_mul e_int (e_ixT (e_var h 0) e_int rfl) (mul_small (by decide) (by omega))) (e_add (e_var h 2) e_int) (mul_small (by omega) (by omega))) (e_var h 3) (low_small (by omega) ?_ (by omega)) (by omega))
    (((dn_int (c.gain i : Int)).mono (M' := 39) (by rw [Int.natAbs_natCast]; exact hg)).fit hw (a := 9) (b := 9) (by decide) (by decide) (by omega) (by decide) (by decide))) Sub.rfl))
  have e : (10 * (c.cost : Int) * ((len : Int) + 1)) = ((10 * c.cost * (len + 1) : Nat) : Int) := by rw [Int.natCast_mul, Int.natCast_mul]; rfl
  rw [e, Int.natAbs_natCast]
  have : 10 * c.cost * (len + 1) ≤ (10 * 4) * 4 := Nat.mul_le_mul (by omega) (by omega)
  omega
abbrev sc78 : Scope := defScope (topS 78)
abbrev nm78 : List Str := ["_law_plain", "_law_neighbour", "_law_found", "_law_here", "_law_there"]
theorem fs78 : FnScope nm78 ["_law_plain", "_law_neighbour"] sc78 := ⟨rfl, rfl, rfl, by decide +kernel, rfl, by decide +kernel, by decide +kernel⟩
abbrev Ok_Lspots (ev : Ev) (tb : List Addr) : Prop := DefOk ev tb "_law_spots" 1 (fun c : Cf => [plainT c, nbT c]) Cf.Ok (fun c => lstT (c.spots.map spT))
theorem b78 (h : CxD X nm78 sc78 k) (hf : ∀ x, X.fn x = true) (T : Tx (evX X)) (c : Cf) (hc : c.Ok) : SS tb X [.v (plainT c), .v (nbT c), .no, .no, .no] (defBody (topS 78)) (Gv (lstT (c.spots.map spT))) := by
  have h2 := hc.r2
  have h3 := hc.n3
  let g : Nat → List Spot := fun a => (List.range (c.nr + 1)).map fun t => (a, t)
  have hsp : c.spots = (List.range (c.room + 1)).flatMap g := rfl
  refine (ss_cons (s_set (s := .v (lstH [])) h 2 (es_v (e_of_elH (el_lst ea_nil)))
   (ss_cons (s_forL h (it_range1 h (n := c.room + 1) (e_eq (e_add (e_ixT (e_var h 0) e_int rfl) e_int) (show intT ((c.room : Int) + 1) = intT ((c.room + 1 : Nat) : Int) from rfl)) T.range (by omega))
     (fun pre G1 => ∃ s3, G1 = [.v (plainT c), .v (nbT c), .v (lstH ((pre.flatMap g).map spT)), s3, .no]) ⟨_, rfl⟩ (fun pre x post G1 e iv => ?_) (fun G1 iv => ?_)))))
  · obtain ⟨s3, rfl⟩ := iv
    have hpl : (pre.flatMap g).length ≤ 4 * pre.length := flat_len fun a _ => by show ((List.range (c.nr + 1)).map _).length ≤ 4; rw [List.length_map, List.length_range]; omega
    have hp2 : pre.length ≤ 3 := by
      have := congrArg List.length e
      rw [List.length_range, List.length_append] at this
      omega
    refine ⟨_, _, (tg_cell h hf 3), ?_⟩
    refine (ss_one (s_set h 2 (es_v (e_of_elH (el_cat (e_var h 2) (e_of_elH (LCR.el h (lc_of h (xs := List.range (c.nr + 1)) (T := fun i => intT (i : Nat)) (R := fun t => spT (x, t)) [("_law_there", 4)] (it_range1 h (n := c.nr + 1) (e_eq (e_add (e_ixT (e_var h 1) e_int rfl) e_int) (show intT ((c.nr : Int) + 1) = intT ((c.nr + 1 : Nat) : Int) from rfl)) T.range (by omega)) (fun s H C cl fp h' y hy => (tg_name h' 4)) (fun s H C cl fp h' y hy => (e_key (ks := [_, _]) (ea_cons (e_var h' 3) (ea_cons (e_var h' 4) ea_nil)))) (by rw [List.length_range]; omega)))) ?_)))
      ⟨_, by rw [List.flatMap_append, List.flatMap_cons, List.flatMap_nil, List.append_nil, List.map_append (l₁ := pre.flatMap g), List.map_map]; rfl⟩))
    rw [List.length_map, List.length_map, List.length_range, sizeLine_eq]
    omega
  · obtain ⟨s3, rfl⟩ := iv
    exact (ss_one (s_ret (e_var h 2) lstH_sub))
end
end JL

set_option Elab.async false
set_option linter.all false
set_option maxRecDepth 100000
set_option maxHeartbeats 4000000
set_option autoImplicit false
/-! The law's own functions: the greatest, routes. -/
namespace JL
open PySem PySem.Spec PyProof.Rows L2
def gstep (b x : Rat) : Rat := if b < x then x else b
def gst (l : List Rat) : Rat := l.foldl gstep (l.headD 0)
theorem gstep_mem {l : List Rat} {b : Rat} {xs : List Rat} (hb : b ∈ l) (hx : ∀ x ∈ xs, x ∈ l) : xs.foldl gstep b ∈ l := by
  induction xs generalizing b with
  | nil => exact hb
  | cons a xs ih =>
    rw [List.foldl_cons]
    refine ih ?_ fun x h => hx x (by simp [h])
    unfold gstep
    split
    · exact hx a (by simp)
    · exact hb
theorem gstep_ge {b : Rat} (xs : List Rat) : b ≤ xs.foldl gstep b ∧ ∀ x ∈ xs, x ≤ xs.foldl gstep b := by
  induction xs generalizing b with
  | nil => exact ⟨Rat.le_refl, fun _ h => by cases h⟩
  | cons a xs ih =>
    rw [List.foldl_cons]
    obtain ⟨i1, i2⟩ := ih (b := gstep b a)
    have m : b ≤ gstep b a ∧ a ≤ gstep b a := by unfold gstep; split <;> constructor <;> grind
    refine ⟨by grind, fun x hx => ?_⟩
    rcases List.mem_cons.mp hx with e | hx
    · rw [e]; grind
    · exact i2 x hx
/-- it is the greatest -/
theorem gst_eq {l : List Rat} {m : Rat} (hm : m ∈ l) (hg : ∀ x ∈ l, x ≤ m) : gst l = m := by
  unfold gst
  cases l with
  | nil => cases hm
  | cons a l =>
    have h1 := hg _ (gstep_mem (l := a :: l) (b := a) (xs := a :: l) (by simp) fun _ h => h)
    have h2 := (gstep_ge (b := a) (a :: l)).2 m hm
    show (a :: l).foldl gstep a = m
    grind
theorem gstep_t {b x : Rat} (h : b < x) : fracT x = fracT (gstep b x) := by unfold gstep; rw [if_pos h]
theorem gstep_f {b x : Rat} (h : ¬ b < x) : fracT b = fracT (gstep b x) := by unfold gstep; rw [if_neg h]
section
variable {tb : List Addr} {X : Cx} {G : List Slt} {N : List Str} {sc : Scope} {k : Nat} {pos : Pos} {C R CB : Addr}
abbrev sc84 : Scope := defScope (topS 84)
abbrev nm84 : List Str := ["_law_some", "_law_found", "_law_one"]
theorem fs84 : FnScope nm84 ["_law_some"] sc84 := ⟨rfl, rfl, rfl, by decide +kernel, rfl, by decide +kernel, by decide +kernel⟩
structure GrP (l : List Rat) : Prop where
  ne : l ≠ []
  ft : ∀ x ∈ l, ∀ y ∈ l, FitW x y
abbrev Ok_Lgreatest (ev : Ev) (tb : List Addr) : Prop := DefOk ev tb "_law_greatest" 2 (fun l : List Rat => [lstT (l.map fracT)]) GrP (fun l => fracT (gst l))
theorem b84 (h : CxD X nm84 sc84 k) (hk : 1 ≤ k) (D : Ok_is_less (evX X) tb "_law_less") (l : List Rat) (hp : GrP l) : SS tb X [.v (lstT (l.map fracT)), .no, .no] (defBody (topS 84)) (Gv (fracT (gst l))) := by
  obtain ⟨a, l', rfl⟩ : ∃ a l', l = a :: l' := by cases l with
    | nil => exact absurd rfl hp.ne
    | cons a l' => exact ⟨a, l', rfl⟩
  refine (ss_cons (s_set h 1 (es_v (e_ixL (U := fracT a) (i := ((0 : Nat) : Int)) (e_var h 0) e_int (atI_ofNat rfl)))
   (ss_cons (s_forL h (it_list (xs := a :: l') (T := fracT) (e_var h 0)) (fun pre G1 => ∃ s, G1 = [.v (lstT ((a :: l').map fracT)), .v (fracT (pre.foldl gstep a)), s]) ⟨_, rfl⟩ (fun pre x post G1 e iv => ?_) (fun G1 iv => ?_)))))
  · obtain ⟨s, rfl⟩ := iv
    have hx : x ∈ a :: l' := by rw [e]; simp
    have hm : pre.foldl gstep a ∈ a :: l' := gstep_mem (by simp) fun y hy => by rw [e]; simp [hy]
    refine ⟨_, _, (tg_name h 2), (ss_one (s_set h 1 (es_v (e_ifExp (T := fracT (gstep (pre.foldl gstep a) x)) (eb_val (e_two (j := 1) h D (e_var h 1) (e_var h 2) (hp.ft _ hm _ hx))) (fun hc => e_eq (e_var h 2) (gstep_t (of_decide_eq_true hc))) (fun hc => e_eq (e_var h 1) (gstep_f (of_decide_eq_false hc))))) ⟨_, by rw [List.foldl_append]; rfl⟩))⟩
  · obtain ⟨s, rfl⟩ := iv
    exact (ss_one (s_ret (e_var h 1) Sub.rfl))
end
end JL

set_option Elab.async false
set_option linter.all false
set_option maxRecDepth 100000
set_option maxHeartbeats 4000000
set_option autoImplicit false
/-! The law's own functions: what a route is. -/
namespace JL
open PySem PySem.Spec PyProof.Rows L2
section
variable {tb : List Addr} {X : Cx} {G : List Slt} {N : List Str} {sc : Scope} {k : Nat} {pos : Pos} {C R CB : Addr}
theorem e_neI {a b : Expr} {i j : Int} (ha : E tb X G a (intT i)) (hb : E tb X G b (intT j)) : E tb X G (.Compare a [.NotEq] [b] pos) (boolT (decide (i ≠ j))) := e_cmp op_ne rr_neI ha hb (nomark _)
abbrev sc86 : Scope := defScope (topS 86)
abbrev nm86 : List Str := ["_law_plain", "_law_neighbour", "_law_route", "_law_spots_here", "_law_row", "_law_spot", "_law_choice"]
theorem fs86 : FnScope nm86 ["_law_plain", "_law_neighbour", "_law_route"] sc86 := ⟨rfl, rfl, rfl, by decide +kernel, rfl, by decide +kernel, by decide +kernel⟩
abbrev Ok_Lis_route (ev : Ev) (tb : List Addr) : Prop := DefOk ev tb "_law_is_route" 2 (fun a : Cf × List (List Nat) => [plainT a.1, nbT a.1, tblT a.2]) (fun a => a.1.Ok ∧ TabP a.1 a.2) (fun a => boolT (a.1.isR a.2))
theorem b86 (h : CxD X nm86 sc86 k) (hf : ∀ x, X.fn x = true) (hk : 1 ≤ k) (T : Tx (evX X)) (D1 : Ok_Lspots (evX X) tb) (D2 : Ok_Lable (evX X) tb) (c : Cf) (hc : c.Ok) (xss : List (List Nat)) (hx : TabP c xss) :
    SS tb X [.v (plainT c), .v (nbT c), .v (tblT xss), .no, .no, .no, .no] (defBody (topS 86)) (Gv (boolT (c.isR xss))) := by
  have n9 := Cf.n9 hc
  have h3 : c.nk ≤ 3 := hc.k3
  have hl := hx.len
  have hany : (xss.map fun _ => false).any id = false := by
    rw [List.any_eq_false]
    intro b hb
    obtain ⟨_, _, rfl⟩ := List.mem_map.mp hb
    simp
  refine (ss_cons (s_set h 3 (es_v (e_c2 h D1 c (e_var h 0) (e_var h 1) hc))
   (ss_if (EW.eb (ew_or (eb_neI (e_len h (e_var h 2) (.tup _) T.len) (e_len h (e_var h 3) (.lst _) T.len)) (fun hc => (ew_or1 (eb_val (e_any h (bs := xss.map fun _ => false) (e_eq (e_of_el (LCR.el h (lc_of h (xs := xss) (T := fun xs => tupT (xs.map nT)) (R := fun _ => boolT false) [("_law_row", 4)] (it_tup (e_var h 2)) (fun s H C' cl fp h' x hx' => (tg_name h' 4))
      (fun s H C' cl fp h' x hx' => (e_eq (e_neI (e_len h' (e_var h' 4) (.tup _) T.len) (e_len h' (e_ixT (e_var h' 0) e_int rfl) (.tup _) T.len)) (by rw [List.length_map, List.length_map, (hx.row x hx').1]; exact congrArg boolT (decide_eq_false fun z => z rfl)))) (by omega)))) (by rw [List.map_map]; rfl)) T.any)))))) (fun hq => ?_) (fun hq => ?_))))
  · refine (ss_one (s_ret e_bl (Sub.of_eq ?_)))
    have : xss.length ≠ c.n := by
      rw [hany, Bool.or_false, List.length_map, List.length_map, spots_len] at hq
      have := of_decide_eq_true hq
      omega
    unfold Cf.isR
    rw [decide_eq_false this]
    rfl
  have hxl : xss.length = c.n := by
    rw [hany, Bool.or_false, List.length_map, List.length_map, spots_len] at hq
    have := of_decide_eq_false hq
    omega
  refine (ss_cons (s_forL h (it_zipLT h (xs := c.spots) (ys := xss) (T := spT) (U := fun xs => tupT (xs.map nT)) (e_var h 3) (e_var h 2) T.zip)
      (fun pre G1 => (pre.all fun z => z.2.all fun x => (c.able z.1).contains x) = true ∧ ∃ s4 s5, G1 = [.v (plainT c), .v (nbT c), .v (tblT xss), .v (lstT (c.spots.map spT)), s4, s5, .no]) ⟨rfl, _, _, rfl⟩ (fun pre z post G1 e iv => ?_) (fun G1 iv => ?_)))
  · obtain ⟨ha, s4, s5, rfl⟩ := iv
    have hzm : z.2 ∈ xss := (List.of_mem_zip (show (z.1, z.2) ∈ c.spots.zip xss by rw [e]; simp)).2
    obtain ⟨r1, r2⟩ := hx.row z.2 hzm
    refine ⟨_, _, (tg_tup h (tgs_cons (tg_cell h hf 5) (tgs_cons (tg_name h 4) tgs_nil))), ?_⟩
    refine (ss_one (s_if (eb_not (eb_val (e_all h (bs := z.2.map fun x => (c.able z.1).contains x) (e_eq (e_of_el (LCR.el h (lc_of h (xs := z.2) (T := nT) (R := fun x => boolT ((c.able z.1).contains x)) [("_law_choice", 6)] (it_tup (e_var h 4)) (fun s H C' cl fp h' x hx' => (tg_name h' 6))
       (fun s H C' cl fp h' x hx' => (e_eq (e_inI h' (x := (x : Int)) (ns := (c.able z.1).map fun i => ((i : Nat) : Int)) (e_var h' 6) (e_eq (e_c3 h' D2 (c, z.1) (e_var h' 0) (e_var h' 1) (e_var h' 5) trivial) (by rw [List.map_map]; rfl))) (by rw [contains_int]))) (by omega)))) (by rw [List.map_map]; rfl)) T.all))) (fun hq => ?_) (fun hq => ss_nil ?_)))
    · refine (ss_one (s_ret e_bl (Sub.of_eq ?_)))
      have hz : (z.2.all fun x => (c.able z.1).contains x) = false := by
        rw [List.all_map] at hq
        simpa using hq
      have : ((c.spots.zip xss).all fun z => z.2.all fun x => (c.able z.1).contains x) = false := by
        rw [e, List.all_append, List.all_cons, hz, Bool.false_and, Bool.and_false]
      unfold Cf.isR
      rw [this, Bool.and_false]
    · have hz : (z.2.all fun x => (c.able z.1).contains x) = true := by
        rw [List.all_map] at hq
        simpa using hq
      exact ⟨by rw [List.all_append, ha, List.all_cons, hz]; rfl, _, _, rfl⟩
  · obtain ⟨ha, s4, s5, rfl⟩ := iv
    refine (ss_one (s_ret e_bl (Sub.of_eq ?_)))
    unfold Cf.isR
    rw [decide_eq_true hxl, ha]
    rfl
end
end JL

set_option Elab.async false
set_option linter.all false
set_option maxRecDepth 100000
set_option maxHeartbeats 4000000
set_option autoImplicit false
/-! The law's own functions: elimination. -/
namespace JL
open PySem PySem.Spec PyProof.Rows L2
theorem pivot_head {n c : Nat} {M : Mx} (h : HasP n c M) : ((List.range' c (n - c)).filter fun i => decide ((M i c).num ≠ 0))[0]? = some (pivot n c M) := by
  have e : (fun i => decide ((M i c).num ≠ 0)) = fun i => decide (M i c ≠ 0) := by
    funext i
    rw [decide_eq_decide]
    constructor
    · intro h1 h2; exact h1 (by rw [h2]; rfl)
    · intro h1 h2; exact h1 (Rat.num_eq_zero.mp h2)
  rw [e, ← List.head?_eq_getElem?, List.head?_filter]
  obtain ⟨i, h1, h2, h3⟩ := h
  unfold pivot
  cases e : (List.range' c (n - c)).find? fun i => decide (M i c ≠ 0) with
  | none =>
    rw [List.find?_eq_none] at e
    exact absurd (decide_eq_true h3) (e i (by rw [List.mem_range'_1]; omega))
  | some p => rfl
section
variable {tb : List Addr} {X : Cx} {G : List Slt} {N : List Str} {sc : Scope} {k : Nat} {pos : Pos} {c P : Addr}
abbrev sc74 : Scope := defScope (topS 74)
abbrev nm74 : List Str := ["_law_rows", "_law_left", "_law_column", "_law_at", "_law_first", "_law_part", "_law_row", "_law_one", "_law_other"]
theorem fs74 : FnScope nm74 ["_law_rows"] sc74 := ⟨rfl, rfl, rfl, by decide +kernel, rfl, by decide +kernel, by decide +kernel⟩
theorem b74 (h : CxD X nm74 sc74 k) (hf : ∀ x, X.fn x = true) (hk : 3 ≤ k) (T : Tx (evX X)) (D_over : DefOk (evX X) tb "_law_over" 2 two (fun p => Fit p.1 p.2 ∧ p.2 ≠ 0) (fun p => fracT (p.1 / p.2))) (D_minus : Ok_minus (evX X) tb "_law_minus" 3) (D_times : Ok_times (evX X) tb "_law_times") (n : Nat) (M : Mx) (s : SolP n M) :
    SS tb X [.v (matT n M), .no, .no, .no, .no, .no, .no, .no, .no] (defBody (topS 74)) (Gv (lstT ((List.range n).map fun i => fracT (gj n n M i n)))) := by
  have n9 := s.n9
  refine (ss_cons (s_setC h hf 1 (es_own (LCR.el h (lc_of h (R := fun i => rwT n (M i)) [("_law_row", 6)] (it_list (e_var h 0)) (fun s H C cl fp h' x hx => (tg_name h' 6)) (fun s H C cl fp h' x hx => (e_listOf h' (e_var h' 6) (.lst _) T.list)) (by rw [List.length_range]; omega))))
   (ss_cons (s_for h (it_range1 h (n := n) (e_eq (e_len h (e_var h 0) (.lst _) T.len) (by rw [rowsT_len])) T.range (by omega))
     (fun i G1 => ∃ s2 s3 s4 s5, G1 = [.v (matT n M), .own (rowsT n (gj n i M)), s2, s3, s4, s5, .no, .no, .no]) ⟨_, _, _, _, rfl⟩ (fun i x G1 ei iv => ?_) (fun G1 iv => ?_)))))
  · obtain ⟨s2, s3, s4, s5, rfl⟩ := iv
    have hin : i < n := by
      have := (List.getElem?_eq_some_iff.mp ei).1
      rwa [List.length_range] at this
    rw [List.getElem?_range hin] at ei
    cases ei
    have hcp := s.col hin
    have hhd := pivot_head (s.mid hin).2
    obtain ⟨p1, p2, p3, p4⟩ := pivot_ok (s.mid hin).2
    have hst : gj n (i + 1) M = elimM (normM (swapM (gj n i M) i (pivot n i (gj n i M))) i) i := rfl
    generalize gj n i M = L at *
    generalize pivot n i L = p at *
    generalize hS : swapM L i p = S at *
    have htm := hcp.tm
    have hmi := hcp.mi
    generalize hN : normM S i = Q at *
    refine ⟨_, _, (tg_cell h hf 2), ?_⟩
    refine (ss_cons (s_set h 4 (es_v (e_ixL (U := intT (p : Int)) (i := ((0 : Nat) : Int)) (e_of_el (LCR.el h (lc_ofI h (xs := List.range' i (n - i)) (T := fun a => intT (a : Nat)) (R := fun a => intT ((a : Nat) : Int)) (b := fun a => decide ((L a i).num ≠ 0)) [("_law_at", 3)] (it_range2 h (lo := i) (hi := n) (e_var h 2) (e_eq (e_len h (e_var h 0) (.lst _) T.len) (by rw [rowsT_len])) T.range (by omega) (by omega)) (fun s H C cl fp h' x hx => (tg_name h' 3))
        (fun s H C cl fp h' x hx => (eb_neI (e_ixT (e_ixL (e_ixOwn h' 1 (e_var h' 3) (rowsT_at (n := n) (i := x) (M := L) (by have := List.mem_range'_1.mp hx; omega))) (e_var h' 2) (rw_at (by omega))) e_int rfl) e_int)) (fun s H C cl fp h' x hx hb => (e_var h' 3)) (by rw [List.length_range']; omega)))) e_int (atI_ofNat (by rw [List.getElem?_map, hhd]; rfl)))) ?_))
    refine (ss_cons (s_swapOwn h 1 (n1 := i) (n2 := p) (e_tup (ea_cons (e_ixOwn h 1 (e_var h 4) (rowsT_at p2)) (ea_cons (e_ixOwn h 1 (e_var h 2) (rowsT_at hin)) ea_nil))) (e_var h 2) (e_var h 4) (rowsT_ix hin) (rowsT_ix p2) ?_))
    rw [rowsT_swap hin p2, hS]
    refine (ss_cons (s_setItem h 1 (n := i) (e_of_el (LCR.el h (lc_of h (xs := List.range (n + 1)) (R := fun j => fracT (S i j / S i i)) [("_law_one", 7)] (it_list (T := fun j => fracT (S i j)) (e_ixOwn h 1 (e_var h 2) (rowsT_at hin))) (fun s H C cl fp h' x hx => (tg_name h' 7)) (fun s H C cl fp h' x hx => (e_two h' D_over (e_var h' 7) (e_ixL (e_ixOwn h' 1 (e_var h' 2) (rowsT_at hin)) (e_var h' 2) (rw_at (by omega))) ⟨hcp.ov x (by have := List.mem_range.mp hx; omega), hcp.q0⟩)) (by rw [List.length_range]; omega)))) (e_var h 2) (rowsT_ix hin) ?_))
    rw [rowsT_norm hin, hN]
    refine (ss_one (s_for h (it_range1 h (n := n) (e_eq (e_len h (e_var h 0) (.lst _) T.len) (by rw [rowsT_len])) T.range (by omega))
     (fun a G1 => ∃ s3 s4 s5, G1 = [.v (matT n M), .own (rowsT n (halfM Q i a)), .v (intT (i : Int)), s3, s4, s5, .no, .no, .no]) ⟨_, _, _, by rw [half_none]; rfl⟩ (fun a x G1 ea iv => ?_) (fun G1 iv => ?_)))
    · obtain ⟨s3, s4, s5, rfl⟩ := iv
      have han : a < n := by
        have := (List.getElem?_eq_some_iff.mp ea).1
        rwa [List.length_range] at this
      rw [List.getElem?_range han] at ea
      cases ea
      refine ⟨_, _, (tg_name h 3), ?_⟩
      refine (ss_cons (s_setC h hf 5 (es_v (e_eq (e_ixL (e_ixOwn h 1 (e_var h 3) (rowsT_at han)) (e_var h 2) (rw_at (by omega))) (by rw [half_at]))) ?_))
      have hx2 : ∀ x : Nat × Nat, x ∈ (List.range (n + 1)).zip (List.range (n + 1)) → x.2 ≤ n := fun x hx => by have := List.mem_range.mp (List.of_mem_zip hx).2; omega
      refine (ss_one (s_if (EW.eb (ew_and (eb_neI (e_var h 3) (e_var h 2)) (fun hc => (ew_and1 (eb_neI (e_ixT (e_var h 5) e_int rfl) e_int))))) (fun hc => ?_) (fun hc => ss_nil ?_)))
      · have hai : a ≠ i := by
          have := hc
          simp only [Bool.and_eq_true, decide_eq_true_eq] at this
          omega
        refine (ss_one (s_setItem h 1 (n := a) (T := rwT n fun j => Q a j - Q a i * Q i j) (e_eq (e_of_el (LCR.el h (lc_of h (xs := (List.range (n + 1)).zip (List.range (n + 1))) (R := fun z => fracT (Q a z.1 - Q a i * Q i z.2)) [("_law_one", 7), ("_law_other", 8)] (it_zip h (xs := List.range (n + 1)) (ys := List.range (n + 1)) (T := fun j => fracT (Q a j)) (U := fun j => fracT (Q i j)) (e_eq (e_ixOwn h 1 (e_var h 3) (rowsT_at han)) (by rw [half_at])) (e_eq (e_ixOwn h 1 (e_var h 2) (rowsT_at hin)) (by rw [half_row])) T.zip)
          (fun s H C cl fp h' x hx => (tg_tup h' (tgs_cons (tg_name h' 7) (tgs_cons (tg_name h' 8) tgs_nil)))) (fun s H C cl fp h' x hx => (e_two h' D_minus (e_var h' 7) (e_two h' D_times (e_var h' 5) (e_var h' 8) (htm a x.2 han hai (hx2 x hx))) (by rw [zip_mem hx]; exact hmi a x.2 han hai (hx2 x hx)))) (by simp; omega)))) (by rw [zip_range])) (e_var h 3) (rowsT_ix han) ⟨_, _, _, by rw [rowsT_half han hai]; rfl⟩))
      · have hz : a = i ∨ Q a i = 0 := by
          by_cases e : a = i
          · exact .inl e
          · refine .inr (Rat.num_eq_zero.mp ?_)
            have e1 : decide ((a : Int) ≠ (i : Int)) = true := decide_eq_true (by omega)
            rw [e1, Bool.true_and] at hc
            exact Decidable.not_not.mp (of_decide_eq_false hc)
        exact ⟨_, _, _, by rw [half_skip hz]; rfl⟩
    · obtain ⟨s3, s4, s5, rfl⟩ := iv
      exact ⟨_, _, _, _, by rw [List.length_range, half_done, hst]⟩
  · obtain ⟨s2, s3, s4, s5, rfl⟩ := iv
    rw [List.length_range]
    exact (ss_freeze 1 (ss_one (s_ret (e_of_el (LCR.el h (lc_of h (R := fun i => fracT (gj n n M i n)) [("_law_row", 6)] (it_list (xs := List.range n) (T := fun i => rwT n (gj n n M i)) (e_var h 1)) (fun s H C cl fp h' x hx => (tg_name h' 6)) (fun s H C cl fp h' x hx => (e_ixL (e_var h' 6) (e_neg e_int) (rw_last _ _))) (by rw [List.length_range]; omega)))) Sub.rfl)))
end
end JL

set_option Elab.async false
set_option linter.all false
set_option maxRecDepth 100000
set_option maxHeartbeats 4000000
set_option autoImplicit false
/-! The law's own functions: shares. -/
namespace JL
open PySem PySem.Spec PyProof.Rows L2
theorem qsum_filter {α : Type} (p : α → Bool) (f : α → Rat) : ∀ l : List α, qsum ((l.filter p).map f) = ls l fun a => if p a = true then f a else 0 := by
  intro l
  rw [qsum_ls]
  induction l with
  | nil => rfl
  | cons a l ih =>
    rw [List.filter_cons]
    show _ = (if p a = true then f a else 0) + ls l _
    by_cases h : p a = true
    · rw [if_pos h, if_pos h]
      show f a + ls (l.filter p) f = _
      rw [ih]
    · rw [if_neg h, if_neg h, ih]
      grind
theorem range_set {α : Type} {m i : Nat} (hi : i < m) (f : Nat → α) (x : α) : ((List.range m).map f).set i x = (List.range m).map fun j => if j = i then x else f j := by
  apply List.ext_getElem?
  intro k
  by_cases hk : k < m
  · by_cases e : k = i
    · subst e
      rw [List.getElem?_set_self (by simpa using hk), List.getElem?_map, List.getElem?_range hk]
      simp
    · rw [List.getElem?_set_ne (Ne.symm e), List.getElem?_map, List.getElem?_map, List.getElem?_range hk]
      simp [e]
  · rw [List.getElem?_eq_none (by simp; omega), List.getElem?_eq_none (by simp; omega)]
theorem same_all {α : Type} (x : α) (m : Nat) : (List.replicate m [x]).flatten ++ [x] = (List.range (m + 1)).map fun _ => x := by
  rw [List.map_const', List.length_range, List.replicate_succ']
  congr 1
  induction m with
  | zero => rfl
  | succ m ih => rw [List.replicate_succ, List.flatten_cons, ih, List.replicate_succ]; rfl
theorem q01 : tupT [intT 0, intT 1] = fracT 0 := by unfold fracT; rfl
theorem q11 : tupT [intT 1, intT 1] = fracT 1 := by unfold fracT; rfl
/-- a row of what comes in -/
def rowL (n : Nat) (P : Mx) (l : Nat) : Nat → Rat := fun j => if j = n then 0 else P j l - (if j = l then 1 else 0)
def Cf.mvT (c : Cf) (a : Spot × Rat × Nat) : Ty := tupT [fracT a.2.1, nT (c.ix a.1)]
theorem mv_fit {c : Cf} (hc : c.Ok) {r : Rt} (hr : c.vr r) {p : Spot} (hp : c.has p) (q : Spot × Rat × Nat → Bool) : FitL (((c.mv r p).filter q).map fun a => a.2.1) := by
  have hD := DD_le hc
  have key : ∀ l : List (Spot × Rat × Nat), (∀ a ∈ l, a ∈ c.mv r p) → Dn c.DD (136800 * l.length) (ls l fun a => a.2.1) := by
    intro l
    induction l with
    | nil => intro _; exact (dn_zero hD.1).mono (Nat.zero_le _)
    | cons a l ih =>
      intro hl
      have := ((mv_mem hc hr hp (hl a (by simp))).2.1).add (ih fun x hx => hl x (by simp [hx]))
      exact this.mono (by rw [List.length_cons]; omega)
  have hm : ∀ a ∈ (c.mv r p).filter q, a ∈ c.mv r p := fun a ha => (List.mem_filter.mp ha).1
  have hlen : ((c.mv r p).filter q).length ≤ 16 := Nat.le_trans (List.length_filter_le _ _) (mv_len hc r p)
  intro pre x post e
  obtain ⟨l1, l2, e1, e2, e3⟩ := List.map_eq_append_iff.mp e
  cases l2 with
  | nil => cases e3
  | cons s l3 =>
    rw [List.map_cons] at e3
    obtain ⟨rfl, e5⟩ := List.cons.inj e3
    subst e2
    rw [e1, List.length_append, List.length_cons] at hlen
    rw [qsum_ls]
    have h1 := key l1 fun a ha => hm a (by rw [e1]; simp [ha])
    have h2 := (mv_mem hc hr hp (hm s (by rw [e1]; simp))).2.1
    exact h1.fit h2 (a := 28) (b := 28) (by omega) (by omega) (by omega) (by decide) (by decide)
section
variable {tb : List Addr} {X : Cx} {G : List Slt} {N : List Str} {sc : Scope} {k : Nat} {pos : Pos}
theorem e_slH {a : Expr} {lo hi : Option Expr} {l u : Option Int} {Ts : List Ty} {p2 : Pos} (ha : E tb X G a (lstT Ts)) (hl : EO tb X G lo l) (hu : EO tb X G hi u) : E tb X G (.Subscript a (.Slice lo hi none p2) pos) (lstH (cutT Ts l u)) :=
  fun B σ F H Q hh q => by
    obtain ⟨t1, p1, k1⟩ := eo_use hl
    obtain ⟨t2, p2, k2⟩ := eo_use hu
    refine ewp_of (pe_slice sl_list (pe_wp a) p1 p2) (ha B σ F H _ hh fun v F1 H1 x1 t => k1 B σ F1 H1 _ (hh.up x1) fun F2 H2 x2 => k2 B σ F2 H2 _ ((hh.up x1).up x2) fun F3 H3 x3 => ?_)
    obtain ⟨p, vs, e, s, al⟩ := (lstT Ts).mono (Same.trans x2.ff x3.ff) t
    refine ⟨p, vs, e, al_seq x3.fz s, fun z hz => ?_⟩
    have x4 := Ext.new x3.fz hz (o := .lst (cutV vs l u)) fun _ z => nomatch z
    exact q _ _ _ (((x1.trans x2).trans x3).trans x4) ⟨z, _, rfl, upd_same, (al_cut al l u).up x4.ff⟩
abbrev sc75 : Scope := defScope (topS 75)
abbrev nm75 : List Str := ["_law_rows", "_law_many", "_law_inflow", "_law_later", "_law_row", "_law_before", "_law_chance", "_law_one"]
theorem fs75 : FnScope nm75 ["_law_rows"] sc75 := ⟨rfl, rfl, rfl, by decide +kernel, rfl, by decide +kernel, by decide +kernel⟩
abbrev Ok_Lsolved (ev : Ev) (tb : List Addr) : Prop := Ok_solved ev tb "_law_solved"
abbrev mvsT (c : Cf) (r : Rt) : Ty := lstT ((List.range c.n).map fun i => lstT ((c.mv r (c.at_ i)).map c.mvT))
abbrev Ok_Llong (ev : Ev) (tb : List Addr) : Prop := DefOk ev tb "_law_long" 5 (fun a : SoA => [mvsT a.c a.r]) (fun a => a.c.Ok ∧ a.c.vr a.r) (fun a => lstT ((List.range a.c.n).map fun i => fracT (shareL a.c.n (a.c.P a.r) i)))
theorem row_step {n l b : Nat} (P : Mx) (hb : b < n) {x : Rat} (hx : x = P b l) :
    ((List.range (n + 1)).map fun j => fracT (if j < b then P j l else 0)).set b (fracT x) = (List.range (n + 1)).map fun j => fracT (if j < b + 1 then P j l else 0) := by
  subst hx
  rw [range_set (by omega)]
  refine List.map_congr_left fun j hj => ?_
  by_cases e : j = b
  · subst e
    rw [if_pos rfl, if_pos (Nat.lt_succ_self _)]
  · rw [if_neg e]
    by_cases e2 : j < b
    · rw [if_pos e2, if_pos (by omega)]
    · rw [if_neg e2, if_neg (by omega)]
theorem row_end {n l : Nat} (P : Mx) (hl : l < n) :
    ((List.range (n + 1)).map fun j => fracT (if j < n then P j l else 0)).set l (fracT (P l l - 1)) = (List.range (n + 1)).map fun j => fracT (rowL n P l j) := by
  rw [range_set (by omega)]
  refine List.map_congr_left fun j hj => ?_
  have := List.mem_range.mp hj
  unfold rowL
  by_cases e : j = l
  · subst e
    rw [if_pos rfl, if_neg (by omega), if_pos rfl]
  · rw [if_neg e, if_neg e]
    by_cases e2 : j < n
    · rw [if_pos e2, if_neg (by omega)]
      exact fracT_eq (by grind)
    · rw [if_neg e2, if_pos (by omega)]
theorem rows_long {n : Nat} (P : Mx) (hn : 0 < n) : [rwT n fun _ => 1] ++ cutT ((List.range n).map fun l => rwT n (rowL n P l)) (some 1) none = rowsT n (matL n P) := by
  rw [cut1 _ (by rw [List.length_map, List.length_range]; exact hn)]
  obtain ⟨m, rfl⟩ : ∃ m, n = m + 1 := ⟨n - 1, by omega⟩
  unfold rowsT
  rw [List.range_succ_eq_map, List.map_cons, List.map_cons, List.drop_one, List.tail_cons, List.map_map, List.map_map]
  show List.cons _ _ = List.cons _ _
  refine congr (congrArg List.cons ?_) (List.map_congr_left fun l hl => ?_)
  · exact congrArg (rwT (m + 1)) (funext fun b => by unfold matL; rw [if_pos rfl])
  · exact congrArg (rwT (m + 1)) (funext fun b => by show rowL (m + 1) P (l + 1) b = matL (m + 1) P (l + 1) b; unfold matL rowL; rw [if_neg (Nat.succ_ne_zero _)])
theorem map_ix {α : Type} {m b : Nat} (f : Nat → α) (hb : b < m) : ixN ((List.range m).map f).length (b : Int) = some b := by
  rw [List.length_map, List.length_range]
  unfold ixN
  rw [if_pos (by omega), if_pos (by omega)]
  rfl
theorem map_succ {α : Type} (f : Nat → α) (n : Nat) : (List.range (n + 1)).map f = (List.range n).map f ++ [f n] := by rw [List.range_succ, List.map_append]; rfl
theorem b75 (h : CxD X nm75 sc75 k) (hf : ∀ x, X.fn x = true) (hk : 4 ≤ k) (T : Tx (evX X)) (D1 : Ok_total (evX X) tb "_law_sum") (D2 : Ok_minus (evX X) tb "_law_minus" 3) (D3 : Ok_Lsolved (evX X) tb) (c : Cf) (hc : c.Ok) (r : Rt) (hr : c.vr r) :
    SS tb X [.v (mvsT c r), .no, .no, .no, .no, .no, .no, .no] (defBody (topS 75)) (Gv (lstT ((List.range c.n).map fun i => fracT (shareL c.n (c.P r) i)))) := by
  have n9 := Cf.n9 hc
  have n0 := Cf.n0 c
  have hD := DD_le hc
  have elen : ((List.range c.n).map fun i => lstT ((c.mv r (c.at_ i)).map c.mvT)).length = c.n := by rw [List.length_map, List.length_range]
  refine (ss_cons (s_par h 1 2 (es_v (e_eq (e_len h (e_var h 0) (.lst _) T.len) (by rw [elen]; rfl))) (es_own (el_lst ea_nil))
   (ss_cons (s_for h (it_range1 h (n := c.n) (e_var h 1) T.range (by omega))
     (fun i G1 => ∃ s3 s4 s5, G1 = [.v (mvsT c r), .v (nT c.n), .own ((List.range i).map fun l => rwT c.n (rowL c.n (c.P r) l)), s3, s4, s5, .no, .no]) ⟨_, _, _, rfl⟩ (fun l x G1 ei iv => ?_) (fun G1 iv => ?_)))))
  · obtain ⟨s3, s4, s5, rfl⟩ := iv
    have hin : l < c.n := by
      have := (List.getElem?_eq_some_iff.mp ei).1
      rwa [List.length_range] at this
    rw [List.getElem?_range hin] at ei
    cases ei
    refine ⟨_, _, (tg_cell h hf 3), ?_⟩
    refine (ss_cons (s_set h 4 (es_own (el_cat (e_of_elH (el_rep (n := c.n) (e_of_elH (el_lst (ea_cons (e_eq (e_tup (ea_cons e_int (ea_cons e_int ea_nil))) q01) ea_nil))) (e_var h 1) (by rw [sizeLine_eq]; simp; omega) (by omega))) (e_of_elH (el_lst (ea_cons (e_eq (e_tup (ea_cons e_int (ea_cons e_int ea_nil))) q01) ea_nil))) (by rw [sizeLine_eq]; simp; omega))) ?_))
    rw [same_all]
    refine (ss_cons (s_for h (it_range1 h (n := c.n) (e_var h 1) T.range (by omega))
     (fun b G2 => ∃ s5, G2 = [.v (mvsT c r), .v (nT c.n), .own ((List.range l).map fun l => rwT c.n (rowL c.n (c.P r) l)), .v (nT l), .own ((List.range (c.n + 1)).map fun j => fracT (if j < b then c.P r j l else 0)), s5, .no, .no]) ⟨_, by simp only [Nat.not_lt_zero, if_false]; rfl⟩ (fun b x G2 eb iv2 => ?_) (fun G2 iv2 => ?_)))
    · obtain ⟨s5, rfl⟩ := iv2
      have hbn : b < c.n := by
        have := (List.getElem?_eq_some_iff.mp eb).1
        rwa [List.length_range] at this
      rw [List.getElem?_range hbn] at eb
      cases eb
      refine ⟨_, _, (tg_name h 5), ?_⟩
      have hfit := mv_fit hc hr (Cf.at_has hbn) fun a => decide ((c.ix a.1 : Int) = (l : Int))
      have hml := mv_len hc r (c.at_ b)
      have hsum : qsum (((c.mv r (c.at_ b)).filter fun a => decide ((c.ix a.1 : Int) = (l : Int))).map fun a => a.2.1) = c.P r b l := by
        rw [qsum_filter, P_eq' hc hr hbn hin]
        refine ls_congr fun a _ => ?_
        by_cases e : c.ix a.1 = l
        · rw [if_pos e, if_pos (decide_eq_true (by omega))]
        · rw [if_neg e, if_neg (by rw [decide_eq_true_eq]; omega)]
      refine (ss_one (s_setItem h 4 (n := b) (Ts := (List.range (c.n + 1)).map fun j => fracT (if j < b then c.P r j l else 0)) (e_total h D1 (l := ((c.mv r (c.at_ b)).filter fun a => decide ((c.ix a.1 : Int) = (l : Int))).map fun a => a.2.1) (e_eq (e_of_el (LCR.el h (lc_ofI h (xs := c.mv r (c.at_ b)) (T := c.mvT) (R := fun a => fracT a.2.1) (b := fun a => decide ((c.ix a.1 : Int) = (l : Int))) [("_law_chance", 6), ("_law_one", 7)] (it_list (e_ixL (e_var h 0) (e_var h 5) (atI_ofNat (by rw [List.getElem?_map, List.getElem?_range hbn]; rfl)))) (fun s H C cl fp h' x hx => (tg_tup h' (tgs_cons (tg_name h' 6) (tgs_cons (tg_name h' 7) tgs_nil))))
        (fun s H C cl fp h' x hx => (eb_eqI (e_var h' 7) (e_var h' 3))) (fun s H C cl fp h' x hx hb => (e_var h' 6)) (by omega)))) (by rw [List.map_map]; rfl)) hfit) (e_var h 5) (map_ix _ (by omega)) ⟨_, by rw [hsum, row_step (c.P r) hbn rfl]; rfl⟩))
    · obtain ⟨s5, rfl⟩ := iv2
      rw [List.length_range]
      refine (ss_cons (s_setItem h 4 (n := l) (Ts := (List.range (c.n + 1)).map fun j => fracT (if j < c.n then c.P r j l else 0)) (e_two h D2 (a := c.P r l l) (b := 1) (e_ixOwn h 4 (Ts := (List.range (c.n + 1)).map fun j => fracT (if j < c.n then c.P r j l else 0)) (e_var h 3) (atI_ofNat (by rw [List.getElem?_map, List.getElem?_range (by omega)]; show some (fracT (if l < c.n then _ else 0)) = _; rw [if_pos hin]))) (e_eq (e_tup (ea_cons e_int (ea_cons e_int ea_nil))) q11) ((P_dn hc hr hin hin).fit (dn_one Nat.one_pos) (a := 28) (b := 28) (by omega) (by omega) (by omega) (by omega) (by decide))) (e_var h 3) (map_ix _ (by omega)) ?_))
      rw [row_end (c.P r) hin]
      refine (ss_freeze 4 (Ts := (List.range (c.n + 1)).map fun j => fracT (rowL c.n (c.P r) l j)) (ss_one (s_append h 2 (e_var h 4) ⟨_, _, _, by rw [map_succ _ l]; rfl⟩ (by rw [sizeLine_eq]; simp; omega))))
  · obtain ⟨s3, s4, s5, rfl⟩ := iv
    rw [List.length_range]
    refine (ss_freeze 2 (Ts := (List.range c.n).map fun l => rwT c.n (rowL c.n (c.P r) l)) (ss_one (s_ret (e_c1 h D3 (c.n, matL c.n (c.P r)) (T1 := matT c.n (matL c.n (c.P r))) (e_eq (e_of_el (el_cat (Ts := [rwT c.n fun _ => 1]) (e_of_elH (el_lst (ea_cons (e_eq (e_of_el (el_cat (e_of_elH (el_rep (n := c.n) (e_of_elH (el_lst (ea_cons (e_eq (e_tup (ea_cons e_int (ea_cons e_int ea_nil))) q11) ea_nil))) (e_var h 1) (by rw [sizeLine_eq]; simp; omega) (by omega))) (e_of_elH (el_lst (ea_cons (e_eq (e_tup (ea_cons e_int (ea_cons e_int ea_nil))) q11) ea_nil))) (by rw [sizeLine_eq]; simp; omega))) (by rw [same_all])) ea_nil)))
      (e_slH (e_var h 2) (eo_some e_int) eo_none) (by rw [cut1 _ (by simp; omega), sizeLine_eq]; simp; omega))) (by rw [rows_long _ n0])) (solP_L hc hr)) Sub.rfl)))
end
end JL

set_option Elab.async false
set_option linter.all false
set_option maxRecDepth 100000
set_option maxHeartbeats 4000000
set_option autoImplicit false
/-! The law's own functions: the worth of a route. -/
namespace JL
open PySem PySem.Spec PyProof.Rows L2
theorem atI_last {α : Type} (l : List α) (x : α) : atI (l ++ [x]) (-(1 : Int)) = some x := by
  unfold atI ixN
  rw [if_neg (by decide), List.length_append, List.length_singleton, if_pos (by omega), show (-(1 : Int) + ((l.length + 1 : Nat) : Int)).toNat = l.length by omega]
  show (l ++ [x])[l.length]? = some x
  rw [List.getElem?_append_right (Nat.le_refl _), Nat.sub_self]
  rfl
theorem spots_get {c : Cf} {p : Spot} (hp : c.has p) : c.spots[c.ix p]? = some p := by
  rw [spots_eq, List.getElem?_map, List.getElem?_range (Cf.ix_lt hp)]
  exact congrArg some (Cf.at_ix hp)
theorem spots_one {c : Cf} {p : Spot} (hp : c.has p) : ∀ m, m < c.ix p → c.spots[m]? ≠ some p := fun m hm e => by
  rw [spots_eq, List.getElem?_map, List.getElem?_range (by have := Cf.ix_lt hp; omega)] at e
  have := congrArg c.ix (Option.some.inj e)
  rw [Cf.ix_at] at this
  omega
theorem tab_at {c : Cf} (r : Rt) {p : Spot} (hp : c.has p) : atI (c.spots.map (c.rowT r)) ((c.ix p : Nat) : Int) = some (c.rowT r p) := atI_ofNat (by rw [List.getElem?_map, spots_get hp]; rfl)
theorem fitL_dn {D M a m : Nat} {l : List Rat} (h : ∀ x ∈ l, Dn D M x) (h0 : 0 < D) (hl : l.length ≤ m) (hD : D < 2 ^ a) (hM : M * m < 2 ^ a) (hab : a + a ≤ 8990) : FitL l := by
  have key : ∀ l : List Rat, (∀ x ∈ l, Dn D M x) → Dn D (M * l.length) (ls l fun x => x) := by
    intro l
    induction l with
    | nil => intro _; exact (dn_zero h0).mono (Nat.zero_le _)
    | cons x l ih =>
      intro hx
      have := (hx x (by simp)).add (ih fun y hy => hx y (by simp [hy]))
      exact this.mono (by rw [List.length_cons, Nat.mul_succ]; omega)
  intro pre x post e
  have h1 := key pre fun y hy => h y (by rw [e]; simp [hy])
  have h2 := h x (by rw [e]; simp)
  have hlen : pre.length + 1 ≤ m := by
    have := congrArg List.length e
    rw [List.length_append, List.length_cons] at this
    omega
  rw [← List.map_id' pre, qsum_ls]
  have hm1 : M * pre.length ≤ M * m := Nat.mul_le_mul_left _ (by omega)
  have hm2 : M ≤ M * m := by
    have := Nat.mul_le_mul_left M (show 1 ≤ m by omega)
    rwa [Nat.mul_one] at this
  exact h1.fit h2 hD (Nat.lt_of_le_of_lt hm1 hM) hD (Nat.lt_of_le_of_lt hm2 hM) hab
theorem mul_pow_lt {x y a b : Nat} (hx : x ≤ 2 ^ a) (hy : y < 2 ^ b) : x * y < 2 ^ (a + b) := by
  rw [Nat.pow_add]
  exact Nat.lt_of_le_of_lt (Nat.mul_le_mul_right y hx) ((Nat.mul_lt_mul_left (Nat.two_pow_pos a)).mpr hy)
theorem ls_range (n : Nat) (f : Nat → Rat) : ls (List.range n) f = sumN n f := by
  induction n with
  | zero => rfl
  | succ n ih =>
    rw [← qsum_ls, List.range_succ, List.map_append, List.map_singleton, qsum_snoc, qsum_ls, ih]
    rfl
/-- the shares' bounds -/
theorem share_dn {c : Cf} (hc : c.Ok) {r : Rt} (hr : c.vr r) : ∃ d, d ≤ 2 ^ 4351 ∧ 0 < d ∧ ∀ i, i < c.n → Dn d (2 ^ 4357) (shareL c.n (c.P r) i) := by
  obtain ⟨d, h1, h2, h3⟩ := (solP_L hc hr).fin
  exact ⟨d, h1, h2, fun i hi => (h3 i hi).2⟩
theorem shg_fit {c : Cf} (hc : c.Ok) {r : Rt} (hr : c.vr r) : FitL ((List.range c.n).map fun i => shareL c.n (c.P r) i * c.G r i) := by
  obtain ⟨d, h1, h2, h3⟩ := share_dn hc hr
  have hD := DD_le hc
  have n9 := Cf.n9 hc
  refine fitL_dn (D := d * c.DD) (M := 2 ^ 4357 * (67 * c.DD)) (a := 4390) (m := 9) (fun x hx => ?_) (Nat.mul_pos h2 hD.1) (by rw [List.length_map, List.length_range]; exact n9) (Nat.lt_of_lt_of_le (mul_pow_lt h1 (b := 15) (by omega)) (pow_le (by decide))) ?_ (by decide)
  · obtain ⟨i, hi, rfl⟩ := List.mem_map.mp hx
    exact (h3 i (List.mem_range.mp hi)).mul (G_dn hc hr (List.mem_range.mp hi))
  · rw [Nat.mul_assoc]
    exact Nat.lt_of_lt_of_le (mul_pow_lt (Nat.le_refl _) (b := 30) (by omega)) (pow_le (by decide))
theorem shg_one {c : Cf} (hc : c.Ok) {r : Rt} (hr : c.vr r) {i : Nat} (hi : i < c.n) : Fit (shareL c.n (c.P r) i) (c.G r i) := by
  obtain ⟨d, h1, h2, h3⟩ := share_dn hc hr
  have hD := DD_le hc
  exact (h3 i hi).fit (G_dn hc hr hi) (a := 4358) (b := 30) (Nat.lt_of_le_of_lt h1 (pow_lt (by decide))) (pow_lt (by decide)) (by omega) (by omega) (by decide)
theorem shg_sum {c : Cf} (hc : c.Ok) {r : Rt} (hr : c.vr r) : qsum ((List.range c.n).map fun i => shareL c.n (c.P r) i * c.G r i) = c.wor r := by
  rw [qsum_ls, ls_range, (chn_of hc hr).worth (c.G r)]
  rfl
def row3L (a : Nat × Rat × Nat) : Ty := tupT [fracT a.2.1, nT a.1, nT a.2.2]
theorem rowsL_snoc (c : Cf) (r : Rt) (s : Spot) (l : List (Rat × Nat)) (y : Rat × Nat) : (c.rowsP r s (l ++ [y])).map row3L = (c.rowsP r s l).map row3L ++ [row3L (r s y.2, y.1, if r s y.2 ≠ 0 then c.gain y.2 else 0)] := by
  unfold Cf.rowsP
  rw [List.map_append, ← List.cons_append, List.map_append]
  rfl
section
variable {tb : List Addr} {X : Cx} {G : List Slt} {N : List Str} {sc : Scope} {k : Nat} {pos : Pos}
abbrev sc83 : Scope := defScope (topS 83)
abbrev nm83 : List Str := ["_law_plain", "_law_neighbour", "_law_route", "_law_spots_here", "_law_rows", "_law_gains", "_law_spot", "_law_row", "_law_gain", "_law_chance", "_law_seen_here", "_law_odds", "_law_kind", "_law_part", "_law_choice", "_law_more", "_law_later", "_law_share"]
theorem fs83 : FnScope nm83 ["_law_plain", "_law_neighbour", "_law_route"] sc83 := ⟨rfl, rfl, rfl, by decide +kernel, rfl, by decide +kernel, by decide +kernel⟩
abbrev Ok_Lroute_worth (ev : Ev) (tb : List Addr) : Prop := DefOk ev tb "_law_route_worth" 6 (fun a : SoA => [plainT a.c, nbT a.c, tblT (a.c.tab a.r)]) (fun a => a.c.Ok ∧ a.c.vr a.r) (fun a => fracT (a.c.wor a.r))
theorem b83 (h : CxD X nm83 sc83 k) (hk : 5 ≤ k) (T : Tx (evX X)) (D1 : Ok_Lspots (evX X) tb) (D2 : Ok_Lboth (evX X) tb) (D3 : Ok_Lnobody (evX X) tb) (D4 : Ok_Lchances (evX X) tb) (D5 : Ok_Lafter (evX X) tb) (D6 : Ok_Lpaid (evX X) tb) (D7 : Ok_Llong (evX X) tb) (D8 : Ok_total (evX X) tb "_law_sum") (D_plus : Ok_plus (evX X) tb "_law_plus") (D_times : Ok_times (evX X) tb "_law_times") (D_minus : Ok_minus (evX X) tb "_law_minus" 3)
    (c : Cf) (hc : c.Ok) (r : Rt) (hr : c.vr r) :
    SS tb X [.v (plainT c), .v (nbT c), .v (tblT (c.tab r)), .no, .no, .no, .no, .no, .no, .no, .no, .no, .no, .no, .no, .no, .no, .no] (defBody (topS 83)) (Gv (fracT (c.wor r))) := by
  have h3 : c.nk ≤ 3 := hc.k3
  have n9 := Cf.n9 hc
  let g : Spot × Rat → List (Spot × Rat × Nat) := fun s => (c.rowsAt r s.1).map fun a => (joined s.1 a.1, s.2 * a.2.1, a.2.2)
  refine (ss_cons (s_set h 3 (es_v (e_c2 h D1 c (e_var h 0) (e_var h 1) hc))
   (ss_cons (s_par h 4 5 (es_own (el_lst ea_nil)) (es_own (el_lst ea_nil))
    (ss_cons (s_forL h (it_list (xs := c.spots) (T := spT) (e_var h 3))
     (fun pre0 G1 => ∃ s6 s7 s8 s9 s10 s11 s12 s13 s14 s15 s16, G1 = [.v (plainT c), .v (nbT c), .v (tblT (c.tab r)), .v (lstT (c.spots.map spT)), .own (pre0.map fun p => lstT ((c.mv r p).map c.mvT)), .own (pre0.map fun p => fracT (c.fol r p).2), s6, s7, s8, s9, s10, s11, s12, s13, s14, s15, s16, .no]) ⟨_, _, _, _, _, _, _, _, _, _, _, rfl⟩ (fun pre0 p post0 G1 e0 iv => ?_) (fun G1 iv => ?_)))))))
  · obtain ⟨s6, s7, s8, s9, s10, s11, s12, s13, s14, s15, s16, rfl⟩ := iv
    have hp : c.has p := spots_has.mp (by rw [e0]; simp)
    have hlp : pre0.length ≤ 9 := by
      have := congrArg List.length e0
      rw [spots_len, List.length_append] at this
      omega
    have hmv : c.mv r p = (c.seen p).flatMap g := rfl
    refine ⟨_, _, (tg_name h 6), ?_⟩
    refine (ss_cons (s_par h 7 8 (es_own (el_lst ea_nil)) (es_v (e_eq (e_tup (ea_cons e_int (ea_cons e_int ea_nil))) q01))
     (ss_cons (s_forL h (it_list (xs := c.seen p) (T := bothT) (e_c3 h D2 (c, p) (e_var h 0) (e_var h 1) (e_var h 6) hc))
       (fun pre G1 => ∃ s9 s10 s11 s12 s13 s14 s15 s16, G1 = [.v (plainT c), .v (nbT c), .v (tblT (c.tab r)), .v (lstT (c.spots.map spT)), .own (pre0.map fun p => lstT ((c.mv r p).map c.mvT)), .own (pre0.map fun p => fracT (c.fol r p).2), .v (spT p), .own ((pre.flatMap g).map c.mvT), .v (fracT ((pre.flatMap g).foldl c.fstep ([], 0)).2), s9, s10, s11, s12, s13, s14, s15, s16, .no]) ⟨_, _, _, _, _, _, _, _, rfl⟩ (fun pre x post G1 e iv => ?_) (fun G1 iv => ?_)))))
    · obtain ⟨s9, s10, s11, s12, s13, s14, s15, s16, rfl⟩ := iv
      obtain ⟨hx, hxd⟩ := seen_mem hc hp (s := x) (by show x ∈ c.seen p; rw [show c.seen p = pre ++ x :: post from e]; simp)
      have hsplit : c.mv r p = pre.flatMap g ++ (g x ++ post.flatMap g) := by
        rw [hmv, show c.seen p = pre ++ x :: post from e, List.flatMap_append, List.flatMap_cons]
      refine ⟨_, _, (tg_tup h (tgs_cons (tg_name h 9) (tgs_cons (tg_name h 10) tgs_nil))), ?_⟩
      refine (ss_cons (s_set h 11 (es_own (el_lst (ea_cons (e_tup (ea_cons (e_c1 h D3 c (e_var h 0) hc) (ea_cons e_int (ea_cons e_int ea_nil)))) ea_nil)))
        (ss_cons (s_forL h (it_enum h (e_c1 h D4 c (e_var h 0) hc) T.enumerate)
          (fun pre2 G1 => ∃ s12 s13 s14, G1 = [.v (plainT c), .v (nbT c), .v (tblT (c.tab r)), .v (lstT (c.spots.map spT)), .own (pre0.map fun p => lstT ((c.mv r p).map c.mvT)), .own (pre0.map fun p => fracT (c.fol r p).2), .v (spT p), .own ((pre.flatMap g).map c.mvT), .v (fracT ((pre.flatMap g).foldl c.fstep ([], 0)).2), .v (fracT x.2), .v (spT x.1), .own ((c.rowsP r x.1 pre2).map row3L), s12, s13, s14, s15, s16, .no]) ⟨_, _, _, rfl⟩ (fun pre2 y post2 G2 e2 iv2 => ?_) (fun G2 iv2 => ?_)))))
      · obtain ⟨s12, s13, s14, rfl⟩ := iv2
        have hy : y ∈ c.chances.zipIdx := by rw [e2]; simp
        obtain ⟨i1, i2, i3⟩ := List.mem_zipIdx hy
        have hk2 : y.2 < c.nk := by rw [← Cf.chances_len]; omega
        have hl2 : pre2.length ≤ 3 := by
          have := congrArg List.length e2
          rw [List.length_zipIdx, List.length_append, Cf.chances_len] at this
          omega
        have ed : decide ((0 : Int) < (r x.1 y.2 : Int)) = decide (r x.1 y.2 ≠ 0) := by rw [decide_eq_decide]; omega
        exact ⟨_, _, (tg_tup h (tgs_cons (tg_name h 12) (tgs_cons (tg_name h 13) tgs_nil))),
          (ss_cons (s_set h 14 (es_v (e_ixT (e_ixT (e_eq (e_var h 2) (tab_T r).symm) (e_index h (e_var h 3) (e_var h 10) (spots_get hx) (spots_one hx)) (tab_at r hx)) (e_var h 12) (rowT_at hk2)))
           (ss_one (s_append h 11 (e_tup (ea_cons (e_var h 13) (ea_cons (e_var h 14) (ea_cons (e_ifExp (T := nT (if r x.1 y.2 ≠ 0 then c.gain y.2 else 0)) (eb_gt (e_var h 14) e_int) (fun hq => (e_eq (e_ixT (e_ixT (e_ixT (e_var h 0) e_int rfl) (e_var h 12) (kind_at hk2)) e_int rfl) (by rw [ed] at hq; rw [if_pos (of_decide_eq_true hq)]; rfl))) (fun hq => (e_eq e_int (by rw [ed] at hq; rw [if_neg (of_decide_eq_false hq)]; rfl)))) ea_nil))))
             ⟨_, _, _, by rw [rowsL_snoc]; rfl⟩ (small1000 (by rw [List.length_map, rowsP_len]; omega))))))⟩
      · obtain ⟨s12, s13, s14, rfl⟩ := iv2
        refine (ss_freeze 11 (Ts := (c.rowsAt r x.1).map row3L) (ss_one (s_forL h (it_list (xs := c.rowsAt r x.1) (T := row3L) (e_var h 11))
          (fun pre3 G1 => ∃ s12 s13 s14 s15 s16, G1 = [.v (plainT c), .v (nbT c), .v (tblT (c.tab r)), .v (lstT (c.spots.map spT)), .own (pre0.map fun p => lstT ((c.mv r p).map c.mvT)), .own (pre0.map fun p => fracT (c.fol r p).2), .v (spT p), .own ((pre.flatMap g ++ pre3.map fun a => (joined x.1 a.1, x.2 * a.2.1, a.2.2)).map c.mvT), .v (fracT ((pre.flatMap g ++ pre3.map fun a => (joined x.1 a.1, x.2 * a.2.1, a.2.2)).foldl c.fstep ([], 0)).2), .v (fracT x.2), .v (spT x.1), .v (lstT ((c.rowsAt r x.1).map row3L)), s12, s13, s14, s15, s16, .no]) ⟨_, _, _, _, _, by rw [List.map_nil, List.append_nil]; rfl⟩ (fun pre3 z post3 G3 e3 iv3 => ?_) (fun G3 iv3 => ?_))))
        · obtain ⟨s12, s13, s14, s15, s16, rfl⟩ := iv3
          have hz : z ∈ c.rowsAt r x.1 := by rw [e3]; simp
          obtain ⟨z1, z2, z3⟩ := rowsAt_mem hc hr hx hz
          have hgx : g x = (pre3.map fun a => (joined x.1 a.1, x.2 * a.2.1, a.2.2)) ++ (joined x.1 z.1, x.2 * z.2.1, z.2.2) :: (post3.map fun a => (joined x.1 a.1, x.2 * a.2.1, a.2.2)) := by
            show (c.rowsAt r x.1).map _ = _
            rw [e3, List.map_append, List.map_cons]
          have hs2 : c.mv r p = (pre.flatMap g ++ pre3.map fun a => (joined x.1 a.1, x.2 * a.2.1, a.2.2)) ++ ((joined x.1 z.1, x.2 * z.2.1, z.2.2) :: ((post3.map fun a => (joined x.1 a.1, x.2 * a.2.1, a.2.2)) ++ post.flatMap g)) := by
            rw [hsplit, hgx]
            simp
          obtain ⟨f1, f2, f3⟩ := fold_bd hc hr hp hs2
          obtain ⟨w1, w2, w3, w4, w5⟩ := share_bd hc hr hp (a := (joined x.1 z.1, x.2 * z.2.1, z.2.2)) (by rw [hs2]; simp)
          have hD := Cf.partsN_eq hc
          obtain ⟨u1, u2⟩ := has_small hc w1
          have hstep : ∀ l : List (Spot × Rat × Nat), (l ++ pre3.map fun a => (joined x.1 a.1, x.2 * a.2.1, a.2.2)) ++ [(joined x.1 z.1, x.2 * z.2.1, z.2.2)] = l ++ (pre3 ++ [z]).map fun a => (joined x.1 a.1, x.2 * a.2.1, a.2.2) := fun l => by simp
          have hlen : (pre.flatMap g ++ pre3.map fun a => (joined x.1 a.1, x.2 * a.2.1, a.2.2)).length ≤ 16 := by
            have h16 := mv_len hc r p
            rw [hs2, List.length_append] at h16
            omega
          rw [← hstep]
          generalize (pre.flatMap g ++ pre3.map fun a => (joined x.1 a.1, x.2 * a.2.1, a.2.2)) = L at *
          rw [List.foldl_append (l := L), List.map_append (l₁ := L)]
          refine ⟨_, _, (tg_tup h (tgs_cons (tg_name h 13) (tgs_cons (tg_name h 14) (tgs_cons (tg_name h 15) tgs_nil)))), ?_⟩
          refine (ss_cons (s_set h 16 (es_v (e_c2 h D5 (x.1, z.1) (e_var h 10) (e_var h 14) trivial))
            (ss_cons (s_append h 7 (T := c.mvT (joined x.1 z.1, x.2 * z.2.1, z.2.2)) (e_tup (ea_cons (e_two h D_times (e_var h 9) (e_var h 13) ?_) (ea_cons (e_index h (e_var h 3) (e_var h 16) (spots_get w1) (spots_one w1)) ea_nil)))
             (ss_one (s_set h 8 (es_v (e_two h D_plus (e_var h 8) (e_two h D_times (e_ixT (e_ixOwn h 7 (e_neg e_int) (atI_last _ _)) e_int rfl) (e_two h D_minus (e_eq (e_tup (ea_cons (e_var h 15) (ea_cons e_int ea_nil))) (fint_eq _)) (e_c2 h D6 (c, joined x.1 z.1) (e_var h 0) (e_var h 16) ⟨hc, w1⟩) ?_) ?_) ?_)) ⟨_, _, _, _, _, rfl⟩)) ?_))))
          · exact hxd.fit z2 (a := 9) (b := 9) (by decide) (by decide) (by omega) (by decide) (by decide)
          · exact Fit.mk ((dn_int _).bd (b := 6) (by decide) (by rw [Int.natAbs_natCast]; omega)) ((Cf.dn_paid hc u1 u2).bd (b := 5) (by decide) (by decide)) (by decide)
          · exact Fit.mk w2 w5 (by decide)
          · exact Fit.mk f2 w4 (by decide)
          · exact small1000 (by rw [List.length_map]; omega)
        · obtain ⟨s12, s13, s14, s15, s16, rfl⟩ := iv3
          exact ⟨_, _, _, _, _, _, _, _, by rw [List.flatMap_append, List.flatMap_cons, List.flatMap_nil, List.append_nil]⟩
    · obtain ⟨s9, s10, s11, s12, s13, s14, s15, s16, rfl⟩ := iv
      refine (ss_freeze 7 (Ts := (c.mv r p).map c.mvT) (ss_cons (s_append h 4 (e_var h 7) (ss_one (s_append h 5 (T := fracT (c.fol r p).2) (e_var h 8) ⟨_, _, _, _, _, _, _, _, _, _, _, by rw [List.map_append, List.map_append]; rfl⟩ (small1000 (by rw [List.length_map]; omega)))) (small1000 (by rw [List.length_map]; omega)))))
  · obtain ⟨s6, s7, s8, s9, s10, s11, s12, s13, s14, s15, s16, rfl⟩ := iv
    have e1 : (c.spots.map fun p => lstT ((c.mv r p).map c.mvT)) = (List.range c.n).map fun i => lstT ((c.mv r (c.at_ i)).map c.mvT) := by rw [spots_eq, List.map_map]; rfl
    have e2 : (c.spots.map fun p => fracT (c.fol r p).2) = (List.range c.n).map fun i => fracT (c.G r i) := by
      rw [spots_eq, List.map_map]
      refine List.map_congr_left fun i hi => ?_
      show fracT _ = fracT (if i < c.n then _ else 0)
      rw [if_pos (List.mem_range.mp hi)]
    rw [e1, e2]
    refine (ss_freeze 4 (Ts := (List.range c.n).map fun i => lstT ((c.mv r (c.at_ i)).map c.mvT)) (ss_freeze 5 (Ts := (List.range c.n).map fun i => fracT (c.G r i)) (ss_one (s_ret (e_eq (e_total h D8 (l := (List.range c.n).map fun i => shareL c.n (c.P r) i * c.G r i) (e_eq (e_of_el (LCR.el h (lc_of h (xs := (List.range c.n).zip (List.range c.n)) (R := fun z => fracT (shareL c.n (c.P r) z.1 * c.G r z.2)) [("_law_share", 17), ("_law_gain", 8)] (it_zip h (xs := List.range c.n) (ys := List.range c.n) (T := fun i => fracT (shareL c.n (c.P r) i)) (U := fun i => fracT (c.G r i)) (e_c1 h D7 (SoA.mk c r) (e_var h 4) ⟨hc, hr⟩) (e_var h 5) T.zip)
      (fun s H C cl fp h' x hx => (tg_tup h' (tgs_cons (tg_name h' 17) (tgs_cons (tg_name h' 8) tgs_nil)))) (fun s H C cl fp h' x hx => (e_two h' D_times (e_var h' 17) (e_var h' 8) (by rw [← zip_mem hx]; exact shg_one hc hr (List.mem_range.mp (List.of_mem_zip hx).1)))) (by simp; omega)))) (by rw [zip_range, List.map_map]; rfl)) (shg_fit hc hr)) (by rw [shg_sum hc hr])) Sub.rfl))))
end
end JL

set_option Elab.async false
set_option linter.all false
set_option maxRecDepth 100000
set_option maxHeartbeats 4000000
set_option autoImplicit false
/-! The law's own functions: bounding. -/
namespace JL
open PySem PySem.Spec PyProof.Rows L2
theorem dvPut_new {α : Type} {kvs : List (List Int × α)} {ks : List Int} {x : α} (h : ∀ q ∈ kvs, q.1 ≠ ks) : dvPut kvs ks x = kvs ++ [(ks, x)] := by
  unfold dvPut
  rw [if_neg]
  intro e
  obtain ⟨q, hq, e2⟩ := List.any_eq_true.mp e
  exact h q hq (of_decide_eq_true e2)
theorem dvPut_last {α : Type} {kvs : List (List Int × α)} {ks : List Int} {x y : α} (h : ∀ q ∈ kvs, q.1 ≠ ks) : dvPut (kvs ++ [(ks, x)]) ks y = kvs ++ [(ks, y)] := by
  unfold dvPut
  rw [if_pos (by simp), List.map_append, List.map_singleton, if_pos rfl]
  congr 1
  conv => rhs; rw [← List.map_id kvs]
  refine List.map_congr_left fun q hq => ?_
  rw [if_neg (h q hq)]
  rfl
theorem dvAt_last {α : Type} {kvs : List (List Int × α)} {ks : List Int} {x : α} (h : ∀ q ∈ kvs, q.1 ≠ ks) : dvAt (kvs ++ [(ks, x)]) ks = some x := by
  unfold dvAt
  rw [List.find?_append, List.find?_eq_none.mpr fun q hq e => h q hq (of_decide_eq_true e)]
  simp
theorem all_zip {α : Type} (q : α → Bool) : ∀ (l : List α) (k : Nat), ((l.zipIdx k).all fun z => q z.1) = l.all q
  | [], _ => rfl
  | a :: l, k => by rw [List.zipIdx_cons, List.all_cons, List.all_cons, all_zip q l (k + 1)]
theorem gst_move {c : Cf} (h : Spot → Rat) (p : Spot) (k : Nat) : gst ((c.able p).map fun ch => c.moveG h p k ch) = c.moveG h p k (c.bestC h p k) := by
  refine gst_eq (List.mem_map_of_mem (bestC_able h p k)) fun x hx => ?_
  obtain ⟨ch, hch, rfl⟩ := List.mem_map.mp hx
  exact bestC_max h p k ch hch
theorem fit_pot {c : Cf} (hc : c.Ok) {h : Spot → Rat} {d : Nat} (b : PB c h d) {p : Spot} (hp : c.has p) : Fit (h p) (c.paid p) := by
  obtain ⟨u1, u2⟩ := has_small hc hp
  have hd := b.dB
  exact Fit.mk ((b.h p hp).bdB (n := 1) (m := 4) 4 (by omega) (Nat.le_refl _) (by decide) (by decide)) ((Cf.dn_paid hc u1 u2).bd (b := 5) (by decide) (by decide)) (by decide)
theorem able_len (c : Cf) (p : Spot) : (c.able p).length ≤ 3 := by
  unfold Cf.able
  rw [List.length_append, List.length_append]
  have h1 : (if p.1 < c.room then [1] else []).length ≤ 1 := by split <;> simp
  have h2 : (if p.2 < c.nr then [2] else []).length ≤ 1 := by split <;> simp
  have h3 : [0].length = 1 := rfl
  omega
theorem gain_if (g : Nat) (ch : Nat) : tupT [intT (if ch ≠ 0 then (g : Int) else 0), intT 1] = fracT (if ch ≠ 0 then ((g : Int) : Rat) else 0) := by
  rw [fint_eq]
  refine fracT_eq ?_
  split <;> rfl
structure BoA where
  c : Cf
  r : Rt
  h : Spot → Rat
section
variable {tb : List Addr} {X : Cx} {G : List Slt} {N : List Str} {sc : Scope} {k : Nat} {pos : Pos}
abbrev sc85 : Scope := defScope (topS 85)
abbrev nm85 : List Str := ["_law_plain", "_law_neighbour", "_law_merit", "_law_potentials", "_law_spots_here", "_law_found", "_law_spot", "_law_stay", "_law_kind", "_law_part", "_law_rows", "_law_choice", "_law_later", "_law_more", "_law_place", "_law_most", "_law_chance", "_law_seen_here"]
theorem fs85 : FnScope nm85 ["_law_plain", "_law_neighbour", "_law_merit", "_law_potentials"] sc85 := ⟨rfl, rfl, rfl, by decide +kernel, rfl, by decide +kernel, by decide +kernel⟩
abbrev Ok_Lbounding (ev : Ev) (tb : List Addr) : Prop := DefOk ev tb "_law_bounding" 4 (fun a : BoA => [plainT a.c, nbT a.c, fracT (a.c.wor a.r), potsT a.c a.h]) (fun a => a.c.Ok ∧ a.c.vr a.r ∧ ∃ d, PB a.c a.h d) (fun a => boolT (a.c.bnd (a.c.wor a.r) a.h))
theorem b85 (h : CxD X nm85 sc85 k) (hf : ∀ x, X.fn x = true) (hk : 3 ≤ k) (T : Tx (evX X)) (D1 : Ok_Lspots (evX X) tb) (D2 : Ok_Lboth (evX X) tb) (D3 : Ok_Lnobody (evX X) tb) (D4 : Ok_Lchances (evX X) tb) (D5 : Ok_Lafter (evX X) tb) (D6 : Ok_Lpaid (evX X) tb) (D7 : Ok_Lable (evX X) tb) (D8 : Ok_total (evX X) tb "_law_sum") (D9 : Ok_Lgreatest (evX X) tb) (D_less : Ok_is_less (evX X) tb "_law_less") (D_plus : Ok_plus (evX X) tb "_law_plus") (D_times : Ok_times (evX X) tb "_law_times") (D_minus : Ok_minus (evX X) tb "_law_minus" 3)
    (c : Cf) (hc : c.Ok) (r : Rt) (hr : c.vr r) (f : Spot → Rat) {d : Nat} (b : PB c f d) :
    SS tb X [.v (plainT c), .v (nbT c), .v (fracT (c.wor r)), .v (potsT c f), .no, .no, .no, .no, .no, .no, .no, .no, .no, .no, .no, .no, .no, .no] (defBody (topS 85)) (Gv (boolT (c.bnd (c.wor r) f))) := by
  have h3 : c.nk ≤ 3 := hc.k3
  have n9 := Cf.n9 hc
  have hd := b.dB
  have hP := Cf.partsN_eq hc
  have hpot : ∀ {p : Spot}, c.has p → atI (c.spots.map fun p => fracT (f p)) ((c.ix p : Nat) : Int) = some (fracT (f p)) := fun {p} hp => atI_ofNat (by rw [List.getElem?_map, spots_get hp]; rfl)
  refine (ss_cons (s_parG h hf 4 5 (es_v (e_c2 h D1 c (e_var h 0) (e_var h 1) hc)) es_dnew
    (ss_cons (s_forL h (it_list (xs := c.spots) (T := spT) (e_var h 4))
     (fun pre0 G1 => ∃ s6 s7 s8 s9 s10 s11 s12 s13, G1 = [.v (plainT c), .v (nbT c), .v (fracT (c.wor r)), .v (potsT c f), .v (lstT (c.spots.map spT)), .ownD (pre0.map fun p => (spK p, fracT (c.afterG f p))), s6, s7, s8, s9, s10, s11, s12, s13, .no, .no, .no, .no]) ⟨_, _, _, _, _, _, _, _, rfl⟩ (fun pre0 p post0 G1 e0 iv => ?_) (fun G1 iv => ?_)))))
  · obtain ⟨s6, s7, s8, s9, s10, s11, s12, s13, rfl⟩ := iv
    have hp : c.has p := spots_has.mp (by rw [e0]; simp)
    have hlp : pre0.length ≤ 9 := by
      have := congrArg List.length e0
      rw [spots_len, List.length_append] at this
      omega
    have hnew : ∀ q ∈ pre0.map fun p => (spK p, fracT (c.afterG f p)), q.1 ≠ spK p := fun q hq e2 => by
      obtain ⟨p2, h2, rfl⟩ := List.mem_map.mp hq
      have hn := spots_nodup hc
      rw [e0, List.map_append, List.map_cons] at hn
      exact (List.nodup_append.mp hn).2.2 _ (List.mem_map_of_mem h2) _ (List.mem_cons_self ..) e2
    refine ⟨_, _, (tg_name h 6), ?_⟩
    refine (ss_cons (s_set h 7 (es_v (e_two h D_minus (e_ixT (e_var h 3) (e_index h (e_var h 4) (e_var h 6) (spots_get hp) (spots_one hp)) (hpot hp)) (e_c2 h D6 (c, p) (e_var h 0) (e_var h 6) ⟨hc, hp⟩) (fit_pot hc b hp)))
      (ss_cons (s_dput h 5 (kvs := pre0.map fun p => (spK p, fracT (c.afterG f p))) (ks := spK p) (e_two h D_times (e_c1 h D3 c (e_var h 0) hc) (e_var h 7) (Fit.mk ((Cf.dn_nobody hc).bd (b := 5) (by decide) (by decide)) ((dn_away hc b hp).bdB (n := 1) (m := 32) 6 (by omega) (Nat.le_refl _) (by decide) (by decide)) (by decide))) (e_var h 6) (small1000 (by rw [List.length_map]; omega)) ?_))))
    rw [dvPut_new hnew]
    refine (ss_one (s_forL h (it_enum h (e_c1 h D4 c (e_var h 0) hc) T.enumerate)
          (fun pre2 G1 => ∃ s8 s9 s10 s11 s12 s13, G1 = [.v (plainT c), .v (nbT c), .v (fracT (c.wor r)), .v (potsT c f), .v (lstT (c.spots.map spT)), .ownD ((pre0.map fun p => (spK p, fracT (c.afterG f p))) ++ [(spK p, fracT (pre2.foldl (fun acc a => acc + a.1 * c.moveG f p a.2 (c.bestC f p a.2)) (c.nobody * (f p - c.paid p))))]), .v (spT p), .v (fracT (f p - c.paid p)), s8, s9, s10, s11, s12, s13, .no, .no, .no, .no]) ⟨_, _, _, _, _, _, rfl⟩ (fun pre2 y post2 G2 e2 iv2 => ?_) (fun G2 iv2 => ?_)))
    · obtain ⟨s8, s9, s10, s11, s12, s13, rfl⟩ := iv2
      have hy : y ∈ c.chances.zipIdx := by rw [e2]; simp
      obtain ⟨i1, i2⟩ := zip_mem_ch hy
      have hl2 : pre2.length ≤ 3 := by
        have := congrArg List.length e2
        rw [List.length_zipIdx, List.length_append, Cf.chances_len] at this
        omega
      have hacc := dn_after hc b hp pre2 (fun a ha => (zip_mem_ch (c := c) (a := a) (by rw [e2]; simp [ha])).1) hl2
      have hmB : ∀ ch ∈ c.able p, Bd (4360 + 7) (c.moveG f p y.2 ch) := fun ch hch => (dn_moveG hc b (able_has hp hch)).bdB (n := 1) (m := 71) 7 (by omega) (Nat.le_refl _) (by decide) (by decide)
      have hst : Dn (10 * c.partsN * d) (54 * (71 * BB)) (y.1 * c.moveG f p y.2 (c.bestC f p y.2)) := (Cf.dn_chances hc i1).mul (dn_moveG hc b (able_has hp (bestC_able f p y.2)))
      refine ⟨_, _, (tg_tup h (tgs_cons (tg_name h 8) (tgs_cons (tg_name h 9) tgs_nil))), ?_⟩
      refine (ss_cons (s_set h 10 (es_own (el_lst ea_nil))
       (ss_cons (s_forL h (it_list (xs := c.able p) (T := nT) (e_c3 h D7 (c, p) (e_var h 0) (e_var h 1) (e_var h 6) trivial))
        (fun pre3 G1 => ∃ s11 s12 s13, G1 = [.v (plainT c), .v (nbT c), .v (fracT (c.wor r)), .v (potsT c f), .v (lstT (c.spots.map spT)), .ownD ((pre0.map fun p => (spK p, fracT (c.afterG f p))) ++ [(spK p, fracT (pre2.foldl (fun acc a => acc + a.1 * c.moveG f p a.2 (c.bestC f p a.2)) (c.nobody * (f p - c.paid p))))]), .v (spT p), .v (fracT (f p - c.paid p)), .v (nT y.2), .v (fracT y.1), .own (pre3.map fun ch => fracT (c.moveG f p y.2 ch)), s11, s12, s13, .no, .no, .no, .no]) ⟨_, _, _, rfl⟩ (fun pre3 ch post3 G3 e3 iv3 => ?_) (fun G3 iv3 => ?_)))))
      · obtain ⟨s11, s12, s13, rfl⟩ := iv3
        have hch : ch ∈ c.able p := by rw [e3]; simp
        have hj := able_has hp hch
        have hl3 : pre3.length ≤ 3 := by
          have := congrArg List.length e3
          have := able_len c p
          rw [List.length_append] at *
          omega
        have ed : decide ((0 : Int) < (ch : Int)) = decide (ch ≠ 0) := by rw [decide_eq_decide]; omega
        have hg : Dn 1 39 (if ch ≠ 0 then ((c.gain y.2 : Int) : Rat) else 0) := by
          split
          · exact (dn_int (c.gain y.2 : Int)).mono (by rw [Int.natAbs_natCast]; exact Cf.gain_le hc y.2)
          · exact (dn_zero Nat.one_pos).mono (Nat.zero_le _)
        exact ⟨_, _, (tg_name h 11),
          (ss_cons (s_set h 12 (es_v (e_c2 h D5 (p, ch) (e_var h 6) (e_var h 11) trivial))
           (ss_cons (s_set h 13 (es_v (e_two h D_minus (e_ixT (e_var h 3) (e_index h (e_var h 4) (e_var h 12) (spots_get hj) (spots_one hj)) (hpot hj)) (e_c2 h D6 (c, joined p ch) (e_var h 0) (e_var h 12) ⟨hc, hj⟩) (fit_pot hc b hj)))
            (ss_one (s_append h 10 (T := fracT (c.moveG f p y.2 ch)) (e_two h D_plus (a := if ch ≠ 0 then ((c.gain y.2 : Int) : Rat) else 0) (e_eq (e_tup (ea_cons (e_ifExp (T := intT (if ch ≠ 0 then (c.gain y.2 : Int) else 0)) (eb_gt (e_var h 11) e_int) (fun hq => (e_eq (e_ixT (e_ixT (e_ixT (e_var h 0) e_int rfl) (e_var h 8) (kind_at i2)) e_int rfl) (by rw [ed] at hq; rw [if_pos (of_decide_eq_true hq)]))) (fun hq => (e_eq e_int (by rw [ed] at hq; rw [if_neg (of_decide_eq_false hq)])))) (ea_cons e_int ea_nil))) (gain_if _ _)) (e_var h 13) (Fit.mk (hg.bd (b := 6) (by decide) (by decide)) ((dn_away hc b hj).bdB (n := 1) (m := 32) 6 (by omega) (Nat.le_refl _) (by decide) (by decide)) (by decide)))
              ⟨_, _, _, by rw [List.map_append]; rfl⟩ (small1000 (by rw [List.length_map]; omega))))))))⟩
      · obtain ⟨s11, s12, s13, rfl⟩ := iv3
        refine (ss_freeze 10 (Ts := (c.able p).map fun ch => fracT (c.moveG f p y.2 ch)) (ss_one (s_dput h 5 (kvs := ((pre0.map fun p => (spK p, fracT (c.afterG f p))) ++ [(spK p, fracT (pre2.foldl (fun acc a => acc + a.1 * c.moveG f p a.2 (c.bestC f p a.2)) (c.nobody * (f p - c.paid p))))])) (ks := spK p) (e_two h D_plus (a := pre2.foldl (fun acc a => acc + a.1 * c.moveG f p a.2 (c.bestC f p a.2)) (c.nobody * (f p - c.paid p))) (b := y.1 * c.moveG f p y.2 (c.bestC f p y.2)) (e_dgetOwn h 5 (kvs := ((pre0.map fun p => (spK p, fracT (c.afterG f p))) ++ [(spK p, fracT (pre2.foldl (fun acc a => acc + a.1 * c.moveG f p a.2 (c.bestC f p a.2)) (c.nobody * (f p - c.paid p))))])) (ks := spK p) (e_var h 6) (dvAt_last hnew)) (e_two h D_times (b := c.moveG f p y.2 (c.bestC f p y.2)) (e_var h 9) (e_eq (e_total h D9 (l := (c.able p).map fun ch => c.moveG f p y.2 ch) (e_eq (e_var h 10) (by rw [List.map_map]; rfl)) ⟨?_, ?_⟩) (by rw [gst_move])) ?_) ?_) (e_var h 6) ?_ ⟨_, _, _, _, _, _, by rw [dvPut_last hnew, List.foldl_append]; rfl⟩)))
        · intro e4
          have := List.mem_map_of_mem (f := fun ch => c.moveG f p y.2 ch) (able_zero c p)
          rw [e4] at this
          cases this
        · intro x hx y' hy'
          obtain ⟨a1, a2, rfl⟩ := List.mem_map.mp hx
          obtain ⟨b1, b2, rfl⟩ := List.mem_map.mp hy'
          exact FitW.mk (hmB a1 a2) (hmB b1 b2) (by decide)
        · exact Fit.mk ((Cf.dn_chances hc i1).bd (b := 8) (by omega) (by decide)) (hmB _ (bestC_able f p y.2)) (by decide)
        · exact Fit.mk (hacc.bdB (n := 180) (m := 22446) 15 (afterD hc b) (Nat.le_refl _) (by decide) (by decide)) (hst.bdB (n := 180) (m := 3834) 15 (afterD hc b) (by omega) (by decide) (by decide)) (by decide)
        · exact small1000 (by rw [List.length_append, List.length_map, List.length_singleton]; omega)
    · obtain ⟨s8, s9, s10, s11, s12, s13, rfl⟩ := iv2
      exact ⟨_, _, _, _, _, _, _, _, by rw [List.map_append]; rfl⟩
  · obtain ⟨s6, s7, s8, s9, s10, s11, s12, s13, rfl⟩ := iv
    refine (ss_freezeD 5 (ss_cons (s_forL h (it_enum h (xs := c.spots) (T := spT) (e_var h 4) T.enumerate)
      (fun pre G1 => (pre.all fun z => !decide (c.wor r + f z.1 < c.after f z.1)) = true ∧ ∃ s6 s14 s15, G1 = [.v (plainT c), .v (nbT c), .v (fracT (c.wor r)), .v (potsT c f), .v (lstT (c.spots.map spT)), .v (dctT (c.spots.map fun p => (spK p, fracT (c.afterG f p)))), s6, s7, s8, s9, s10, s11, s12, s13, s14, s15, .no, .no]) ⟨rfl, _, _, _, rfl⟩ (fun pre z post G1 e iv => ?_) (fun G1 iv => ?_))))
    · obtain ⟨ha, s6, s14, s15, rfl⟩ := iv
      have hz : z ∈ c.spots.zipIdx := by rw [e]; simp
      have hz2 := List.mem_zipIdx_iff_getElem?.mp hz
      obtain ⟨p, i⟩ := z
      have hpp : p ∈ c.spots := List.mem_of_getElem? hz2
      have hph := spots_has.mp hpp
      obtain ⟨w1, w2⟩ := worth_fit hc hr b hph
      have e5 : lstT ((c.seen p).map fun s => fracT (s.2 * c.afterG f s.1)) = lstT (((c.seen p).map fun s => s.2 * c.afterG f s.1).map fracT) := by rw [List.map_map]; rfl
      have hlw : FitW (c.wor r + f p) (qsum ((c.seen p).map fun s => s.2 * c.afterG f s.1)) := by
        rw [qsum_ls]
        exact FitW.mk w2 (after_bd hc b hph (l := c.seen p) (fun _ hx => hx) (seen_len c p)) (by decide)
      have htm : ∀ x ∈ c.seen p, Fit x.2 (c.afterG f x.1) := fun x hx => by
        obtain ⟨a1, a2⟩ := seen_mem hc hph hx
        have t : Dn (10 * c.partsN * d) (22446 * BB) (c.afterG f x.1) := dn_after hc b a1 c.chances.zipIdx (fun a ha => (zip_mem_ch ha).1) (by rw [List.length_zipIdx, Cf.chances_len]; exact hc.k3)
        exact Fit.mk (a2.bd (b := 9) (by decide) (by decide)) (t.bdB (n := 180) (m := 22446) 15 (afterD hc b) (Nat.le_refl _) (by decide) (by decide)) (by decide)
      refine ⟨_, _, (tg_tup h (tgs_cons (tg_name h 14) (tgs_cons (tg_name h 6) tgs_nil))), ?_⟩
      refine (ss_cons (s_set h 15 (es_v (e_c1 h D8 ((c.seen p).map fun s => s.2 * c.afterG f s.1) (e_eq (e_of_el (LCR.el h (lc_of h (xs := c.seen p) (T := bothT) (R := fun s => fracT (s.2 * c.afterG f s.1)) [("_law_chance", 16), ("_law_seen_here", 17)] (it_list (e_c3 h D2 (c, p) (e_var h 0) (e_var h 1) (e_var h 6) hc)) (fun s H C' cl' fp h' x hx' => (tg_tup h' (tgs_cons (tg_name h' 16) (tgs_cons (tg_name h' 17) tgs_nil))))
            (fun s H C' cl' fp h' x hx' => (e_two h' D_times (e_var h' 16) (e_dget h' (ks := spK x.1) (e_var h' 5) (e_var h' 17) (dvAt_spots (fun p => fracT (c.afterG f p)) (spots_has.mpr (seen_mem hc hph hx').1))) (htm x hx'))) (by have := seen_len c p; omega)))) e5) (after_fit hc b hph)))
       (ss_one (s_if (b := decide (c.wor r + f p < c.after f p)) (eb_val (e_two h D_less (e_two h D_plus (e_var h 2) (e_ixT (e_var h 3) (e_var h 14) (U := fracT (f p)) (atI_ofNat (by rw [List.getElem?_map, hz2]; rfl))) w1) (e_var h 15) hlw)) (fun hq => ?_) (fun hq => ss_nil ?_)))))
      · refine (ss_one (s_ret e_bl (Sub.of_eq ?_)))
        have : c.bnd (c.wor r) f = false := by
          unfold Cf.bnd
          rw [← all_zip _ _ 0, e, List.all_append, List.all_cons, hq]
          simp
        rw [this]
      · exact ⟨by rw [List.all_append, ha, List.all_cons, hq]; rfl, _, _, _, rfl⟩
    · obtain ⟨ha, s6, s14, s15, rfl⟩ := iv
      exact (ss_one (s_ret e_bl (Sub.of_eq (by unfold Cf.bnd; rw [← all_zip _ _ 0, ha]))))
end
end JL

set_option Elab.async false
set_option linter.all false
set_option maxRecDepth 100000
set_option maxHeartbeats 4000000
set_option autoImplicit false
/-! The law's own functions: cells, what is drawn, whether a pair shows. -/
namespace JL
open PySem PySem.Spec PyProof.Rows L2
def cellA (xs : List Int) (k : Nat) : Int := if k < xs.length then xs.getD k 0 else if xs = [] then (k : Int) * 48271 else ((xs.getD (k % xs.length) 0 + (k : Int)) * 48271) % 2147483647
def cN (xs : List Int) (k m : Nat) : Nat := (cellA xs k % (m : Int)).toNat
theorem cN_eq (xs : List Int) (k : Nat) {m : Nat} (hm : 0 < m) : ((cN xs k m : Nat) : Int) = cellA xs k % (m : Int) := by
  unfold cN
  exact Int.toNat_of_nonneg (Int.emod_nonneg _ (by omega))
theorem cN_lt (xs : List Int) (k : Nat) {m : Nat} (hm : 0 < m) : cN xs k m < m := by
  have h1 := cN_eq xs k hm
  have h2 := Int.emod_lt_of_pos (cellA xs k) (show (0 : Int) < (m : Int) by omega)
  omega
def pickA {β : Type} [Inhabited β] (xs : List Int) (k : Nat) (row : List β) : β := row.getD (cN xs k row.length) default
theorem pick_at {β : Type} [Inhabited β] (xs : List Int) (k : Nat) {row : List β} (h : row ≠ []) : row[cN xs k row.length]? = some (pickA xs k row) := by
  have := cN_lt xs k (m := row.length) (List.length_pos_iff.mpr h)
  unfold pickA
  rw [List.getD_eq_getElem?_getD, List.getElem?_eq_getElem this]
  rfl
theorem pick_mem {β : Type} [Inhabited β] (xs : List Int) (k : Nat) {row : List β} (h : row ≠ []) : pickA xs k row ∈ row := List.mem_of_getElem? (pick_at xs k h)
theorem intsI_lay : ∀ xs : List Int, PyData.canLayAll0 (xs.map PyData.int) = true
  | [] => by simp [PyData.canLayAll0]
  | x :: xs => by simp [PyData.canLayAll0, PyData.canLay0, intsI_lay xs]
theorem intsI_depth : ∀ xs : List Int, PyData.depthAll (xs.map PyData.int) ≤ 1
  | [] => by simp [PyData.depthAll]
  | x :: xs => by
    have := intsI_depth xs
    simp only [List.map_cons, PyData.depthAll, PyData.depth]
    omega
theorem intsI_shaped (xs : List Int) : SeqAt.shaped (.list (xs.map PyData.int)) = true := by
  have h1 := intsI_depth xs
  show (PyData.canLay0 (.list (xs.map PyData.int)) && decide (PyData.depth (.list (xs.map PyData.int)) ≤ 64)) = true
  rw [Bool.and_eq_true]
  exact ⟨by simp only [PyData.canLay0]; exact intsI_lay xs, decide_eq_true (by simp only [PyData.depth]; omega)⟩
theorem intsI_nil (xs : List Int) : PyData.eqv (.list (xs.map PyData.int)) (.list []) = decide (xs = []) := by
  cases xs with
  | nil => simp [PyData.eqv, PyData.eqvAll]
  | cons x xs => simp [PyData.eqv, PyData.eqvAll]
abbrev scrT (xs : List Int) : Ty := lstT (xs.map intT)
theorem dat_scr (xs : List Int) : Dat (scrT xs) (.list (xs.map PyData.int)) := dat_lst (datL_map dat_int xs)
section
variable {tb : List Addr} {X : Cx} {G : List Slt} {N : List Str} {sc : Scope} {k : Nat} {pos : Pos}
theorem e_mulS {a b : Expr} {i j : Int} (ha : E tb X G a (intT i)) (hb : E tb X G b (intT j)) (hc : CMul i j) : E tb X G (.BinOp a .Mult b pos) (intT (i * j)) := e_op op_mul (rr_I hc fun _ => rfl) ha hb
abbrev sc62 : Scope := defScope (topS 62)
abbrev nm62 : List Str := ["_law_script", "_law_k"]
theorem fs62 : FnScope nm62 ["_law_script", "_law_k"] sc62 := ⟨rfl, rfl, rfl, by decide +kernel, rfl, by decide +kernel, by decide +kernel⟩
abbrev Ok_Lcell (ev : Ev) (tb : List Addr) : Prop := DefOk ev tb "_law_cell_at" 1 (fun a : List Int × Nat => [scrT a.1, nT a.2]) (fun _ => True) (fun a => intT (cellA a.1 a.2))
theorem b62 (h : CxD X nm62 sc62 k) (T : Tx (evX X)) (xs : List Int) (n : Nat) : SS tb X [.v (scrT xs), .v (nT n)] (defBody (topS 62)) (Gv (intT (cellA xs n))) := by
  have hlen : (xs.map intT).length = xs.length := List.length_map _
  have e0 : PyData.eqv (.list (xs.map PyData.int)) (.list []) = decide (xs = []) := intsI_nil xs
  refine (ss_if (eb_lt (e_var h 1) (e_len h (e_var h 0) (.lst _) T.len)) (fun hq => ?_) (fun hq => ?_))
  · have hn : n < xs.length := by
      have := of_decide_eq_true hq
      rw [hlen] at this
      omega
    refine (ss_one (s_ret (e_ixL (U := intT (cellA xs n)) (e_var h 0) (e_var h 1) (atI_ofNat ?_)) Sub.rfl))
    unfold cellA
    rw [if_pos hn, List.getElem?_map, List.getElem?_eq_getElem hn, List.getD_eq_getElem?_getD, List.getElem?_eq_getElem hn]
    rfl
  · have hn : ¬ n < xs.length := by
      have := of_decide_eq_false hq
      rw [hlen] at this
      omega
    refine (ss_if (eb_eqD h (e_var h 0) (e_lst ea_nil) (dat_scr xs) (dat_lst .nil) (intsI_shaped xs) (intsI_shaped [])) (fun hq => ?_) (fun hq => ?_))
    · rw [e0] at hq
      refine (ss_one (s_ret (e_mulS (e_var h 1) e_int (.inr ⟨by decide, by decide⟩)) (Sub.of_eq ?_)))
      unfold cellA
      rw [if_neg hn, if_pos (of_decide_eq_true hq)]
    · rw [e0] at hq
      have hz := of_decide_eq_false hq
      have hl : 0 < xs.length := List.length_pos_iff.mpr hz
      refine (ss_one (s_ret (e_mod (e_intI h (e_mulS (e_add (e_ixL (U := intT (xs.getD (n % xs.length) 0)) (i := ((n % xs.length : Nat) : Int)) (e_var h 0) (e_eq (e_mod (e_intI h (e_var h 1) T.int) (e_len h (e_var h 0) (.lst _) T.len) (by rw [hlen]; omega)) (by rw [hlen, Int.natCast_emod])) (atI_ofNat ?_)) (e_var h 1)) e_int (.inr ⟨by decide, by decide⟩)) T.int) e_int (by decide)) (Sub.of_eq ?_)))
      · have := Nat.mod_lt n hl
        rw [List.getElem?_map, List.getElem?_eq_getElem this, List.getD_eq_getElem?_getD, List.getElem?_eq_getElem this]
        rfl
      · unfold cellA
        rw [if_neg hn, if_neg hz]
abbrev sc63 : Scope := defScope (topS 63)
abbrev nm63 : List Str := ["_law_script", "_law_at", "_law_row"]
theorem fs63 : FnScope nm63 ["_law_script", "_law_at", "_law_row"] sc63 := ⟨rfl, rfl, rfl, by decide +kernel, rfl, by decide +kernel, by decide +kernel⟩
structure PiA (β : Type) where
  xs : List Int
  k : Nat
  row : List β
abbrev Ok_Lpick {β : Type} [Inhabited β] (S : β → Ty) (ev : Ev) (tb : List Addr) : Prop := DefOk ev tb "_law_pick" 2 (fun a : PiA β => [scrT a.xs, nT a.k, lstT (a.row.map S)]) (fun a => a.row ≠ []) (fun a => S (pickA a.xs a.k a.row))
theorem b63 {β : Type} [Inhabited β] (S : β → Ty) (h : CxD X nm63 sc63 k) (hk : 1 ≤ k) (T : Tx (evX X)) (D : Ok_Lcell (evX X) tb) (xs : List Int) (n : Nat) (row : List β) (hr : row ≠ []) : SS tb X [.v (scrT xs), .v (nT n), .v (lstT (row.map S))] (defBody (topS 63)) (Gv (S (pickA xs n row))) := by
  have hl := List.length_pos_iff.mpr hr
  refine (ss_one (s_ret (e_ixL (U := S (pickA xs n row)) (i := ((cN xs n row.length : Nat) : Int)) (e_var h 2) (e_eq (e_mod (e_intI h (e_c2 h D (xs, n) (e_var h 0) (e_var h 1) trivial) T.int) (e_len h (e_var h 2) (.lst _) T.len) (by rw [List.length_map]; omega)) (by rw [List.length_map, cN_eq xs n hl])) (atI_ofNat (by rw [List.getElem?_map, pick_at xs n hr]; rfl))) Sub.rfl))
/-- what the script draws -/
def cfS (xs : List Int) : Cf :=
  { room := 1 + cN xs 0 2, t0 := 1 + cN xs 1 9, t1 := 1 + cN xs 2 10, cost := 1 + cN xs 3 4
    kinds := (List.range (1 + cN xs 4 3)).map fun i => (1 + cN xs (5 + 2 * i) 6, cN xs (6 + 2 * i) (if cN xs 11 3 = 0 then 8 else 40))
    nr := 1 + cN xs 20 (if 1 + cN xs 0 2 = 1 then 3 else 2), ns := 1 + cN xs 21 10 }
theorem cfS_ok (xs : List Int) : (cfS xs).Ok := by
  have a0 := cN_lt xs 0 (m := 2) (by decide)
  have a1 := cN_lt xs 1 (m := 9) (by decide)
  have a2 := cN_lt xs 2 (m := 10) (by decide)
  have a3 := cN_lt xs 3 (m := 4) (by decide)
  have a4 := cN_lt xs 4 (m := 3) (by decide)
  have a21 := cN_lt xs 21 (m := 10) (by decide)
  have a20 : cN xs 20 (if 1 + cN xs 0 2 = 1 then 3 else 2) < (if 1 + cN xs 0 2 = 1 then 3 else 2) := cN_lt xs 20 (by split <;> decide)
  have hl : (cfS xs).kinds.length = 1 + cN xs 4 3 := by show ((List.range _).map _).length = _; rw [List.length_map, List.length_range]
  have er : (cfS xs).room = 1 + cN xs 0 2 := rfl
  have en : (cfS xs).nr = 1 + cN xs 20 (if 1 + cN xs 0 2 = 1 then 3 else 2) := rfl
  have hn : (cfS xs).nr ≤ 3 ∧ ((cfS xs).room + 1) * ((cfS xs).nr + 1) ≤ 9 := by
    rw [en, er]
    generalize cN xs 20 (if 1 + cN xs 0 2 = 1 then 3 else 2) = z at *
    generalize cN xs 0 2 = w at *
    split at a20
    · have hw : w = 0 := by omega
      subst hw
      constructor <;> omega
    · have hw : w = 1 := by omega
      subst hw
      constructor <;> omega
  refine ⟨?_, ?_, ?_, hn.1, hn.2, ?_, ?_, ?_, ?_, ?_, ?_, ?_, ?_, ?_, ?_, ?_⟩
  · show 1 ≤ 1 + _; omega
  · show 1 + _ ≤ 2; omega
  · show 1 ≤ 1 + _; omega
  · show 1 ≤ 1 + _; omega
  · show 1 + _ ≤ 9; omega
  · show 1 ≤ 1 + _; omega
  · show 1 + _ ≤ 10; omega
  · show 1 ≤ 1 + _; omega
  · show 1 + _ ≤ 4; omega
  · omega
  · omega
  · intro q hq
    obtain ⟨i, hi, rfl⟩ := List.mem_map.mp hq
    have b1 := cN_lt xs (5 + 2 * i) (m := 6) (by decide)
    have b2 : cN xs (6 + 2 * i) (if cN xs 11 3 = 0 then 8 else 40) < 40 := by
      split
      · have := cN_lt xs (6 + 2 * i) (m := 8) (by decide); omega
      · exact cN_lt xs (6 + 2 * i) (by decide)
    refine ⟨?_, ?_, ?_⟩
    · show 1 ≤ 1 + _; omega
    · show 1 + _ ≤ 6; omega
    · show cN xs (6 + 2 * i) _ ≤ 39; omega
  · show 1 ≤ 1 + _; omega
  · show 1 + _ ≤ 10; omega
theorem cN1 (xs : List Int) (k : Nat) {m : Nat} (hm : 0 < m) {j : Int} (hj : j = (m : Int)) : intT (1 + cellA xs k % j) = intT ((1 + cN xs k m : Nat) : Int) := by
  rw [hj, ← cN_eq xs k hm]
  rfl
abbrev sc71 : Scope := defScope (topS 71)
abbrev nm71 : List Str := ["_law_script", "_law_at", "_law_most", "_law_room", "_law_tenths", "_law_cost", "_law_kinds", "_law_place", "_law_gain"]
theorem fs71 : FnScope nm71 ["_law_script", "_law_at", "_law_most"] sc71 := ⟨rfl, rfl, rfl, by decide +kernel, rfl, by decide +kernel, by decide +kernel⟩
abbrev Ok_Lcounter (ev : Ev) (tb : List Addr) : Prop := DefOk ev tb "_law_counter" 2 (fun xs : List Int => [scrT xs, intT 0, intT 2]) (fun _ => True) (fun xs => plainT (cfS xs))
theorem b71 (h : CxD X nm71 sc71 k) (hk : 1 ≤ k) (T : Tx (evX X)) (D : Ok_Lcell (evX X) tb) (xs : List Int) : SS tb X [.v (scrT xs), .v (intT 0), .v (intT 2), .no, .no, .no, .no, .no, .no] (defBody (topS 71)) (Gv (plainT (cfS xs))) := by
  have a4 := cN_lt xs 4 (m := 3) (by decide)
  refine (ss_cons (s_set h 3 (es_v (e_eq (e_add e_int (e_mod (e_intI h (e_c2 h D (xs, 0) (e_var h 0) (e_var h 1) trivial) T.int) (e_var h 2) (by decide))) (cN1 xs 0 (m := 2) (by decide) rfl)))
   (ss_cons (s_set h 4 (es_v (e_tup (ea_cons (e_eq (e_add e_int (e_mod (e_intI h (e_c2 h D (xs, 1) (e_var h 0) (e_add (e_var h 1) e_int) trivial) T.int) e_int (by decide))) (cN1 xs 1 (m := 9) (by decide) rfl)) (ea_cons (e_eq (e_add e_int (e_mod (e_intI h (e_c2 h D (xs, 2) (e_var h 0) (e_add (e_var h 1) e_int) trivial) T.int) e_int (by decide))) (cN1 xs 2 (m := 10) (by decide) rfl)) ea_nil))))
    (ss_cons (s_par h 5 6 (es_v (e_eq (e_add e_int (e_mod (e_intI h (e_c2 h D (xs, 3) (e_var h 0) (e_add (e_var h 1) e_int) trivial) T.int) e_int (by decide))) (cN1 xs 3 (m := 4) (by decide) rfl))) (es_own (el_lst ea_nil))
     (ss_cons (s_for h (it_range1 h (n := 1 + cN xs 4 3) (e_eq (e_add e_int (e_mod (e_intI h (e_c2 h D (xs, 4) (e_var h 0) (e_add (e_var h 1) e_int) trivial) T.int) e_int (by decide))) (cN1 xs 4 (m := 3) (by decide) rfl)) T.range (by omega))
      (fun i G1 => ∃ s2 s7 s8, G1 = [.v (scrT xs), .v (intT 0), s2, .v (intT ((1 + cN xs 0 2 : Nat) : Int)), .v (tupT [intT ((1 + cN xs 1 9 : Nat) : Int), intT ((1 + cN xs 2 10 : Nat) : Int)]), .v (intT ((1 + cN xs 3 4 : Nat) : Int)), .own (((List.range i).map fun i => (1 + cN xs (5 + 2 * i) 6, cN xs (6 + 2 * i) (if cN xs 11 3 = 0 then 8 else 40))).map kindT), s7, s8]) ⟨_, _, _, rfl⟩ (fun i x G1 ei iv => ?_) (fun G1 iv => ?_)))))))))
  · obtain ⟨s2, s7, s8, rfl⟩ := iv
    have hin : i < 1 + cN xs 4 3 := by
      have := (List.getElem?_eq_some_iff.mp ei).1
      rwa [List.length_range] at this
    rw [List.getElem?_range hin] at ei
    cases ei
    have e11 : ((cN xs 11 3 : Nat) : Int) = cellA xs 11 % 3 := cN_eq xs 11 (by decide)
    have hm0 : 0 < (if cN xs 11 3 = 0 then 8 else 40) := by split <;> decide
    refine ⟨_, _, (tg_name h 7), ?_⟩
    refine (ss_cons (s_set h 2 (es_v (e_ifExp (T := nT (if cN xs 11 3 = 0 then 8 else 40)) (eb_eqI (e_mod (e_intI h (e_c2 h D (xs, 11) (e_var h 0) (e_add (e_var h 1) e_int) trivial) T.int) e_int (by decide)) e_int) (fun hq => (e_eq e_int ?_)) (fun hq => (e_eq e_int ?_))))
     (ss_cons (s_set h 8 (es_v (e_eq (e_mod (e_intI h (e_c2 h D (xs, 6 + 2 * i) (e_var h 0) (e_eq (e_add (e_add (e_var h 1) e_int) (e_mulS e_int (e_var h 7) (.inl ⟨by decide, by decide⟩))) (congrArg intT (by show (0 : Int) + 6 + 2 * (i : Int) = ((6 + 2 * i : Nat) : Int); omega))) trivial) T.int) (e_var h 2) (by omega)) (congrArg intT (cN_eq xs (6 + 2 * i) hm0).symm)))
      (ss_one (s_append h 6 (T := kindT (1 + cN xs (5 + 2 * i) 6, cN xs (6 + 2 * i) (if cN xs 11 3 = 0 then 8 else 40))) (e_tup (ea_cons (e_eq (e_add e_int (e_mod (e_intI h (e_c2 h D (xs, 5 + 2 * i) (e_var h 0) (e_eq (e_add (e_add (e_var h 1) e_int) (e_mulS e_int (e_var h 7) (.inl ⟨by decide, by decide⟩))) (congrArg intT (by show (0 : Int) + 5 + 2 * (i : Int) = ((5 + 2 * i : Nat) : Int); omega))) trivial) T.int) e_int (by decide))) (cN1 xs (5 + 2 * i) (m := 6) (by decide) rfl)) (ea_cons (e_var h 8) ea_nil)))
        ⟨_, _, _, by rw [List.range_succ, List.map_append, List.map_append]; rfl⟩ (small1000 (by rw [List.length_map, List.length_map, List.length_range]; omega))))))))
    · have := of_decide_eq_true hq
      rw [if_pos (by show cN xs 11 3 = 0; have : cellA xs 11 % 3 = 0 := this; omega)]
      rfl
    · have := of_decide_eq_false hq
      rw [if_neg (by show ¬ cN xs 11 3 = 0; have : ¬ cellA xs 11 % 3 = 0 := this; omega)]
      rfl
  · obtain ⟨s2, s7, s8, rfl⟩ := iv
    rw [List.length_range]
    exact (ss_freeze 6 (ss_one (s_ret (e_tup (ea_cons (e_var h 3) (ea_cons (e_var h 4) (ea_cons (e_var h 5) (ea_cons (e_tupleOf h (e_var h 6) T.tuple) ea_nil))))) Sub.rfl)))
end
end JL

set_option Elab.async false
set_option linter.all false
set_option maxRecDepth 100000
set_option maxHeartbeats 4000000
set_option autoImplicit false
/-! The law's own functions: a pair shows, the own route, the route drawn. -/
namespace JL
open PySem PySem.Spec PyProof.Rows L2
theorem hOf_map {c : Cf} {hs : List Rat} (hl : hs.length = c.n) : hs.map fracT = c.spots.map fun p => fracT (c.hOf hs p) := by
  rw [spots_eq, List.map_map]
  apply List.ext_getElem?
  intro i
  by_cases hi : i < c.n
  · rw [List.getElem?_map, List.getElem?_map, List.getElem?_range hi, List.getElem?_eq_getElem (by omega), Option.map_some, Option.map_some]
    show _ = some (fracT (hs.getD (c.ix (c.at_ i)) 0))
    rw [Cf.ix_at, List.getD_eq_getElem?_getD, List.getElem?_eq_getElem (by omega), Option.getD_some]
  · rw [List.getElem?_eq_none (by simp; omega), List.getElem?_eq_none (by simp; omega)]
def Cf.ownA (c : Cf) (k : Nat) (p : Spot) : Rat := if p.1 < c.room then c.ownG k p.1 c.t1 else -1
def Cf.ownB (c : Cf) (k : Nat) (p : Spot) : Rat := if p.2 < c.nr then c.ownG k p.2 c.ns else -1
theorem own_law (c : Cf) (k : Nat) (p : Spot) : (if 0 ≤ (gst [c.ownA k p, c.ownB k p]).num then (if c.ownA k p < c.ownB k p then 2 else 1) else 0) = c.ownC k p := by
  have e : gst [c.ownA k p, c.ownB k p] = if c.ownA k p < c.ownB k p then c.ownB k p else c.ownA k p := by
    show gstep (gstep (c.ownA k p) (c.ownA k p)) (c.ownB k p) = _
    unfold gstep
    rw [if_neg Rat.lt_irrefl]
  rw [e]
  show _ = if 0 ≤ (if c.ownA k p < c.ownB k p then c.ownB k p else c.ownA k p) then (if c.ownA k p < c.ownB k p then 2 else 1) else 0
  simp only [Rat.num_nonneg]
theorem qm1 : tupT [intT (-1), intT 1] = fracT (-1) := by unfold fracT; rfl
theorem ownA_bd {c : Cf} (hc : c.Ok) (k : Nat) {p : Spot} (hp : c.has p) : Bd 10 (c.ownA k p) ∧ Bd 10 (c.ownB k p) := by
  have h1 := hc.b1; have h2 := hc.b10; have h3 := hc.s1; have h4 := hc.s10; have h5 := hc.r2; have h6 := hc.n3; have hp1 := hp.1; have hp2 := hp.2
  constructor
  · unfold Cf.ownA
    split
    · exact (Cf.dn_ownG hc (by omega) (by omega) h2).bd (by omega) (by decide)
    · exact ⟨by decide, by decide⟩
  · unfold Cf.ownB
    split
    · exact (Cf.dn_ownG hc (by omega) (by omega) h4).bd (by omega) (by decide)
    · exact ⟨by decide, by decide⟩
/-- the route that the script draws -/
def drR (xs : List Int) (c : Cf) : Rt := fun p k => pickA xs (30 + 3 * c.ix p + k) (c.able p)
theorem able_ne (c : Cf) (p : Spot) : c.able p ≠ [] := List.ne_nil_of_mem (able_zero c p)
theorem drR_vr (xs : List Int) (c : Cf) : c.vr (drR xs c) := fun p _ k _ => pick_mem xs _ (able_ne c p)
section
variable {tb : List Addr} {X : Cx} {G : List Slt} {N : List Str} {sc : Scope} {k : Nat} {pos : Pos}
abbrev sc87 : Scope := defScope (topS 87)
abbrev nm87 : List Str := ["_law_plain", "_law_neighbour", "_law_route", "_law_potentials"]
theorem fs87 : FnScope nm87 ["_law_plain", "_law_neighbour", "_law_route", "_law_potentials"] sc87 := ⟨rfl, rfl, rfl, by decide +kernel, rfl, by decide +kernel, by decide +kernel⟩
abbrev Ok_Lright (ev : Ev) (tb : List Addr) : Prop := DefOk ev tb "_law_right" 7 (fun a : ShA => [plainT a.c, nbT a.c, tblT a.xss, tupT (a.hs.map fracT)]) (fun a => a.c.Ok ∧ TabP a.c a.xss ∧ PotP a.hs) (fun a => boolT (a.c.shw a.xss a.hs))
theorem b87 (h : CxD X nm87 sc87 k) (hk : 6 ≤ k) (T : Tx (evX X)) (D1 : Ok_Lis_route (evX X) tb) (D2 : Ok_Lspots (evX X) tb) (D3 : Ok_Lroute_worth (evX X) tb) (D4 : Ok_Lbounding (evX X) tb) (c : Cf) (hc : c.Ok) (xss : List (List Nat)) (hx : TabP c xss) (hs : List Rat) (hp : PotP hs) :
    SS tb X [.v (plainT c), .v (nbT c), .v (tblT xss), .v (tupT (hs.map fracT))] (defBody (topS 87)) (Gv (boolT (c.shw xss hs))) := by
  refine (ss_if (EW.eb (ew_or (eb_not (eb_val (e_c3 h D1 (c, xss) (e_var h 0) (e_var h 1) (e_var h 2) ⟨hc, hx⟩))) (fun hc' => (ew_or1 (eb_neI (e_len h (e_var h 3) (.tup _) T.len) (e_len h (e_c2 h D2 c (e_var h 0) (e_var h 1) hc) (.lst _) T.len)))))) (fun hq => ?_) (fun hq => ?_))
  · refine (ss_one (s_ret e_bl (Sub.of_eq ?_)))
    rw [List.length_map, List.length_map, spots_len] at hq
    have : (c.isR xss && decide (hs.length = c.n)) = false := by
      by_cases e : hs.length = c.n
      · rw [e, decide_eq_false (show ¬ ((c.n : Int) ≠ (c.n : Int)) from fun z => z rfl), Bool.or_false] at hq
        cases e2 : c.isR xss with
        | false => rfl
        | true => rw [show c.isR (c, xss).2 = true from e2] at hq; cases hq
      · rw [decide_eq_false e, Bool.and_false]
    unfold Cf.shw
    rw [this]
    rfl
  have hR : c.isR xss = true ∧ hs.length = c.n := by
    rw [List.length_map, List.length_map, spots_len, Bool.or_eq_false_iff] at hq
    refine ⟨?_, ?_⟩
    · cases e2 : c.isR xss with
      | true => rfl
      | false => have := hq.1; rw [show c.isR (c, xss).2 = false from e2] at this; cases this
    · have := of_decide_eq_false hq.2
      omega
  obtain ⟨hR, hl⟩ := hR
  have hv := isR_vr hx hR
  have ht := tab_dec hx (isR_len hR)
  have hb := potP_PB (c := c) hp
  have hsh : c.shw xss hs = c.bnd (c.wor (c.dec xss)) (c.hOf hs) := by unfold Cf.shw; rw [hR, decide_eq_true hl]; rfl
  rw [hsh]
  refine (ss_one (s_ret (e_c4 h D4 (BoA.mk c (c.dec xss) (c.hOf hs)) (e_var h 0) (e_var h 1) (e_c3 h D3 (SoA.mk c (c.dec xss)) (e_var h 0) (e_var h 1) (e_eq (U := tblT (c.tab (c.dec xss))) (e_var h 2) (by rw [ht])) ⟨hc, hv⟩) (e_eq (U := potsT c (c.hOf hs)) (e_var h 3) (by rw [hOf_map hl])) ⟨hc, hv, hb⟩) Sub.rfl))
abbrev sc88 : Scope := defScope (topS 88)
abbrev nm88 : List Str := ["_law_plain", "_law_neighbour", "_law_route", "_law_here", "_law_there", "_law_row", "_law_kind", "_law_first", "_law_second", "_law_choice"]
theorem fs88 : FnScope nm88 ["_law_plain", "_law_neighbour"] sc88 := ⟨rfl, rfl, rfl, by decide +kernel, rfl, by decide +kernel, by decide +kernel⟩
abbrev Ok_Lown_route (ev : Ev) (tb : List Addr) : Prop := DefOk ev tb "_law_own_route" 5 (fun c : Cf => [plainT c, nbT c]) Cf.Ok (fun c => tblT (c.tab c.own))
theorem b88 (h : CxD X nm88 sc88 k) (hk : 4 ≤ k) (T : Tx (evX X)) (D1 : Ok_Lspots (evX X) tb) (D2 : Ok_Lown (evX X) tb) (D3 : Ok_is_less (evX X) tb "_law_less") (D4 : Ok_Lgreatest (evX X) tb) (c : Cf) (hc : c.Ok) :
    SS tb X [.v (plainT c), .v (nbT c), .no, .no, .no, .no, .no, .no, .no, .no] (defBody (topS 88)) (Gv (tblT (c.tab c.own))) := by
  have h3 : c.nk ≤ 3 := hc.k3
  have n9 := Cf.n9 hc
  have q1 := hc.b1; have q2 := hc.b10; have q3 := hc.s1; have q4 := hc.s10; have q5 := hc.r2; have q6 := hc.n3
  refine (ss_cons (s_set h 2 (es_own (el_lst ea_nil))
   (ss_cons (s_forL h (it_list (xs := c.spots) (T := spT) (e_c2 h D1 c (e_var h 0) (e_var h 1) hc))
     (fun pre G1 => ∃ s3 s4 s5 s6 s7 s8 s9, G1 = [.v (plainT c), .v (nbT c), .own (pre.map (c.rowT c.own)), s3, s4, s5, s6, s7, s8, s9]) ⟨_, _, _, _, _, _, _, rfl⟩ (fun pre p post G1 e iv => ?_) (fun G1 iv => ?_)))))
  · obtain ⟨s3, s4, s5, s6, s7, s8, s9, rfl⟩ := iv
    have hp : c.has p := spots_has.mp (by rw [e]; simp)
    have hp1 := hp.1
    have hp2 := hp.2
    have hlp : pre.length ≤ 9 := by
      have := congrArg List.length e
      rw [spots_len, List.length_append] at this
      omega
    refine ⟨_, _, (tg_sub (tg_tup h (tgs_cons (tg_name h 3) (tgs_cons (tg_name h 4) tgs_nil))) key_tup), ?_⟩
    refine (ss_cons (s_set h 5 (es_own (el_lst ea_nil))
     (ss_cons (s_for h (it_range1 h (n := c.nk) (e_eq (e_len h (e_ixT (e_var h 0) e_int rfl) (.tup _) T.len) (by rw [List.length_map]; rfl)) T.range (by omega))
       (fun i G1 => ∃ s6 s7 s8 s9, G1 = [.v (plainT c), .v (nbT c), .own (pre.map (c.rowT c.own)), .v (nT p.1), .v (nT p.2), .own ((List.range i).map fun k => nT (c.own p k)), s6, s7, s8, s9]) ⟨_, _, _, _, rfl⟩ (fun i x G1 ei iv => ?_) (fun G1 iv => ?_)))))
    · obtain ⟨s6, s7, s8, s9, rfl⟩ := iv
      have hin : i < c.nk := by
        have := (List.getElem?_eq_some_iff.mp ei).1
        rwa [List.length_range] at this
      rw [List.getElem?_range hin] at ei
      cases ei
      have e1 : decide ((p.1 : Int) < (c.room : Int)) = decide (p.1 < c.room) := by rw [decide_eq_decide]; omega
      have e2 : decide ((p.2 : Int) < (c.nr : Int)) = decide (p.2 < c.nr) := by rw [decide_eq_decide]; omega
      obtain ⟨b1, b2⟩ := ownA_bd hc i hp
      have hgr : GrP [c.ownA i p, c.ownB i p] := ⟨by simp, fun x hx y hy => by
        have k : ∀ z ∈ [c.ownA i p, c.ownB i p], Bd 10 z := fun z hz => by
          rcases List.mem_cons.mp hz with rfl | hz
          · exact b1
          · rcases List.mem_cons.mp hz with rfl | hz
            · exact b2
            · cases hz
        exact FitW.mk (k x hx) (k y hy) (by decide)⟩
      refine ⟨_, _, (tg_name h 6), ?_⟩
      refine (ss_cons (s_set h 7 (es_v (e_ifExp (T := fracT (c.ownA i p)) (eb_lt (e_var h 3) (e_ixT (e_var h 0) e_int rfl)) (fun hq => (e_eq (e_c4 h D2 (OwA.mk c i p.1 c.t1) (e_var h 0) (e_var h 6) (e_var h 3) (e_ixT (e_ixT (e_var h 0) e_int rfl) e_int rfl) ⟨hc, hin, by show p.1 ≤ 3; omega, q1, q2⟩) ?_)) (fun hq => (e_eq (e_tup (ea_cons (e_neg e_int) (ea_cons e_int ea_nil))) ?_))))
       (ss_cons (s_set h 8 (es_v (e_ifExp (T := fracT (c.ownB i p)) (eb_lt (e_var h 4) (e_ixT (e_var h 1) e_int rfl)) (fun hq => (e_eq (e_c4 h D2 (OwA.mk c i p.2 c.ns) (e_var h 0) (e_var h 6) (e_var h 4) (e_ixT (e_var h 1) e_int rfl) ⟨hc, hin, by show p.2 ≤ 3; omega, q3, q4⟩) ?_)) (fun hq => (e_eq (e_tup (ea_cons (e_neg e_int) (ea_cons e_int ea_nil))) ?_))))
        (ss_cons (s_set h 9 (es_v (e_ifExp (T := nT (if c.ownA i p < c.ownB i p then 2 else 1)) (eb_val (e_two h D3 (a := c.ownA i p) (b := c.ownB i p) (e_var h 7) (e_var h 8) (FitW.mk b1 b2 (by decide)))) (fun hq => (e_eq e_int (by rw [if_pos (show c.ownA i p < c.ownB i p from of_decide_eq_true hq)]; rfl))) (fun hq => (e_eq e_int (by rw [if_neg (show ¬ c.ownA i p < c.ownB i p from of_decide_eq_false hq)]; rfl)))))
         (ss_one (s_append h 5 (e_ifExp (T := nT (c.own p i)) (eb_ge (i := (gst [c.ownA i p, c.ownB i p]).num) (e_ixT (e_total h D4 (l := [c.ownA i p, c.ownB i p]) (e_lst (Ts := [fracT (c.ownA i p), fracT (c.ownB i p)]) (ea_cons (e_var h 7) (ea_cons (e_var h 8) ea_nil))) hgr) e_int rfl) e_int) (fun hq => (e_eq (e_var h 9) ?_)) (fun hq => (e_eq e_int ?_)))
           ⟨_, _, _, _, by rw [map_succ _ i]; rfl⟩ (small1000 (by rw [List.length_map, List.length_range]; omega))))))))))
      · rw [e1] at hq
        show _ = fracT (if p.1 < c.room then _ else _)
        rw [if_pos (of_decide_eq_true hq)]
      · rw [e1] at hq
        show _ = fracT (if p.1 < c.room then _ else _)
        rw [if_neg (of_decide_eq_false hq)]
        exact qm1
      · rw [e2] at hq
        show _ = fracT (if p.2 < c.nr then _ else _)
        rw [if_pos (of_decide_eq_true hq)]
      · rw [e2] at hq
        show _ = fracT (if p.2 < c.nr then _ else _)
        rw [if_neg (of_decide_eq_false hq)]
        exact qm1
      · show _ = nT (c.ownC i p)
        rw [← own_law, if_pos (of_decide_eq_true hq)]
      · show _ = nT (c.ownC i p)
        rw [← own_law, if_neg (of_decide_eq_false hq)]
        rfl
    · obtain ⟨s6, s7, s8, s9, rfl⟩ := iv
      rw [List.length_range]
      exact (ss_freeze 5 (Ts := (List.range c.nk).map fun k => nT (c.own p k)) (ss_one (s_append h 2 (T := c.rowT c.own p) (e_tupleOf h (e_var h 5) T.tuple) ⟨_, _, _, _, _, _, _, by rw [List.map_append]; rfl⟩ (small1000 (by rw [List.length_map]; omega)))))
  · obtain ⟨s3, s4, s5, s6, s7, s8, s9, rfl⟩ := iv
    exact (ss_freeze 2 (Ts := c.spots.map (c.rowT c.own)) (ss_one (s_ret (e_tupleOf h (e_var h 2) T.tuple) (Sub.of_eq (tab_T _)))))
abbrev sc89 : Scope := defScope (topS 89)
abbrev nm89 : List Str := ["_law_script", "_law_at", "_law_plain", "_law_neighbour", "_law_route", "_law_place", "_law_spot", "_law_able_here", "_law_kind"]
theorem fs89 : FnScope nm89 ["_law_script", "_law_at", "_law_plain", "_law_neighbour"] sc89 := ⟨rfl, rfl, rfl, by decide +kernel, rfl, by decide +kernel, by decide +kernel⟩
abbrev Ok_Ldrawn (ev : Ev) (tb : List Addr) : Prop := DefOk ev tb "_law_drawn" 3 (fun a : List Int × Cf => [scrT a.1, intT 30, plainT a.2, nbT a.2]) (fun a => a.2.Ok) (fun a => tblT (a.2.tab (drR a.1 a.2)))
theorem b89 (h : CxD X nm89 sc89 k) (hf : ∀ x, X.fn x = true) (hk : 2 ≤ k) (T : Tx (evX X)) (D1 : Ok_Lspots (evX X) tb) (D2 : Ok_Lable (evX X) tb) (D3 : Ok_Lpick nT (evX X) tb) (xs : List Int) (c : Cf) (hc : c.Ok) :
    SS tb X [.v (scrT xs), .v (intT 30), .v (plainT c), .v (nbT c), .no, .no, .no, .no, .no] (defBody (topS 89)) (Gv (tblT (c.tab (drR xs c)))) := by
  have h3 : c.nk ≤ 3 := hc.k3
  have n9 := Cf.n9 hc
  refine (ss_cons (s_set h 4 (es_own (el_lst ea_nil))
   (ss_cons (s_forL h (it_enum h (xs := c.spots) (T := spT) (e_c2 h D1 c (e_var h 2) (e_var h 3) hc) T.enumerate)
     (fun pre G1 => ∃ s5 s6 s7, G1 = [.v (scrT xs), .v (intT 30), .v (plainT c), .v (nbT c), .own (pre.map fun z => c.rowT (drR xs c) z.1), s5, s6, s7, .no]) ⟨_, _, _, rfl⟩ (fun pre z post G1 e iv => ?_) (fun G1 iv => ?_)))))
  · obtain ⟨s5, s6, s7, rfl⟩ := iv
    have hz : z ∈ c.spots.zipIdx := by rw [e]; simp
    have hz2 := List.mem_zipIdx_iff_getElem?.mp hz
    obtain ⟨p, i⟩ := z
    have hph : c.has p := spots_has.mp (List.mem_of_getElem? hz2)
    have hi : i = c.ix p := by
      have hil : i < c.n := by
        have := (List.getElem?_eq_some_iff.mp hz2).1
        rwa [spots_len] at this
      rw [spots_eq, List.getElem?_map, List.getElem?_range hil] at hz2
      have := congrArg c.ix (Option.some.inj hz2)
      rwa [Cf.ix_at] at this
    subst hi
    have hlp : pre.length ≤ 9 := by
      have := congrArg List.length e
      rw [List.length_zipIdx, spots_len, List.length_append] at this
      omega
    refine ⟨_, _, (tg_tup h (tgs_cons (tg_cell h hf 5) (tgs_cons (tg_name h 6) tgs_nil))), ?_⟩
    refine (ss_cons (s_setC h hf 7 (es_v (e_c3 h D2 (c, p) (e_var h 2) (e_var h 3) (e_var h 6) trivial))
     (ss_one (s_append h 4 (T := c.rowT (drR xs c) p) (e_tupleOf h (e_of_el (LCR.el h (lc_of h (R := fun j => nT (drR xs c p j)) [("_law_kind", 8)] (it_range1 h (n := c.nk) (e_eq (e_len h (e_ixT (e_var h 2) e_int rfl) (.tup _) T.len) (by rw [List.length_map]; rfl)) T.range (by omega)) (fun s H C cl fp h' x hx => (tg_name h' 8)) (fun s H C cl fp h' x hx => (e_c3 h' D3 (PiA.mk xs (30 + 3 * c.ix p + x) (c.able p)) (e_var h' 0) (e_eq (e_add (e_add (e_var h' 1) (e_mulS e_int (e_var h' 5) (.inl ⟨by decide, by decide⟩))) (e_var h' 8)) (congrArg intT (by show (30 : Int) + 3 * ((c.ix p : Nat) : Int) + ((x : Nat) : Int) = ((30 + 3 * c.ix p + x : Nat) : Int); omega))) (e_var h' 7) (able_ne c p))) (by rw [List.length_range]; omega)))) T.tuple)
       ⟨_, _, _, by rw [List.map_append]; rfl⟩ (small1000 (by rw [List.length_map]; omega))))))
  · obtain ⟨s5, s6, s7, rfl⟩ := iv
    have e1 : (c.spots.zipIdx.map fun z => c.rowT (drR xs c) z.1) = c.spots.map (c.rowT (drR xs c)) := by
      conv => rhs; rw [← List.zipIdx_map_fst 0 c.spots]
      rw [List.map_map]
      rfl
    rw [e1]
    exact (ss_freeze 4 (Ts := c.spots.map (c.rowT (drR xs c))) (ss_one (s_ret (e_tupleOf h (e_var h 4) T.tuple) (Sub.of_eq (tab_T _)))))
end
end JL

set_option Elab.async false
set_option linter.all false
set_option maxRecDepth 100000
set_option maxHeartbeats 4000000
set_option autoImplicit false
/-! list(o), o's __iter__ gives iter of a tuple. -/
namespace JL
open PySem PySem.Spec PyProof.Rows L2
/-- at it an iterator over the tuple at l, i items gone -/
def TItO (l it : Addr) (i : Nat) : HO := .ext fun h => h.IsTupleIter it l i
theorem titO_ok {P : Program} {w : World} {H : Hp} {h : Heap} {l it : Addr} {i : Nat} (e : h.IsTupleIter it l i) : ObjOk P w H h it (TItO l it i) :=
  ⟨e, let ⟨o, ho, _⟩ := e; ⟨o, ho⟩, fun _ _ q k => q.at (k)⟩
def rIterT (K : PySem.W.Frag) : List V → Hp → VK → Prop := fun xs H Q => ∃ (l : Addr) (zs : List V), xs = [.ref l] ∧ SqT K H l zs ∧ ∀ it, H it = none → Q (.ref it) (upd H it (TItO l it 0))
theorem call_iterT {X : Cx} : CallR X (.builtin "iter") (rIterT X.K) := by
  intro pins s σ H xs us Q I r h
  obtain ⟨l, zs, rfl, hq, q⟩ := h
  obtain ⟨u, rfl, ru⟩ := vals1 r; obtain rfl : u = Value.ref l := ru
  obtain ⟨its, rv, pl, hz⟩ := I.tuple hq
  have pl2 : s.heap.IsTuple l its.toArray := pl
  refine Calls.call_function_entry (by decide +kernel) (by decide +kernel) PySem.W.kdk_entry_iter (PySem.W.kdk_args_iter _) ?_; unfold Builtin.«iter»
  refine wpAny_bind (m := someArgs "iter" 1 2 _) (wpAny_of_eq (a := [Value.ref l]) (by first | rfl | kernel_rfl!) ?_); show wpAny _ _ (pyIter (.ref l) >>= _) _ _ _
  refine wpAny_bind (wpAny_pyIter_tuple pl2 ?_)
  exact wpAny_pure ⟨_, rfl, .ref s.heap.objs.size, _, I.laid (t' := s.toks) (fun b u e => Heap.get?_push_of_some _ e) (Nat.le_refl _) (titO_ok ⟨_, Heap.get?_push_size _ rfl, rfl, rfl⟩), rfl, q _ (I.hok.fresh (Nat.le_refl _))⟩
section
variable {prog : Program} {w : World} {A : Around} {E : Value → Shared → Prop} {s : Shared}
/-- the end of such an iterator: it still stands -/
theorem next_endT {it t : Addr} {i : Nat} {items : Array Value} {Q : Option Value → Shared → Prop} (hh : A.handled = none) (hit : s.heap.IsTupleIter it t i) (ht : s.heap.IsTuple t items) (hx : items[i]? = none)
    (hQ : ∀ h', (∃ o, h'.get? it = some o) → (∀ b o, b ≠ it → s.heap.get? b = some o → h'.get? b = some o) → Q none { s with heap := h' }) : wpAny (model prog w) A (pyNext (.ref it)) Q E s := by
  obtain ⟨o, ho, hc, hd⟩ := id hit; obtain ⟨ol, hol, _, nl, hdl⟩ := ht; unfold pyNext
  refine wpAny_bind (wpAny_attempt (wpAny_callSpecial?_slot (name := Str.ofString "__next__") hit.typeIs F.slot_tuple_iterator_next (wpAny_call_entry F.slot_tuple_iterator_next hit.typeIs F.entry_tuple_iterator_next ?_ (F.args_tuple_iterator_next_1 _))))
  show wpAny _ _ (field (.ref it) 0 >>= _) _ _ s
  refine wpAny_bind (wpAny_field ho hd (x := .ref t) rfl ?_); show wpAny _ _ (if (Value.ref t == Value.none) = true then _ else _) _ _ s
  rw [if_neg (show ¬ ((Value.ref t == Value.none) = true) from Bool.false_ne_true)]; show wpAny _ _ (field (.ref it) 1 >>= _) _ _ s
  refine wpAny_bind (wpAny_field ho hd (x := .int i 0) rfl ?_); show wpAny _ _ (seqItems? (.ref t) >>= _) _ _ s
  refine wpAny_bind (wpAny_seqItems hol hdl ?_); simp only [Int.toNat_natCast, hx]
  refine wpAny_bind (wpAny_rule (wpAny_bind (wpAny_setField ho hd (by simp) ?_))); show wpAny _ _ (newExc (.type "StopIteration") [] >>= _) _ _ _
  refine wpAny_bind ?_; simp only [newExc, newTuple]
  refine wpAny_bind (wpAny_newObj_type ?_ (by size_fits)); refine wpAny_bind (m := firstArgMember _ _) (wpAny_of_eq (a := Value.none) (by first | rfl | (simp only [firstArgMember]; rfl)) ?_)
  refine wpAny_newObj_type ?_ (by size_fits); simp only [raiseNew]
  refine wpAny_bind (wpAny_handled ?_); first | rw [show A.in1.handled = none from hh] | rw [hh]
  refine wpAny_bind (wpAny_pure (wpAny_throw ?_)); refine wpAny_bind (wpAny_isInstance (T := "StopIteration") (b := true) ⟨_, Heap.get?_push_size _ rfl, rfl⟩ isSubtype_stop ?_)
  refine wpAny_pure (hQ _ ⟨_, Heap.get?_push_of_some _ (Heap.get?_push_of_some _ (Heap.get?_update_self _ ho (Obj.isFreed_of_fields (Obj.data_mapFields hd _))))⟩ fun b o hb e => (((Heap.SameBut.update ..).extBut.push _).push _) b o hb e)
end
section
variable {X : Cx} {pins : List (Addr × Obj)} {σ : L2.St}
theorem it_loop {F0 H0 F2 : Hp} {A : Around} {Rs : Result → Shared → Prop} {l it q : Addr} {zs : List V} {its : List Value} (hh : A.handled = none) (hqi : q ≠ it) (hlq : l ≠ q) (hli : l ≠ it) (q0 : H0 q = none) (i0 : H0 it = none) (qf : F2 q = none) (itf : F2 it = none) (hz : zs.length ≤ 1000) (rv : Vals zs its)
    (hdone : ∀ H s, Inv X pins σ H s → Ext F0 H0 F2 H → H q = some (.lst zs) → Rs (.ok (.ret .none)) s) :
    ∀ (k i : Nat) (H : Hp) (s : Shared), zs.length - i = k → i ≤ zs.length → Inv X pins σ H s → Ext F0 H0 F2 H → H it = some (TItO l it i) → H q = some (.lst (zs.take i)) → s.heap.IsTuple l its.toArray →
      codeAny (model X.prog X.w) A (.builtin "list.extend.loop" ⟨[.ref q, .ref it, .none], []⟩) Rs s := by
  have hlen : its.length = zs.length := rv.length.symm
  intro k
  induction k with
  | zero =>
    intro i H s hk hi I x ei eq ht
    have hit : s.heap.IsTupleIter it l i := (I.hok it _ ei).1
    refine codeAny_builtin PySem.F.entry_extend_loop ?_; rw [Around.under_plainId PySem.F.plain_extend_loop _]; show wpAny _ A.in1 (pyNext (.ref it) >>= _) _ _ s
    refine wpAny_bind (next_endT (A := A.in1) hh hit ht (by rw [List.getElem?_toArray]; exact List.getElem?_eq_none (by omega)) fun h' hex hk' => ?_)
    obtain ⟨oe, he⟩ := hex
    have I2 := I.write (x := it) (e := it) (o := .ext fun h => ∃ o, h.get? it = some o) (h' := h') (t' := s.toks) (by rw [ei]; exact True.intro) (.inl rfl) hk' ⟨_, he⟩ ⟨⟨_, he⟩, ⟨_, he⟩, fun h1 h2 ⟨o, z⟩ k => ⟨o, k o z⟩⟩
    refine wpAny_pure (hdone _ _ I2 (x.mut (o := .lst []) i0 itf) ?_)
    rw [upd_ne hqi, eq, List.take_of_length_le (by omega)]
  | succ k ih =>
    intro i H s hk hi I x ei eq ht
    have hit : s.heap.IsTupleIter it l i := (I.hok it _ ei).1
    have hil : i < its.length := by omega
    have hiz : i < zs.length := by omega
    refine codeAny_builtin PySem.F.entry_extend_loop ?_; rw [Around.under_plainId PySem.F.plain_extend_loop _]; show wpAny _ A.in1 (pyNext (.ref it) >>= _) _ _ s
    refine wpAny_bind (wpAny_pyNext_tuple_item hit ht (x := its[i]) (by rw [List.getElem?_toArray]; exact List.getElem?_eq_getElem hil) fun h' hit' sb => ?_)
    have I2 := I.write (x := it) (e := it) (o := TItO l it (i + 1)) (h' := h') (t' := s.toks) (by rw [ei]; exact True.intro) (.inl rfl) (fun b o nb z => (sb.2 b nb).trans z) (let ⟨o, ho, _⟩ := hit'; ⟨o, ho⟩) (titO_ok hit')
    have eq2 : upd H it (TItO l it (i + 1)) q = some (.lst (zs.take i)) := by rw [upd_ne hqi]; exact eq
    obtain ⟨z, its2, n2, r2, hl, e⟩ := I2.lstM eq2
    have hl2 : its2.length = i := by rw [← hl, List.length_take]; omega
    obtain ⟨u', hu, ru⟩ := rv.get (List.getElem?_eq_getElem hiz)
    have eu : u' = its[i] := by rw [List.getElem?_eq_getElem hil] at hu; exact (Option.some.inj hu).symm
    subst eu
    have et : zs.take (i + 1) = zs.take i ++ [zs[i]] := by rw [List.take_succ_eq_append_getElem hiz]
    show wpAny _ A.in1 (updateSeq q (·.push its[i]) >>= _) _ _ _
    refine wpAny_bind (wpAny_updateSeq e rfl (wpAny_pure ⟨plainId_quiet PySem.F.plain_extend_loop _, ?_⟩) (by rw [List.size_toArray, sizeLine_eq]; omega) (by show (its2.toArray.push its[i]).size ≤ sizeLine + 1; rw [Array.size_push, List.size_toArray, sizeLine_eq]; omega))
    have I3 := I2.lset (its' := its2 ++ [its[i]]) (ys := zs.take i ++ [zs[i]]) (f := (·.push its[i])) (t' := s.toks) eq2 e (by simp) (r2.append (.cons ru .nil)) (by rw [List.length_append, List.length_singleton, List.length_take, sizeLine_eq]; omega)
    refine ih (i + 1) _ _ (by omega) (by omega) I3 ((x.mut (o := .lst []) i0 itf).mut (o := .lst []) q0 qf) (by rw [upd_ne (Ne.symm hqi), upd_same]) (by rw [upd_same, et]) ?_
    obtain ⟨ot, h1, h2, h3⟩ := ht
    exact ⟨ot, (Heap.get?_update_other _ _ (Ne.symm hlq)).trans ((sb.2 l hli).trans h1), h2, h3⟩
end
/-- __iter__ gives iter(its first field), a tuple -/
def spIt (tb : List Addr) (C : Addr) (Ts : List Ty) (U : Ty) (K : PySem.W.Frag) : Sp := fun vs H Q _ => ∃ F, Fz F H ∧ (∀ P ∈ tb, GxR.TabG H P) ∧ Al K F [objT C [U, tupT Ts]] vs ∧
  ∀ l zs it F' H', Ext F H F' H' → SqT K F' l zs → Al K F' Ts zs → H' it = none → Q (.ref it) (upd H' it (TItO l it 0))
structure IterOk (ev : Ev) (tb : List Addr) (C : Addr) (j : Nat) : Prop where
  ex : ∃ (g : Addr) (fd : FuncData) (ps : List Str), Meth ev.K C "__iter__" g ∧ Binds ev.K fd ps [] ∧ ∀ Ts U, FnOk ev.P ev.w ev.K ev.mg ev.base CX0 j g fd ps (spIt tb C Ts U ev.K)
  nl : PySem.W.findIn ev.K (.ref C) "__len__" = some none
  nh : PySem.W.findIn ev.K (.ref C) "__length_hint__" = some none
/-- nothing is said of the length -/
theorem list_hint {M : Model} {A : Around} {E : Value → Shared → Prop} {Q : Bool → Shared → Prop} {K : PySem.W.Frag} {s : Shared} {C a : Addr} {ox : Obj} {od : Option Obj} (h1 : PySem.W.findIn K (.ref C) "__len__" = some none) (h2 : PySem.W.findIn K (.ref C) "__length_hint__" = some none) (hK : K.In s.heap) (J : PySem.W.InstAt s.heap a ox C od) (h : Q true s) :
    wpAny M A (Builtin.List.listLengthHint (.ref a)) Q E s := by
  unfold Builtin.List.listLengthHint; refine wpAny_bind (wpAny_bind (J.type.here ((PySem.W.looks_findIn hK h1).here ?_)))
  refine PySem.W.KFB.if_not rfl ?_; refine PySem.W.KFB.if_not rfl ?_; refine wpAny_bind (wpAny_bind (J.type.here ((PySem.W.looks_findIn hK h2).here ?_)))
  exact wpAny_pure h
section
variable {X : Cx} {tb : List Addr} {C : Addr} {Ts : List Ty} {U : Ty} {j : Nat}
theorem cr_listIt (D : IterOk (evX X) tb C j) (hc : X.calm = true) (hr : Room (j + 2) X.A) : CallR X (.type "list") (fun xs H Q => ∃ (F : Hp) (b dx : Addr) (vs : List (Option V)), xs = [.ref b] ∧ SlX.Slt H b C dx vs ∧ ∀ q, H q = none →
    spIt tb C Ts U X.K [.ref b] (upd H q (.lst [])) (fun v H2 => ∃ (l : Addr) (zs : List V) (it : Addr) (F2 : Hp), v = .ref it ∧ H2 it = some (TItO l it 0) ∧ H2 q = some (.lst []) ∧ SqT X.K H2 l zs ∧ zs.length ≤ 1000 ∧ H it = none ∧ F2 q = none ∧ F2 it = none ∧ Ext F H F2 H2 ∧
      ∀ H3, Ext F H F2 H3 → H3 q = some (.lst zs) → Q (.ref q) H3) E0) := by
  obtain ⟨g, fd, ps, hme, hb, F0⟩ := D.ex
  intro pins s σ H xs us Q I rv h
  obtain ⟨F, b, dx, vs, rfl, sl, hq⟩ := h
  obtain ⟨u, rfl, ru⟩ := vals1 rv; obtain rfl : u = Value.ref b := ru
  refine callType_codes (Q₁ := fun obj s₁ => obj = .ref s.heap.objs.size ∧ s₁ = { s with heap := s.heap.push { cls := .type "list", data := .seq #[] } }) PySem.F.called_list (PySem.F.typeCall_list_1 _) PySem.F.entry_list_init (code_list_new _ ⟨rfl, rfl⟩) fun obj s₁ h₁ => ?_
  obtain ⟨rfl, rfl⟩ := h₁; have hS : (s.heap.push { cls := .type "list", data := .seq #[] }).get? s.heap.objs.size = some { cls := .type "list", data := .seq #[] } := Heap.get?_push_size _ rfl
  refine ⟨⟨_, hS, rfl⟩, PySem.F.args_list_init_2 _ _, ?_⟩; have fr : H s.heap.objs.size = none := I.hok.fresh (Nat.le_refl _)
  have hsp := hq _ fr
  generalize hQ : s.heap.objs.size = q at *
  have I1 : Inv X pins σ (upd H q (.lst [])) { s with heap := s.heap.push { cls := .type "list", data := .seq #[] } } := by have := I.lnew (its := []) (t' := s.toks) .nil (Nat.zero_le _); rw [hQ] at this; exact this
  show wpAny _ _ (do let old ← Builtin.List.listItems (.ref q); Builtin.List.listUpdate (.ref q) (fun _ => #[]); letGo old.toList.reverse; Builtin.List.listExtendWith (.ref q) (.ref b) .none) _ _ _
  refine wpAny_bind ?_; unfold Builtin.List.listItems
  refine wpAny_bind (wpAny_seqItems hS rfl (wpAny_pure ?_)); show wpAny _ _ (updateSeq q (fun _ => #[]) >>= fun _ => letGo (#[] : Array Value).toList.reverse >>= fun _ => Builtin.List.listExtendWith (.ref q) (.ref b) .none) _ _ _
  refine wpAny_bind (wpAny_updateSeq hS rfl ?_); have I2 := I1.lset (f := fun _ => #[]) (its := []) (its' := []) (ys := []) (t' := s.toks) upd_same hS rfl .nil (Nat.zero_le _)
  rw [upd_upd] at I2
  refine wpAny_bind (wpAny_letGo ?_)
  have kp : ∀ x o, H x = some o → upd H q (.lst []) x = some o := fun x o e => by rw [upd_ne (ne_of_none e fr)]; exact e
  have sl2 : SlX.Slt (upd H q (.lst [])) b C dx vs := sl.elim (fun z => .inl ⟨kp _ _ z.1, z.2⟩) fun z => .inr ⟨kp _ _ z.1, kp _ _ z.2⟩
  have hne : q ≠ b := fun z => by
    subst z
    rcases sl with ⟨e, _⟩ | ⟨e, _⟩
    · rw [fr] at e; cases e
    · rw [fr] at e; cases e
  obtain ⟨sr, od, rr, J, hno⟩ := SlX.slt_inst I2 sl2
  obtain ⟨m0, hF⟩ := I2.fr
  have hm1 : Builtin.List.listSameRef (.ref q) (.ref b) = false := by simp [Builtin.List.listSameRef, hne]
  unfold Builtin.List.listExtendWith; refine wpAny_bind (J.type.here ?_)
  simp only [hm1, show (Value.ref C == Value.type "list") = false from rfl, show (Value.ref C == Value.type "tuple") = false from rfl, Bool.or_false, Bool.false_eq_true, if_false]
  refine wpAny_bind (PySem.W.owit_iter hF I2.ok.mod.kin J hme.at_ hme.fn ?_)
  refine wpAny_call (codeAny_mono (F0 Ts U |>.raw hb .nil X.A.in1.in1 X.stack _ _ [.ref b] [.ref b] _ E0 hr.in1.in1 I2.env0.in1.in1 (.cons rfl .nil) (by show spIt tb C Ts U X.K ([V.ref b] ++ []) _ _ E0; rw [List.append_nil]; exact hsp)) fun r s' hq' => ?_)
  cases r with
  | error e => exact hq'.elim
  | ok fl =>
    cases fl with
    | next => exact hq'.elim
    | brk => exact hq'.elim
    | cont => exact hq'.elim
    | ret u =>
      obtain ⟨v, H2, I3, rv2, l, zs, it, F2, ev, e1, e2, e3, e4, e5, e6, e7, e8, e9⟩ := I2.after hq'
      subst ev
      obtain rfl : u = Value.ref it := rv2
      have hit : s'.heap.IsTupleIter it l 0 := (I3.hok it _ e1).1
      obtain ⟨its, rvz, pl, hz⟩ := I3.tuple e3
      have hpl : s'.heap.IsTuple l its.toArray := pl
      obtain ⟨z, its0, n0, r0, hl0, el0⟩ := I3.lstM e2
      have hqi : q ≠ it := fun z => by
        subst z
        obtain ⟨o, h1, h2, _⟩ := hit
        rw [el0] at h1; cases h1
        injection (show Value.type "list" = Value.type "tuple_iterator" from h2) with h3; exact absurd h3 (by decide)
      have hlq : l ≠ q := fun z => by
        subst z
        obtain ⟨o, h1, h2, _⟩ := hpl
        rw [el0] at h1; cases h1
        injection (show Value.type "list" = Value.type "tuple" from h2) with h3; exact absurd h3 (by decide)
      have hli : l ≠ it := fun z => by
        subst z
        obtain ⟨o, h1, h2, _⟩ := hpl
        obtain ⟨o', h1', h2', _⟩ := hit
        rw [h1] at h1'; cases h1'; rw [h2] at h2'
        injection h2' with h3; exact absurd h3 (by decide)
      refine wpAny_specialOf (T := "tuple_iterator") hit.typeIs PySem.F.slot_tuple_iterator_next.lookup ?_
      have kp2 : ∀ x o, upd H q (.lst []) x = some o → x ≠ q → (∀ ps, o ≠ .tbl ps) → H2 x = some o := fun x o e hx hn => e8.hh.keep x o (by rw [upd_ne hx] at e; exact e) hn
      have sl3 : SlX.Slt H2 b C dx vs := sl.elim (fun z => .inl ⟨e8.hh.keep _ _ z.1 (fun _ => nofun), z.2⟩) fun z => .inr ⟨e8.hh.keep _ _ z.1 (fun _ w => nomatch w), e8.hh.keep _ _ z.2 (fun _ => nofun)⟩
      obtain ⟨sr', od', rr', J', hno'⟩ := SlX.slt_inst I3 sl3
      refine wpAny_bind (wpAny_holding ?_)
      refine list_hint D.nl D.nh I3.kIn J' ?_
      have run : ∀ (s4 : Shared), Inv X pins σ H2 s4 → s4.heap.IsTuple l its.toArray → codeAny (model X.prog X.w) X.A.in1 (.builtin "list.extend.loop" ⟨[.ref q, .ref it, .none], []⟩) (wants (fun r s₂ => r = .none ∧ EP X pins σ Q (.ref q) s₂) X.xe) s4 := fun s4 I4 t4 =>
        it_loop (A := X.A.in1) (F0 := F) (H0 := H) (F2 := F2) (show X.A.in1.handled = none from I.ok.hd hc) hqi hlq hli fr e5 e6 e7 e4 rvz (fun H3 s3 I5 x5 q5 => ⟨rfl, .ref q, H3, I5, rfl, e9 H3 x5 q5⟩) _ 0 H2 s4 rfl (Nat.zero_le _) I4 e8 e1 e2 t4
      refine wpAny_ite_split (fun _ => ?_) (fun _ => wpAny_pure ⟨plainId_quiet PySem.F.plain_extend_loop _, run _ I3 hpl⟩)
      cases r0
      refine wpAny_bind (wpAny_rule ?_); refine wpAny_bind ?_
      show wpAny _ _ (updateSeq q (·.push .none) >>= fun _ => updateSeq q (·.pop)) _ _ _
      refine wpAny_bind (wpAny_updateSeq el0 rfl ?_)
      have I4 := I3.lset (f := (·.push Value.none)) (its' := [Value.none]) (ys := [.non]) (t' := s'.toks) e2 el0 (by simp) (.cons rfl .nil) (by rw [List.length_singleton, sizeLine_eq]; decide)
      obtain ⟨z4, its4, k4, r4, hl4, e44⟩ := I4.lstM upd_same; obtain ⟨u4, rfl, ru4⟩ := r4.one
      refine wpAny_updateSeq e44 rfl ?_ (by show 1 ≤ sizeLine; rw [sizeLine_eq]; decide) (by show 0 ≤ sizeLine + 1; exact Nat.zero_le _)
      refine wpAny_pure ⟨plainId_quiet PySem.F.plain_extend_loop _, run _ ?_ ?_⟩
      · have I5 := I4.lset (f := (·.pop)) (its := [u4]) (its' := []) (ys := []) (t' := s'.toks) upd_same e44 (by rfl) .nil (Nat.zero_le _)
        rw [upd_upd] at I5
        have hH : upd H2 q (.lst []) = H2 := funext fun x => by
          by_cases hx : x = q
          · rw [hx, upd_same, e2]
          · rw [upd_ne hx]
        rw [hH] at I5
        exact I5
      · obtain ⟨ot, h1, h2, h3⟩ := hpl
        exact ⟨ot, (Heap.get?_update_other _ _ (Ne.symm hlq)).trans ((Heap.get?_update_other _ _ (Ne.symm hlq)).trans h1), h2, h3⟩
variable {G : List Slt} {N : List Str} {sc : Scope} {k : Nat} {pos : Pos}
/-- list(o) -/
theorem el_listIt (h : CxD X N sc k) {p : Pos} {o : Expr} (D : IterOk (evX X) tb C j) (ho : E tb X G o (objT C [U, tupT Ts])) (hz : Ts.length ≤ 1000) (hj : j + 2 ≤ k) (hm : X.mg "list" = none) (hg : sc.names.lookup ("list" : Str) = some .globalImplicit := by rfl) (nst : NoStar o := by intro _ _; rfl)
    (hpl : (backTo pos (starEach ([] : List Expr) X.env)).any (·.1) = false := by rfl) : EL tb X G (.Call (.Name "list" p) [o] [] pos) Ts := fun B σ F H Q hh q => by
  refine ewp_of (pe_callTy (cr_listIt (Ts := Ts) (U := U) D h.calm (h.room.mono hj)) (h.gl hg) hm (by decide +kernel) (pa_cons (pe_wp o) pa_nil (nst [] X.env)) (by decide) (by decide) (nst [] X.env) hpl) (ho B σ F H _ hh fun v F1 H1 x1 t => ?_)
  obtain ⟨b, dx, vs, e, sl, al⟩ := slt_of x1.fz t
  subst e
  refine ⟨F1, b, dx, _, rfl, sl, fun q' hq' => ?_⟩
  have x2 : Ext F1 H1 F1 (upd H1 q' (.lst [])) := Ext.own x1.fz hq'
  refine ⟨F1, x2.fz, fun P hP => x2.hh.tab P ((hh.up x1).tab P hP), .cons t .nil, fun l zs it F' H' x' s' al' hi => ?_⟩
  have x3 : Ext F' H' F' (upd H' it (TItO l it 0)) := Ext.own x'.fz hi
  have e1 : H' q' = some (.lst []) := x'.hh.keep q' _ upd_same (fun _ => nofun)
  have hne : q' ≠ it := fun z => by rw [z, hi] at e1; cases e1
  have e2 : F' q' = none := x'.av q' (by rw [upd_same]; exact fun z => nomatch z) (x1.fz.none hq')
  refine ⟨l, zs, it, F', rfl, upd_same, by rw [upd_ne hne]; exact e1, al_sqt x3.fz s', by rw [← al'.length]; exact hz, x2.hh.free (x'.hh.free hi), e2, x'.fz.none hi, (x2.trans x').trans x3, fun H3 y e3 => q q' zs F' H3 (x1.trans y) (x1.hh.free hq') e2 e3 al'⟩
end
end JL

set_option Elab.async false
set_option linter.all false
set_option maxRecDepth 100000
set_option maxHeartbeats 4000000
set_option autoImplicit false
/-! BestRoute.__iter__. -/
namespace JL
open PySem PySem.Spec PyProof.Rows L2
abbrev sc55_3 : Scope := defScope (inClass (topS 55) 3)
theorem fs55_3 : FnScope ["self"] ["self"] sc55_3 := ⟨rfl, rfl, rfl, by decide +kernel, rfl, by decide +kernel, by decide +kernel⟩
theorem iter_body {tb : List Addr} {X : Cx} {k : Nat} {C : Addr} {Ts : List Ty} {U : Ty} (h : CxD X ["self"] sc55_3 k) (hm : X.mg "iter" = none) (cl : ClsOk X.K C ["potentials", "route"]) {B : Bs} {σ : L2.St} {F H : Hp} {D : Ends} (hs : Has tb X.K [Slt.v (objT C [U, tupT Ts])] B F H σ)
    (q : ∀ l zs it F' H', Ext F H F' H' → SqT X.K F' l zs → Al X.K F' Ts zs → H' it = none → D.rt (.ref it) (upd H' it (TItO l it 0))) : sswp X (defBody (inClass (topS 55) 3)) D σ H := by
  refine sswp_of (pss_one (ps_ret (pe_callB call_iterT (h.gl (by rfl)) hm (by decide +kernel) (pa_cons (pe_wp _) pa_nil (by rfl)) (by decide) (by decide) (by rfl) (by rfl)))) ?_
  refine e_fld (tb := tb) h 1 (e_var h 0) cl rfl rfl rfl B σ F H _ hs fun v F1 H1 x1 t => ?_
  obtain ⟨l, zs, rfl, s1, al1⟩ := t
  exact ⟨l, zs, rfl, al_sqt x1.fz s1, fun it hi => q l zs it F1 H1 x1 s1 al1 hi⟩
theorem fn_iter {P : Program} {w : World} {K : PySem.W.Frag} {mg : Str → Option Value} {base : Heap} {tb : List Addr} {x qual : Str} {f C : Addr} {fd : FuncData} {Ts : List Ty} {U : Ty} {k : Nat}
    (F : Fun K x qual (inClass (topS 55) 3) f fd) (hm : mg "iter" = none) (cl : ClsOk K C ["potentials", "route"]) : FnOk P w K mg base CX0 (k + 1) f fd ["self"] (spIt tb C Ts U K) := by
  refine F.ok fs55_3 (fun vs H Q E ⟨F, _, _, al, _⟩ => by rw [← al.length]; rfl) fun cdv A0 outer s H vs Q E hr hsp => ?_
  obtain ⟨F0, fz, ht, al, q⟩ := hsp
  refine ⟨sswp _ _, pss_wp _, ?_⟩
  exact iter_body (tb := tb) (B := ⟨F0, H⟩) (k := k) ⟨rfl, fs55_3.nd, rfl, fs55_3.kind, rfl, hr, fun _ _ z => z⟩ hm cl (has_start (tb := tb) (N := ["self"]) (n := 1) fz ht al (Nat.le_refl _) rfl) q
end JL

set_option Elab.async false
set_option linter.all false
set_option maxRecDepth 100000
set_option maxHeartbeats 4000000
set_option autoImplicit false
/-! What the law asks of the best route, plainly. -/
namespace JL
open PySem PySem.Spec PyProof.Rows L2
section
variable {c : Cf}
theorem afterG_congr {h h' : Spot → Rat} (e : ∀ p, c.has p → h p = h' p) {p : Spot} (hp : c.has p) : c.afterG h p = c.afterG h' p := by
  rw [afterG_eq, afterG_eq, e p hp]
  congr 1
  refine ls_congr fun a _ => ?_
  rw [← gst_move, ← gst_move]
  congr 2
  exact List.map_congr_left fun ch hch => moveG_congr e hp hch
theorem after_congr (hc : c.Ok) {h h' : Spot → Rat} (e : ∀ p, c.has p → h p = h' p) {p : Spot} (hp : c.has p) : c.after h p = c.after h' p := by
  unfold Cf.after
  congr 1
  exact List.map_congr_left fun s hs => by rw [afterG_congr e (seen_mem hc hp hs).1]
/-- the potentials of the best route -/
noncomputable def Cf.hsB (c : Cf) : List Rat := c.spots.map (c.pot c.best)
theorem hsB_len : c.hsB.length = c.n := by unfold Cf.hsB; rw [List.length_map, spots_len]
theorem hsB_at {p : Spot} (hp : c.has p) : c.hOf c.hsB p = c.pot c.best p := by
  unfold Cf.hOf Cf.hsB
  rw [List.getD_eq_getElem?_getD, List.getElem?_map, spots_get hp]
  rfl
theorem shw_best (hc : c.Ok) : c.shw (c.tab c.best) c.hsB = true := by
  obtain ⟨hv, hf⟩ := best_ok hc
  have hd : sameR c (c.dec (c.tab c.best)) c.best := tab_same.mp (tab_dec (tab_P hc hv) (tab_len _))
  unfold Cf.shw
  rw [tab_isR hv, decide_eq_true hsB_len, wor_same hc hd]
  show c.bnd (c.wor c.best) (c.hOf c.hsB) = true
  unfold Cf.bnd
  rw [List.all_eq_true]
  intro p hp
  have hp := spots_has.mp hp
  have ht := fix_T hc hv hf (Cf.ix_lt hp)
  rw [Cf.at_ix hp] at ht
  rw [hsB_at hp, after_congr hc (fun q hq => hsB_at hq) hp]
  have e : c.after (c.pot c.best) p = c.wor c.best + c.pot c.best p := by
    unfold Cf.after
    rw [qsum_ls, ← ht]
    rfl
  rw [e, decide_eq_false Rat.lt_irrefl]
  rfl
theorem potP_best (hc : c.Ok) : ∃ d, 0 < d ∧ d ≤ 2 ^ 4351 ∧ ∀ q ∈ c.hsB, Dn d (2 ^ 4357) q := by
  obtain ⟨d, h1, h2, h3, h4⟩ := pot_dn hc (best_ok hc).1
  refine ⟨d, h2, h1, fun q hq => ?_⟩
  obtain ⟨p, hp, rfl⟩ := List.mem_map.mp hq
  exact h4 p (spots_has.mp hp)
theorem potP_of {hs : List Rat} {d M : Nat} (hl : hs.length ≤ 20) (h0 : 0 < d) (h1 : d ≤ BB) (h2 : M ≤ 4 * BB) (h : ∀ q ∈ hs, Dn d M q) : PotP hs := ⟨hl, d, h0, h1, fun q hq => (h q hq).mono h2⟩
theorem le_BB {a : Nat} (h : a ≤ 4360) : 2 ^ a ≤ 4 * BB := Nat.le_trans (pow_BB h) (by omega)
theorem potP_B (hc : c.Ok) : PotP c.hsB := by
  have n9 := Cf.n9 hc
  obtain ⟨d, h0, h1, h2⟩ := potP_best hc
  exact potP_of (by rw [hsB_len]; omega) h0 (Nat.le_trans h1 (pow_BB (by decide))) (le_BB (by decide)) h2
theorem potP_take (hc : c.Ok) (m : Nat) : PotP (c.hsB.take m) := by
  have n9 := Cf.n9 hc
  obtain ⟨d, h0, h1, h2⟩ := potP_best hc
  exact potP_of (by rw [List.length_take, hsB_len]; omega) h0 (Nat.le_trans h1 (pow_BB (by decide))) (le_BB (by decide)) fun q hq => h2 q (List.mem_of_mem_take hq)
/-- what is added -/
def adds : List Rat := [1, -1, 1 / 3, -3]
theorem adds_dn : ∀ q ∈ adds, Dn 3 9 q := by
  intro q hq
  have h1 : Dn 3 3 1 := dn_one (by decide)
  unfold adds at hq
  rcases List.mem_cons.mp hq with rfl | hq
  · exact h1.mono (by decide)
  rcases List.mem_cons.mp hq with rfl | hq
  · exact h1.neg.mono (by decide)
  rcases List.mem_cons.mp hq with rfl | hq
  · exact ⟨by decide, 1, by decide +kernel, by decide⟩
  rcases List.mem_cons.mp hq with rfl | hq
  · exact ⟨by decide, -9, by decide +kernel, by decide⟩
  · cases hq
theorem adds_T : lstT [tupT [intT 1, intT 1], tupT [intT (-1), intT 1], tupT [intT 1, intT 3], tupT [intT (-3), intT 1]] = lstT (adds.map fracT) := by
  have e3 : tupT [intT 1, intT 3] = fracT (1 / 3) := by
    unfold fracT
    rw [show (1 / 3 : Rat).num = 1 by decide +kernel, show (1 / 3 : Rat).den = 3 by decide +kernel]
    rfl
  have e4 : tupT [intT (-3), intT 1] = fracT (-3) := by
    unfold fracT
    rw [show (-3 : Rat).num = -3 by decide +kernel, show (-3 : Rat).den = 1 by decide +kernel]
    rfl
  rw [q11, qm1, e3, e4]
  rfl
theorem potP_set (hc : c.Ok) {i : Nat} {x q : Rat} (hx : x ∈ c.hsB) (hq : q ∈ adds) : PotP (c.hsB.set i (x + q)) := by
  have n9 := Cf.n9 hc
  obtain ⟨d, h0, h1, h2⟩ := potP_best hc
  have hd3 : d * 3 ≤ 2 ^ 4353 := by
    have : 2 ^ 4353 = 2 ^ 4351 * 4 := by rw [show 4353 = 4351 + 2 from rfl, Nat.pow_add]
    omega
  have hm : 2 ^ 4357 * 3 ≤ 2 ^ 4359 := by
    have : 2 ^ 4359 = 2 ^ 4357 * 4 := by rw [show 4359 = 4357 + 2 from rfl, Nat.pow_add]
    omega
  have e60 : 2 ^ 4360 = 2 ^ 4359 * 2 := by rw [show 4360 = 4359 + 1 from rfl, Nat.pow_add]
  have h9 : d * 9 ≤ 2 ^ 4359 := by
    have : 2 ^ 4359 = 2 ^ 4351 * 256 := by rw [show 4359 = 4351 + 8 from rfl, Nat.pow_add]
    omega
  refine potP_of (d := d * 3) (M := 2 ^ 4360) (by rw [List.length_set, hsB_len]; omega) (by omega) (Nat.le_trans hd3 (pow_BB (by decide))) (le_BB (by decide)) fun z hz => ?_
  rcases List.mem_or_eq_of_mem_set hz with hz | rfl
  · exact ((h2 z hz).scale 3 (by decide)).mono (by omega)
  · have a1 := (h2 x hx).scale 3 (by decide)
    have a2 := (adds_dn q hq).scale d h0
    rw [Nat.mul_comm 3 d] at a2
    exact (a1.add a2).mono (by omega)
theorem adds_fit (hc : c.Ok) {x q : Rat} (hx : x ∈ c.hsB) (hq : q ∈ adds) : Fit x q := by
  obtain ⟨d, h0, h1, h2⟩ := potP_best hc
  exact Fit.mk ((h2 x hx).bd (b := 4358) (Nat.lt_of_le_of_lt h1 (pow_lt (by decide))) (pow_lt (by decide))) ((adds_dn q hq).bd (b := 5) (by decide) (by decide)) (by decide)
theorem tabP_take {xss : List (List Nat)} (h : TabP c xss) (m : Nat) : TabP c (xss.take m) := ⟨by rw [List.length_take]; have := h.len; omega, fun xs hx => h.row xs (List.mem_of_mem_take hx)⟩
theorem tabP_rep (hc : c.Ok) {x : Nat} (hx : x ≤ 2) : TabP c (List.replicate c.n (List.replicate c.nk x)) := by
  have n9 := Cf.n9 hc
  refine ⟨by rw [List.length_replicate]; omega, fun xs hxs => ?_⟩
  rw [(List.mem_replicate.mp hxs).2]
  refine ⟨List.length_replicate, fun y hy => ?_⟩
  rw [(List.mem_replicate.mp hy).2]
  exact hx
end
theorem cutE {α : Type} (f : α → Ty) (l : List α) (h : 1 ≤ l.length) : cutT (l.map f) none (some (-1)) = (l.take (l.length - 1)).map f := by
  unfold cutT
  have e : HT.sIx (l.map f).length (l.map f).length (some (-1)) = l.length - 1 := by
    show (if (-1 : Int) < 0 then ((-1 : Int) + ((l.map f).length : Int)).toNat else min (-1 : Int).toNat (l.map f).length) = _
    rw [if_pos (by decide), List.length_map]
    omega
  rw [e]
  show ((l.map f).drop 0).take (l.length - 1 - 0) = _
  rw [List.drop_zero, Nat.sub_zero, List.map_take]
theorem cutE_z {α : Type} (f : α → Ty) (l : List α) (h : 1 ≤ l.length) : ¬ (HT.sIx (l.map f).length 0 none = 0 ∧ HT.sIx (l.map f).length (l.map f).length (some (-1)) = (l.map f).length) := by
  rintro ⟨_, e⟩
  have e2 : HT.sIx (l.map f).length (l.map f).length (some (-1)) = l.length - 1 := by
    show (if (-1 : Int) < 0 then ((-1 : Int) + ((l.map f).length : Int)).toNat else min (-1 : Int).toNat (l.map f).length) = _
    rw [if_pos (by decide), List.length_map]
    omega
  rw [e2, List.length_map] at e
  omega
theorem rep_flat {α : Type} (x : α) : ∀ n : Nat, (List.replicate n [x]).flatten = List.replicate n x
  | 0 => rfl
  | n + 1 => by rw [List.replicate_succ, List.flatten_cons, rep_flat x n, List.replicate_succ]; rfl
theorem tbl_rep (n m x : Nat) : tupT (List.replicate n [tupT (List.replicate m [intT (x : Int)]).flatten]).flatten = tblT (List.replicate n (List.replicate m x)) := by
  rw [rep_flat, rep_flat]
  unfold tblT
  rw [List.map_replicate, List.map_replicate]
  rfl
end JL

set_option Elab.async false
set_option linter.all false
set_option maxRecDepth 100000
set_option maxHeartbeats 4000000
set_option autoImplicit false
/-! The law's body. -/
namespace JL
open PySem PySem.Spec PyProof.Rows L2
def oddT (z : List (List Nat) × List Rat) : Ty := tupT [tblT z.1, tupT (z.2.map fracT)]
section
variable {tb : List Addr} {X : Cx} {G : List Slt} {N : List Str} {sc : Scope} {k : Nat} {pos : Pos} {C R CB : Addr}
abbrev sc90 : Scope := defScope (topS 90)
abbrev nm90 : List Str := ["_law_script", "_law_plain", "_law_wide", "_law_neighbour", "_law_counter_here", "_law_route", "_law_found", "_law_odd", "_law_turn", "_law_place", "_law_some", "_law_one"]
theorem fs90 : FnScope nm90 ["_law_script"] sc90 := ⟨rfl, rfl, rfl, by decide +kernel, rfl, by decide +kernel, by decide +kernel⟩
abbrev Ok_law (ev : Ev) (tb : List Addr) : Prop := DefOk ev tb "law" 10 (fun xs : List Int => [scrT xs]) (fun _ => True) (fun _ => boolT true)
theorem b90 (h : CxD X nm90 sc90 k) (hk : 9 ≤ k) (P : Px (evX X) C) (cl : ClsOk X.K CB ["potentials", "route"]) (D1 : Ok_Lcounter (evX X) tb) (D2 : Ok_Lcell (evX X) tb) (D3 : Mk_Counter (evX X) tb C) (D4 : Ok_Ldrawn (evX X) tb) (D5 : Ok_own_route (evX X) tb C) (D6 : Ok_Lown_route (evX X) tb) (D7 : Ok_route_worth (evX X) tb C) (D8 : Ok_Lroute_worth (evX X) tb)
    (D9 : Ok_best_route (evX X) tb C CB) (D10 : Ok_shows (evX X) tb C CB) (D11 : Ok_Lright (evX X) tb) (D12 : Ok_best_route_worth (evX X) tb C) (D13 : IterOk (evX X) tb CB 1) (D14 : Ok_Lpick fracT (evX X) tb) (D15 : Ok_plus (evX X) tb "_law_plus") (D16 : Mk_Best (evX X) tb CB) (xs : List Int) :
    SS tb X [.v (scrT xs), .no, .no, .no, .no, .no, .no, .no, .no, .no, .no, .no] (defBody (topS 90)) (Gv (boolT true)) := by
  have hc := cfS_ok xs
  have eW : nT (if 1 + cN xs 0 2 = 1 then 3 else 2) = nT (if (cfS xs).room = 1 then 3 else 2) := rfl
  have hW : 0 < (if 1 + cN xs 0 2 = 1 then 3 else 2) := by split <;> decide
  have eN : nbT (cfS xs) = tupT [intT ((1 + cN xs 20 (if 1 + cN xs 0 2 = 1 then 3 else 2) : Nat) : Int), intT ((1 + cN xs 21 10 : Nat) : Int)] := rfl
  have er : (cfS xs).room = 1 + cN xs 0 2 := rfl
  refine (ss_cons (s_set h 1 (es_v (e_c3 h D1 xs (e_var h 0) e_int e_int trivial))
   (ss_cons (s_set h 2 (es_v (e_ifExp (T := nT (if 1 + cN xs 0 2 = 1 then 3 else 2)) (eb_eqI (e_ixT (e_var h 1) e_int rfl) e_int) (fun hq => (e_eq e_int ?_)) (fun hq => (e_eq e_int ?_))))
    (ss_cons (s_set (s := .v (nbT (cfS xs))) h 3 (es_v (e_eq (e_tup (ea_cons (e_eq (e_add e_int (e_mod (e_intI h (e_c2 h D2 (xs, 20) (e_var h 0) e_int trivial) P.T.int) (e_var h 2) (by omega))) (cN1 xs 20 hW rfl)) (ea_cons (e_eq (e_add e_int (e_mod (e_intI h (e_c2 h D2 (xs, 21) (e_var h 0) e_int trivial) P.T.int) e_int (by decide))) (cN1 xs 21 (m := 10) (by decide) rfl)) ea_nil))) eN.symm)) ?_))))))
  · have := of_decide_eq_true hq
    rw [if_pos (by rw [er] at this; omega)]
    rfl
  · have := of_decide_eq_false hq
    rw [if_neg (by rw [er] at this; omega)]
    rfl
  generalize (if 1 + cN xs 0 2 = 1 then 3 else 2) = wide at *
  generalize cfS xs = c at *
  have n9 := Cf.n9 hc
  have n0 := Cf.n0 c
  have hk1 : 1 ≤ c.nk := hc.k1
  have hk3 : c.nk ≤ 3 := hc.k3
  obtain ⟨hbv, hbf⟩ := best_ok hc
  have hdv := drR_vr xs c
  have hov := own_vr (c := c)
  have eB : brT CB c c.best (c.pot c.best) = brsT CB (c.tab c.best) c.hsB := by
    show objT CB [tupT (c.spots.map fun p => fracT (c.pot c.best p)), tblT (c.tab c.best)] = objT CB [tupT (c.hsB.map fracT), tblT (c.tab c.best)]
    unfold Cf.hsB
    rw [List.map_map]
    rfl
  have hsh := shw_best hc
  have lt : (c.tab c.best).length = c.n := tab_len _
  have lh : c.hsB.length = c.n := hsB_len
  have ld : (c.tab (drR xs c)).length = c.n := tab_len _
  have eqT : ∀ xss : List (List Nat), (!PyData.eqv (.tuple (tblD xss)) (.tuple (tblD xss))) = false := fun xss => by rw [tbl_eqvT, decide_eq_true rfl]; rfl
  have eqL : ∀ xss : List (List Nat), (!PyData.eqv (.list (tblD xss)) (.list (tblD xss))) = false := fun xss => by rw [tbl_eqvL, decide_eq_true rfl]; rfl
  have eqF : ∀ q : Rat, (!PyData.eqv (fracD q) (fracD q)) = false := fun q => by rw [fracD_eqv, decide_eq_true rfl]; rfl
  have dT : ∀ xss : List (List Nat), Dat (tblT xss) (.tuple (tblD xss)) := fun xss => dat_tup (datL_tbl xss)
  have dL : ∀ xss : List (List Nat), Dat (lstT (xss.map fun xs => tupT (xs.map nT))) (.list (tblD xss)) := fun xss => dat_lst (datL_tbl xss)
  show SS tb X [.v (scrT xs), .v (plainT c), .v (nT wide), .v (nbT c), .no, .no, .no, .no, .no, .no, .no, .no] _ _
  refine (ss_cons (s_set h 4 (es_v (e_make h D3 c (ea_cons (e_ixT (e_var h 1) e_int rfl) (ea_cons (e_ixT (e_var h 1) e_int rfl) (ea_cons (e_ixT (e_var h 1) e_int rfl) (ea_cons (e_ixT (e_var h 1) e_int rfl) ea_nil)))) hc rfl)) ?_))
  refine (ss_cons (s_set h 5 (es_v (e_c4 h D4 (xs, c) (e_var h 0) e_int (e_var h 1) (e_var h 3) hc)) ?_))
  refine (ss_ifNo (eb_neD h (e_eq (U := tblT (c.tab c.own)) (e_c2 h D5 c (e_var h 4) (e_var h 3) hc) (tab_T c.own)) (e_c2 h D6 c (e_var h 1) (e_var h 3) hc) (dT _) (dT _) (tbl_shapedT _) (tbl_shapedT _)) ?_ (eqT _))
  refine (ss_ifNo (eb_neD h (e_c3 h D7 (SoA.mk c (drR xs c)) (e_var h 4) (e_var h 3) (e_var h 5) ⟨hc, hdv⟩) (e_c3 h D8 (SoA.mk c (drR xs c)) (e_var h 1) (e_var h 3) (e_var h 5) ⟨hc, hdv⟩) (dat_frac _) (dat_frac _) (fracD_shaped _) (fracD_shaped _)) ?_ (eqF _))
  refine (ss_cons (s_set (s := .v (brsT CB (c.tab c.best) c.hsB)) h 6 (es_v (e_eq (e_c2 h D9 c (e_var h 4) (e_var h 3) hc) eB)) ?_))
  refine (ss_ifNo (EW.eb (ew_or (eb_not (eb_val (e_meth h cl D10 (ShA.mk c (c.tab c.best) c.hsB) (e_var h 6) (ea_cons (e_var h 4) (ea_cons (e_var h 3) ea_nil)) ⟨hc, tab_P hc hbv, potP_B hc⟩ rfl))) (fun hq => (ew_or1 (eb_not (eb_val (e_c4 h D11 (ShA.mk c (c.tab c.best) c.hsB) (e_var h 1) (e_var h 3) (e_fld h 1 (e_var h 6) cl) (e_fld h 0 (e_var h 6) cl) ⟨hc, tab_P hc hbv, potP_B hc⟩))))))) ?_ (by show (!c.shw (c.tab c.best) c.hsB || !c.shw (c.tab c.best) c.hsB) = false; rw [hsh]; rfl))
  refine (ss_ifNo (eb_neD h (e_c2 h D12 c (e_var h 4) (e_var h 3) hc) (e_c3 h D8 (SoA.mk c c.best) (e_var h 1) (e_var h 3) (e_fld h 1 (e_var h 6) cl) ⟨hc, hbv⟩) (dat_frac _) (dat_frac _) (fracD_shaped _) (fracD_shaped _)) ?_ (eqF _))
  refine (ss_ifNo (eb_neD h (e_of_el (el_listIt h D13 (e_var h 6) (by rw [List.length_map, lt]; omega) (by omega) P.T.list)) (e_listOf h (e_fld h 1 (e_var h 6) cl) (.tup _) P.T.list) (dL _) (dL _) (tbl_shapedL _) (tbl_shapedL _)) ?_ (eqL _))
  have hbl : 1 ≤ (c.tab c.best).length := by omega
  have hhl : 1 ≤ c.hsB.length := by omega
  have eP1 : ∀ (l : List Rat) (h : 1 ≤ l.length), tupT (cutT (l.map fracT) none (some (-1))) = tupT ((l.take (l.length - 1)).map fracT) := fun l h => by rw [cutE _ _ h]
  have eP2 : ∀ (l : List (List Nat)) (h : 1 ≤ l.length), tupT (cutT (l.map fun xs => tupT (xs.map nT)) none (some (-1))) = tblT (l.take (l.length - 1)) := fun l h => by rw [cutE _ _ h]
  let z1 : List (List Nat) × List Rat := (c.tab (drR xs c), c.hsB)
  let z2 : List (List Nat) × List Rat := (c.tab c.best, c.hsB.take (c.hsB.length - 1))
  let z3 : List (List Nat) × List Rat := ((c.tab c.best).take ((c.tab c.best).length - 1), c.hsB)
  let z4 : List (List Nat) × List Rat := (c.tab c.own, c.hsB)
  let z5 : List (List Nat) × List Rat := (List.replicate c.n (List.replicate c.nk 0), c.hsB)
  let z6 : List (List Nat) × List Rat := (List.replicate c.n (List.replicate c.nk 1), c.hsB)
  refine (ss_cons (s_set (s := .v (lstH [oddT z1, oddT z2, oddT z3])) h 7 (es_v (e_of_elH (el_lst (ea_cons (e_tup (ea_cons (e_var h 5) (ea_cons (e_fld h 0 (e_var h 6) cl) ea_nil)))
    (ea_cons (e_tup (ea_cons (e_fld h 1 (e_var h 6) cl) (ea_cons (e_eq (e_slT (e_fld h 0 (e_var h 6) cl) eo_none (eo_some (e_neg e_int)) (cutE_z _ _ hhl)) (eP1 _ hhl)) ea_nil)))
    (ea_cons (e_tup (ea_cons (e_eq (e_slT (e_fld h 1 (e_var h 6) cl) eo_none (eo_some (e_neg e_int)) (cutE_z _ _ hbl)) (eP2 _ hbl)) (ea_cons (e_fld h 0 (e_var h 6) cl) ea_nil))) ea_nil)))))) ?_))
  refine (ss_cons (s_set (s := .v (lstH ([oddT z1, oddT z2, oddT z3] ++ [oddT z4]))) h 7 (es_v (e_of_elH (el_cat (e_var h 7) (e_of_elH (el_lst (ea_cons (e_tup (ea_cons (e_c2 h D6 c (e_var h 1) (e_var h 3) hc) (ea_cons (e_fld h 0 (e_var h 6) cl) ea_nil))) ea_nil))) (by rw [sizeLine_eq]; show 3 + 1 ≤ 16777216; decide)))) ?_))
  have eR : ∀ x : Nat, tupT (List.replicate c.n [tupT (List.replicate c.nk [intT (x : Int)]).flatten]).flatten = tblT (List.replicate c.n (List.replicate c.nk x)) := fun x => tbl_rep _ _ _
  have ln5 : ((c.tab (drR xs c)).map fun xs => tupT (xs.map nT)).length = c.n := by rw [List.length_map, ld]
  have lnk : (c.kinds.map kindT).length = c.nk := by rw [List.length_map]; rfl
  refine (ss_cons (s_set (s := .own ([oddT z1, oddT z2, oddT z3] ++ [oddT z4] ++ [oddT z5])) h 7 (es_own (el_cat (e_var h 7) (e_of_elH (el_lst (ea_cons (e_tup (ea_cons (e_eq (e_repT (n := c.n) (e_tup (ea_cons (e_repT (n := c.nk) (e_tup (ea_cons e_int ea_nil)) (e_eq (e_len h (e_ixT (e_var h 1) e_int rfl) (.tup _) P.T.len) (by rw [lnk])) (by simp) (by simp) (by omega) (by omega)) ea_nil)) (e_eq (e_len h (e_var h 5) (.tup _) P.T.len) (by rw [ln5])) (by simp) (by simp) (by omega) (by omega)) (eR 0)) (ea_cons (e_fld h 0 (e_var h 6) cl) ea_nil))) ea_nil))) (by rw [sizeLine_eq]; show 4 + 1 ≤ 16777216; decide))) ?_))
  refine (ss_cons (s_append h 7 (Ts := [oddT z1, oddT z2, oddT z3] ++ [oddT z4] ++ [oddT z5]) (T := oddT z6) (e_tup (ea_cons (e_eq (e_repT (n := c.n) (e_tup (ea_cons (e_repT (n := c.nk) (e_tup (ea_cons e_int ea_nil)) (e_eq (e_len h (e_ixT (e_var h 1) e_int rfl) (.tup _) P.T.len) (by rw [lnk])) (by simp) (by simp) (by omega) (by omega)) ea_nil)) (e_eq (e_len h (e_var h 5) (.tup _) P.T.len) (by rw [ln5])) (by simp) (by simp) (by omega) (by omega)) (eR 1)) (ea_cons (e_fld h 0 (e_var h 6) cl) ea_nil))) ?_ (by rw [sizeLine_eq]; show 5 < 16777216; decide)))
  have good0 : ∀ z ∈ [z1, z2, z3, z4, z5, z6], TabP c z.1 ∧ PotP z.2 := by
    intro z hz
    rcases List.mem_cons.mp hz with rfl | hz
    · exact ⟨tab_P hc hdv, potP_B hc⟩
    rcases List.mem_cons.mp hz with rfl | hz
    · exact ⟨tab_P hc hbv, potP_take hc _⟩
    rcases List.mem_cons.mp hz with rfl | hz
    · exact ⟨tabP_take (tab_P hc hbv) _, potP_B hc⟩
    rcases List.mem_cons.mp hz with rfl | hz
    · exact ⟨tab_P hc hov, potP_B hc⟩
    rcases List.mem_cons.mp hz with rfl | hz
    · exact ⟨tabP_rep hc (by decide), potP_B hc⟩
    rcases List.mem_cons.mp hz with rfl | hz
    · exact ⟨tabP_rep hc (by decide), potP_B hc⟩
    · cases hz
  refine (ss_cons (s_for h (it_range1 h (n := 3) e_int P.T.range (by decide))
    (fun i G1 => ∃ s8 s9 s10 zs, (∀ z ∈ zs, TabP c z.1 ∧ PotP z.2) ∧ zs.length = 6 + i ∧ G1 = [.v (scrT xs), .v (plainT c), .v (nT wide), .v (nbT c), .v (cT C c), .v (tblT (c.tab (drR xs c))), .v (brsT CB (c.tab c.best) c.hsB), .own (zs.map oddT), s8, s9, s10, .no])
    ⟨_, _, _, [z1, z2, z3, z4, z5, z6], good0, rfl, rfl⟩ (fun i x G1 ei iv => ?_) (fun G1 iv => ?_)))
  · obtain ⟨s8, s9, s10, zs, hz1, hz2, rfl⟩ := iv
    have hi : i < 3 := by
      have := (List.getElem?_eq_some_iff.mp ei).1
      rwa [List.length_range] at this
    rw [List.getElem?_range hi] at ei
    cases ei
    have hpl := cN_lt xs (70 + i) (m := c.n) n0
    have hpe := cN_eq xs (70 + i) (m := c.n) n0
    obtain ⟨y, hy⟩ : ∃ y, c.hsB[cN xs (70 + i) c.n]? = some y := ⟨_, List.getElem?_eq_getElem (by omega)⟩
    have hym : y ∈ c.hsB := List.mem_of_getElem? hy
    have hqm : pickA xs (75 + i) adds ∈ adds := pick_mem xs (75 + i) (by unfold adds; simp)
    refine ⟨_, _, (tg_name h 8), ?_⟩
    refine (ss_cons (s_par h 9 10 (es_v (e_eq (e_mod (e_intI h (e_c2 h D2 (xs, 70 + i) (e_var h 0) (e_eq (e_add e_int (e_var h 8)) (congrArg intT (by show (70 : Int) + (i : Int) = ((70 + i : Nat) : Int); omega))) trivial) P.T.int) (e_len h (e_var h 5) (.tup _) P.T.len) (by rw [ln5]; omega)) (by rw [ln5, ← hpe]))) (es_own (el_listOf h (e_fld h 0 (e_var h 6) cl) (.tup _) P.T.list)) ?_))
    refine (ss_cons (s_setItem h 10 (n := cN xs (70 + i) c.n) (Ts := c.hsB.map fracT) (e_two h D15 (a := y) (b := pickA xs (75 + i) adds) (e_ixOwn h 10 (Ts := c.hsB.map fracT) (e_var h 9) (atI_ofNat (by rw [List.getElem?_map, hy]; rfl))) (e_c3 h D14 (PiA.mk xs (75 + i) adds) (e_var h 0) (e_eq (e_add e_int (e_var h 8)) (congrArg intT (by show (75 : Int) + (i : Int) = ((75 + i : Nat) : Int); omega))) (e_eq (e_lst (ea_cons (e_tup (ea_cons e_int (ea_cons e_int ea_nil))) (ea_cons (e_tup (ea_cons (e_neg e_int) (ea_cons e_int ea_nil))) (ea_cons (e_tup (ea_cons e_int (ea_cons e_int ea_nil))) (ea_cons (e_tup (ea_cons (e_neg e_int) (ea_cons e_int ea_nil))) ea_nil))))) adds_T) (by unfold adds; simp)) (adds_fit hc hym hqm)) (e_var h 9) (j := ((cN xs (70 + i) c.n : Nat) : Int)) (by rw [List.length_map, lh]; unfold ixN; rw [if_pos (by omega), if_pos (by omega)]; rfl) ?_))
    rw [← List.map_set]
    refine (ss_freeze 10 (Ts := (c.hsB.set (cN xs (70 + i) c.n) (y + pickA xs (75 + i) adds)).map fracT) (ss_one (s_append h 7 (T := oddT (c.tab c.best, c.hsB.set (cN xs (70 + i) c.n) (y + pickA xs (75 + i) adds))) (e_tup (ea_cons (e_fld h 1 (e_var h 6) cl) (ea_cons (e_tupleOf h (e_var h 10) P.T.tuple) ea_nil)))
      ⟨_, _, _, zs ++ [(c.tab c.best, c.hsB.set (cN xs (70 + i) c.n) (y + pickA xs (75 + i) adds))], fun z hz => ?_, by rw [List.length_append, hz2]; rfl, by rw [List.map_append]; rfl⟩ (small1000 (by rw [List.length_map, hz2]; omega)))))
    rcases List.mem_append.mp hz with hz | hz
    · exact hz1 z hz
    · rw [List.mem_singleton.mp hz]
      exact ⟨tab_P hc hbv, potP_set hc hym hqm⟩
  · obtain ⟨s8, s9, s10, zs, hz1, hz2, rfl⟩ := iv
    refine (ss_freeze 7 (ss_cons (s_forL h (it_list (xs := zs) (T := oddT) (e_var h 7)) (fun pre G1 => ∃ s10 s11, G1 = [.v (scrT xs), .v (plainT c), .v (nT wide), .v (nbT c), .v (cT C c), .v (tblT (c.tab (drR xs c))), .v (brsT CB (c.tab c.best) c.hsB), .v (lstT (zs.map oddT)), s8, s9, s10, s11]) ⟨_, _, rfl⟩ (fun pre z post G1 e iv => ?_) (fun G1 iv => ?_))))
    · obtain ⟨s10, s11, rfl⟩ := iv
      obtain ⟨g1, g2⟩ := hz1 z (by rw [e]; simp)
      refine ⟨_, _, (tg_tup h (tgs_cons (tg_name h 11) (tgs_cons (tg_name h 10) tgs_nil))), ?_⟩
      refine (ss_ifNo (eb_neB (e_meth h cl D10 (ShA.mk c z.1 z.2) (e_make h D16 (tblT z.1, tupT (z.2.map fracT)) (ea_cons (e_var h 11) (ea_cons (e_var h 10) ea_nil)) trivial rfl) (ea_cons (e_var h 4) (ea_cons (e_var h 3) ea_nil)) ⟨hc, g1, g2⟩ rfl) (e_c4 h D11 (ShA.mk c z.1 z.2) (e_var h 1) (e_var h 3) (e_var h 11) (e_var h 10) ⟨hc, g1, g2⟩)) ?_ (decide_eq_false fun z => z rfl))
      exact (ss_nil ⟨_, _, rfl⟩)
    · obtain ⟨s10, s11, rfl⟩ := iv
      exact (ss_one (s_ret e_bl Sub.rfl))
end
end JL

set_option Elab.async false
set_option linter.all false
set_option maxRecDepth 100000
set_option maxHeartbeats 0
set_option autoImplicit false
/-! The head: what the top has written, by one kernel run. -/
namespace JL
open PySem PySem.Spec PyProof.Rows L2
abbrev hR : PySem.W.OpenRow := PySem.W.OpenLaw.row PySem.Challenge.rw_joinline_k31_whole_neighbours
abbrev hq : Program := PySem.W.view hR.prog [90]
def dTop (x : Str) (i : Nat) : He.DefD := ⟨(x, none), x, x, defArgs (topS i), defBody (topS i), defScope (topS i), [], []⟩
def dMet (c m q : Str) (i j : Nat) : He.DefD := ⟨(c, some m), m, q, defArgs (inClass (topS i) j), defBody (inClass (topS i) j), defScope (inClass (topS i) j), [], []⟩
def hNames0 : List PySem.Str := ["__name__", "LineError", "BadCounter", "BadNeighbour", "BadRoute", "TooLarge", "NONE", "ONE", "lowest", "plus", "minus", "times", "over", "is_less", "total", "solved", "MAX_ROOM", "MAX_COME", "MAX_SERVE", "MAX_COST", "MAX_KINDS", "MAX_PART", "MAX_GAIN", "TENTHS", "is_integer", "is_kind", "Counter", "check_counter", "wait_of", "own_gain"]
def hNames1 : List PySem.Str := ["MAX_PAIRS", "AWAY", "HERE", "THERE", "check_neighbour", "check_few", "pairs_of", "joined_by", "choices_at", "is_route", "check_route", "served_there", "line_after", "seen_after", "waiting", "own_there", "own_choice", "own_route", "Routing", "gain_by", "best_choice", "after_seen", "BestRoute", "worth_by", "improved", "best_route", "route_worth", "best_route_worth", "_law_cell_at", "_law_pick"]
def hNames2 : List PySem.Str := ["_law_low", "_law_plus", "_law_times", "_law_minus", "_law_less", "_law_sum", "_law_over", "_law_counter", "_law_chances", "_law_nobody", "_law_solved", "_law_long", "_law_seen", "_law_own", "_law_spots", "_law_able", "_law_after", "_law_both", "_law_paid", "_law_route_worth", "_law_greatest", "_law_bounding", "_law_is_route", "_law_right", "_law_own_route", "_law_drawn"]
def hNames : List PySem.Str := hNames0 ++ hNames1 ++ hNames2
def hFa0 : List He.Fa := [.free "abs", .free "len", .free "range", .free "next", .free "zip", .free "isinstance", .free "int", .free "bool", .free "tuple", .free "all", .free "any", .free "sum", .free "list", .free "enumerate", .free "dict", .free "iter", .int "TENTHS" 10, .int "AWAY" 0, .int "HERE" 1, .int "THERE" 2, .int "MAX_PAIRS" 12, .int "MAX_ROOM" 6, .int "MAX_COME" 9, .int "MAX_SERVE" 10, .int "MAX_COST" 9, .int "MAX_KINDS" 3, .int "MAX_PART" 6, .int "MAX_GAIN" 60, .glo "lowest", .glo "plus"]
def hFa1 : List He.Fa := [.glo "minus", .glo "times", .glo "over", .glo "is_less", .glo "total", .glo "solved", .glo "is_integer", .glo "is_kind", .glo "check_counter", .glo "wait_of", .glo "own_gain", .glo "check_neighbour", .glo "check_few", .glo "pairs_of", .glo "joined_by", .glo "choices_at", .glo "is_route", .glo "check_route", .glo "served_there", .glo "line_after", .glo "seen_after", .glo "waiting", .glo "own_there", .glo "own_choice", .glo "own_route", .glo "gain_by", .glo "best_choice", .glo "after_seen", .glo "worth_by", .glo "improved"]
def hFa2 : List He.Fa := [.glo "best_route", .glo "route_worth", .glo "best_route_worth", .glo "_law_cell_at", .glo "_law_pick", .glo "_law_low", .glo "_law_plus", .glo "_law_times", .glo "_law_minus", .glo "_law_less", .glo "_law_sum", .glo "_law_over", .glo "_law_counter", .glo "_law_chances", .glo "_law_nobody", .glo "_law_solved", .glo "_law_long", .glo "_law_seen", .glo "_law_own", .glo "_law_spots", .glo "_law_able", .glo "_law_after", .glo "_law_both", .glo "_law_paid", .glo "_law_route_worth", .glo "_law_greatest", .glo "_law_bounding", .glo "_law_is_route", .glo "_law_right", .glo "_law_own_route"]
def hFa3 : List He.Fa := [.glo "_law_drawn", .glo "law", .glo "NONE", .glo "ONE", .glo "Counter", .glo "Routing", .glo "BestRoute", .meth "Counter" "__len__", .meth "Counter" "served", .meth "Counter" "chances", .meth "Counter" "nobody", .meth "Routing" "follow", .meth "Routing" "solution", .meth "BestRoute" "__iter__", .meth "BestRoute" "shows", .mkr "Counter", .mkr "Routing", .mkr "BestRoute", .noat "BestRoute" "__len__", .noat "BestRoute" "__length_hint__"]
def hFa : List He.Fa := hFa0 ++ hFa1 ++ hFa2 ++ hFa3
def hFn0 : List He.DefD := [dTop "lowest" 9, dTop "plus" 10, dTop "minus" 11, dTop "times" 12, dTop "over" 13, dTop "is_less" 14, dTop "total" 15, dTop "solved" 16, dTop "is_integer" 26, dTop "is_kind" 27, dTop "check_counter" 29, dTop "wait_of" 30, dTop "own_gain" 31, dTop "check_neighbour" 37, dTop "check_few" 38, dTop "pairs_of" 39, dTop "joined_by" 40, dTop "choices_at" 41, dTop "is_route" 42, dTop "check_route" 43, dTop "served_there" 44, dTop "line_after" 45, dTop "seen_after" 46, dTop "waiting" 47, dTop "own_there" 48, dTop "own_choice" 49, dTop "own_route" 50, dTop "gain_by" 52, dTop "best_choice" 53, dTop "after_seen" 54]
def hFn1 : List He.DefD := [dTop "worth_by" 56, dTop "improved" 57, dTop "best_route" 58, dTop "route_worth" 59, dTop "best_route_worth" 60, dTop "_law_cell_at" 62, dTop "_law_pick" 63, dTop "_law_low" 64, dTop "_law_plus" 65, dTop "_law_times" 66, dTop "_law_minus" 67, dTop "_law_less" 68, dTop "_law_sum" 69, dTop "_law_over" 70, dTop "_law_counter" 71, dTop "_law_chances" 72, dTop "_law_nobody" 73, dTop "_law_solved" 74, dTop "_law_long" 75, dTop "_law_seen" 76, dTop "_law_own" 77, dTop "_law_spots" 78, dTop "_law_able" 79, dTop "_law_after" 80, dTop "_law_both" 81, dTop "_law_paid" 82, dTop "_law_route_worth" 83, dTop "_law_greatest" 84, dTop "_law_bounding" 85, dTop "_law_is_route" 86]
def hFn2 : List He.DefD := [dTop "_law_right" 87, dTop "_law_own_route" 88, dTop "_law_drawn" 89, dTop "law" 90, dMet "Counter" "__init__" "Counter.__init__" 28 1, dMet "Counter" "__len__" "Counter.__len__" 28 6, dMet "Counter" "served" "Counter.served" 28 9, dMet "Counter" "chances" "Counter.chances" 28 10, dMet "Counter" "nobody" "Counter.nobody" 28 11, dMet "Routing" "__init__" "Routing.__init__" 51 1, dMet "Routing" "follow" "Routing.follow" 51 2, dMet "Routing" "solution" "Routing.solution" 51 3, dMet "BestRoute" "__init__" "BestRoute.__init__" 55 1, dMet "BestRoute" "__iter__" "BestRoute.__iter__" 55 3, dMet "BestRoute" "shows" "BestRoute.shows" 55 4]
def hFn : List He.DefD := hFn0 ++ hFn1 ++ hFn2
def slotB (K : PySem.W.Frag) (C : Addr) (f : Str) (i : Nat) : Bool := He.eqO (PySem.W.findIn K (.ref C) f) (some (some (.ref (He.ma K C f)))) && (He.eqO (PySem.W.specialIn K (.ref (He.ma K C f)) "__get__") (some (some (.builtin "member_descriptor.__get__"))) && (decide (PySem.W.takesIn K (.ref (He.ma K C f)) = some true) && (decide (PySem.W.typeIn K (.ref (He.ma K C f)) = some (.type "member_descriptor")) && decide (PySem.W.slotIn K (He.ma K C f) C = some i))))
def slotsB (K : PySem.W.Frag) (C : Addr) : List Str → Nat → Bool
  | [], _ => true
  | f :: fs, i => slotB K C f i && slotsB K C fs (i + 1)
def sclB (K : PySem.W.Frag) (C : Addr) : Bool := PySem.W.plainGet K C Str.empty && (PySem.W.isClsIn K C && (PySem.W.plainOver K C && He.eqO (PySem.W.findIn K (.ref C) "__setattr__") (some (some (.builtin "object.__setattr__")))))
def isiB (K : PySem.W.Frag) (C : Addr) : Bool := He.eqO (PySem.W.findIn K (.ref C) "__class__") (some (some (.builtin "object.__class__"))) && (He.eqO (PySem.W.specialIn K (.builtin "object.__class__") "__get__") (some (some (.builtin "getset_descriptor.__get__"))) && (decide (PySem.W.takesIn K (.builtin "object.__class__") = some true) && decide (PySem.W.mroIn K C (.type "object") = some true)))
def clsB (K : PySem.W.Frag) (x : Str) (fs : List Str) : Bool := sclB K (He.ga K x) && slotsB K (He.ga K x) fs 0
def hEx (K : PySem.W.Frag) : Bool := clsB K "Counter" ["most", "price", "rates", "rows"] && (clsB K "Routing" ["choices", "counter", "neighbour", "spots"] && (clsB K "BestRoute" ["potentials", "route"] && (isiB K (He.ga K "Counter") && (decide (PySem.W.kitOne K (.type "int") (.type "bool") = some false) && (He.tupB K "NONE" [.int 0, .int 1] && (He.tupB K "ONE" [.int 1, .int 1]))))))
def hTf : List He.Defn := [("solved", none)]
/-- what these objects name -/
def lv (g : Addr → Option Obj) (as : List Addr) : List Addr := as.flatMap fun a => match g a with
  | some o => He.refsD o
  | none => []
/-- the module's names, four steps deep -/
def asL (g : Addr → Option Obj) : List Addr := mainGlobals :: (lv g [mainGlobals] ++ (lv g (lv g [mainGlobals]) ++ (lv g (lv g (lv g [mainGlobals])) ++ lv g (lv g (lv g (lv g [mainGlobals]))))))
def obsY (g : Addr → Option Obj) : He.AlX := (He.obsT hFa hFn [] (He.frT g (asL g)), hEx (He.frT g (asL g)) && He.tabsB g hTf (He.frT g (asL g)))
theorem saysY {w : World} {h : Heap} (e : obsY h.get? = He.valX hFn [] w) : He.SaysX hFa hFn [] hTf hEx w h (He.frT h.get? (asL h.get?)) := by
  have e2 : (hEx (He.frT h.get? (asL h.get?)) && He.tabsB h.get? hTf (He.frT h.get? (asL h.get?))) = true := congrArg (fun z : He.AlX => z.2) e
  obtain ⟨h1, h2⟩ := He.ba e2
  have t : ∀ p ∈ hTf, PySem.W.codeHdIn (He.frT h.get? (asL h.get?)) (He.cT (He.frT h.get? (asL h.get?)) p).1 (He.cT (He.frT h.get? (asL h.get?)) p).2 = true ∧ ∃ o, h.get? (He.cT (He.frT h.get? (asL h.get?)) p).2 = some o ∧ He.emptyTab o = true := fun p hp => by
    obtain ⟨h3, h4⟩ := He.ba (List.all_eq_true.mp h2 p hp)
    refine ⟨h3, ?_⟩
    split at h4
    · exact ⟨_, by assumption, h4⟩
    · cases h4
  exact ⟨congrArg (fun z : He.AlX => z.1) e, h1, fun p hp => (t p hp).1, fun p hp => let ⟨_, _, q, z⟩ := t p hp; He.frT_none q z, fun p hp => let ⟨_, _, q, z⟩ := t p hp; by rw [q, He.emptyTab_eq z]⟩
def hk : PySem.W.Hook where
  α := He.AlX
  obs := fun s => obsY s.heap.get?
  val := fun w => He.valX hFn [] w
  says := fun w h => ∃ K : PySem.W.Frag, K.In h ∧ He.SaysX hFa hFn [] hTf hEx w h K
  of := fun _ _ e => ⟨_, He.frT_in, saysY e⟩
  keeps := fun _ _ _ ⟨K, hK, c⟩ k => ⟨K, PySem.W.Frag.In.keeps hK k, c.t, c.more, c.hd, c.out, fun p hp => k _ _ (c.empty p hp)⟩
def hOb (s : PySem.W.SharedT) : He.AlX := obsY (HandSHeadRun.getT s)
theorem hOb_eq (s : PySem.W.SharedT) : hOb s = hk.obs s.abs := congrArg obsY (funext fun a => HandSHeadRun.getT_eq s a)
theorem hRun (w : World) : HandSHeadRun.RunEq hR hq hk hOb 20000 hNames w := by
  intro os
  kernel_rfl
end JL

set_option Elab.async false
set_option linter.all false
set_option maxRecDepth 100000
set_option maxHeartbeats 4000000
set_option autoImplicit false
/-! Each def's promise from where it stands. -/
namespace JL
open PySem PySem.Spec PyProof.Rows L2
def DefT (ev : Ev) (x : Str) (i : Nat) : Prop := ∃ (f : Addr) (fd : FuncData), ev.mg x = some (.ref f) ∧ L2.Fun ev.K x x (topS i) f fd
def DefM (ev : Ev) (C : Addr) (m q : Str) (i j : Nat) : Prop := ∃ (g : Addr) (fd : FuncData), Meth ev.K C m g ∧ L2.Fun ev.K m q (inClass (topS i) j) g fd
def DefI (ev : Ev) (x : Str) (C : Addr) (q : Str) (i j : Nat) : Prop := ∃ (g : Addr) (fd : FuncData), ev.mg x = some (.ref C) ∧ Mk ev.K C g ∧ L2.Fun ev.K "__init__" q (inClass (topS i) j) g fd
section
variable {ev : Ev} {tb : List Addr} {N ps : List Str} {sc : Scope} {k : Nat} {α : Type} {A : α → List Ty} {pre : α → Prop}
theorem ok_def {x : Str} {i : Nat} {R : α → Ty} (F : DefT ev x i) (S : FnScope N ps sc) (hsc : defScope (topS i) = sc) (hA : ∀ a, pre a → (A a).length = ps.length) (hbi : ∀ {K : PySem.W.Frag} {f : Addr} {fd : FuncData}, L2.Fun K x x (topS i) f fd → Binds K fd ps [])
    (hb : ∀ X : Cx, evX X = ev → CxD X N sc k → (∀ x, X.fn x = true) → ∀ a, pre a → SS tb X ((A a).map .v ++ List.replicate (N.length - (A a).length) .no) (defBody (topS i)) ⟨fun _ => Sub noneT (R a), fun T => Sub T (R a), fun _ => False, fun _ => False⟩) : DefOk ev tb x (k + 1) A pre R := by
  obtain ⟨f, fd, hm, F⟩ := F
  exact defOk_of hm F.kp (hbi F) (fn_pure F S hsc hA hb)
theorem ok_defC {x : Str} {i : Nat} {R : α → Ty} {c : Addr} (F : ∃ (f : Addr) (fd : FuncData), ev.mg x = some (.ref f) ∧ L2.Fun ev.K x x (topS i) f fd ∧ fd.code = .ref c) (S : FnScope N ps sc) (hsc : defScope (topS i) = sc) (hA : ∀ a, pre a → (A a).length = ps.length) (hbi : ∀ {K : PySem.W.Frag} {f : Addr} {fd : FuncData}, L2.Fun K x x (topS i) f fd → Binds K fd ps [])
    (hb : ∀ X : Cx, evX X = ev → CxD X N sc k → (∀ x, X.fn x = true) → X.env.code = .ref c → ∀ a, pre a → SS tb X ((A a).map .v ++ List.replicate (N.length - (A a).length) .no) (defBody (topS i)) ⟨fun _ => Sub noneT (R a), fun T => Sub T (R a), fun _ => False, fun _ => False⟩) : DefOk ev tb x (k + 1) A pre R := by
  obtain ⟨f, fd, hm, F, e⟩ := F
  exact defOk_of hm F.kp (hbi F) (fn_pureC F S hsc hA fun X e1 h hf h2 => hb X e1 h hf (h2.trans e))
theorem ok_meth {C : Addr} {m q : Str} {i j : Nat} {R : α → Ty} (F : DefM ev C m q i j) (S : FnScope N ps sc) (hsc : defScope (inClass (topS i) j) = sc) (hA : ∀ a, pre a → (A a).length = ps.length) (hbi : ∀ {K : PySem.W.Frag} {f : Addr} {fd : FuncData}, L2.Fun K m q (inClass (topS i) j) f fd → Binds K fd ps [])
    (hb : ∀ X : Cx, evX X = ev → CxD X N sc k → (∀ x, X.fn x = true) → ∀ a, pre a → SS tb X ((A a).map .v ++ List.replicate (N.length - (A a).length) .no) (defBody (inClass (topS i) j)) ⟨fun _ => Sub noneT (R a), fun T => Sub T (R a), fun _ => False, fun _ => False⟩) : MethOk ev tb C m (k + 1) A pre R := by
  obtain ⟨g, fd, hm, F⟩ := F
  exact ⟨g, fd, ps, hm, hbi F, fn_pure F S hsc hA hb⟩
theorem ok_init {x : Str} {C : Addr} {q : Str} {i j : Nat} {R : α → List Ty} (F : DefI ev x C q i j) (S : FnScope N ps sc) (hsc : defScope (inClass (topS i) j) = sc) (hA : ∀ a, pre a → (A a).length + 1 = ps.length) (hbi : ∀ {K : PySem.W.Frag} {f : Addr} {fd : FuncData}, L2.Fun K "__init__" q (inClass (topS i) j) f fd → Binds K fd ps [])
    (hb : ∀ X : Cx, evX X = ev → CxD X N sc k → (∀ x, X.fn x = true) → ∀ a, pre a → SI tb X ((anyT :: A a).map .v ++ List.replicate (N.length - ((A a).length + 1)) .no) C [] (defBody (inClass (topS i) j)) (R a)) : MakeOk ev tb x C (k + 1) A pre R := by
  obtain ⟨g, fd, hm, hk, F⟩ := F
  exact ⟨g, fd, ps, hm, hk, hbi F, fn_init F S hsc hA hb⟩
end
section
variable {ev : Ev} {tb : List Addr} {C R CB : Addr}
theorem k9 (F : DefT ev "lowest" 9) (T : Tx ev) : Ok_lowest ev tb := ok_def F fs9 rfl (fun _ _ => rfl) (fun F => F.binds fun _ _ _ _ _ _ us hl => match us, hl with | [_, _], _ => rfl) (fun X e h hf p hp => by subst e; exact (b9 h T p.1 p.2 hp).mono (fun _ h => h.elim) (fun _ h => h) (fun _ h => h) (fun _ h => h))
theorem k10 (F : DefT ev "plus" 10) (D_lowest : Ok_lowest ev tb) : Ok_plus ev tb := ok_def F fs10 rfl (fun _ _ => rfl) (fun F => F.binds fun _ _ _ _ _ _ us hl => match us, hl with | [_, _], _ => rfl) (fun X e h hf p hp => by subst e; exact (b10 h (by decide) D_lowest p.1 p.2 hp).mono (fun _ h => h.elim) (fun _ h => h) (fun _ h => h) (fun _ h => h))
theorem k11 (F : DefT ev "minus" 11) (D_lowest : Ok_lowest ev tb) : Ok_minus ev tb := ok_def F fs11 rfl (fun _ _ => rfl) (fun F => F.binds fun _ _ _ _ _ _ us hl => match us, hl with | [_, _], _ => rfl) (fun X e h hf p hp => by subst e; exact (b11 h (by decide) D_lowest p.1 p.2 hp).mono (fun _ h => h.elim) (fun _ h => h) (fun _ h => h) (fun _ h => h))
theorem k12 (F : DefT ev "times" 12) (D_lowest : Ok_lowest ev tb) : Ok_times ev tb := ok_def F fs12 rfl (fun _ _ => rfl) (fun F => F.binds fun _ _ _ _ _ _ us hl => match us, hl with | [_, _], _ => rfl) (fun X e h hf p hp => by subst e; exact (b12 h (by decide) D_lowest p.1 p.2 hp).mono (fun _ h => h.elim) (fun _ h => h) (fun _ h => h) (fun _ h => h))
theorem k13 (F : DefT ev "over" 13) (D_lowest : Ok_lowest ev tb) : Ok_over ev tb := ok_def F fs13 rfl (fun _ _ => rfl) (fun F => F.binds fun _ _ _ _ _ _ us hl => match us, hl with | [_, _], _ => rfl) (fun X e h hf p hp => by subst e; exact (b13 h (by decide) D_lowest p.1 p.2 hp.1 hp.2).mono (fun _ h => h.elim) (fun _ h => h) (fun _ h => h) (fun _ h => h))
theorem k14 (F : DefT ev "is_less" 14)  : Ok_is_less ev tb := ok_def F fs14 rfl (fun _ _ => rfl) (fun F => F.binds fun _ _ _ _ _ _ us hl => match us, hl with | [_, _], _ => rfl) (fun X e h hf p hp => by subst e; exact (b14 h p.1 p.2 hp).mono (fun _ h => h.elim) (fun _ h => h) (fun _ h => h) (fun _ h => h))
theorem k15 (F : DefT ev "total" 15) (T : Tx ev) (D_plus : Ok_plus ev tb) : Ok_total ev tb := ok_def F fs15 rfl (fun _ _ => rfl) (fun F => F.binds fun _ _ _ _ _ _ us hl => match us, hl with | [_], _ => rfl) (fun X e h hf p hp => by subst e; exact (b15 h (by decide) T D_plus p hp).mono (fun _ h => h.elim) (fun _ h => h) (fun _ h => h) (fun _ h => h))
theorem k26 (F : DefT ev "is_integer" 26) (P : Px ev C) : Ok_is_integer ev tb := ok_def F fs26 rfl (fun _ _ => rfl) (fun F => F.binds fun _ _ _ _ _ _ us hl => match us, hl with | [_, _, _], _ => rfl) (fun X e h hf p hp => by subst e; exact (b26 h P p.1 p.2.1 p.2.2).mono (fun _ h => h.elim) (fun _ h => h) (fun _ h => h) (fun _ h => h))
theorem k27 (F : DefT ev "is_kind" 27) (P : Px ev C) (D : Ok_is_integer ev tb) : Ok_is_kind ev tb := ok_def F fs27 rfl (fun _ _ => rfl) (fun F => F.binds fun _ _ _ _ _ _ us hl => match us, hl with | [_], _ => rfl) (fun X e h hf p hp => by subst e; exact (b27 h (by decide) P D p hp).mono (fun _ h => h.elim) (fun _ h => h) (fun _ h => h) (fun _ h => h))
theorem k28_6 (F : DefM ev C "__len__" "Counter.__len__" 28 6) (P : Px ev C) : Ok_clen ev tb C := ok_meth F fs28_6 rfl (fun _ _ => rfl) (fun F => F.binds fun _ _ _ _ _ _ us hl => match us, hl with | [_], _ => rfl) (fun X e h hf p hp => by subst e; exact (b28_6 h P p).mono (fun _ h => h.elim) (fun _ h => h) (fun _ h => h) (fun _ h => h))
theorem k28_9 (F : DefM ev C "served" "Counter.served" 28 9) (P : Px ev C) (D_lowest : Ok_lowest ev tb) : Ok_served ev tb C := ok_meth F fs28_9 rfl (fun _ _ => rfl) (fun F => F.binds fun _ _ _ _ _ _ us hl => match us, hl with | [_], _ => rfl) (fun X e h hf p hp => by subst e; exact (b28_9 h (by decide) P D_lowest p hp).mono (fun _ h => h.elim) (fun _ h => h) (fun _ h => h) (fun _ h => h))
theorem k28_10 (F : DefM ev C "chances" "Counter.chances" 28 10) (P : Px ev C) (D_lowest : Ok_lowest ev tb) : Ok_chances ev tb C := ok_meth F fs28_10 rfl (fun _ _ => rfl) (fun F => F.binds fun _ _ _ _ _ _ us hl => match us, hl with | [_], _ => rfl) (fun X e h hf p hp => by subst e; exact (b28_10 h hf (by decide) P D_lowest p hp).mono (fun _ h => h.elim) (fun _ h => h) (fun _ h => h) (fun _ h => h))
theorem k28_11 (F : DefM ev C "nobody" "Counter.nobody" 28 11) (P : Px ev C) (D_lowest : Ok_lowest ev tb) (D_minus : Ok_minus ev tb) : Ok_nobody ev tb C := ok_meth F fs28_11 rfl (fun _ _ => rfl) (fun F => F.binds fun _ _ _ _ _ _ us hl => match us, hl with | [_], _ => rfl) (fun X e h hf p hp => by subst e; exact (b28_11 h (by decide) P D_lowest D_minus p hp).mono (fun _ h => h.elim) (fun _ h => h) (fun _ h => h) (fun _ h => h))
theorem k28_1 (F : DefI ev "Counter" C "Counter.__init__" 28 1) (P : Px ev C) (D1 : Ok_is_integer ev tb) (D2 : Ok_is_kind ev tb) : Mk_Counter ev tb C := ok_init F fs28_1 rfl (fun _ _ => rfl) (fun F => F.binds fun _ _ _ _ _ _ us hl => match us, hl with | [_, _, _, _, _], _ => rfl) (fun X e h hf p hp => by subst e; exact b28_1 h (by decide) P D1 D2 p hp)
theorem k29 (F : DefT ev "check_counter" 29) (P : Px ev C) : Ok_check_counter ev tb C := ok_def F fs29 rfl (fun _ _ => rfl) (fun F => F.binds fun _ _ _ _ _ _ us hl => match us, hl with | [_], _ => rfl) (fun X e h hf p hp => by subst e; exact (b29 h P p).mono (fun _ _ => Sub.rfl) (fun _ h => h) (fun _ h => h) (fun _ h => h))
theorem k30 (F : DefT ev "wait_of" 30) (P : Px ev C) (D_times : Ok_times ev tb) (D_over : Ok_over ev tb) (D2 : Ok_served ev tb C) : Ok_wait_of ev tb C := ok_def F fs30 rfl (fun _ _ => rfl) (fun F => F.binds fun _ _ _ _ _ _ us hl => match us, hl with | [_, _], _ => rfl) (fun X e h hf p hp => by subst e; exact (b30 h (by decide) P D_times D_over D2 p.1 hp.1 p.2 hp.2).mono (fun _ h => h.elim) (fun _ h => h) (fun _ h => h) (fun _ h => h))
theorem k31 (F : DefT ev "own_gain" 31) (P : Px ev C) (D_minus : Ok_minus ev tb) (D1 : Ok_wait_of ev tb C) : Ok_own_gain ev tb C := ok_def F fs31 rfl (fun _ _ => rfl) (fun F => F.binds fun _ _ _ _ _ _ us hl => match us, hl with | [_, _, _], _ => rfl) (fun X e h hf p hp => by subst e; exact (b31 h (by decide) P D_minus D1 p.1 hp.1 p.2.1 p.2.2 hp.2.1 hp.2.2).mono (fun _ h => h.elim) (fun _ h => h) (fun _ h => h) (fun _ h => h))
theorem k37 (F : DefT ev "check_neighbour" 37) (P : Px ev C) (D1 : Ok_check_counter ev tb C) (D2 : Ok_is_integer ev tb) : Ok_check_neighbour ev tb C := ok_def F fs37 rfl (fun _ _ => rfl) (fun F => F.binds fun _ _ _ _ _ _ us hl => match us, hl with | [_, _], _ => rfl) (fun X e h hf p hp => by subst e; exact (b37 h (by decide) P D1 D2 p hp).mono (fun _ _ => Sub.rfl) (fun _ h => h) (fun _ h => h) (fun _ h => h))
theorem k38 (F : DefT ev "check_few" 38) (P : Px ev C) : Ok_check_few ev tb C := ok_def F fs38 rfl (fun _ _ => rfl) (fun F => F.binds fun _ _ _ _ _ _ us hl => match us, hl with | [_, _], _ => rfl) (fun X e h hf p hp => by subst e; exact (b38 h P p hp).mono (fun _ _ => Sub.rfl) (fun _ h => h) (fun _ h => h) (fun _ h => h))
theorem k39 (F : DefT ev "pairs_of" 39) (P : Px ev C) : Ok_pairs_of ev tb C := ok_def F fs39 rfl (fun _ _ => rfl) (fun F => F.binds fun _ _ _ _ _ _ us hl => match us, hl with | [_, _], _ => rfl) (fun X e h hf p hp => by subst e; exact (b39 h P p hp).mono (fun _ h => h.elim) (fun _ h => h) (fun _ h => h) (fun _ h => h))
theorem k40 (F : DefT ev "joined_by" 40) (P : Px ev C) : Ok_joined_by ev tb := ok_def F fs40 rfl (fun _ _ => rfl) (fun F => F.binds fun _ _ _ _ _ _ us hl => match us, hl with | [_, _], _ => rfl) (fun X e h hf p hp => by subst e; exact (b40 h P p.1 p.2).mono (fun _ h => h.elim) (fun _ h => h) (fun _ h => h) (fun _ h => h))
theorem k41 (F : DefT ev "choices_at" 41) (P : Px ev C) : Ok_choices_at ev tb C := ok_def F fs41 rfl (fun _ _ => rfl) (fun F => F.binds fun _ _ _ _ _ _ us hl => match us, hl with | [_, _, _], _ => rfl) (fun X e h hf p hp => by subst e; exact (b41 h P p.1 p.2).mono (fun _ h => h.elim) (fun _ h => h) (fun _ h => h) (fun _ h => h))
theorem k42 (F : DefT ev "is_route" 42) (P : Px ev C) (D1 : Ok_pairs_of ev tb C) (D2 : Ok_clen ev tb C) (D3 : Ok_is_integer ev tb) (D4 : Ok_choices_at ev tb C) : Ok_is_route ev tb C := ok_def F fs42 rfl (fun _ _ => rfl) (fun F => F.binds fun _ _ _ _ _ _ us hl => match us, hl with | [_, _, _], _ => rfl) (fun X e h hf p hp => by subst e; exact (b42 h hf (by decide) P D1 D2 D3 D4 p.1 hp.1 p.2 hp.2).mono (fun _ h => h.elim) (fun _ h => h) (fun _ h => h) (fun _ h => h))
theorem k43 (F : DefT ev "check_route" 43) (D1 : Ok_check_neighbour ev tb C) (D2 : Ok_is_route ev tb C) : Ok_check_route ev tb C := ok_def F fs43 rfl (fun _ _ => rfl) (fun F => F.binds fun _ _ _ _ _ _ us hl => match us, hl with | [_, _, _], _ => rfl) (fun X e h hf p hp => by subst e; exact (b43 h (by decide) D1 D2 p.c hp.1 p.r hp.2).mono (fun _ _ => Sub.rfl) (fun _ h => h) (fun _ h => h) (fun _ h => h))
theorem k44 (F : DefT ev "served_there" 44) (P : Px ev C) (D_lowest : Ok_lowest ev tb) : Ok_served_there ev tb := ok_def F fs44 rfl (fun _ _ => rfl) (fun F => F.binds fun _ _ _ _ _ _ us hl => match us, hl with | [_], _ => rfl) (fun X e h hf p hp => by subst e; exact (b44 h (by decide) P D_lowest p hp).mono (fun _ h => h.elim) (fun _ h => h) (fun _ h => h) (fun _ h => h))
theorem k45 (F : DefT ev "line_after" 45) (P : Px ev C) (D_minus : Ok_minus ev tb) : Ok_line_after ev tb := ok_def F fs45 rfl (fun _ _ => rfl) (fun F => F.binds fun _ _ _ _ _ _ us hl => match us, hl with | [_, _], _ => rfl) (fun X e h hf p hp => by subst e; exact (b45 h (by decide) P D_minus p.1 p.2 hp).mono (fun _ h => h.elim) (fun _ h => h) (fun _ h => h) (fun _ h => h))
theorem k46 (F : DefT ev "seen_after" 46) (P : Px ev C) (D1 : Ok_line_after ev tb) (D2 : Ok_served ev tb C) (D3 : Ok_served_there ev tb) (D_times : Ok_times ev tb) : Ok_seen_after ev tb C := ok_def F fs46 rfl (fun _ _ => rfl) (fun F => F.binds fun _ _ _ _ _ _ us hl => match us, hl with | [_, _, _], _ => rfl) (fun X e h hf p hp => by subst e; exact (b46 h hf (by decide) P D1 D2 D3 D_times p.1 hp p.2).mono (fun _ h => h.elim) (fun _ h => h) (fun _ h => h) (fun _ h => h))
theorem k47 (F : DefT ev "waiting" 47) (P : Px ev C) : Ok_waiting ev tb C := ok_def F fs47 rfl (fun _ _ => rfl) (fun F => F.binds fun _ _ _ _ _ _ us hl => match us, hl with | [_, _], _ => rfl) (fun X e h hf p hp => by subst e; exact (b47 h P p.1 hp.1 p.2 hp.2.1 hp.2.2).mono (fun _ h => h.elim) (fun _ h => h) (fun _ h => h) (fun _ h => h))
theorem k48 (F : DefT ev "own_there" 48) (P : Px ev C) (D_minus : Ok_minus ev tb) (D_over : Ok_over ev tb) (D3 : Ok_served_there ev tb) : Ok_own_there ev tb C := ok_def F fs48 rfl (fun _ _ => rfl) (fun F => F.binds fun _ _ _ _ _ _ us hl => match us, hl with | [_, _, _, _], _ => rfl) (fun X e h hf p hp => by subst e; exact (b48 h (by decide) P D_minus D_over D3 p.1 hp.1 p.2.1 p.2.2 hp.2.1 hp.2.2).mono (fun _ h => h.elim) (fun _ h => h) (fun _ h => h) (fun _ h => h))
theorem k49 (F : DefT ev "own_choice" 49) (P : Px ev C) (D_less : Ok_is_less ev tb) (D1 : Ok_own_gain ev tb C) (D2 : Ok_own_there ev tb C) : Ok_own_choice ev tb C := ok_def F fs49 rfl (fun _ _ => rfl) (fun F => F.binds fun _ _ _ _ _ _ us hl => match us, hl with | [_, _, _, _], _ => rfl) (fun X e h hf p hp => by subst e; exact (b49 h (by decide) P D_less D1 D2 p.1 hp.1 p.2.1 p.2.2 hp.2.1 hp.2.2).mono (fun _ h => h.elim) (fun _ h => h) (fun _ h => h) (fun _ h => h))
theorem k50 (F : DefT ev "own_route" 50) (P : Px ev C) (D1 : Ok_check_neighbour ev tb C) (D2 : Ok_clen ev tb C) (D3 : Ok_pairs_of ev tb C) (D4 : Ok_own_choice ev tb C) : Ok_own_route ev tb C := ok_def F fs50 rfl (fun _ _ => rfl) (fun F => F.binds fun _ _ _ _ _ _ us hl => match us, hl with | [_, _], _ => rfl) (fun X e h hf p hp => by subst e; exact (b50 h hf (by decide) P D1 D2 D3 D4 p hp).mono (fun _ h => h.elim) (fun _ h => h) (fun _ h => h) (fun _ h => h))
theorem k51_1 (F : DefI ev "Routing" R "Routing.__init__" 51 1) (P : Px ev C) (Q : Qx ev R) (D : Ok_pairs_of ev tb C) : Mk_Routing ev tb R C := ok_init F fs51_1 rfl (fun _ _ => rfl) (fun F => F.binds fun _ _ _ _ _ _ us hl => match us, hl with | [_, _, _, _], _ => rfl) (fun X e h hf p hp => by subst e; exact b51_1 h (by decide) P Q D p.1 hp.1 p.2 hp.2)
theorem k51_2 (F : DefM ev R "follow" "Routing.follow" 51 2) (P : Px ev C) (Q : Qx ev R) (D1 : Ok_seen_after ev tb C) (D2 : Ok_nobody ev tb C) (D3 : Ok_chances ev tb C) (D4 : Ok_joined_by ev tb) (D5 : Ok_waiting ev tb C) (D_plus : Ok_plus ev tb) (D_minus : Ok_minus ev tb) (D_times : Ok_times ev tb) : Ok_follow ev tb R C := ok_meth F fs51_2 rfl (fun _ _ => rfl) (fun F => F.binds fun _ _ _ _ _ _ us hl => match us, hl with | [_, _], _ => rfl) (fun X e h hf p hp => by subst e; exact (b51_2 h (by decide) P Q D1 D2 D3 D4 D5 D_plus D_minus D_times p.c hp.1 p.r hp.2.1 p.p hp.2.2).mono (fun _ h => h.elim) (fun _ h => h) (fun _ h => h) (fun _ h => h))
theorem k51_3 (F : DefM ev R "solution" "Routing.solution" 51 3) (P : Px ev C) (Q : Qx ev R) (D1 : Ok_follow ev tb R C) (D2 : Ok_solved ev tb) (D_minus : Ok_minus ev tb) : Ok_solution ev tb R C := ok_meth F fs51_3 rfl (fun _ _ => rfl) (fun F => F.binds fun _ _ _ _ _ _ us hl => match us, hl with | [_], _ => rfl) (fun X e h hf p hp => by subst e; exact (b51_3 h hf (by decide) P Q D1 D2 D_minus p.c hp.1 p.r hp.2).mono (fun _ h => h.elim) (fun _ h => h) (fun _ h => h) (fun _ h => h))
theorem k52 (F : DefT ev "gain_by" 52) (P : Px ev C) (D1 : Ok_joined_by ev tb) (D2 : Ok_waiting ev tb C) (D_plus : Ok_plus ev tb) (D_minus : Ok_minus ev tb) : Ok_gain_by ev tb C := ok_def F fs52 rfl (fun _ _ => rfl) (fun F => F.binds fun _ _ _ _ _ _ us hl => match us, hl with | [_, _, _, _], _ => rfl) (fun X e h hf p hp => by subst e; obtain ⟨a1, a2, a3, d, a4⟩ := hp; exact (b52 h (by decide) P D1 D2 D_plus D_minus p.c a1 p.h p.p p.k p.ch a2 a3 a4).mono (fun _ h => h.elim) (fun _ h => h) (fun _ h => h) (fun _ h => h))
theorem k53 (F : DefT ev "best_choice" 53) (P : Px ev C) (D1 : Ok_choices_at ev tb C) (D2 : Ok_gain_by ev tb C) (D_less : Ok_is_less ev tb) : Ok_best_choice ev tb C := ok_def F fs53 rfl (fun _ _ => rfl) (fun F => F.binds fun _ _ _ _ _ _ us hl => match us, hl with | [_, _, _, _, _], _ => rfl) (fun X e h hf p hp => by subst e; obtain ⟨a1, a2, a3, d, a4⟩ := hp; exact (b53 h (by decide) P D1 D2 D_less p.c a1 p.h p.p p.k a2 a3 a4).mono (fun _ h => h.elim) (fun _ h => h) (fun _ h => h) (fun _ h => h))
theorem k54 (F : DefT ev "after_seen" 54) (P : Px ev C) (D1 : Ok_nobody ev tb C) (D2 : Ok_waiting ev tb C) (D3 : Ok_chances ev tb C) (D4 : Ok_best_choice ev tb C) (D5 : Ok_gain_by ev tb C) (D_plus : Ok_plus ev tb) (D_minus : Ok_minus ev tb) (D_times : Ok_times ev tb) : Ok_after_seen ev tb C := ok_def F fs54 rfl (fun _ _ => rfl) (fun F => F.binds fun _ _ _ _ _ _ us hl => match us, hl with | [_, _, _, _], _ => rfl) (fun X e h hf p hp => by subst e; obtain ⟨a1, a2, d, a3⟩ := hp; exact (b54 h (by decide) P D1 D2 D3 D4 D5 D_plus D_minus D_times p.c a1 p.h p.p a2 a3).mono (fun _ h => h.elim) (fun _ h => h) (fun _ h => h) (fun _ h => h))
theorem k55_1 (F : DefI ev "BestRoute" CB "BestRoute.__init__" 55 1) (cl : ClsOk ev.K CB ["potentials", "route"]) : Mk_Best ev tb CB := ok_init F fs55_1 rfl (fun _ _ => rfl) (fun F => F.binds fun _ _ _ _ _ _ us hl => match us, hl with | [_, _, _], _ => rfl) (fun X e h hf p hp => by subst e; exact b55_1 h cl p.1 p.2)
theorem k55_4 (F : DefM ev CB "shows" "BestRoute.shows" 55 4) (P : Px ev C) (cl : ClsOk ev.K CB ["potentials", "route"]) (D1 : Ok_check_neighbour ev tb C) (D2 : Ok_pairs_of ev tb C) (D3 : Ok_is_route ev tb C) (D4 : Ok_worth_by ev tb C) (D5 : Ok_after_seen ev tb C) (D6 : Ok_seen_after ev tb C) (D_less : Ok_is_less ev tb) (D_plus : Ok_plus ev tb) (D_total : Ok_total ev tb) (D_times : Ok_times ev tb) : Ok_shows ev tb C CB := ok_meth F fs55_4 rfl (fun _ _ => rfl) (fun F => F.binds fun _ _ _ _ _ _ us hl => match us, hl with | [_, _, _], _ => rfl) (fun X e h hf p hp => by subst e; exact (b55_4 h hf (by decide) P cl D1 D2 D3 D4 D5 D6 D_less D_plus D_total D_times p.c hp.1 p.xss hp.2.1 p.hs hp.2.2).mono (fun _ h => h.elim) (fun _ h => h) (fun _ h => h) (fun _ h => h))
theorem k56 (F : DefT ev "worth_by" 56) (P : Px ev C) (Q : Qx ev R) (D1 : Mk_Routing ev tb R C) (D2 : Ok_solution ev tb R C) : Ok_worth_by ev tb C := ok_def F fs56 rfl (fun _ _ => rfl) (fun F => F.binds fun _ _ _ _ _ _ us hl => match us, hl with | [_, _, _], _ => rfl) (fun X e h hf p hp => by subst e; exact (b56 h (by decide) P Q D1 D2 p.c hp.1 p.r hp.2).mono (fun _ h => h.elim) (fun _ h => h) (fun _ h => h) (fun _ h => h))
theorem k57 (F : DefT ev "improved" 57) (P : Px ev C) (D1 : Ok_pairs_of ev tb C) (D2 : Ok_best_choice ev tb C) (D3 : Ok_gain_by ev tb C) (D_less : Ok_is_less ev tb) : Ok_improved ev tb C := ok_def F fs57 rfl (fun _ _ => rfl) (fun F => F.binds fun _ _ _ _ _ _ us hl => match us, hl with | [_, _, _, _], _ => rfl) (fun X e h hf p hp => by subst e; obtain ⟨a1, a2, d, a3⟩ := hp; exact (b57 h (by decide) P D1 D2 D3 D_less p.c a1 p.r a2 p.h a3).mono (fun _ h => h.elim) (fun _ h => h) (fun _ h => h) (fun _ h => h))
theorem k58 (F : DefT ev "best_route" 58) (P : Px ev C) (Q : Qx ev R) (D1 : Ok_check_neighbour ev tb C) (D2 : Ok_check_few ev tb C) (D3 : Ok_own_route ev tb C) (D4 : Mk_Routing ev tb R C) (D5 : Ok_solution ev tb R C) (D6 : Ok_improved ev tb C) (D7 : Mk_Best ev tb CB) : Ok_best_route ev tb C CB := ok_def F fs58 rfl (fun _ _ => rfl) (fun F => F.binds fun _ _ _ _ _ _ us hl => match us, hl with | [_, _], _ => rfl) (fun X e h hf p hp => by subst e; exact (b58 h (by decide) P Q D1 D2 D3 D4 D5 D6 D7 p hp).mono (fun _ h => h.elim) (fun _ h => h) (fun _ h => h) (fun _ h => h))
theorem k59 (F : DefT ev "route_worth" 59) (D1 : Ok_check_route ev tb C) (D2 : Ok_check_few ev tb C) (D3 : Ok_worth_by ev tb C) : Ok_route_worth ev tb C := ok_def F fs59 rfl (fun _ _ => rfl) (fun F => F.binds fun _ _ _ _ _ _ us hl => match us, hl with | [_, _, _], _ => rfl) (fun X e h hf p hp => by subst e; exact (b59 h (by decide) D1 D2 D3 p.c hp.1 p.r hp.2).mono (fun _ h => h.elim) (fun _ h => h) (fun _ h => h) (fun _ h => h))
theorem k60 (F : DefT ev "best_route_worth" 60) (cl : ClsOk ev.K CB ["potentials", "route"]) (D1 : Ok_best_route ev tb C CB) (D2 : Ok_worth_by ev tb C) : Ok_best_route_worth ev tb C := ok_def F fs60 rfl (fun _ _ => rfl) (fun F => F.binds fun _ _ _ _ _ _ us hl => match us, hl with | [_, _], _ => rfl) (fun X e h hf p hp => by subst e; exact (b60 h (by decide) cl D1 D2 p hp).mono (fun _ h => h.elim) (fun _ h => h) (fun _ h => h) (fun _ h => h))
theorem k62 (F : DefT ev "_law_cell_at" 62) (T : Tx ev) : Ok_Lcell ev tb := ok_def F fs62 rfl (fun _ _ => rfl) (fun F => F.binds fun _ _ _ _ _ _ us hl => match us, hl with | [_, _], _ => rfl) (fun X e h hf p hp => by subst e; exact (b62 h T p.1 p.2).mono (fun _ h => h.elim) (fun _ h => h) (fun _ h => h) (fun _ h => h))
theorem k63 {β : Type} [Inhabited β] (S : β → Ty) (F : DefT ev "_law_pick" 63) (T : Tx ev) (D : Ok_Lcell ev tb) : Ok_Lpick S ev tb := ok_def F fs63 rfl (fun _ _ => rfl) (fun F => F.binds fun _ _ _ _ _ _ us hl => match us, hl with | [_, _, _], _ => rfl) (fun X e h hf p hp => by subst e; exact (b63 S h (by decide) T D p.xs p.k p.row hp).mono (fun _ h => h.elim) (fun _ h => h) (fun _ h => h) (fun _ h => h))
theorem k64 (F : DefT ev "_law_low" 64) (T : Tx ev) : Ok_lowest ev tb "_law_low" := ok_def F fs64 rfl (fun _ _ => rfl) (fun F => F.binds fun _ _ _ _ _ _ us hl => match us, hl with | [_, _], _ => rfl) (fun X e h hf p hp => by subst e; exact (b64 h T p.1 p.2 hp).mono (fun _ h => h.elim) (fun _ h => h) (fun _ h => h) (fun _ h => h))
theorem k65 (F : DefT ev "_law_plus" 65) (D_lowest : Ok_lowest ev tb "_law_low") : Ok_plus ev tb "_law_plus" := ok_def F fs65 rfl (fun _ _ => rfl) (fun F => F.binds fun _ _ _ _ _ _ us hl => match us, hl with | [_, _], _ => rfl) (fun X e h hf p hp => by subst e; exact (b65 h (by decide) D_lowest p.1 p.2 hp).mono (fun _ h => h.elim) (fun _ h => h) (fun _ h => h) (fun _ h => h))
theorem k66 (F : DefT ev "_law_times" 66) (D_lowest : Ok_lowest ev tb "_law_low") : Ok_times ev tb "_law_times" := ok_def F fs66 rfl (fun _ _ => rfl) (fun F => F.binds fun _ _ _ _ _ _ us hl => match us, hl with | [_, _], _ => rfl) (fun X e h hf p hp => by subst e; exact (b66 h (by decide) D_lowest p.1 p.2 hp).mono (fun _ h => h.elim) (fun _ h => h) (fun _ h => h) (fun _ h => h))
theorem k67 (F : DefT ev "_law_minus" 67) (D_Lplus : Ok_plus ev tb "_law_plus") : Ok_minus ev tb "_law_minus" 3 := ok_def F fs67 rfl (fun _ _ => rfl) (fun F => F.binds fun _ _ _ _ _ _ us hl => match us, hl with | [_, _], _ => rfl) (fun X e h hf p hp => by subst e; exact (b67 h (by decide) D_Lplus p.1 p.2 hp).mono (fun _ h => h.elim) (fun _ h => h) (fun _ h => h) (fun _ h => h))
theorem k68 (F : DefT ev "_law_less" 68)  : Ok_is_less ev tb "_law_less" := ok_def F fs68 rfl (fun _ _ => rfl) (fun F => F.binds fun _ _ _ _ _ _ us hl => match us, hl with | [_, _], _ => rfl) (fun X e h hf p hp => by subst e; exact (b68 h p.1 p.2 hp).mono (fun _ h => h.elim) (fun _ h => h) (fun _ h => h) (fun _ h => h))
theorem k69 (F : DefT ev "_law_sum" 69) (T : Tx ev) (D_Lplus : Ok_plus ev tb "_law_plus") : Ok_total ev tb "_law_sum" := ok_def F fs69 rfl (fun _ _ => rfl) (fun F => F.binds fun _ _ _ _ _ _ us hl => match us, hl with | [_], _ => rfl) (fun X e h hf p hp => by subst e; exact (b69 h (by decide) T D_Lplus p hp).mono (fun _ h => h.elim) (fun _ h => h) (fun _ h => h) (fun _ h => h))
theorem k70 (F : DefT ev "_law_over" 70) (D_lowest : Ok_lowest ev tb "_law_low") : Ok_over ev tb "_law_over" := ok_def F fs70 rfl (fun _ _ => rfl) (fun F => F.binds fun _ _ _ _ _ _ us hl => match us, hl with | [_, _], _ => rfl) (fun X e h hf p hp => by subst e; exact (b70 h (by decide) D_lowest p.1 p.2 hp.1 hp.2).mono (fun _ h => h.elim) (fun _ h => h) (fun _ h => h) (fun _ h => h))
theorem k71 (F : DefT ev "_law_counter" 71) (T : Tx ev) (D : Ok_Lcell ev tb) : Ok_Lcounter ev tb := ok_def F fs71 rfl (fun _ _ => rfl) (fun F => F.binds fun _ _ _ _ _ _ us hl => match us, hl with | [_, _, _], _ => rfl) (fun X e h hf p hp => by subst e; exact (b71 h (by decide) T D p).mono (fun _ h => h.elim) (fun _ h => h) (fun _ h => h) (fun _ h => h))
theorem k72 (F : DefT ev "_law_chances" 72) (T : Tx ev) (D : Ok_lowest ev tb "_law_low") : Ok_Lchances ev tb := ok_def F fs72 rfl (fun _ _ => rfl) (fun F => F.binds fun _ _ _ _ _ _ us hl => match us, hl with | [_], _ => rfl) (fun X e h hf p hp => by subst e; exact (b72 h hf (by decide) T D p hp).mono (fun _ h => h.elim) (fun _ h => h) (fun _ h => h) (fun _ h => h))
theorem k73 (F : DefT ev "_law_nobody" 73) (D : Ok_lowest ev tb "_law_low") : Ok_Lnobody ev tb := ok_def F fs73 rfl (fun _ _ => rfl) (fun F => F.binds fun _ _ _ _ _ _ us hl => match us, hl with | [_], _ => rfl) (fun X e h hf p hp => by subst e; exact (b73 h (by decide) D p hp).mono (fun _ h => h.elim) (fun _ h => h) (fun _ h => h) (fun _ h => h))
theorem k74 (F : DefT ev "_law_solved" 74) (T : Tx ev) (D_over : DefOk ev tb "_law_over" 2 two (fun p => Fit p.1 p.2 ∧ p.2 ≠ 0) (fun p => fracT (p.1 / p.2))) (D_minus : Ok_minus ev tb "_law_minus" 3) (D_times : Ok_times ev tb "_law_times") : Ok_Lsolved ev tb := ok_def F fs74 rfl (fun _ _ => rfl) (fun F => F.binds fun _ _ _ _ _ _ us hl => match us, hl with | [_], _ => rfl) (fun X e h hf p hp => by subst e; exact (b74 h hf (by decide) T D_over D_minus D_times p.1 p.2 hp).mono (fun _ h => h.elim) (fun _ h => h) (fun _ h => h) (fun _ h => h))
theorem k75 (F : DefT ev "_law_long" 75) (T : Tx ev) (D1 : Ok_total ev tb "_law_sum") (D2 : Ok_minus ev tb "_law_minus" 3) (D3 : Ok_Lsolved ev tb) : Ok_Llong ev tb := ok_def F fs75 rfl (fun _ _ => rfl) (fun F => F.binds fun _ _ _ _ _ _ us hl => match us, hl with | [_], _ => rfl) (fun X e h hf p hp => by subst e; exact (b75 h hf (by decide) T D1 D2 D3 p.c hp.1 p.r hp.2).mono (fun _ h => h.elim) (fun _ h => h) (fun _ h => h) (fun _ h => h))
theorem k76 (F : DefT ev "_law_seen" 76) (D : Ok_lowest ev tb "_law_low") : Ok_Lseen ev tb := ok_def F fs76 rfl (fun _ _ => rfl) (fun F => F.binds fun _ _ _ _ _ _ us hl => match us, hl with | [_, _], _ => rfl) (fun X e h hf p hp => by subst e; exact (b76 h (by decide) D p.1 p.2 hp).mono (fun _ h => h.elim) (fun _ h => h) (fun _ h => h) (fun _ h => h))
theorem k77 (F : DefT ev "_law_own" 77) (D : Ok_lowest ev tb "_law_low") (D2 : Ok_minus ev tb "_law_minus" 3) : Ok_Lown ev tb := ok_def F fs77 rfl (fun _ _ => rfl) (fun F => F.binds fun _ _ _ _ _ _ us hl => match us, hl with | [_, _, _, _], _ => rfl) (fun X e h hf p hp => by subst e; exact (b77 h (by decide) D D2 p.c hp.1 p.k p.len p.t hp.2.1 hp.2.2.1 hp.2.2.2.1 hp.2.2.2.2).mono (fun _ h => h.elim) (fun _ h => h) (fun _ h => h) (fun _ h => h))
theorem k78 (F : DefT ev "_law_spots" 78) (T : Tx ev) : Ok_Lspots ev tb := ok_def F fs78 rfl (fun _ _ => rfl) (fun F => F.binds fun _ _ _ _ _ _ us hl => match us, hl with | [_, _], _ => rfl) (fun X e h hf p hp => by subst e; exact (b78 h hf T p hp).mono (fun _ h => h.elim) (fun _ h => h) (fun _ h => h) (fun _ h => h))
theorem k79 (F : DefT ev "_law_able" 79)  : Ok_Lable ev tb := ok_def F fs79 rfl (fun _ _ => rfl) (fun F => F.binds fun _ _ _ _ _ _ us hl => match us, hl with | [_, _, _], _ => rfl) (fun X e h hf p hp => by subst e; exact (b79 h p.1 p.2).mono (fun _ h => h.elim) (fun _ h => h) (fun _ h => h) (fun _ h => h))
theorem k80 (F : DefT ev "_law_after" 80)  : Ok_Lafter ev tb := ok_def F fs80 rfl (fun _ _ => rfl) (fun F => F.binds fun _ _ _ _ _ _ us hl => match us, hl with | [_, _], _ => rfl) (fun X e h hf p hp => by subst e; exact (b80 h p.1 p.2).mono (fun _ h => h.elim) (fun _ h => h) (fun _ h => h) (fun _ h => h))
theorem k81 (F : DefT ev "_law_both" 81) (D1 : Ok_Lseen ev tb) (D2 : Ok_times ev tb "_law_times") : Ok_Lboth ev tb := ok_def F fs81 rfl (fun _ _ => rfl) (fun F => F.binds fun _ _ _ _ _ _ us hl => match us, hl with | [_, _, _], _ => rfl) (fun X e h hf p hp => by subst e; exact (b81 h (by decide) D1 D2 p.1 hp p.2).mono (fun _ h => h.elim) (fun _ h => h) (fun _ h => h) (fun _ h => h))
theorem k82 (F : DefT ev "_law_paid" 82)  : Ok_Lpaid ev tb := ok_def F fs82 rfl (fun _ _ => rfl) (fun F => F.binds fun _ _ _ _ _ _ us hl => match us, hl with | [_, _], _ => rfl) (fun X e h hf p hp => by subst e; exact (b82 h p.1 hp.1 p.2 hp.2).mono (fun _ h => h.elim) (fun _ h => h) (fun _ h => h) (fun _ h => h))
theorem k83 (F : DefT ev "_law_route_worth" 83) (T : Tx ev) (D1 : Ok_Lspots ev tb) (D2 : Ok_Lboth ev tb) (D3 : Ok_Lnobody ev tb) (D4 : Ok_Lchances ev tb) (D5 : Ok_Lafter ev tb) (D6 : Ok_Lpaid ev tb) (D7 : Ok_Llong ev tb) (D8 : Ok_total ev tb "_law_sum") (D_plus : Ok_plus ev tb "_law_plus") (D_times : Ok_times ev tb "_law_times") (D_minus : Ok_minus ev tb "_law_minus" 3) : Ok_Lroute_worth ev tb := ok_def F fs83 rfl (fun _ _ => rfl) (fun F => F.binds fun _ _ _ _ _ _ us hl => match us, hl with | [_, _, _], _ => rfl) (fun X e h hf p hp => by subst e; exact (b83 h (by decide) T D1 D2 D3 D4 D5 D6 D7 D8 D_plus D_times D_minus p.c hp.1 p.r hp.2).mono (fun _ h => h.elim) (fun _ h => h) (fun _ h => h) (fun _ h => h))
theorem k84 (F : DefT ev "_law_greatest" 84) (D : Ok_is_less ev tb "_law_less") : Ok_Lgreatest ev tb := ok_def F fs84 rfl (fun _ _ => rfl) (fun F => F.binds fun _ _ _ _ _ _ us hl => match us, hl with | [_], _ => rfl) (fun X e h hf p hp => by subst e; exact (b84 h (by decide) D p hp).mono (fun _ h => h.elim) (fun _ h => h) (fun _ h => h) (fun _ h => h))
theorem k85 (F : DefT ev "_law_bounding" 85) (T : Tx ev) (D1 : Ok_Lspots ev tb) (D2 : Ok_Lboth ev tb) (D3 : Ok_Lnobody ev tb) (D4 : Ok_Lchances ev tb) (D5 : Ok_Lafter ev tb) (D6 : Ok_Lpaid ev tb) (D7 : Ok_Lable ev tb) (D8 : Ok_total ev tb "_law_sum") (D9 : Ok_Lgreatest ev tb) (D_less : Ok_is_less ev tb "_law_less") (D_plus : Ok_plus ev tb "_law_plus") (D_times : Ok_times ev tb "_law_times") (D_minus : Ok_minus ev tb "_law_minus" 3) : Ok_Lbounding ev tb := ok_def F fs85 rfl (fun _ _ => rfl) (fun F => F.binds fun _ _ _ _ _ _ us hl => match us, hl with | [_, _, _, _], _ => rfl) (fun X e h hf p hp => by subst e; obtain ⟨a1, a2, d, a3⟩ := hp; exact (b85 h hf (by decide) T D1 D2 D3 D4 D5 D6 D7 D8 D9 D_less D_plus D_times D_minus p.c a1 p.r a2 p.h a3).mono (fun _ h => h.elim) (fun _ h => h) (fun _ h => h) (fun _ h => h))
theorem k86 (F : DefT ev "_law_is_route" 86) (T : Tx ev) (D1 : Ok_Lspots ev tb) (D2 : Ok_Lable ev tb) : Ok_Lis_route ev tb := ok_def F fs86 rfl (fun _ _ => rfl) (fun F => F.binds fun _ _ _ _ _ _ us hl => match us, hl with | [_, _, _], _ => rfl) (fun X e h hf p hp => by subst e; exact (b86 h hf (by decide) T D1 D2 p.1 hp.1 p.2 hp.2).mono (fun _ h => h.elim) (fun _ h => h) (fun _ h => h) (fun _ h => h))
theorem k87 (F : DefT ev "_law_right" 87) (T : Tx ev) (D1 : Ok_Lis_route ev tb) (D2 : Ok_Lspots ev tb) (D3 : Ok_Lroute_worth ev tb) (D4 : Ok_Lbounding ev tb) : Ok_Lright ev tb := ok_def F fs87 rfl (fun _ _ => rfl) (fun F => F.binds fun _ _ _ _ _ _ us hl => match us, hl with | [_, _, _, _], _ => rfl) (fun X e h hf p hp => by subst e; exact (b87 h (by decide) T D1 D2 D3 D4 p.c hp.1 p.xss hp.2.1 p.hs hp.2.2).mono (fun _ h => h.elim) (fun _ h => h) (fun _ h => h) (fun _ h => h))
theorem k88 (F : DefT ev "_law_own_route" 88) (T : Tx ev) (D1 : Ok_Lspots ev tb) (D2 : Ok_Lown ev tb) (D3 : Ok_is_less ev tb "_law_less") (D4 : Ok_Lgreatest ev tb) : Ok_Lown_route ev tb := ok_def F fs88 rfl (fun _ _ => rfl) (fun F => F.binds fun _ _ _ _ _ _ us hl => match us, hl with | [_, _], _ => rfl) (fun X e h hf p hp => by subst e; exact (b88 h (by decide) T D1 D2 D3 D4 p hp).mono (fun _ h => h.elim) (fun _ h => h) (fun _ h => h) (fun _ h => h))
theorem k89 (F : DefT ev "_law_drawn" 89) (T : Tx ev) (D1 : Ok_Lspots ev tb) (D2 : Ok_Lable ev tb) (D3 : Ok_Lpick nT ev tb) : Ok_Ldrawn ev tb := ok_def F fs89 rfl (fun _ _ => rfl) (fun F => F.binds fun _ _ _ _ _ _ us hl => match us, hl with | [_, _, _, _], _ => rfl) (fun X e h hf p hp => by subst e; exact (b89 h hf (by decide) T D1 D2 D3 p.1 p.2 hp).mono (fun _ h => h.elim) (fun _ h => h) (fun _ h => h) (fun _ h => h))
theorem k90 {f : Addr} {fd : FuncData} (F : L2.Fun ev.K "law" "law" (topS 90) f fd) (P : Px ev C) (cl : ClsOk ev.K CB ["potentials", "route"]) (D1 : Ok_Lcounter ev tb) (D2 : Ok_Lcell ev tb) (D3 : Mk_Counter ev tb C) (D4 : Ok_Ldrawn ev tb) (D5 : Ok_own_route ev tb C) (D6 : Ok_Lown_route ev tb) (D7 : Ok_route_worth ev tb C) (D8 : Ok_Lroute_worth ev tb) (D9 : Ok_best_route ev tb C CB) (D10 : Ok_shows ev tb C CB) (D11 : Ok_Lright ev tb) (D12 : Ok_best_route_worth ev tb C) (D13 : IterOk ev tb CB 1) (D14 : Ok_Lpick fracT ev tb) (D15 : Ok_plus ev tb "_law_plus") (D16 : Mk_Best ev tb CB) : FnOk ev.P ev.w ev.K ev.mg ev.base CX0 10 f fd ["_law_script"] (spF tb (fun xs : List Int => [scrT xs]) (fun _ => True) (fun _ => boolT true) ev.K) := fn_pure F fs90 rfl (fun _ _ => rfl) (fun X e h hf p hp => by have e : evX X = ev := e; subst e; exact (b90 h (by decide) P cl D1 D2 D3 D4 D5 D6 D7 D8 D9 D10 D11 D12 D13 D14 D15 D16 p).mono (fun _ h => h.elim) (fun _ h => h) (fun _ h => h) (fun _ h => h))
theorem k16 {c P : Addr} (F : ∃ (f : Addr) (fd : FuncData), ev.mg "solved" = some (.ref f) ∧ L2.Fun ev.K "solved" "solved" (topS 16) f fd ∧ fd.code = .ref c) (T : Tx ev) (D_over : Ok_over ev tb) (D_minus : Ok_minus ev tb) (D_times : Ok_times ev tb) (hPt : P ∈ tb) (TB : GxR.TabB ev.base ev.mg c P) : Ok_solved ev tb := ok_defC F fs16 rfl (fun _ _ => rfl) (fun F => F.binds fun _ _ _ _ _ _ us hl => match us, hl with | [_], _ => rfl) (fun X e h hf hcd p hp => by subst e; exact (b16 h hf (by decide) T D_over D_minus D_times hPt TB hcd p.1 p.2 hp).mono (fun _ h => h.elim) (fun _ h => h) (fun _ h => h) (fun _ h => h))
theorem k55_3 (F : DefM ev CB "__iter__" "BestRoute.__iter__" 55 3) (hm : ev.mg "iter" = none) (cl : ClsOk ev.K CB ["potentials", "route"]) (n1 : PySem.W.findIn ev.K (.ref CB) "__len__" = some none) (n2 : PySem.W.findIn ev.K (.ref CB) "__length_hint__" = some none) : IterOk ev tb CB 1 := by
  obtain ⟨g, fd, hme, F⟩ := F
  exact ⟨⟨g, fd, ["self"], hme, F.binds fun _ _ _ _ _ _ us hl => match us, hl with | [_], _ => rfl, fun Ts U => fn_iter F hm cl⟩, n1, n2⟩
end
end JL

set_option Elab.async false
set_option linter.all false
set_option maxRecDepth 100000
set_option maxHeartbeats 4000000
set_option autoImplicit false
/-! The end. -/
namespace JL
open PySem PySem.Spec PyProof.Rows L2
theorem fun_ofD {K : PySem.W.Frag} {x qual : Str} {st : Stmt} {f : Addr} {fd : FuncData} (F : FunD K x qual (defArgs st) (defBody st) (defScope st) [] [] f fd) : L2.Fun K x qual st f fd := by
  obtain ⟨oc, od, dV, kV, doc, pm, an, cdv, ct, osl, e, lk, hcd, hD, _⟩ := F.ex
  rcases hD with ⟨_, rfl⟩ | ⟨z, _⟩
  · exact ⟨⟨oc, od, kV, doc, pm, an, cdv, ct, osl, e, lk, hcd⟩, F.kp⟩
  · exact absurd rfl z
theorem fun_code {K : PySem.W.Frag} {x qual : Str} {ps : Arguments} {bd : List Stmt} {sc : Scope} {dvs : List V} {kws : List (Str × V)} {p : Str × Option Str} {fd : FuncData} (F : FunD K x qual ps bd sc dvs kws (He.fAd K p) fd) : fd.code = .ref (He.codeOf K p) := by
  obtain ⟨oc, od, dV, kV, doc, pm, an, cdv, ct, osl, e, lk, hcd, _, _⟩ := F.ex
  obtain ⟨c, rfl⟩ := He.codeIn_ref hcd
  have e2 : fd.code = .ref c := by rw [e]
  rw [He.codeOf_eq lk e2]
  exact e2
theorem slotB_ok {K : PySem.W.Frag} {C : Addr} {f : Str} {i : Nat} (h : slotB K C f i = true) (hi : i < 1000) : SlX.Slot1 K C f (He.ma K C f) i := by
  obtain ⟨h1, h⟩ := He.ba h
  obtain ⟨h2, h⟩ := He.ba h
  obtain ⟨h3, h⟩ := He.ba h
  obtain ⟨h4, h5⟩ := He.ba h
  exact ⟨He.eqO_ok h1, He.eqO_ok h2, of_decide_eq_true h3, of_decide_eq_true h4, of_decide_eq_true h5, hi⟩
theorem slotsB_ok {K : PySem.W.Frag} {C : Addr} : ∀ {fs : List Str} {i : Nat}, slotsB K C fs i = true → i + fs.length ≤ 1000 → ∀ (j : Nat) (f : Str), fs[j]? = some f → ∃ p, SlX.Slot1 K C f p (i + j)
  | [], _, _, _, j, f, e => by rw [List.getElem?_nil] at e; cases e
  | f0 :: fs, i, h, hl, 0, f, e => by
    cases e
    exact ⟨_, slotB_ok (He.ba h).1 (by rw [List.length_cons] at hl; omega)⟩
  | f0 :: fs, i, h, hl, j + 1, f, e => by
    have := slotsB_ok (i := i + 1) (He.ba h).2 (by rw [List.length_cons] at hl; omega) j f e
    rwa [show i + 1 + j = i + (j + 1) by omega] at this
theorem cls_of {K : PySem.W.Frag} {x : Str} {fs : List Str} (h : clsB K x fs = true) (hl : fs.length ≤ 1000) : ClsOk K (He.ga K x) fs := by
  obtain ⟨h1, h2⟩ := He.ba h
  obtain ⟨a1, h1⟩ := He.ba h1
  obtain ⟨a2, h1⟩ := He.ba h1
  obtain ⟨a3, a4⟩ := He.ba h1
  exact ⟨⟨a1, a2, a3, He.eqO_ok a4⟩, fun i f e => by have := slotsB_ok h2 (by omega) i f e; rwa [Nat.zero_add] at this⟩
theorem isi_of {K : PySem.W.Frag} {C : Addr} (h : isiB K C = true) : SlX.SIsi K C := by
  obtain ⟨h1, h⟩ := He.ba h
  obtain ⟨h2, h⟩ := He.ba h
  obtain ⟨h3, h4⟩ := He.ba h
  exact ⟨He.eqO_ok h1, He.eqO_ok h2, of_decide_eq_true h3, of_decide_eq_true h4⟩
section
variable {P : Program} {w : World} {K : PySem.W.Frag} {mg : Str → Option Value} {base h : Heap}
theorem gt_int (X : K.In h) (G : h.Ns mainGlobals mg) {x : Str} {i : Int} (c : (He.Fa.int x i).ok K = true) : GT K mg x (intT i) := by
  obtain ⟨t, e⟩ := He.int_ok X G c
  exact ⟨.int i, .int i t, e, ⟨t, rfl⟩, fun _ => rfl⟩
theorem gt_tup (X : K.In h) (G : h.Ns mainGlobals mg) {x : Str} {a b : Int} (c : (He.Fa.glo x).ok K = true) (t : He.tupB K x [.int a, .int b] = true) : GT K mg x (tupT [intT a, intT b]) :=
  ⟨.ref (He.ga K x), _, He.glo_ok X G c, rfl, fun F => ⟨_, _, rfl, He.tupB_ok t F, .cons rfl (.cons rfl .nil)⟩⟩
theorem defT_of (X : K.In h) (G : h.Ns mainGlobals mg) (d : He.SaysD hFa hFn K) {x : Str} {i : Nat} (n m : Nat) (hm : hFa[m]? = some (.glo x)) (hn : hFn[n]? = some (dTop x i)) : DefT ⟨P, w, K, mg, base⟩ x i := by
  obtain ⟨fd, F⟩ := d.def_ n hn
  exact ⟨He.ga K x, fd, He.glo_ok X G (d.fact m hm), fun_ofD (st := topS i) F⟩
theorem defM_of (d : He.SaysD hFa hFn K) {c m q : Str} {i j : Nat} (n a : Nat) (ha : hFa[a]? = some (.meth c m)) (hn : hFn[n]? = some (dMet c m q i j)) : DefM ⟨P, w, K, mg, base⟩ (He.ga K c) m q i j := by
  obtain ⟨fd, F⟩ := d.def_ n hn
  exact ⟨_, fd, He.meth_ok (d.fact a ha), fun_ofD (st := inClass (topS i) j) F⟩
theorem defI_of (X : K.In h) (G : h.Ns mainGlobals mg) (d : He.SaysD hFa hFn K) {c q : Str} {i j : Nat} (n a b : Nat) (ha : hFa[a]? = some (.mkr c)) (hb : hFa[b]? = some (.glo c)) (hn : hFn[n]? = some (dMet c "__init__" q i j)) : DefI ⟨P, w, K, mg, base⟩ c (He.ga K c) q i j := by
  obtain ⟨fd, F⟩ := d.def_ n hn
  exact ⟨_, fd, He.glo_ok X G (d.fact b hb), He.mkr_ok (d.fact a ha), fun_ofD (st := inClass (topS i) j) F⟩
theorem tx_of (X : K.In h) (G : h.Ns mainGlobals mg) (d : He.SaysD hFa hFn K) (x1 : He.tupB K "NONE" [.int 0, .int 1] = true) (x2 : He.tupB K "ONE" [.int 1, .int 1] = true) : Tx ⟨P, w, K, mg, base⟩ :=
  ⟨He.free_ok X G (d.fact 0 (f := .free "abs")), He.free_ok X G (d.fact 1 (f := .free "len")), He.free_ok X G (d.fact 2 (f := .free "range")), He.free_ok X G (d.fact 3 (f := .free "next")), He.free_ok X G (d.fact 4 (f := .free "zip")), He.free_ok X G (d.fact 5 (f := .free "isinstance")), He.free_ok X G (d.fact 6 (f := .free "int")), He.free_ok X G (d.fact 7 (f := .free "bool")), He.free_ok X G (d.fact 8 (f := .free "tuple")), He.free_ok X G (d.fact 9 (f := .free "all")), He.free_ok X G (d.fact 10 (f := .free "any")), He.free_ok X G (d.fact 11 (f := .free "sum")), He.free_ok X G (d.fact 12 (f := .free "list")), He.free_ok X G (d.fact 13 (f := .free "enumerate")), He.free_ok X G (d.fact 14 (f := .free "dict")), He.free_ok X G (d.fact 15 (f := .free "iter")), q01 ▸ gt_tup X G (d.fact 92 (f := .glo "NONE")) x1, q11 ▸ gt_tup X G (d.fact 93 (f := .glo "ONE")) x2, gt_int X G (d.fact 16 (f := .int "TENTHS" 10)), gt_int X G (d.fact 17 (f := .int "AWAY" 0)), gt_int X G (d.fact 18 (f := .int "HERE" 1)), gt_int X G (d.fact 19 (f := .int "THERE" 2)), gt_int X G (d.fact 20 (f := .int "MAX_PAIRS" 12)), gt_int X G (d.fact 21 (f := .int "MAX_ROOM" 6)), gt_int X G (d.fact 22 (f := .int "MAX_COME" 9)), gt_int X G (d.fact 23 (f := .int "MAX_SERVE" 10)), gt_int X G (d.fact 24 (f := .int "MAX_COST" 9)), gt_int X G (d.fact 25 (f := .int "MAX_KINDS" 3)), gt_int X G (d.fact 26 (f := .int "MAX_PART" 6)), gt_int X G (d.fact 27 (f := .int "MAX_GAIN" 60))⟩
theorem law_ok (X : K.In h) (G : h.Ns mainGlobals mg) (d : He.SaysD hFa hFn K) (ex : hEx K = true) {fd : FuncData} (FL : L2.Fun K "law" "law" (topS 90) (He.ga K "law") fd) (TB : LamX.TabB base mg (He.cT K ("solved", none)).1 (He.cT K ("solved", none)).2) :
    FnOk P w K mg base CX0 10 (He.ga K "law") fd ["_law_script"] (spF [(He.cT K ("solved", none)).2] (fun xs : List Int => [scrT xs]) (fun _ => True) (fun _ => boolT true) K) := by
  obtain ⟨z1, ex⟩ := He.ba ex
  obtain ⟨z2, ex⟩ := He.ba ex
  obtain ⟨z3, ex⟩ := He.ba ex
  obtain ⟨z4, ex⟩ := He.ba ex
  obtain ⟨z5, ex⟩ := He.ba ex
  obtain ⟨z6, z7⟩ := He.ba ex
  have T : Tx ⟨P, w, K, mg, base⟩ := tx_of X G d z6 z7
  have Px0 : Px ⟨P, w, K, mg, base⟩ (He.ga K "Counter") := ⟨T, ⟨.ref _, .ref _, He.glo_ok X G (d.fact 94 (f := .glo "Counter")), rfl, fun _ => rfl⟩, cls_of z1 (by decide), isi_of z4, of_decide_eq_true z5⟩
  have Qx0 : Qx ⟨P, w, K, mg, base⟩ (He.ga K "Routing") := ⟨cls_of z2 (by decide)⟩
  have cb : ClsOk K (He.ga K "BestRoute") ["potentials", "route"] := cls_of z3 (by decide)
  let ev : Ev := ⟨P, w, K, mg, base⟩
  let tb : List Addr := [(He.cT K ("solved", none)).2]
  let C : Addr := He.ga K "Counter"
  let R : Addr := He.ga K "Routing"
  let CB : Addr := He.ga K "BestRoute"
  obtain ⟨fdS, FS⟩ := d.def_ 7 (d := dTop "solved" 16)
  have h55_3 : IterOk ev tb CB 1 := k55_3 (defM_of d 73 103 rfl rfl) T.iter cb (He.noat_ok (d.fact 108 (f := .noat "BestRoute" "__len__"))) (He.noat_ok (d.fact 109 (f := .noat "BestRoute" "__length_hint__")))
  have h62 : Ok_Lcell ev tb := k62 (defT_of X G d 35 63 rfl rfl) T
  have h71 : Ok_Lcounter ev tb := k71 (defT_of X G d 44 72 rfl rfl) T h62
  have h26 : Ok_is_integer ev tb := k26 (defT_of X G d 8 36 rfl rfl) Px0
  have h27 : Ok_is_kind ev tb := k27 (defT_of X G d 9 37 rfl rfl) Px0 h26
  have h28_1 : Mk_Counter ev tb C := k28_1 (defI_of X G d 64 105 94 rfl rfl rfl) Px0 h26 h27
  have h78 : Ok_Lspots ev tb := k78 (defT_of X G d 51 79 rfl rfl) T
  have h79 : Ok_Lable ev tb := k79 (defT_of X G d 52 80 rfl rfl) 
  have h63_nT : Ok_Lpick nT ev tb := k63 nT (defT_of X G d 36 64 rfl rfl) T h62
  have h89 : Ok_Ldrawn ev tb := k89 (defT_of X G d 62 90 rfl rfl) T h78 h79 h63_nT
  have h29 : Ok_check_counter ev tb C := k29 (defT_of X G d 10 38 rfl rfl) Px0
  have h37 : Ok_check_neighbour ev tb C := k37 (defT_of X G d 13 41 rfl rfl) Px0 h29 h26
  have h28_6 : Ok_clen ev tb C := k28_6 (defM_of d 65 97 rfl rfl) Px0
  have h39 : Ok_pairs_of ev tb C := k39 (defT_of X G d 15 43 rfl rfl) Px0
  have h14 : Ok_is_less ev tb := k14 (defT_of X G d 5 33 rfl rfl) 
  have h9 : Ok_lowest ev tb := k9 (defT_of X G d 0 28 rfl rfl) T
  have h11 : Ok_minus ev tb := k11 (defT_of X G d 2 30 rfl rfl) h9
  have h12 : Ok_times ev tb := k12 (defT_of X G d 3 31 rfl rfl) h9
  have h13 : Ok_over ev tb := k13 (defT_of X G d 4 32 rfl rfl) h9
  have h28_9 : Ok_served ev tb C := k28_9 (defM_of d 66 98 rfl rfl) Px0 h9
  have h30 : Ok_wait_of ev tb C := k30 (defT_of X G d 11 39 rfl rfl) Px0 h12 h13 h28_9
  have h31 : Ok_own_gain ev tb C := k31 (defT_of X G d 12 40 rfl rfl) Px0 h11 h30
  have h44 : Ok_served_there ev tb := k44 (defT_of X G d 20 48 rfl rfl) Px0 h9
  have h48 : Ok_own_there ev tb C := k48 (defT_of X G d 24 52 rfl rfl) Px0 h11 h13 h44
  have h49 : Ok_own_choice ev tb C := k49 (defT_of X G d 25 53 rfl rfl) Px0 h14 h31 h48
  have h50 : Ok_own_route ev tb C := k50 (defT_of X G d 26 54 rfl rfl) Px0 h37 h28_6 h39 h49
  have h64 : Ok_lowest ev tb "_law_low" := k64 (defT_of X G d 37 65 rfl rfl) T
  have h65 : Ok_plus ev tb "_law_plus" := k65 (defT_of X G d 38 66 rfl rfl) h64
  have h67 : Ok_minus ev tb "_law_minus" 3 := k67 (defT_of X G d 40 68 rfl rfl) h65
  have h77 : Ok_Lown ev tb := k77 (defT_of X G d 50 78 rfl rfl) h64 h67
  have h68 : Ok_is_less ev tb "_law_less" := k68 (defT_of X G d 41 69 rfl rfl) 
  have h84 : Ok_Lgreatest ev tb := k84 (defT_of X G d 57 85 rfl rfl) h68
  have h88 : Ok_Lown_route ev tb := k88 (defT_of X G d 61 89 rfl rfl) T h78 h77 h68 h84
  have h41 : Ok_choices_at ev tb C := k41 (defT_of X G d 17 45 rfl rfl) Px0
  have h42 : Ok_is_route ev tb C := k42 (defT_of X G d 18 46 rfl rfl) Px0 h39 h28_6 h26 h41
  have h43 : Ok_check_route ev tb C := k43 (defT_of X G d 19 47 rfl rfl) h37 h42
  have h38 : Ok_check_few ev tb C := k38 (defT_of X G d 14 42 rfl rfl) Px0
  have h51_1 : Mk_Routing ev tb R C := k51_1 (defI_of X G d 69 106 95 rfl rfl rfl) Px0 Qx0 h39
  have h45 : Ok_line_after ev tb := k45 (defT_of X G d 21 49 rfl rfl) Px0 h11
  have h46 : Ok_seen_after ev tb C := k46 (defT_of X G d 22 50 rfl rfl) Px0 h45 h28_9 h44 h12
  have h28_11 : Ok_nobody ev tb C := k28_11 (defM_of d 68 100 rfl rfl) Px0 h9 h11
  have h28_10 : Ok_chances ev tb C := k28_10 (defM_of d 67 99 rfl rfl) Px0 h9
  have h40 : Ok_joined_by ev tb := k40 (defT_of X G d 16 44 rfl rfl) Px0
  have h47 : Ok_waiting ev tb C := k47 (defT_of X G d 23 51 rfl rfl) Px0
  have h10 : Ok_plus ev tb := k10 (defT_of X G d 1 29 rfl rfl) h9
  have h51_2 : Ok_follow ev tb R C := k51_2 (defM_of d 70 101 rfl rfl) Px0 Qx0 h46 h28_11 h28_10 h40 h47 h10 h11 h12
  have h16 : Ok_solved ev tb := k16 ⟨_, fdS, He.glo_ok X G (d.fact 35 (f := .glo "solved")), fun_ofD (st := topS 16) FS, fun_code (p := ("solved", none)) FS⟩ T h13 h11 h12 (List.mem_singleton.mpr rfl) ⟨TB.code, TB.bm, TB.gP⟩
  have h51_3 : Ok_solution ev tb R C := k51_3 (defM_of d 71 102 rfl rfl) Px0 Qx0 h51_2 h16 h11
  have h56 : Ok_worth_by ev tb C := k56 (defT_of X G d 30 58 rfl rfl) Px0 Qx0 h51_1 h51_3
  have h59 : Ok_route_worth ev tb C := k59 (defT_of X G d 33 61 rfl rfl) h43 h38 h56
  have h76 : Ok_Lseen ev tb := k76 (defT_of X G d 49 77 rfl rfl) h64
  have h66 : Ok_times ev tb "_law_times" := k66 (defT_of X G d 39 67 rfl rfl) h64
  have h81 : Ok_Lboth ev tb := k81 (defT_of X G d 54 82 rfl rfl) h76 h66
  have h73 : Ok_Lnobody ev tb := k73 (defT_of X G d 46 74 rfl rfl) h64
  have h72 : Ok_Lchances ev tb := k72 (defT_of X G d 45 73 rfl rfl) T h64
  have h80 : Ok_Lafter ev tb := k80 (defT_of X G d 53 81 rfl rfl) 
  have h82 : Ok_Lpaid ev tb := k82 (defT_of X G d 55 83 rfl rfl) 
  have h69 : Ok_total ev tb "_law_sum" := k69 (defT_of X G d 42 70 rfl rfl) T h65
  have h70 : Ok_over ev tb "_law_over" := k70 (defT_of X G d 43 71 rfl rfl) h64
  have h74 : Ok_Lsolved ev tb := k74 (defT_of X G d 47 75 rfl rfl) T h70 h67 h66
  have h75 : Ok_Llong ev tb := k75 (defT_of X G d 48 76 rfl rfl) T h69 h67 h74
  have h83 : Ok_Lroute_worth ev tb := k83 (defT_of X G d 56 84 rfl rfl) T h78 h81 h73 h72 h80 h82 h75 h69 h65 h66 h67
  have h52 : Ok_gain_by ev tb C := k52 (defT_of X G d 27 55 rfl rfl) Px0 h40 h47 h10 h11
  have h53 : Ok_best_choice ev tb C := k53 (defT_of X G d 28 56 rfl rfl) Px0 h41 h52 h14
  have h57 : Ok_improved ev tb C := k57 (defT_of X G d 31 59 rfl rfl) Px0 h39 h53 h52 h14
  have h55_1 : Mk_Best ev tb CB := k55_1 (defI_of X G d 72 107 96 rfl rfl rfl) cb
  have h58 : Ok_best_route ev tb C CB := k58 (defT_of X G d 32 60 rfl rfl) Px0 Qx0 h37 h38 h50 h51_1 h51_3 h57 h55_1
  have h54 : Ok_after_seen ev tb C := k54 (defT_of X G d 29 57 rfl rfl) Px0 h28_11 h47 h28_10 h53 h52 h10 h11 h12
  have h15 : Ok_total ev tb := k15 (defT_of X G d 6 34 rfl rfl) T h10
  have h55_4 : Ok_shows ev tb C CB := k55_4 (defM_of d 74 104 rfl rfl) Px0 cb h37 h39 h42 h56 h54 h46 h14 h10 h15 h12
  have h86 : Ok_Lis_route ev tb := k86 (defT_of X G d 59 87 rfl rfl) T h78 h79
  have h85 : Ok_Lbounding ev tb := k85 (defT_of X G d 58 86 rfl rfl) T h78 h81 h73 h72 h80 h82 h79 h69 h84 h68 h65 h66 h67
  have h87 : Ok_Lright ev tb := k87 (defT_of X G d 60 88 rfl rfl) T h86 h78 h83 h85
  have h60 : Ok_best_route_worth ev tb C := k60 (defT_of X G d 34 62 rfl rfl) cb h58 h56
  have h63_fracT : Ok_Lpick fracT ev tb := k63 fracT (defT_of X G d 36 64 rfl rfl) T h62
  exact k90 (ev := ev) FL Px0 cb h71 h62 h28_1 h89 h50 h88 h59 h83 h58 h55_4 h87 h60 h55_3 h63_fracT h65 h55_1
theorem law_at {fa : Addr} (X : K.In h) (G : h.Ns mainGlobals mg) (c : He.SaysX hFa hFn [] hTf hEx w h K) (hfa : mg ("law" : Str) = some (.ref fa)) : LamX.LawAtS PySem.Challenge.rw_joinline_k31_whole_neighbours w K CX0 10 63 "_law_script" mg fa h := by
  have d : He.SaysD hFa hFn K := c.t.d
  obtain ⟨fd, FL⟩ := d.def_ 63 (d := dTop "law" 90)
  have e := hfa.symm.trans (He.glo_ok X G (d.fact 91 (f := .glo "law")))
  cases e
  have one : ∀ p ∈ [He.cT K ("solved", none)], p = He.cT K ("solved", none) := fun p hp => List.mem_singleton.mp hp
  have mem : (("solved", none) : He.Defn) ∈ hTf := List.mem_singleton.mpr rfl
  refine ⟨fd, [He.cT K ("solved", none)], spF [(He.cT K ("solved", none)).2] (fun xs : List Int => [scrT xs]) (fun _ => True) (fun _ => boolT true) K, fun p hp => ?_, fun p hp => ?_, fun p hp => ?_, fun s u => FunD.bindsA (ps := ["_law_script"]) FL (fun _ _ _ _ _ _ us hl => match us, hl with | [_], _ => rfl) s [u] rfl, fun H a ns hl _ ht hS => ?_, fun base KX GX TB => law_ok KX GX d c.more (fun_ofD (st := topS 90) FL) (TB _ (List.mem_singleton.mpr rfl))⟩
  · rw [one p hp]; exact c.empty _ mem
  · rw [one p hp]; exact c.out _ mem
  · rw [one p hp]; exact PySem.W.codeHd_of_K X (c.hd _ mem)
  · have tabs : ∀ P ∈ [(He.cT K ("solved", none)).2], GxR.TabG H P := fun P hP => by
      rw [List.mem_singleton.mp hP]
      exact ⟨#[], ht _ (List.mem_singleton.mpr rfl), trivial⟩
    have fin : ∀ F : Hp, Fz F H → SqL K F a (ns.map V.int) → spF [(He.cT K ("solved", none)).2] (fun xs : List Int => [scrT xs]) (fun _ => True) (fun _ => boolT true) K [.ref a] H (fun v _ => v = .bl true) (fun _ _ _ => False) := fun F fz s =>
      ⟨ns, F, trivial, fz, tabs, .cons ⟨a, _, rfl, s, al_ints ns⟩ .nil, fun v F' H' _ r => r⟩
    rcases hS with (e | ⟨o, e⟩) | e
    · refine fin (upd (fun _ => none) a (.lst (ns.map V.int))) (fun b o q => ?_) (.inl (.inl upd_same))
      by_cases hb : b = a
      · subst hb; rw [upd_same] at q; cases q; exact ⟨e, fun _ z => nomatch z⟩
      · rw [upd_ne hb] at q; cases q
    · refine fin (upd (fun _ => none) a (.frz o (.lst (ns.map V.int)))) (fun b u q => ?_) (.inl (.inr ⟨o, upd_same⟩))
      by_cases hb : b = a
      · subst hb; rw [upd_same] at q; cases q; exact ⟨e, fun _ z => nomatch z⟩
      · rw [upd_ne hb] at q; cases q
    · exact fin (fun _ => none) (fun b o q => by cases q) (.inr e)
end
end JL
open PySem PySem.W PyProof.Rows in
theorem PySem.Challenge.cw_joinline_k31_whole_neighbours_holds : PySem.Challenge.rw_joinline_k31_whole_neighbours.Holds := by
  w_on; o_law
  refine HandSHeadRun.head_any (r := JL.hR) (q := JL.hq) (H := JL.hk) (ob := JL.hOb) (M := 20000) (loose := JL.hNames) (d := HandSHeadRun.topDef JL.hR.prog 90) (kwd := []) JL.hOb_eq
    (by kernel_rfl) (fun s => by kernel_rfl) JL.hRun (by kernel_rfl) (by kernel_rfl) (by kernel_rfl) (by rfl) (by first | assumption | decide +kernel) (by decide +kernel) ⟨rfl, rfl, rfl, rfl, rfl, by decide +kernel⟩ ?hw ?hc
  case hw => w_witness2
  case hc =>
    refine LamX.walk_ofTsE (l := PySem.Challenge.rw_joinline_k31_whole_neighbours) (n := 63) (k := 10) (x := "_law_script") (CX := fun _ => L2.CX0) rfl (by decide) (by kernel_rfl) ⟨rfl, by decide, by decide⟩ ?F (fun _ _ _ _ _ z => z)
    intro w mg fa h Y G hmg0
    obtain ⟨K, KX, c⟩ := Y
    have hmg : mg ("law" : PySem.Str) = some (.ref fa) := by
      have e : (HandSHeadRun.topDef JL.hR.prog 90).name = ("law" : PySem.Str) := by kernel_rfl
      rw [← e]
      exact hmg0
    exact ⟨K, KX, JL.law_at KX G c hmg⟩
#print axioms PySem.Challenge.cw_joinline_k31_whole_neighbours_holds

